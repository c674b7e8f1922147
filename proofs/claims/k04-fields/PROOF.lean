import PyProof.Rows.All
import Wide.All
import OpenK.AllK
import Wide.FinOn
import KE.KStateDown
import Lean
import HandS.Base
import HandS.Call
import HandS.Ends
import HandS.More
import HandS.Words
import HandS.WordsExc
import HandS.Defaults
import HandS.Head0
import HandS.Head1
import HandS.Head2
import HandS.HeadEnd
import HandS.HeadHook1
import HandS.HeadHook2
import KE.KExcSuper
import KE.KExcIs
import HandS.ForMost
import HandS.ForExc
import HandS.ExcInit
import HandS.ExcField
import HandS.ExcIs
import HandS.IsInst
import HandS.Wide
import HandS.Gcd
import HandS.MakeKw
import HandS.MakeKwOnly
import HandS.Flow
import HandS.CallSlots
import HandS.Evl
import KE.KOpsOwn
import HandS.Small
import HandS.OwnEq
import PyProof.NeKinds
import PyProof.InstNe
import PySem.Challenge.RW_seriessquares_k04_fields
import KE.IntBitsLaws
set_option Elab.async false
set_option linter.all false
set_option maxRecDepth 100000
set_option maxHeartbeats 0
/-! A head for a top that opens with imports: the opening and the top by one run over trees. -/
noncomputable section
namespace GH
open PySem PySem.W PySem.Calls PyProof.Rows HandSHeadRun
/-- the opening, to its end -/
def impF (st : SharedT → Thread → Option (SharedT × Thread)) : Nat → SharedT → Thread → Option SharedT
  | 0, _, _ => none
  | m + 1, s, t => match t.atExitBegin with
    | some [] => some s
    | some (_ :: _) => none
    | none => match st s t with
      | some (s', t') => frS s' fun s' => impF st m s' t'
      | none => none
theorem impF_ok {tb : String → Option Builtin} {p : Program} {w : World} : ∀ {m : Nat} {s s' : SharedT} {t : Thread}, impF (stepT (denote tb) p w) m s t = some s' → importEnds tb p w m s.abs t = some s'.abs
  | 0, _, _, _, h => by cases h
  | m + 1, s, s', t, h => by
    unfold impF at h
    unfold importEnds
    cases ht : t.atExitBegin with
    | some l =>
      rw [ht] at h
      cases l with
      | nil =>
        have h' : some s = some s' := h
        cases h'
        rfl
      | cons a r =>
        have h' : (none : Option SharedT) = some s' := h
        cases h'
    | none =>
      rw [ht] at h
      have h2 : (match stepT (denote tb) p w s t with
          | some (s', t') => frS s' fun s' => impF (stepT (denote tb) p w) m s' t'
          | none => none) = some s' := h
      cases hs : stepT (denote tb) p w s t with
      | none =>
        rw [hs] at h2
        cases h2
      | some r =>
        obtain ⟨s2, t2⟩ := r
        rw [hs] at h2
        have h3 : (frS s2 fun s' => impF (stepT (denote tb) p w) m s' t2) = some s' := h2
        rw [frS_eq] at h3
        have q := impF_ok h3
        show (match step (denote tb) p w s.abs t with
          | .go s' t' => importEnds tb p w m s' t'
          | .halt _ _ => none) = some s'.abs
        rw [stepT_spec hs]
        exact q
/-- a state as a tree -/
def toT (s : Shared) : Option SharedT := match putAll s.heap.objs.toList .nil 0 with
  | some (t, n) => some ⟨t, n, s.heap.life, s.gens, s.drawn, s.toks, s.os⟩
  | none => none
theorem toT_ok {s : Shared} {t : SharedT} (h : toT s = some t) : t.abs = s := by
  unfold toT at h
  cases e : putAll s.heap.objs.toList .nil 0 with
  | none =>
    rw [e] at h
    cases h
  | some r =>
    obtain ⟨tr, n⟩ := r
    rw [e] at h
    have h' : some (⟨tr, n, s.heap.life, s.gens, s.drawn, s.toks, s.os⟩ : SharedT) = some t := h
    cases h'
    show (⟨absHeap tr n s.heap.life, s.gens, s.drawn, s.toks, s.os⟩ : Shared) = s
    rw [putAll_heap e]
def openG (st : SharedT → Thread → Option (SharedT × Thread)) (M : Nat) (p : Program) : Option Shared :=
  (toT (start (opening p)).1).bind fun s0 => (impF st M s0 (start (opening p)).2).bind fun s => fenceModules? p s.abs
def topG (st : SharedT → Thread → Option (SharedT × Thread)) (M : Nat) (p : Program) (s₀ : Shared) : Option SharedT :=
  match s₀.heap.isNs mainGlobals && s₀.gens.size == 0 with
  | true => (toT s₀).bind fun t => frS t fun t => goF st t.n (s₀.heap.nsMap mainGlobals "__annotations__") M t (topStub p)
  | false => none
theorem openG_ok {M N : Nat} {p : Program} {w : World} {s : Shared} (le : Nat.ble M N = true) (h : openG (stepT (denote treeTable) (opening p) w) M p = some s) : fencedOpening treeTable p w N = some s := by
  unfold openG at h
  obtain ⟨s0, h0, h1⟩ := Option.bind_eq_some_iff.mp h
  obtain ⟨s1, h2, h3⟩ := Option.bind_eq_some_iff.mp h1
  have e := impF_ok h2
  rw [toT_ok h0] at e
  have m := importEnds_mono (N - M) _ _ _ _ e
  rw [show M + (N - M) = N by have := Nat.le_of_ble_eq_true le; omega] at m
  unfold fencedOpening
  rw [m]
  exact h3
theorem topG_ok {M N : Nat} {p : Program} {w : World} {s₀ : Shared} {s : SharedT} (le : Nat.ble M N = true) (h : topG (stepT (denote treeTable) p w) M p s₀ = some s) (l : looksF p s₀.heap s.abs = true) : topFrom treeTable p w N s₀ = some s.abs := by
  unfold topG at h
  unfold topFrom
  cases e : (s₀.heap.isNs mainGlobals && s₀.gens.size == 0) with
  | false =>
    rw [e] at h
    cases h
  | true =>
    rw [e] at h
    have h1 : ((toT s₀).bind fun t => frS t fun t => goF (stepT (denote treeTable) p w) t.n (s₀.heap.nsMap mainGlobals "__annotations__") M t (topStub p)) = some s := h
    obtain ⟨t, h2, h3⟩ := Option.bind_eq_some_iff.mp h1
    rw [frS_eq] at h3
    have q := goF_ok h3
    have et := toT_ok h2
    have en : t.n = s₀.heap.objs.size := by
      rw [← et]
      exact (absHeap_size t.tree t.n t.life).symm
    rw [et, en] at q
    have r := topRun_mono (N - M) _ _ _ _ q
    rw [show M + (N - M) = N by have := Nat.le_of_ble_eq_true le; omega] at r
    show (topRun treeTable p w s₀.heap.objs.size (s₀.heap.nsMap mainGlobals "__annotations__") N s₀ (topStub p)).bind _ = _
    rw [r]
    show (match staticsOk (importedModules p.main.body) s₀.heap s.abs.heap && namesBound p s.abs.heap && gensDone s.abs && laidKept s₀.heap s.abs.heap with | true => some s.abs | false => none) = _
    have l' : (staticsOk (importedModules p.main.body) s₀.heap s.abs.heap && namesBound p s.abs.heap && gensDone s.abs && laidKept s₀.heap s.abs.heap) = true := l
    rw [l']
/-- the run's equation at a world -/
def RunEqG (r : OpenRow) (q : Program) (H : Hook) (ob : SharedT → H.α) (M1 M2 : Nat) (loose : List PySem.Str) (w : World) : Prop :=
  ((openG (stepQ (denQ tabQ) (opening r.prog) w) M1 r.prog).bind fun s₀ => (topG (stepQ (denQ tabQ) r.prog w) M2 r.prog s₀).map fun s => (looksF r.prog s₀.heap s.abs, seenQ q loose (importedModules r.prog.main.body) (fun s => xlAt q [] s && recOk r.toRowW.records s) s.abs, ob s)) = some (true, openGood q loose, H.val w)
theorem head_anyG {r : OpenRow} {q : Program} {H : Hook} {ob : SharedT → H.α} {M1 M2 : Nat} {loose : List PySem.Str} {d : DefRec} {kwd : List (PySem.Str × PySem.Expr)} (ho : ∀ s : SharedT, ob s = H.obs s.abs)
    (run : ∀ w, RunEqG r q H ob M1 M2 loose w)
    (hdef : defOf q r.name = some (d, kwd)) (hp : r.prog.theDef r.name = some (d.params, d.body, d.scope)) (hk : kwWritten? d.params.kwonlyargs d.params.kw_defaults = some kwd)
    (hwr : (!r.writes || r.records.isEmpty) = true) (k1 : r.wellSaid = true) (ok : (chainsOk q && opensWell r.prog && (frees r.toRowW && r.within.isEmpty)) = true) (hb : r.prog.bare) (hw : r.toRowW.promised)
    (call : WalkO q loose (XL q []) H.says r.toRowW d kwd fun f vs => PySem.call f vs) : r.Holds := by
  have left : LeftO r.prog q loose (fun s => xlAt q [] s && recOk r.toRowW.records s) H.obs H.val (M1 + M2) true := fun w => by
    have z := run w
    unfold RunEqG at z
    rw [← stepQ_eq, ← denQ_eq, ← tabQ_eq] at z
    obtain ⟨s₀, z1, z2⟩ := Option.bind_eq_some_iff.mp z
    obtain ⟨s, z3, z4⟩ := Option.map_eq_some_iff.mp z2
    obtain ⟨l1, l2, l3⟩ : _ ∧ _ ∧ _ := by simpa only [Prod.mk.injEq] using z4
    have a := openG_ok (N := M1 + M2) (Nat.ble_eq_true_of_le (by omega)) z1
    have t := topG_ok (N := M1 + M2) (Nat.ble_eq_true_of_le (by omega)) z3 l1
    unfold openEnds
    rw [a]
    show (topFrom treeTable r.prog w (M1 + M2) s₀).map _ = _
    rw [t]
    rw [← seenQ_eq] at l2
    rw [ho s] at l3
    exact congrArg some (Prod.ext l2 l3)
  exact holds_open (r := r) (q := q) (loose := loose) (XP := XL q []) (YP := H.says) (d := d) (kwd := kwd) left H.of H.keeps (fun s z => xl_of s (Bool.and_eq_true_iff.mp z).1) XL.keeps hdef hp hk (fun s z => recFacts_of (Bool.and_eq_true_iff.mp z).2) hwr k1 ok hb hw call
end GH
end

namespace Sx
open PySem PySem.Spec PyProof.Rows L2 PySem.Calls
/-! ### an own exception whose __init__ says super().__init__(x); self.f = x -/
def iA (fld : Str) (p1 p2 : Pos) : Arguments := { posonlyargs := [], args := [{ arg := "self", annotation := none, pos := p1 }, { arg := fld, annotation := none, pos := p2 }], vararg := none, kwonlyargs := [], kw_defaults := [], kwarg := none, defaults := [] }
def iB (fld : Str) (q1 q2 q3 q4 q5 q6 q7 q8 q9 q10 : Pos) : List Stmt :=
  [.Expr (.Call (.Attribute (.Call (.Name "super" q1) [] [] q2) "__init__" q3) [.Name fld q4] [] q5) q6, .Assign [.Attribute (.Name "self" q7) fld q8] (.Name fld q9) q10]
structure SupC (P : Program) (K : PySem.W.Frag) (C fI : Addr) (fld : Str) : Prop where
  o : OexC K C
  no : PySem.W.findIn K (.ref C) fld = some none
  si : PySem.W.ks_superIn K C C "__init__" = some (some (.builtin "ValueError.__init__"))
  sv : PySem.W.subIn K (.ref C) (.type "ValueError") = some true
  mr : PySem.W.mroIn K C (.ref C) = some true
  sup : PySem.W.nsIn K mainGlobals "super" = some none
  top : (P.main.scope.names.lookup ("super" : Str)).isSome = false
  opq : PySem.W.nsIn K cStatics "thirdparty.any" = some none
  fdb : (fld == ("__debug__" : Str)) = false
  fn : ∃ (oc : Value) (od : Option Addr) (qual : Str) (kV doc pm : Value) (an : Option Addr) (cda : Addr) (ct : Value) (osl : Array (Option Value)) (cc : Addr) (sc : Scope) (p1 p2 q1 q2 q3 q4 q5 q6 q7 q8 q9 q10 : Pos),
    K.lookup fI = some ⟨oc, od, .func (PySem.W.ksFn "__init__" qual (iA fld p1 p2) (iB fld q1 q2 q3 q4 q5 q6 q7 q8 q9 q10) sc .none kV doc pm an (.ref cda) ct cc), osl⟩ ∧ PySem.W.codeIn K (.ref cda) qual = true ∧
    (∃ cl cld csl, K.lookup cc = some ⟨cl, cld, .cell (some (.ref C)), csl⟩) ∧
    (∃ ccl cdd vs ccs file tf, K.lookup cda = some ⟨ccl, cdd, .fields vs, ccs⟩ ∧ vs[2]? = some (.str file tf) ∧ ((P.main.file : Str) == file) = true) ∧
    sc.names.lookup ("super" : Str) = some .globalImplicit ∧ sc.names.lookup ("__class__" : Str) = some .free ∧ sc.names.lookup ("self" : Str) = some .local ∧ sc.names.lookup fld = some .local ∧ ((fld == ("self" : Str)) = false) ∧
    sc.kind = .function ∧ sc.isCoroutine = false ∧ sc.isGenerator = false ∧ (∀ x ∈ sc.names, x.2 ≠ .cell) ∧
    (∀ u1 u2 : Value, bindArgs (PySem.W.ksFn "__init__" qual (iA fld p1 p2) (iB fld q1 q2 q3 q4 q5 q6 q7 q8 q9 q10) sc .none kV doc pm an (.ref cda) ct cc) ⟨[u1, u2], []⟩ = pure [(("self" : Str), u1), (fld, u2)]) ∧
    ∃ pl : Sem Bool, ∀ env : Env, eval (.Call (.Attribute (.Call (.Name "super" q1) [] [] q2) "__init__" q3) [.Name fld q4] [] q5) env = (do
      let ov ← attributeBase (.Call (.Name "super" q1) [] [] q2) "__init__" env (eval (.Call (.Name "super" q1) [] [] q2) env)
      standAt q3.atName
      let (f, first) ← holding [ov] (getMethod ov "__init__" pl)
      callWith q5 f first (backTo q5 (starEach [.Name fld q4] env)) [])
/-- its promise -/
def spExcI (C : Addr) (fld : Str) : Sp := fun vs H Q _ => ∃ (a : Addr) (v : V), vs = [.ref a, v] ∧ H a = some (exo a C none) ∧ ∀ dx, H dx = none → dx ≠ a → Q .non (upd (upd H dx (exd dx [(fld, v)])) a (exo a C (some dx)))
theorem fn_sup {P : Program} {w : World} {K : PySem.W.Frag} {mg : Str → Option Value} {base : Heap} {CX : CXT} {C fI : Addr} {fld : Str} (T : SupC P K C fI fld) : FnR P w K mg base CX 2 fI (spExcI C fld) := by
  intro A outer s H us vs Q E hr e0 r hsp
  obtain ⟨x, v, ev, ea, hq⟩ := hsp
  subst ev
  obtain ⟨u1, u, eu, r1, ru⟩ := vals2 r
  subst eu
  obtain rfl : u1 = Value.ref x := r1
  obtain ⟨oc, od, qual, kV, doc, pm, an, cda, ct, osl, cc, sc, p1, p2, q1, q2, q3, q4, q5, q6, q7, q8, q9, q10, lk, hcd, ⟨cl, cld, csl, hcell⟩, ⟨ccl, cdd, cvs, ccs, file, tf, hcode, hvs, hfile⟩, hks, hkc, hkself, hkf, hfs, hk, hco, hgen, hnc, hbind, pl, hev⟩ := T.fn
  obtain ⟨nm, q, N, bs, bm, sn, sub, ab, col, dd, k0, k1, k2, k3, k5, hC, hbm⟩ := T.o.cls
  have KX : K.In s.heap := e0.mod.kin.keeps fun b o e => (e0.bs b o e).1
  have lim : s.heap.NoLimit := e0.mod.nolimit.keeps fun b o e => (e0.bs b o e).1
  have hcl : PySem.W.clsIn K C = some { name := nm, bases := bs, mro := .ref C :: bm, ns := N, qualname := q, hasDict := true, slotNames := sn, subclasses := sub, abstract := ab, collection := col, hasDel := false } := by unfold PySem.W.clsIn; rw [hC] <;> rfl
  obtain ⟨t1, hx⟩ := exo_at e0.hok ea
  have hxs : x < s.heap.objs.size := Heap.lt_size hx
  have hne : ¬ (("self" : Str) = fld) := fun z => by rw [← z] at hfs; simp at hfs
  refine ks_codeAny_call_defAt (fd := PySem.W.ksFn "__init__" qual (iA fld p1 p2) (iB fld q1 q2 q3 q4 q5 q6 q7 q8 q9 q10) sc .none kV doc pm an (.ref cda) ct cc) (body := iB fld q1 q2 q3 q4 q5 q6 q7 q8 q9 q10) (binds := [(("self" : Str), .ref x), (fld, u)])
    hr.depth (KX _ _ lk) rfl lim (PySem.W.codeRec_of KX hcd) rfl (BindsTo.of_eq (hbind _ _)) hnc (fun y hy => ?_) (fun h₁ hns hk₁ => ?_) hco hgen hk
  · rcases List.mem_cons.mp hy with rfl | hy
    · exact hkself
    · rcases List.mem_cons.mp hy with rfl | hy
      · exact hkf
      · cases hy
  · show PySem.wpAt (model P w) (A.deeper (PySem.W.ksEnv qual sc s.heap.objs.size fI (.ref cda) cc)) (.func (iB fld q1 q2 q3 q4 q5 q6 q7 q8 q9 q10) (PySem.W.ksEnv qual sc s.heap.objs.size fI (.ref cda) cc))
      (execs (iB fld q1 q2 q3 q4 q5 q6 q7 q8 q9 q10) (PySem.W.ksEnv qual sc s.heap.objs.size fI (.ref cda) cc)) _ _ _
    have X1 : K.In h₁ := KX.keeps hk₁
    have mgs : mg "super" = none := PySem.W.mg_none_of e0.mod.kin e0.mod.glob T.sup
    obtain ⟨mb, hmb, hbb⟩ := e0.mod.blt
    have kb : ∀ b o, base.get? b = some o → h₁.get? b = some o := fun b o e => hk₁ b o (e0.bs b o e).1
    have lself : ([(("self" : Str), Value.ref x), (fld, u)] : List (Str × Value)).reverse.lookup ("self" : Str) = some (Value.ref x) := by
      show List.lookup ("self" : Str) [(fld, u), (("self" : Str), Value.ref x)] = _
      have e : ((("self" : Str)) == fld) = false := by simpa using hne
      simp [List.lookup, e]
    have lfld : ([(("self" : Str), Value.ref x), (fld, u)] : List (Str × Value)).reverse.lookup fld = some u := by
      show List.lookup fld [(fld, u), (("self" : Str), Value.ref x)] = _
      simp [List.lookup]
    refine ks_wpAt_execs_cons (ks_wpAt_Expr_any (ks_wpAt_MethodCall (pl := pl) ?_ (hev _)) (by simp [interactive, hk]))
    refine ks_wpAt_super_base (f := fI) (cc := cda) hks hkc (by decide +kernel) rfl (hk₁ _ _ (KX _ _ lk)) rfl rfl rfl (hk₁ _ _ (KX _ _ hcode)) rfl hvs hfile T.top ?_
    refine PySem.W.ks_loadName_global hk hks (loadGlobal_builtin (env := PySem.W.ksEnv qual sc s.heap.objs.size fI (.ref cda) cc) (e0.mod.glob.keeps kb) mgs (hmb.keeps kb) ((hbb _ (by decide +kernel)).trans (by first | boot_by_name | rfl | kernel_rfl)) ⟨rfl, ?_⟩)
    refine wpAny_loadName_free hk hkc rfl ⟨_, X1 _ _ hcell, rfl⟩ ?_
    refine wpAny_loadName_local hk hkself hns lself ?_
    have hD1 : h₁.get? C = some _ := X1 _ _ hC
    have hx1 := hk₁ _ _ hx
    have I1 : PySem.W.InstAt h₁ x _ C none := ⟨hx1, rfl, rfl, trivial⟩
    refine ks_wpAny_isType_cls hD1 rfl ⟨rfl, ?_⟩
    refine ks_wpAny_call_super hD1 rfl hx1 rfl (fun c e => by cases e) (PySem.W.looks_mroIn X1 T.mr) (fun h₂ hso k₂ => ?_)
    have X2 : K.In h₂ := X1.keeps k₂
    have hx2 := k₂ _ _ hx1
    have I2 : PySem.W.InstAt h₂ x _ C none := ⟨hx2, rfl, rfl, trivial⟩
    have hI : PySem.W.Looks (model P w) h₂ (isInstance (.ref x) (.type "ValueError")) true := I2.type.andThen (PySem.W.looks_subIn X2 T.sv)
    have hsi : PySem.W.alongIn K "__init__" ((((.ref C :: bm : List Value)).dropWhile (· != .ref C)).drop 1) = some (some (.builtin "ValueError.__init__")) := by
      have z := T.si
      unfold PySem.W.ks_superIn at z
      rw [hcl] at z
      exact z
    refine PySem.W.kxs_getMethod PySem.W.kxs_ValueError hso (PySem.W.looks_opaque X2 T.opq) (l₀ := .ref C :: bm) (fun A Q E s k q => wpAny_bind ((PySem.W.looks_clsIn X2 hcl) A _ E s k (wpAny_pure q))) rfl X2 hsi hI (PySem.W.ks_ne X2 I2 hcl) (by decide +kernel) ?_
    have k₃ : ∀ b o, h₂.get? b = some o → (h₂.push (PySem.W.kxs_mw "ValueError.__init__" x)).get? b = some o := fun b o e => Heap.get?_push_of_some _ e
    have hu3 : (h₂.push (PySem.W.kxs_mw "ValueError.__init__" x)).get? h₂.objs.size = some (PySem.W.kxs_mw "ValueError.__init__" x) := Heap.get?_push_size _ rfl
    have ns3 : (h₂.push (PySem.W.kxs_mw "ValueError.__init__" x)).Ns s.heap.objs.size (fun y => ([(("self" : Str), Value.ref x), (fld, u)] : List (Str × Value)).reverse.lookup y) := hns.keeps fun b o e => k₃ b o (k₂ b o e)
    refine PySem.W.kxs_callWith (i := "ValueError.__init__") (x := x) rfl (evalArgs_plain (Calls.spliced_cons (wpAny_Name (wpAny_loadName_local hk hkf ns3 lfld (Calls.spliced_nil ⟨hu3, ?_⟩)) T.fdb)))
    have X3 : K.In (h₂.push (PySem.W.kxs_mw "ValueError.__init__" x)) := X2.keeps k₃
    have hx3 := k₃ _ _ hx2
    have hC3 := X3 _ _ hC
    show wpAny (model P w) _ (call (.ref h₂.objs.size) [u]) _ _ _
    refine wpAny_call (codeAny_of_tree ?_)
    show wpAny _ _ (callAny (.ref h₂.objs.size) ⟨[u], []⟩) _ _ _
    simp only [callAny]
    refine wpAny_bind (wpAny_load hu3 ?_)
    simp only [PySem.W.kxs_mw, show (Value.type "method-wrapper" == Value.type "method" || Value.type "method-wrapper" == Value.type "builtin_function_or_method" || Value.type "method-wrapper" == Value.type "method-wrapper") = true by decide, if_true]
    refine PySem.W.KFB.if_so (by decide) ?_
    refine wpAny_bind (PySem.W.check_bound_init PySem.F.excBase_ValueError.toExcCallFacts hC3 hx3 rfl ?_)
    refine wpAny_bind (wpAny_pure (wpAny_pure ?_))
    refine ⟨plainId_quiet PySem.F.excBase_ValueError.init.plain _, codeAny_builtin PySem.F.excBase_ValueError.initEntry ?_⟩
    refine PySem.W.exc_init_tree (cls := .ref C) (t0 := t1) (dv := none) (c2 := .none) (c3 := .none) (b4 := .bool false) hx3 (by show 1 ≤ sizeLine; rw [sizeLine_eq]; decide) (fun h₄ k₄ hx4 _ => ?_)
    have nxL : s.heap.objs.size ≠ x := Nat.ne_of_gt hxs
    have X4 : K.In h₄ := fun b o e => k₄ b o (fun z => by
      have y := X3 _ _ e
      rw [z, hx3] at y
      have y2 := e0.mod.kin b o e
      have y3 := (e0.bs b o y2).2
      rw [z, ea] at y3
      cases y3) (X3 b o e)
    have ns4 : h₄.Ns s.heap.objs.size (fun y => ([(("self" : Str), Value.ref x), (fld, u)] : List (Str × Value)).reverse.lookup y) := by
      obtain ⟨o, es, ep, ho, rr⟩ := ns3
      exact ⟨o, es, ep, k₄ _ _ nxL ho, rr⟩
    show PySem.wpAt _ _ _ (execs [.Assign [.Attribute (.Name "self" q7) fld q8] (.Name fld q9) q10] _) _ _ _
    refine ks_wpAt_execs_cons (ks_wpAt_Assign_Attr (wpAt_of_wpAny (wpAny_Name (wpAny_loadName_local hk hkf ns4 lfld ?_) T.fdb)))
    refine wpAny_Name (wpAny_loadName_local hk hkself ns4 lself ?_) (by decide +kernel)
    refine PySem.W.set_plain X4 (ox := HandSPX.excO C _) (od := none) ⟨hx4, rfl, rfl, trivial⟩ T.o.sa ?_
    refine HandSPX.exc_osa X4 hx4 hcl (show HandSPX.refsVE (.ref C :: bm) = true from hbm) rfl T.no (fun h₅ tk₅ dx k₅ dn dne hx5 hn5 => ?_)
    refine wpAt_of_wpAny (wpAny_execs_nil ?_)
    have kk : ∀ b o, b ≠ x → s.heap.get? b = some o → h₅.get? b = some o := fun b o hb e => k₅ b o hb (k₄ b o hb (k₃ b o (k₂ b o (hk₁ b o e))))
    have dns : s.heap.objs.size ≤ dx := by
      obtain ⟨o, es, ep, ho, rr⟩ := ns4
      exact Nat.le_trans (Nat.le_of_lt (Heap.lt_size ho)) dn
    have hnd : H dx = none := e0.hok.fresh dns
    have nd : ∀ {b : Addr} {o : Obj}, s.heap.get? b = some o → b ≠ dx := fun {b o} q => Nat.ne_of_lt (Nat.lt_of_lt_of_le (Heap.lt_size q) dns)
    have na : ∀ {b : Addr}, H b = none → b ≠ x := fun {b} n z => by
      rw [z, ea] at n
      cases n
    have Un1 : Un (frs outer) [] H (upd (upd H dx (exd dx [(fld, v)])) x (exo x C (some dx))) s.heap h₅ := {
      keep := fun b o q n _ _ => kk b o (na n) q
      slot := fun b o q n _ _ => ⟨o.slots, kk b o (na n) q⟩
      free := fun b o q n _ => by rw [upd_ne (na n), upd_ne (nd q)]; exact n
      there := fun b o q _ => by
        by_cases hb : b = x
        · exact ⟨_, by rw [hb]; exact hx5⟩
        · exact ⟨o, kk b o hb q⟩
      tups := fun b xs q => by rw [upd_ne (at_ne ea q exo_tup), upd_ne (ne_of_none q hnd)]; exact q
      frzs := fun b o v q => by rw [upd_ne (at_ne ea q exo_frz), upd_ne (ne_of_none q hnd)]; exact q
      tbls := fun b ps q => ⟨#[], by rw [upd_ne (at_ne ea q exo_tbl), upd_ne (ne_of_none q hnd), q]; simp⟩ }
    refine ⟨.non, _, rfl, e0.bare, Un1, fun b o q => ?_, rfl, hq dx hnd dne⟩
    by_cases hb : b = x
    · subst hb
      rw [upd_same] at q
      cases q
      exact exo_ok hx5
    · rw [upd_ne hb] at q
      by_cases hd : b = dx
      · subst hd
        rw [upd_same] at q
        cases q
        exact exd_ok hn5 (relO_put (fs := []) ru fun g => True.intro)
      · rw [upd_ne hd] at q
        exact (e0.hok b o q).stay (fun c v hc z => kk c v (by
            rcases hc with hc | hc
            · rw [hc]
              exact hb
            · exact at_ne ea hc exo_own) z)
          (fun c hc => by rw [upd_ne (at_ne ea hc exo_own), upd_ne (ne_of_none hc hnd)]; exact hc) (fun c xs hc => by rw [upd_ne (at_ne ea hc exo_tup), upd_ne (ne_of_none hc hnd)]; exact hc)
end Sx

namespace Sx
open PySem PySem.Spec PyProof.Rows L2
/-! ### calls by a positional promise, what is raised wished for at the slots -/
section
variable {X : Cx} {pins : List (Addr × Obj)} {σ : L2.St} {H : Hp} {s : Shared} {k : Nat} {f C : Addr} {sp : Sp} {W : WX} {x m : Str} {p pos apos : Pos} {e o : Expr} {es : List Expr} {ta : TE} {t : TA} {pl : Sem Bool}
/-- what a def lets out: E, at any slots -/
abbrev wx (E : XK) : WX := fun cls d _ H => E cls d H
abbrev wn : WX := fun _ _ _ _ => False
theorem run_fnW {Q : VK} {us : List Value} {vs : List V} (F : FnR X.prog X.w X.K X.mg X.base (L2.CX X.prog X.w) k f sp) (hr : Room k X.A) (tk : Takes X W) (I : Inv X pins σ H s) (r : Vals vs us) (h : sp vs H Q (WE W σ)) :
    codeAny (model X.prog X.w) X.A (.call (.ref f) ⟨us, []⟩) (fun r s' => match r with | .ok (.ret v) => EP X pins σ Q v s' | .ok _ => False | .error e => X.xe e s') s := by
  refine codeAny_mono (F X.A X.stack s H us vs Q (WE W σ) hr I.env0 r h) fun r s' hq => ?_
  cases r with
  | error e => exact passAt tk σ pins H s e s' I hq
  | ok fl =>
    cases fl with
    | ret u => exact I.after hq
    | next => exact False.elim hq
    | brk => exact False.elim hq
    | cont => exact False.elim hq
def tCallW (sp : Sp) (W : WX) (t : TA) : TE := fun σ H Q => t σ H fun vs H1 => sp vs H1 Q (WE W σ)
theorem pe_fnW (F : FnR X.prog X.w X.K X.mg X.base (L2.CX X.prog X.w) k f sp) (hr : Room k X.A) (hg : Gl X x) (hm : X.mg x = some (.ref f)) (hk : PySem.W.keepIn X.K (.ref f) = true) (tk : Takes X W)
    (ha : PA X (e :: es) t) (hdb : (x == ("__debug__" : Str)) = false := by decide) (he : starEach (e :: es) X.env = (false, eval e X.env) :: starEach es X.env := by rfl) (hpl : (backTo pos (starEach es X.env)).any (·.1) = false := by rfl) :
    PE X (.Call (.Name x p) (e :: es) [] pos) (tCallW sp W t) := by
  refine ⟨fun pins s σ H Q I h => ?_⟩
  refine wpAny_Call_Name_kw (ld_glob I hg hm ?_ hdb)
  refine PySem.W.callWith_K (h₀ := X.base) I.ok.mod.kin hk (thn (ha.run pos pins s σ H _ I h) fun us s1 ⟨vs, H1, I1, r, q⟩ => ⟨I1.kIn, ?_⟩) he hpl
  exact wpAny_call (run_fnW F hr tk I1 r q)
theorem pe_fnW0 (F : FnR X.prog X.w X.K X.mg X.base (L2.CX X.prog X.w) k f sp) (hr : Room k X.A) (hg : Gl X x) (hm : X.mg x = some (.ref f)) (hk : PySem.W.keepIn X.K (.ref f) = true) (tk : Takes X W)
    (hdb : (x == ("__debug__" : Str)) = false := by decide) : PE X (.Call (.Name x p) [] [] pos) (tCallW sp W tNil) := by
  refine ⟨fun pins s σ H Q I h => ?_⟩
  refine wpAny_Call_Name_kw (ld_glob I hg hm ?_ hdb)
  exact PySem.W.callWith_K0 I.kIn hk (wpAny_call (run_fnW (us := []) (vs := []) F hr tk I .nil h))
def tMethW (C : Addr) (m : Str) (sp : Sp) (W : WX) (ta : TE) (t : TA) : TE := fun σ H Q => ta σ H fun x H1 => ∃ a dx fs, x = .ref a ∧ H1 a = some (.ins C dx fs) ∧ fs.lookup m = none ∧ t σ H1 fun vs H2 => sp (x :: vs) H2 Q (WE W σ)
theorem pe_meW (he : PE X o ta) (c : Cls X.K C) (hm : Meth X.K C m f) (F : FnR X.prog X.w X.K X.mg X.base (L2.CX X.prog X.w) k f sp) (hr : Room k X.A) (tk : Takes X W) (ha : PA X (e :: es) t)
    (hst : starEach (e :: es) X.env = (false, eval e X.env) :: starEach es X.env := by rfl) (hpl : (backTo pos (starEach es X.env)).any (·.1) = false := by rfl)
    (ht : eval (.Call (.Attribute o m apos) (e :: es) [] pos) X.env = (do
      let ov ← eval o X.env
      standAt apos.atName
      let (f, first) ← holding [ov] (getMethod ov m pl)
      callWith pos f first (backTo pos (starEach (e :: es) X.env)) (backToKw pos (keywordEach [] X.env))) := by rfl) :
    PE X (.Call (.Attribute o m apos) (e :: es) [] pos) (tMethW C m sp W ta t) := by
  refine ⟨fun pins s σ H Q I h => ?_⟩
  refine PySem.W.methodCall_KW (pl := pl) (thn (he.run pins s σ H _ I h) fun u s1 ⟨x, H1, I1, rx, a, dx, fs, ex, ea, l, q⟩ => ?_) ht
  subst ex
  obtain rfl : u = Value.ref a := rx
  refine getmeth_ok I1 ea c hm l ?_
  refine PySem.W.callWith_K (first := [.ref a]) (h₀ := X.base) I.ok.mod.kin hm.kp (thn (ha.run pos pins s1 σ H1 _ I1 q) fun us s2 ⟨vs, H2, I2, r, q2⟩ => ⟨I2.kIn, ?_⟩) hst hpl
  exact wpAny_call (run_fnW (us := .ref a :: us) (vs := .ref a :: vs) F hr tk I2 (.cons rfl r) q2)
theorem pe_meW0 (he : PE X o ta) (c : Cls X.K C) (hm : Meth X.K C m f) (F : FnR X.prog X.w X.K X.mg X.base (L2.CX X.prog X.w) k f sp) (hr : Room k X.A) (tk : Takes X W)
    (ht : eval (.Call (.Attribute o m apos) [] [] pos) X.env = (do
      let ov ← eval o X.env
      standAt apos.atName
      let (f, first) ← holding [ov] (getMethod ov m pl)
      callWith pos f first (backTo pos (starEach [] X.env)) (backToKw pos (keywordEach [] X.env))) := by rfl) :
    PE X (.Call (.Attribute o m apos) [] [] pos) (tMethW C m sp W ta tNil) := by
  refine ⟨fun pins s σ H Q I h => ?_⟩
  refine PySem.W.methodCall_KW (pl := pl) (thn (he.run pins s σ H _ I h) fun u s1 ⟨x, H1, I1, rx, a, dx, fs, ex, ea, l, q⟩ => ?_) ht
  subst ex
  obtain rfl : u = Value.ref a := rx
  refine getmeth_ok I1 ea c hm l ?_
  exact PySem.W.callWith_K0 (first := [.ref a]) I1.kIn hm.kp (wpAny_call (run_fnW (us := [.ref a]) (vs := [.ref a]) F hr tk I1 (.cons rfl .nil) q))
/-- C(..): a new instance and its dict, then __init__ -/
def tMakeW (C : Addr) (sp : Sp) (W : WX) (t : TA) : TE := fun σ H Q => t σ H fun vs H1 => ∀ x dx, H1 x = none → H1 dx = none → dx ≠ x →
  sp (.ref x :: vs) (upd (upd H1 dx (.own x)) x (.ins C dx [])) (fun v H2 => v = .non ∧ Q (.ref x) H2) (WE W σ)
theorem run_makeW {Q : VK} {us : List Value} {vs : List V} (M : Mk X.K C f) (F : FnR X.prog X.w X.K X.mg X.base (L2.CX X.prog X.w) k f sp) (hr : Room (k + 1) X.A) (tk : Takes X W) (I : Inv X pins σ H s) (r : Vals vs us)
    (h : ∀ x dx, H x = none → H dx = none → dx ≠ x → sp (.ref x :: vs) (upd (upd H dx (.own x)) x (.ins C dx [])) (fun v H2 => v = .non ∧ Q (.ref x) H2) (WE W σ)) :
    wpAny (model X.prog X.w) X.A (call (.ref C) us) (EP X pins σ Q) X.xe s := by
  have hq := h (s.heap.objs.size + 1) s.heap.objs.size (I.hok.fresh (Nat.le_succ _)) (I.hok.fresh (Nat.le_refl _)) (Nat.ne_of_lt (Nat.lt_succ_self _))
  have I2 := Inv.made (C := C) I
  have r2 : Vals (V.ref (s.heap.objs.size + 1) :: vs) (Value.ref (s.heap.objs.size + 1) :: us) := .cons rfl r
  refine wpAny_call (make_map (f := f) I.kIn M.makes M.init (beq_iff_eq.mp M.fn) (codeAny_mono (F _ X.stack _ _ (Value.ref (s.heap.objs.size + 1) :: us) _ _ (WE W σ) (hr.make C us []) (I2.env0.make C us []) r2 hq) fun r s' hq' => ?_))
  cases r with
  | error e => exact passAt tk σ pins _ _ e s' I2 hq'
  | ok fl =>
    cases fl with
    | ret u =>
      obtain ⟨v, H', I3, rv, ev, q3⟩ := I2.after hq'
      subst ev
      exact ⟨rv, ⟨V.ref (s.heap.objs.size + 1), H', I3, rfl, q3⟩⟩
    | next => exact False.elim hq'
    | brk => exact False.elim hq'
    | cont => exact False.elim hq'
theorem pe_mkW (M : Mk X.K C f) (F : FnR X.prog X.w X.K X.mg X.base (L2.CX X.prog X.w) k f sp) (hr : Room (k + 1) X.A) (hg : Gl X x) (hm : X.mg x = some (.ref C)) (tk : Takes X W)
    (ha : PA X (e :: es) t) (hdb : (x == ("__debug__" : Str)) = false := by decide) (he : starEach (e :: es) X.env = (false, eval e X.env) :: starEach es X.env := by rfl) (hpl : (backTo pos (starEach es X.env)).any (·.1) = false := by rfl) :
    PE X (.Call (.Name x p) (e :: es) [] pos) (tMakeW C sp W t) := by
  refine ⟨fun pins s σ H Q I h => ?_⟩
  refine wpAny_Call_Name_kw (ld_glob I hg hm ?_ hdb)
  refine PySem.W.callWith_K (h₀ := X.base) I.ok.mod.kin M.kp (thn (ha.run pos pins s σ H _ I h) fun us s1 ⟨vs, H1, I1, r, q⟩ => ⟨I1.kIn, ?_⟩) he hpl
  exact run_makeW M F hr tk I1 r q
theorem pe_mkW0 (M : Mk X.K C f) (F : FnR X.prog X.w X.K X.mg X.base (L2.CX X.prog X.w) k f sp) (hr : Room (k + 1) X.A) (hg : Gl X x) (hm : X.mg x = some (.ref C)) (tk : Takes X W)
    (hdb : (x == ("__debug__" : Str)) = false := by decide) : PE X (.Call (.Name x p) [] [] pos) (tMakeW C sp W tNil) := by
  refine ⟨fun pins s σ H Q I h => ?_⟩
  refine wpAny_Call_Name_kw (ld_glob I hg hm ?_ hdb)
  exact PySem.W.callWith_K0 I.kIn M.kp (run_makeW (us := []) M F hr tk I .nil h)
end
/-! ### an exception of an own class made, its __init__ by a positional promise -/
section
variable {X : Cx} {e : Expr} {es : List Expr} {ta : TA} {p pos : Pos}
def tMkE (C : Addr) (fld : Str) (ta : TA) : L2.St → Hp → XK → Prop := fun σ H Q => ta σ H fun vs H1 => ∃ v, vs = [v] ∧ ∀ d, H1 d = none → Q (.ref C) (some d) (upd H1 d (.xd [(fld, v)]))
theorem del_upd_eq {H1 : Hp} {a d C : Addr} {o1 o2 o3 : HO} (hda : d ≠ a) (hn : H1 a = none) : upd (del (upd (upd (upd H1 a o1) d o2) a o3) a) d (.xd []) = upd H1 d (.xd []) := by
  funext b
  by_cases hb : b = d
  · rw [hb, upd_same, upd_same]
  · rw [upd_ne hb, upd_ne hb]
    by_cases ha : b = a
    · rw [ha, del_same, hn]
    · rw [del_ne ha, upd_ne ha, upd_ne hb, upd_ne ha]
theorem pmk_sup {P : Program} {x fld : Str} {C fI : Addr} (hP : X.prog = P) (T : SupC P X.K C fI fld) (iC : PySem.W.findIn X.K (.ref C) "__init__" = some (some (.ref fI))) (tI : PySem.W.typeIn X.K (.ref fI) = some (.type "function"))
    (hr : Room 3 X.A) (hg : Gl X x) (hm : X.mg x = some (.ref C)) (ha : PA X (e :: es) ta)
    (hdb : (x == ("__debug__" : Str)) = false := by decide) (he : starEach (e :: es) X.env = (false, eval e X.env) :: starEach es X.env := by rfl) (hpl : (backTo pos (starEach es X.env)).any (·.1) = false := by rfl) :
    PMk X (.Call (.Name x p) (e :: es) [] pos) (tMkE C fld ta) := by
  subst hP
  have F1 : FnR X.prog X.w X.K X.mg X.base (L2.CX X.prog X.w) 2 fI (spExcI C fld) := fn_sup T
  intro pins s σ H Q I h
  obtain ⟨nm, q, N, bs, bm, sn, sub, ab, col, dd, k0, k1, k2, k3, k5, hC, hbm⟩ := T.o.cls
  refine wpAny_Call_Name_kw (ld_glob I hg hm ?_ hdb)
  refine PySem.W.callWith_K (h₀ := X.base) I.ok.mod.kin T.o.kC (thn (ha.run pos pins s σ H _ I h) fun us s1 ⟨vs, H1, I1, r1, v, ev, q1⟩ => ⟨I1.kIn, ?_⟩) he hpl
  subst ev
  show wpAny _ _ (call (.ref C) us) _ _ _
  obtain ⟨hp, g, dr, tk, os⟩ := s1
  have hsz : hp.objs.size ≤ hp.objs.size + 1 := Nat.le_succ _
  have hn : H1 (hp.objs.size + 1) = none := I1.hok.fresh hsz
  have kk : ∀ b o, hp.get? b = some o → ((hp.push (PySem.W.kdv_tup us)).push (PySem.HandSPX.excO C hp.objs.size)).get? b = some o := fun b o e => Heap.get?_push_of_some _ (Heap.get?_push_of_some _ e)
  have hget : ((hp.push (PySem.W.kdv_tup us)).push (PySem.HandSPX.excO C hp.objs.size)).get? (hp.objs.size + 1) = some (PySem.HandSPX.excO C hp.objs.size) := by heap_get
  have I2 : Inv X pins σ (upd H1 (hp.objs.size + 1) (exo (hp.objs.size + 1) C none)) ⟨(hp.push (PySem.W.kdv_tup us)).push (PySem.HandSPX.excO C hp.objs.size), g, dr, tk, os⟩ :=
    I1.laid (t' := tk) (a := hp.objs.size + 1) (o := exo (hp.objs.size + 1) C none) (h' := (hp.push (PySem.W.kdv_tup us)).push (PySem.HandSPX.excO C hp.objs.size)) kk hsz (exo_ok hget)
  have r2 : Vals [V.ref (hp.objs.size + 1), v] (Value.ref (hp.objs.size + 1) :: us) := .cons rfl r1
  have hus : us.length ≤ sizeLine := by
    rw [← Paired.length r1, sizeLine_eq]
    exact (by decide : 1 ≤ 16777216)
  have hsp : spExcI C fld [V.ref (hp.objs.size + 1), v] (upd H1 (hp.objs.size + 1) (exo (hp.objs.size + 1) C none)) (fun v' H2 => v' = .non ∧ ∃ d, H2 = upd (upd (upd H1 (hp.objs.size + 1) (exo (hp.objs.size + 1) C none)) d (exd d [(fld, v)])) (hp.objs.size + 1) (exo (hp.objs.size + 1) C (some d)) ∧ H1 d = none ∧ d ≠ hp.objs.size + 1) (fun _ _ _ => False) :=
    ⟨_, v, rfl, upd_same, fun dx hdx hne => ⟨rfl, dx, rfl, by rw [upd_ne hne] at hdx; exact hdx, hne⟩⟩
  refine wpAny_call (PySem.HandSPX.call_own F.excBase_ValueError (fun Y => PySem.HandSPX.refsVE_contains Y bm hbm) (I1.kIn _ _ hC) (PySem.W.looks_findIn I1.kIn iC) (fun self => PySem.W.bind_fn I1.kIn self tI) hus
    (codeAny_mono (F1 _ X.stack _ _ (Value.ref (hp.objs.size + 1) :: us) _ _ (fun _ _ _ => False) (hr.make C us []) (I2.env0.make C us []) r2 hsp) fun r s' hq' => ?_))
  cases r with
  | error er =>
    obtain ⟨_, _, _, _, _, _, _, _, _, _, _, _, z⟩ := hq'
    exact z.elim
  | ok fl =>
    cases fl with
    | ret u =>
      obtain ⟨v', H2, os2, bare2, un2, hok2, rv, ev, d, eH, hd1, hda⟩ := hq'
      subst ev
      subst eH
      obtain ⟨h2, g2, d2, t2, os'⟩ := s'
      refine ⟨rv, mk_end (d := d) (fs := [(fld, v)]) (raises_own T.o.exC T.o.tyC) I1 hsz kk un2 hok2 os2 bare2 upd_same (by rw [upd_ne hda, upd_same]) hd1 ?_⟩
      have e : upd (del (upd (upd (upd H1 (hp.objs.size + 1) (exo (hp.objs.size + 1) C none)) d (exd d [(fld, v)])) (hp.objs.size + 1) (exo (hp.objs.size + 1) C (some d))) (hp.objs.size + 1)) d (.xd [(fld, v)]) = upd H1 d (.xd [(fld, v)]) := by
        funext b
        by_cases hb : b = d
        · rw [hb, upd_same, upd_same]
        · rw [upd_ne hb, upd_ne hb]
          by_cases ha : b = hp.objs.size + 1
          · rw [ha, del_same, hn]
          · rw [del_ne ha, upd_ne ha, upd_ne hb, upd_ne ha]
      rw [e]
      exact q1 d hd1
    | next => exact False.elim hq'
    | brk => exact False.elim hq'
    | cont => exact False.elim hq'
end
end Sx

namespace Sx
open PySem PySem.Spec PyProof.Rows L2
/-! ### data -/
inductive D where
  | non | bl (b : Bool) | int (i : Int) | str (x : Str) | tup (ds : List D) | lst (ds : List D) | ins (C : Str) (fs : List (Str × D)) | dic
mutual
/-- the value v is, in the heap H, the data d -/
inductive Is (K : PySem.W.Frag) (H : Hp) : V → D → Prop where
  | non : Is K H .non .non
  | bl (b : Bool) : Is K H (.bl b) (.bl b)
  | int (i : Int) : Is K H (.int i) (.int i)
  | str (x : Str) : Is K H (.str x) (.str x)
  | tup {a : Addr} {xs : List V} {ds : List D} (h : SqT K H a xs) (hs : IsL K H xs ds) : Is K H (.ref a) (.tup ds)
  | lst {a : Addr} {xs : List V} {ds : List D} (h : SqL K H a xs) (hs : IsL K H xs ds) : Is K H (.ref a) (.lst ds)
  | ins {a dx : Addr} {C : Str} {fs : List (Str × V)} {gs : List (Str × D)} (h : H a = some (.ins (He.ga K C) dx fs)) (hs : IsF K H fs gs) : Is K H (.ref a) (.ins C gs)
  | dic {a : Addr} (h : H a = some (.dK [])) : Is K H (.ref a) .dic
inductive IsL (K : PySem.W.Frag) (H : Hp) : List V → List D → Prop where
  | nil : IsL K H [] []
  | cons {v : V} {d : D} {vs : List V} {ds : List D} (h : Is K H v d) (hs : IsL K H vs ds) : IsL K H (v :: vs) (d :: ds)
inductive IsF (K : PySem.W.Frag) (H : Hp) : List (Str × V) → List (Str × D) → Prop where
  | nil : IsF K H [] []
  | cons {f : Str} {v : V} {d : D} {fs : List (Str × V)} {gs : List (Str × D)} (h : Is K H v d) (hs : IsF K H fs gs) : IsF K H ((f, v) :: fs) ((f, d) :: gs)
end
theorem Same.seqT {K : PySem.W.Frag} {H H' : Hp} {a : Addr} {xs : List V} (e : Same H H') (h : SqT K H a xs) : SqT K H' a xs := by
  rcases h with (h | ⟨o, h⟩) | h
  · exact .inl (.inl (e _ _ h))
  · exact .inl (.inr ⟨o, e _ _ h⟩)
  · exact .inr h
section
variable {K : PySem.W.Frag} {H H' : Hp}
mutual
theorem Is.mono (e : Same H H') : ∀ {v : V} {d : D}, Is K H v d → Is K H' v d
  | _, _, .non => .non
  | _, _, .bl b => .bl b
  | _, _, .int i => .int i
  | _, _, .str x => .str x
  | _, _, .tup h hs => .tup (Same.seqT e h) (IsL.mono e hs)
  | _, _, .lst h hs => .lst (Same.seq e h) (IsL.mono e hs)
  | _, _, .ins h hs => .ins (e _ _ h) (IsF.mono e hs)
  | _, _, .dic h => .dic (e _ _ h)
theorem IsL.mono (e : Same H H') : ∀ {vs : List V} {ds : List D}, IsL K H vs ds → IsL K H' vs ds
  | _, _, .nil => .nil
  | _, _, .cons h hs => .cons (Is.mono e h) (IsL.mono e hs)
theorem IsF.mono (e : Same H H') : ∀ {fs : List (Str × V)} {gs : List (Str × D)}, IsF K H fs gs → IsF K H' fs gs
  | _, _, .nil => .nil
  | _, _, .cons h hs => .cons (Is.mono e h) (IsF.mono e hs)
end
theorem IsL.length : ∀ {vs : List V} {ds : List D}, IsL K H vs ds → vs.length = ds.length
  | _, _, .nil => rfl
  | _, _, .cons _ hs => congrArg Nat.succ hs.length
theorem IsL.get : ∀ {vs : List V} {ds : List D} {i : Nat} {d : D}, IsL K H vs ds → ds[i]? = some d → ∃ v, vs[i]? = some v ∧ Is K H v d
  | _, _, _, _, .nil, e => by simp at e
  | _, _, 0, _, .cons h _, e => by simp at e; subst e; exact ⟨_, rfl, h⟩
  | _, _, i + 1, d, .cons _ hs, e => by
    obtain ⟨v, h1, h2⟩ := IsL.get (i := i) (d := d) hs (by simpa using e)
    exact ⟨v, by simpa using h1, h2⟩
theorem IsL.getV : ∀ {vs : List V} {ds : List D} {i : Nat} {v : V}, IsL K H vs ds → vs[i]? = some v → ∃ d, ds[i]? = some d ∧ Is K H v d
  | _, _, _, _, .nil, e => by simp at e
  | _, _, 0, _, .cons h _, e => by simp at e; subst e; exact ⟨_, rfl, h⟩
  | _, _, i + 1, v, .cons _ hs, e => by
    obtain ⟨d, h1, h2⟩ := IsL.getV (i := i) (v := v) hs (by simpa using e)
    exact ⟨d, by simpa using h1, h2⟩
theorem IsL.append : ∀ {vs ws : List V} {ds es : List D}, IsL K H vs ds → IsL K H ws es → IsL K H (vs ++ ws) (ds ++ es)
  | _, _, _, _, .nil, s => s
  | _, _, _, _, .cons h hs, s => .cons h (IsL.append hs s)
theorem IsL.snoc {vs : List V} {ds : List D} {v : V} {d : D} (hs : IsL K H vs ds) (h : Is K H v d) : IsL K H (vs ++ [v]) (ds ++ [d]) := hs.append (.cons h .nil)
theorem IsL.take : ∀ {vs : List V} {ds : List D} (n : Nat), IsL K H vs ds → IsL K H (vs.take n) (ds.take n)
  | _, _, 0, _ => .nil
  | _, _, _ + 1, .nil => .nil
  | _, _, n + 1, .cons h hs => .cons h (IsL.take n hs)
theorem IsL.drop : ∀ {vs : List V} {ds : List D} (n : Nat), IsL K H vs ds → IsL K H (vs.drop n) (ds.drop n)
  | _, _, 0, r => r
  | _, _, _ + 1, .nil => .nil
  | _, _, n + 1, .cons _ hs => IsL.drop n hs
theorem IsL.set {v : V} {d : D} (h : Is K H v d) : ∀ {vs : List V} {ds : List D} (n : Nat), IsL K H vs ds → IsL K H (vs.set n v) (ds.set n d)
  | _, _, _, .nil => .nil
  | _, _, 0, .cons _ hs => .cons h hs
  | _, _, n + 1, .cons q hs => .cons q (IsL.set h n hs)
theorem IsL.rev : ∀ {vs : List V} {ds : List D}, IsL K H vs ds → IsL K H vs.reverse ds.reverse
  | _, _, .nil => .nil
  | _, _, .cons h hs => by
    rw [List.reverse_cons, List.reverse_cons]
    exact (IsL.rev hs).append (.cons h .nil)
theorem IsL.ints : ∀ (ns : List Int), IsL K H (ns.map V.int) (ns.map D.int)
  | [] => .nil
  | n :: ns => .cons (.int n) (IsL.ints ns)
theorem IsL.ofInts : ∀ {vs : List V} {ns : List Int}, IsL K H vs (ns.map D.int) → vs = ns.map V.int
  | _, [], .nil => rfl
  | _, n :: ns, .cons h hs => by
    cases h
    rw [IsL.ofInts hs]
    rfl
theorem IsF.look : ∀ {fs : List (Str × V)} {gs : List (Str × D)} {f : Str} {d : D}, IsF K H fs gs → gs.lookup f = some d → ∃ v, fs.lookup f = some v ∧ Is K H v d
  | _, _, _, _, .nil, e => by cases e
  | _, _, f, d, .cons (f := g) h hs, e => by
    by_cases q : f = g
    · subst q
      simp [List.lookup] at e ⊢
      subst e
      exact h
    · have q' : (f == g) = false := by simpa using q
      simp only [List.lookup, q'] at e ⊢
      exact IsF.look hs e
theorem IsF.none : ∀ {fs : List (Str × V)} {gs : List (Str × D)} {f : Str}, IsF K H fs gs → gs.lookup f = none → fs.lookup f = none
  | _, _, _, .nil, _ => rfl
  | _, _, f, .cons (f := g) h hs, e => by
    by_cases q : f = g
    · subst q
      simp [List.lookup] at e
    · have q' : (f == g) = false := by simpa using q
      simp only [List.lookup, q'] at e ⊢
      exact IsF.none hs e
theorem Is.int_eq {v : V} {i : Int} (h : Is K H v (.int i)) : v = .int i := by cases h; rfl
theorem Is.str_eq {v : V} {i : Str} (h : Is K H v (.str i)) : v = .str i := by cases h; rfl
theorem Is.bl_eq {v : V} {i : Bool} (h : Is K H v (.bl i)) : v = .bl i := by cases h; rfl
theorem Is.non_eq {v : V} (h : Is K H v .non) : v = .non := by cases h; rfl
end
/-! ### names of classes -/
/-- a class: a built-in one, one of the text -/
inductive Tn where
  | b (n : String) | c (x : Str)
def Tn.val (K : PySem.W.Frag) : Tn → Value
  | .b n => .type n
  | .c x => .ref (He.ga K x)
abbrev D.tn : D → Tn
  | .non => .b "NoneType"
  | .bl _ => .b "bool"
  | .int _ => .b "int"
  | .str _ => .b "str"
  | .tup _ => .b "tuple"
  | .lst _ => .b "list"
  | .ins C _ => .c C
  | .dic => .b "dict"
/-! ### facts of the written part, asked by names -/
inductive Fx where
  | glo (x : Str) | free (x : Str) | int (x : Str) (i : Int) | blt (x : Str) (id : String) | cls (x : Str) | noat (x f : Str) | meth (x m : Str) | mkr (x : Str) | tyi (x : Str) | self (x : Str)
  | exm (x y : Str) (b : Bool) | kit (t c : Tn) (b : Bool) | oex (x : Str) | xf (x : Str) | sup (x fld : Str) | xis (x : Str) | keep (x : Str) | mro (x : Str) | find (x f : Str) | conI (x f : Str) (i : Int) | rows (l : List Str) | rowsX (l : List Str) | seer | noi (x : Str) | nee (x : Str)
def oexB (K : PySem.W.Frag) (C : Addr) : Bool := match K.lookup C with
  | some ⟨.type "type", _, .cls cd, sl⟩ => (match cd.mro, sl.toList with
    | .ref C' :: bm, [_, _, _, _, some (.builtin n), _] => decide (C' = C) && (decide (n = "ValueError.__new__") && (!cd.hasDel && (cd.hasDict && HandSPX.refsVE bm)))
    | _, _ => false)
  | _ => false
theorem oexB_ok {K : PySem.W.Frag} {C : Addr} (q : oexB K C = true) : ∃ nm qn N bs bm sn sub ab col dd k0 k1 k2 k3 k5, K.lookup C = some (excClassObj nm qn C N bs bm true sn sub ab col dd k0 k1 k2 k3 k5 "ValueError.__new__") ∧ HandSPX.refsVE bm = true := by
  unfold oexB at q
  split at q
  · rename_i dd cd sl ho
    split at q
    · rename_i C' bm k0 k1 k2 k3 n k5 hm hs
      simp only [Bool.and_eq_true, decide_eq_true_eq, Bool.not_eq_true'] at q
      obtain ⟨rfl, rfl, hdel, hh, ht⟩ := q
      obtain ⟨nm, bs, mro, ns, qn, hd, sn, sub, ab, col, del⟩ := cd
      dsimp only at hm hdel hh
      subst hm hdel hh
      have hsl : sl = #[k0, k1, k2, k3, some (.builtin "ValueError.__new__"), k5] := by
        obtain ⟨l⟩ := sl
        simp only at hs
        rw [hs]
      subst hsl
      exact ⟨nm, qn, ns, bs, bm, sn, sub, ab, col, dd, k0, k1, k2, k3, k5, ho, ht⟩
    · cases q
  · cases q
def eqB (a b : Option Bool) : Bool := decide (a = b)
def eqV (a b : Option Value) : Bool := decide (a = b)
/-- the def of x's __init__: its closure is the class's cell, its code object is of the file -/
def supB (K : PySem.W.Frag) (x : Str) : Bool := match K.lookup (He.ma K (He.ga K x) "__init__") with
  | some ⟨_, _, .func fd, _⟩ => (match fd.closure, fd.defaults, fd.code with
    | [(n, cc)], .none, .ref cda => decide (n = "__class__") && (PySem.W.codeIn K (.ref cda) fd.qualname && ((match K.lookup cc with
        | some ⟨_, _, .cell (some (.ref D)), _⟩ => decide (D = He.ga K x)
        | _ => false) && (match K.lookup cda with
        | some ⟨_, _, .fields vs, _⟩ => (match (vs : Array Value)[2]? with
          | some (Value.str f _) => (("/claim/cut.py" : Str) == f)
          | _ => false)
        | _ => false)))
    | _, _, _ => false)
  | _ => false
abbrev btys : List String := ["int", "bool", "str", "list", "tuple", "dict", "NoneType"]
def xsub (x y : Str) : Bool := decide (x = y) || decide (y = "SeriesError")
def seerB (K : PySem.W.Frag) : Bool := match PySem.W.nsIn K mainGlobals "__builtins__" with
  | some (some (.ref bm)) => (match K.lookup bm with
    | some o => decide (o.cls = .type "module") && decide (o.dict = some builtinsNs)
    | none => false)
  | _ => false
def Fx.ok (K : PySem.W.Frag) : Fx → Bool
  | .nee x => He.eqO (PySem.W.findIn K (.ref (He.ga K x)) "__ne__") (some (some (.builtin "object.__ne__")))
  | .noi x => PySem.W.excIn K (He.ga K x) HandSPX.veTail "ValueError.__new__"
  | .seer => PySem.W.nsOkIn K cStatics && (He.eqO (PySem.W.nsIn K cStatics "sys.audit-hooks") (some none) && (He.eqO (PySem.W.nsIn K cStatics "sys.dict") (some none) && (PySem.W.nsOkIn K sysModules && (He.eqO (PySem.W.nsIn K sysModules "_pylong") (some none) && seerB K))))
  | .rowsX l => l.all fun x => l.all fun y => (He.Fa.exm x y (xsub x y)).ok K
  | .rows l => l.all fun x => (He.Fa.cls x).ok K && ((He.eqO (PySem.W.findIn K (.ref (He.ga K x)) "__class__") (some (some (.builtin "object.__class__"))) && (He.eqO (PySem.W.specialIn K (.builtin "object.__class__") "__get__") (some (some (.builtin "getset_descriptor.__get__"))) &&
      (eqB (PySem.W.takesIn K (.builtin "object.__class__")) (some true) && eqB (PySem.W.mroIn K (He.ga K x) (.type "object")) (some true)))) && (PySem.W.selfFirst K (He.ga K x) && ((btys.all fun n => eqB (PySem.W.kitOne K (.ref (He.ga K x)) (.type n)) (some false) && eqB (PySem.W.kitOne K (.type n) (.ref (He.ga K x))) (some false)) &&
      l.all fun y => eqB (PySem.W.kitOne K (.ref (He.ga K x)) (.ref (He.ga K y))) (some (decide (x = y))) && PySem.W.notFirst K (He.ga K x) (.ref (He.ga K y)))))
  | .glo x => (He.Fa.glo x).ok K
  | .free x => (He.Fa.free x).ok K
  | .int x i => (He.Fa.int x i).ok K
  | .blt x id => He.eqO (PySem.W.nsIn K mainGlobals x) (some (some (.builtin id)))
  | .cls x => (He.Fa.cls x).ok K
  | .noat x f => (He.Fa.noat x f).ok K
  | .meth x m => (He.Fa.meth x m).ok K
  | .mkr x => (He.Fa.mkr x).ok K
  | .tyi x => He.eqO (PySem.W.findIn K (.ref (He.ga K x)) "__class__") (some (some (.builtin "object.__class__"))) && (He.eqO (PySem.W.specialIn K (.builtin "object.__class__") "__get__") (some (some (.builtin "getset_descriptor.__get__"))) &&
      (eqB (PySem.W.takesIn K (.builtin "object.__class__")) (some true) && eqB (PySem.W.mroIn K (He.ga K x) (.type "object")) (some true)))
  | .self x => PySem.W.selfFirst K (He.ga K x)
  | .exm x y b => (He.Fa.exm x y b).ok K
  | .kit t c b => eqB (PySem.W.kitOne K (t.val K) (c.val K)) (some b)
  | .oex x => oexB K (He.ga K x) && (He.eqO (PySem.W.findIn K (.ref (He.ga K x)) "__setattr__") (some (some (.builtin "object.__setattr__"))) && (eqB (PySem.W.subIn K (.ref (He.ga K x)) (.type "BaseException")) (some true) &&
      (eqV (PySem.W.typeIn K (.ref (He.ga K x))) (some (.type "type")) && PySem.W.keepIn K (.ref (He.ga K x)))))
  | .xf x => xfB K (He.ga K x)
  | .sup x fld => He.eqO (PySem.W.findIn K (.ref (He.ga K x)) fld) (some none) && (He.eqO (PySem.W.ks_superIn K (He.ga K x) (He.ga K x) "__init__") (some (some (.builtin "ValueError.__init__"))) &&
      (eqB (PySem.W.subIn K (.ref (He.ga K x)) (.type "ValueError")) (some true) && (eqB (PySem.W.mroIn K (He.ga K x) (.ref (He.ga K x))) (some true) && (He.eqO (PySem.W.nsIn K mainGlobals "super") (some none) &&
      (He.eqO (PySem.W.nsIn K cStatics "thirdparty.any") (some none) && (supB K x && (He.eqO (PySem.W.findIn K (.ref (He.ga K x)) "__init__") (some (some (.ref (He.ma K (He.ga K x) "__init__")))) && eqV (PySem.W.typeIn K (.ref (He.ma K (He.ga K x) "__init__"))) (some (.type "function")))))))))
  | .xis x => He.eqO (PySem.W.findIn K (.ref (He.ga K x)) "__class__") (some (some (.builtin "object.__class__"))) && (He.eqO (PySem.W.specialIn K (.builtin "object.__class__") "__get__") (some (some (.builtin "getset_descriptor.__get__"))) &&
      (eqB (PySem.W.takesIn K (.builtin "object.__class__")) (some true) && eqB (PySem.W.mroIn K (He.ga K x) (.type "object")) (some true)))
  | .keep x => PySem.W.keepIn K (.ref (He.ga K x))
  | .mro x => (match PySem.W.clsIn K (He.ga K x) with
    | some cd => decide (cd.mro = [.ref (He.ga K x), .type "object"])
    | none => false)
  | .find x f => He.eqO (PySem.W.findIn K (.ref (He.ga K x)) f) (some none)
  | .conI x f i => (match PySem.W.findIn K (.ref (He.ga K x)) f with
    | some (some (.int j t)) => decide (j = i) && (He.eqO (PySem.W.specialIn K (.int j t) "__get__") (some none) && !PySem.W.copiedNames.contains f)
    | _ => false)
theorem mro_of {K : PySem.W.Frag} {x : Str} (c : (Fx.mro x).ok K = true) : ∃ cd, PySem.W.clsIn K (He.ga K x) = some cd ∧ cd.mro = [.ref (He.ga K x), .type "object"] := by
  have c2 : (match PySem.W.clsIn K (He.ga K x) with
    | some cd => decide (cd.mro = [.ref (He.ga K x), .type "object"])
    | none => false) = true := c
  cases e : PySem.W.clsIn K (He.ga K x) with
  | none => rw [e] at c2; cases c2
  | some cd => rw [e] at c2; exact ⟨cd, rfl, of_decide_eq_true c2⟩
/-! ### the Hook -/
abbrev FnZ : Type := Option (Str × Str × Arguments × FuncBody × Scope × Addr × Addr)
def fnZ (K : PySem.W.Frag) (x : Str) : FnZ := match K.lookup (He.ma K (He.ga K x) "__init__") with
  | some ⟨_, _, .func fd, _⟩ => some (fd.name, fd.qualname, fd.params, fd.body, fd.scope, fd.globals, fd.builtins)
  | _ => none
/-- an __init__ with super(): the class, its qualified name, its text -/
structure SupD where
  at_ : Str
  qual : Str
  params : Arguments
  body : List Stmt
  scope : Scope
def SupD.val (d : SupD) : FnZ := some ("__init__", d.qual, d.params, .stmts d.body, d.scope, mainGlobals, builtinsNs)
abbrev AlM : Type := Bool × List He.FnW × List FnZ
def obsM (fa : List Fx) (fn : List He.DefD) (fz : List SupD) (K : PySem.W.Frag) : AlM := ((fa.all fun f => f.ok K) && fn.all fun d => d.ok K, fn.map fun d => He.fnW K d.at_, fz.map fun d => fnZ K d.at_)
def valM (fn : List He.DefD) (fz : List SupD) : AlM := (true, fn.map He.DefD.val, fz.map SupD.val)
def SaysM (fa : List Fx) (fn : List He.DefD) (fz : List SupD) (K : PySem.W.Frag) : Prop := obsM fa fn fz K = valM fn fz
def obsMG (n : Nat) (fa : List Fx) (fn : List He.DefD) (fz : List SupD) (g : Addr → Option Obj) : AlM := obsM fa fn fz (He.frG g (He.asD g n ++ [cStatics, sysModules]))
def hookM (n : Nat) (fa : List Fx) (fn : List He.DefD) (fz : List SupD) : PySem.W.Hook where
  α := AlM
  obs := fun s => obsMG n fa fn fz s.heap.get?
  val := fun _ => valM fn fz
  says := fun _ h => ∃ K : PySem.W.Frag, K.In h ∧ SaysM fa fn fz K
  of := fun _ _ e => ⟨_, He.frG_in, e⟩
  keeps := fun _ _ _ ⟨K, hK, c⟩ k => ⟨K, PySem.W.Frag.In.keeps hK k, c⟩
theorem obsMG_eq {n : Nat} {fa : List Fx} {fn : List He.DefD} {fz : List SupD} {g : Addr → Option Obj} {s : Shared} (h : ∀ a, g a = s.heap.get? a) : obsMG n fa fn fz g = (hookM n fa fn fz).obs s := by
  have e : g = s.heap.get? := funext h
  rw [e] <;> rfl
def fdOf (K : PySem.W.Frag) (p : Str × Option Str) : FuncData := match K.lookup (He.fAd K p) with
  | some ⟨_, _, .func fd, _⟩ => fd
  | _ => default
section
variable {fa : List Fx} {fn : List He.DefD} {fz : List SupD} {K : PySem.W.Frag}
theorem SaysM.fact (c : SaysM fa fn fz K) (i : Nat) {f : Fx} (h : fa[i]? = some f := by rfl) : f.ok K = true := by
  have c1 := (He.ba (show ((fa.all fun f => f.ok K) && fn.all fun d => d.ok K) = true from congrArg (fun z : AlM => z.1) c)).1
  exact List.all_eq_true.mp c1 f (List.mem_of_getElem? h)
theorem SaysM.def_ (c : SaysM fa fn fz K) (i : Nat) {d : He.DefD} (h : fn[i]? = some d := by rfl) : ∃ fd, FunD K d.name d.qual d.params d.body d.scope (d.dvs K) (d.kws K) (He.fAd K d.at_) fd := by
  have c2 := (He.ba (show ((fa.all fun f => f.ok K) && fn.all fun d => d.ok K) = true from congrArg (fun z : AlM => z.1) c)).2
  have e : fn.map (fun d => He.fnW K d.at_) = fn.map He.DefD.val := congrArg (fun z : AlM => z.2.1) c
  have e2 : (fn.map fun d => He.fnW K d.at_)[i]? = (fn.map He.DefD.val)[i]? := by rw [e]
  rw [List.getElem?_map, List.getElem?_map, h] at e2
  exact He.DefD.funD (Option.some.inj e2) (List.all_eq_true.mp c2 d (List.mem_of_getElem? h))
theorem SaysM.sup_ (c : SaysM fa fn fz K) (i : Nat) {d : SupD} (h : fz[i]? = some d := by rfl) : fnZ K d.at_ = d.val := by
  have e : fz.map (fun d => fnZ K d.at_) = fz.map SupD.val := congrArg (fun z : AlM => z.2.2) c
  have e2 : (fz.map fun d => fnZ K d.at_)[i]? = (fz.map SupD.val)[i]? := by rw [e]
  rw [List.getElem?_map, List.getElem?_map, h] at e2
  exact Option.some.inj e2
theorem tyi_ok {x : Str} (c : (Fx.tyi x).ok K = true) : PySem.W.findIn K (.ref (He.ga K x)) "__class__" = some (some (.builtin "object.__class__")) ∧ PySem.W.specialIn K (.builtin "object.__class__") "__get__" = some (some (.builtin "getset_descriptor.__get__")) ∧
    PySem.W.takesIn K (.builtin "object.__class__") = some true ∧ PySem.W.mroIn K (He.ga K x) (.type "object") = some true := by
  obtain ⟨c1, c⟩ := He.ba c
  obtain ⟨c2, c⟩ := He.ba c
  obtain ⟨c3, c4⟩ := He.ba c
  exact ⟨He.eqO_ok c1, He.eqO_ok c2, of_decide_eq_true c3, of_decide_eq_true c4⟩
theorem oex_ok {x : Str} (c : (Fx.oex x).ok K = true) : OexC K (He.ga K x) := by
  obtain ⟨c1, c⟩ := He.ba c
  obtain ⟨c2, c⟩ := He.ba c
  obtain ⟨c3, c⟩ := He.ba c
  obtain ⟨c4, c5⟩ := He.ba c
  exact ⟨oexB_ok c1, He.eqO_ok c2, of_decide_eq_true c3, of_decide_eq_true c4, c5⟩
theorem sup_ok {P : Program} {x fld : Str} {d : SupD} (co : (Fx.oex x).ok K = true) (c : (Fx.sup x fld).ok K = true) (e : fnZ K x = d.val) (htop : (P.main.scope.names.lookup ("super" : Str)).isSome = false) (hfile : P.main.file = "/claim/cut.py") (fdb : (fld == ("__debug__" : Str)) = false)
    (hd : ∃ p1 p2 q1 q2 q3 q4 q5 q6 q7 q8 q9 q10, d.params = iA fld p1 p2 ∧ d.body = iB fld q1 q2 q3 q4 q5 q6 q7 q8 q9 q10 ∧
      d.scope.names.lookup ("super" : Str) = some .globalImplicit ∧ d.scope.names.lookup ("__class__" : Str) = some .free ∧ d.scope.names.lookup ("self" : Str) = some .local ∧ d.scope.names.lookup fld = some .local ∧ ((fld == ("self" : Str)) = false) ∧
      d.scope.kind = .function ∧ d.scope.isCoroutine = false ∧ d.scope.isGenerator = false ∧ (∀ x ∈ d.scope.names, x.2 ≠ .cell) ∧
      (∀ (kV doc pm : Value) (an : Option Addr) (cda : Addr) (ct : Value) (cc : Addr) (u1 u2 : Value), bindArgs (PySem.W.ksFn "__init__" d.qual (iA fld p1 p2) (iB fld q1 q2 q3 q4 q5 q6 q7 q8 q9 q10) d.scope .none kV doc pm an (.ref cda) ct cc) ⟨[u1, u2], []⟩ = pure [(("self" : Str), u1), (fld, u2)]) ∧
      ∃ pl : Sem Bool, ∀ env : Env, eval (.Call (.Attribute (.Call (.Name "super" q1) [] [] q2) "__init__" q3) [.Name fld q4] [] q5) env = (do
        let ov ← attributeBase (.Call (.Name "super" q1) [] [] q2) "__init__" env (eval (.Call (.Name "super" q1) [] [] q2) env)
        standAt q3.atName
        let (f, first) ← holding [ov] (getMethod ov "__init__" pl)
        callWith q5 f first (backTo q5 (starEach [.Name fld q4] env)) [])) :
    SupC P K (He.ga K x) (He.ma K (He.ga K x) "__init__") fld ∧ PySem.W.findIn K (.ref (He.ga K x)) "__init__" = some (some (.ref (He.ma K (He.ga K x) "__init__"))) ∧ PySem.W.typeIn K (.ref (He.ma K (He.ga K x) "__init__")) = some (.type "function") := by
  obtain ⟨p1, p2, q1, q2, q3, q4, q5, q6, q7, q8, q9, q10, hpar, hbody, h1, h2, h3, h4, h5, h6, h7, h8, h9, h10, pl, h11⟩ := hd
  obtain ⟨c1, c⟩ := He.ba c
  obtain ⟨c2, c⟩ := He.ba c
  obtain ⟨c3, c⟩ := He.ba c
  obtain ⟨c4, c⟩ := He.ba c
  obtain ⟨c5, c⟩ := He.ba c
  obtain ⟨c6, c⟩ := He.ba c
  obtain ⟨c7, c⟩ := He.ba c
  obtain ⟨c8, c9⟩ := He.ba c
  refine ⟨⟨oex_ok co, He.eqO_ok c1, He.eqO_ok c2, of_decide_eq_true c3, of_decide_eq_true c4, He.eqO_ok c5, htop, He.eqO_ok c6, fdb, ?_⟩, He.eqO_ok c8, of_decide_eq_true c9⟩
  unfold fnZ at e
  unfold supB at c7
  cases lk : K.lookup (He.ma K (He.ga K x) "__init__") with
  | none =>
    rw [lk] at c7
    cases c7
  | some o =>
    obtain ⟨oc, od, dt, osl⟩ := o
    rw [lk] at c7 e
    cases dt with
    | func fd =>
      obtain ⟨n1, n2, n3, n4, n5, n6, n7, n8, n9, n10, n11, n12, n13, n14, n15⟩ := fd
      have e2 : (some (n1, n2, n3, n4, n5, n6, n15) : FnZ) = some (("__init__" : Str), d.qual, d.params, FuncBody.stmts d.body, d.scope, mainGlobals, builtinsNs) := e
      simp only [Option.some.injEq, Prod.mk.injEq] at e2
      obtain ⟨z1, z2, z3, z4, z5, z6, z9⟩ := e2
      subst z1 z2 z3 z4 z5 z6 z9
      rw [hpar, hbody] at lk
      dsimp only at c7
      split at c7
      · rename_i n cc cda
        obtain ⟨d1, d2⟩ := He.ba c7
        obtain ⟨d2, d3⟩ := He.ba d2
        obtain ⟨d3, d4⟩ := He.ba d3
        have en : n = "__class__" := of_decide_eq_true d1
        subst en
        refine ⟨oc, od, d.qual, n9, n10, n11, n12, cda, n14, osl, cc, d.scope, p1, p2, q1, q2, q3, q4, q5, q6, q7, q8, q9, q10, by rw [hpar, hbody], d2, ?_, ?_, h1, h2, h3, h4, h5, h6, h7, h8, h9, h10 _ _ _ _ _ _ _, pl, h11⟩
        · split at d3
          · rename_i oc2 od2 D osl2 lk2
            have eD := of_decide_eq_true d3
            subst eD
            exact ⟨_, _, _, lk2⟩
          · cases d3
        · split at d4
          · rename_i oc2 od2 vs osl2 lk2
            split at d4
            · rename_i f tf hv
              exact ⟨_, _, _, _, f, tf, lk2, hv, by rw [hfile]; exact d4⟩
            · cases d4
          · cases d4
      · cases c7
    | _ => cases c7
end
/-! ### facts as instances -/
class IsCls (K : PySem.W.Frag) (C : Str) : Prop where
  cl : Cls K (He.ga K C)
  ty : (Fx.tyi C).ok K = true
class HasFld (K : PySem.W.Frag) (C f : Str) : Prop where
  no : NoAttr K (He.ga K C) f
class Kit (K : PySem.W.Frag) (t c : Tn) (b : outParam Bool) : Prop where
  h : PySem.W.kitOne K (t.val K) (c.val K) = some b
class Lk (gs : List (Str × D)) (f : Str) (d : outParam D) : Prop where
  h : gs.lookup f = some d
class Lk0 (gs : List (Str × D)) (f : Str) : Prop where
  h : gs.lookup f = none
structure Mg (K : PySem.W.Frag) (mg : Str → Option Value) : Prop where
  at_ : ∀ x o, PySem.W.nsIn K mainGlobals x = some o → mg x = o
theorem mg_mk {K : PySem.W.Frag} {h : Heap} {mg : Str → Option Value} (X : K.In h) (G : h.Ns mainGlobals mg) : Mg K mg := ⟨fun x o e => by
  cases o with
  | none => exact PySem.W.mg_none_of X G e
  | some v => exact PySem.W.mg_of X G e⟩
theorem glo_of {K : PySem.W.Frag} {mg : Str → Option Value} (M : Mg K mg) {x : Str} (c : (Fx.glo x).ok K = true) : mg x = some (.ref (He.ga K x)) := M.at_ x _ (He.eqO_ok c)
theorem free_of {K : PySem.W.Frag} {mg : Str → Option Value} (M : Mg K mg) {x : Str} (c : (Fx.free x).ok K = true) : mg x = none := M.at_ x _ (He.eqO_ok c)
theorem blt_of {K : PySem.W.Frag} {mg : Str → Option Value} (M : Mg K mg) {x : Str} {id : String} (c : (Fx.blt x id).ok K = true) : mg x = some (.builtin id) := M.at_ x _ (He.eqO_ok c)
theorem int_of {K : PySem.W.Frag} {mg : Str → Option Value} (M : Mg K mg) {x : Str} {i : Int} (c : (Fx.int x i).ok K = true) : ∃ t, mg x = some (.int i t) := by
  have c2 : (match PySem.W.nsIn K mainGlobals x with
    | some (some (.int j _)) => decide (j = i)
    | _ => false) = true := c
  split at c2
  · rename_i j t e
    have ej : j = i := of_decide_eq_true c2
    subst ej
    exact ⟨t, M.at_ x _ e⟩
  · cases c2
theorem cls_of {K : PySem.W.Frag} {x : Str} (c : (Fx.cls x).ok K = true) : Cls K (He.ga K x) := He.cls_ok c
theorem meth_of {K : PySem.W.Frag} {x m : Str} (c : (Fx.meth x m).ok K = true) : Meth K (He.ga K x) m (He.ma K (He.ga K x) m) := He.meth_ok c
theorem mkr_of {K : PySem.W.Frag} {x : Str} (c : (Fx.mkr x).ok K = true) : Mk K (He.ga K x) (He.ma K (He.ga K x) "__init__") := He.mkr_ok c
theorem kit_of' {K : PySem.W.Frag} {t c : Tn} {b : Bool} (h : (Fx.kit t c b).ok K = true) : Kit K t c b := ⟨of_decide_eq_true h⟩
/-- a def of the text, its promise by positional values -/
theorem fnr_of {P : Program} {w : World} {K : PySem.W.Frag} {mg : Str → Option Value} {base : Heap} {x qual : Str} {params : Arguments} {body : List Stmt} {scope : Scope} {kws : List (Str × V)} {f : Addr} {N ps : List Str} {k : Nat} {sp : Sp}
    (F : ∃ fd, FunD K x qual params body scope [] kws f fd) (S : FnScope N ps scope)
    (hb : ∀ (kV doc pm : Value) (an : Option Addr) (cdv ct : Value) (us : List Value), us.length = ps.length → bindArgs (PySem.W.fnOf x qual params body scope .none kV doc pm an cdv ct) ⟨us, []⟩ = pure (ps.zip us))
    (len : ∀ vs H Q E, sp vs H Q E → vs.length = ps.length)
    (hbody : ∀ (cdv : Value) (A : Around) (outer : List Env) (s : Shared) (H : Hp) (vs : List V) (Q : VK) (E : XK), Room k (A.deeper (envOfC qual scope s.heap.objs.size f cdv)) → sp vs H Q E →
      ∃ t, PSs (cxOf (L2.CX P w) P w K mg base N qual scope f cdv A outer s H E) body t ∧ t { nx := fun _ H' => Q .non H', rt := Q } (start N vs) H) : FnR P w K mg base (L2.CX P w) (k + 1) f sp := by
  obtain ⟨fd, F⟩ := F
  have G := FnOk.raw (F.ok (CX := L2.CX P w) S len hbody) (F.bindsN hb) .nil
  exact G.imp fun vs H Q E h => by rw [List.append_nil]; exact h
/-- one default at the end, given or not -/
theorem fnr1 {P : Program} {w : World} {K : PySem.W.Frag} {mg : Str → Option Value} {base : Heap} {x qual : Str} {params : Arguments} {body : List Stmt} {scope : Scope} {kws : List (Str × V)} {f : Addr} {fd : FuncData} {ps : List Str} {k : Nat} {sp : Sp} {dv : V}
    (F : FunD K x qual params body scope [dv] kws f fd) (FO : FnOk P w K mg base (L2.CX P w) k f fd ps sp) (hp : 0 < ps.length)
    (hb1 : ∀ (T : Addr) (kV doc pm : Value) (an : Option Addr) (cdv ct : Value) (us its : List Value), us.length = ps.length → its.length = 1 →
      ∃ k, bindArgs (PySem.W.fnOf x qual params body scope (.ref T) kV doc pm an cdv ct) ⟨us, []⟩ = seqItems? (.ref T) >>= k ∧ k (some its.toArray) = pure (ps.zip (us ++ its.drop 1)))
    (hb0 : ∀ (T : Addr) (kV doc pm : Value) (an : Option Addr) (cdv ct : Value) (us its : List Value), us.length = ps.length - 1 → its.length = 1 →
      ∃ k, bindArgs (PySem.W.fnOf x qual params body scope (.ref T) kV doc pm an cdv ct) ⟨us, []⟩ = seqItems? (.ref T) >>= k ∧ k (some its.toArray) = pure (ps.zip (us ++ its.drop 0))) :
    FnR P w K mg base (L2.CX P w) k f sp ∧ FnR P w K mg base (L2.CX P w) k f (fun vs H Q E => sp (vs ++ [dv]) H Q E) := by
  obtain ⟨ds1, r1, b1⟩ := F.binds1 ps.length 1 (by simp) (by simp) hb1
  obtain ⟨ds0, r0, b0⟩ := F.binds1 (ps.length - 1) 0 (by simp) (by simp; omega) hb0
  refine ⟨?_, ?_⟩
  · have G := FnOk.raw FO b1 r1
    exact G.imp fun vs H Q E h => by
      show sp (vs ++ List.drop 1 [dv]) H Q E
      rw [show List.drop 1 [dv] = [] from rfl, List.append_nil]
      exact h
  · exact FnOk.raw FO b0 r0
end Sx

namespace Sx
open PySem PySem.Spec PyProof.Rows L2
/-! ### heaps -/
def At (H : Hp) (a : Addr) (o : HO) : Prop := H a = some o
theorem Same.at {H0 H : Hp} {a : Addr} {o : HO} (e : Same H0 H) (h : At H0 a o) : At H a o := e _ _ h
theorem Same.updR {A G : Hp} {p : Addr} {o : HO} (e : Same A G) (n : G p = none) : Same A (upd G p o) := fun b u h => by
  rw [upd_ne (ne_of_none (e b u h) n)]
  exact e b u h
theorem Same.updU {A : Hp} {p : Addr} {o u : HO} (n : A p = none) {G : Hp} (e : Same A G) : Same (upd A p o) (upd G p o) := fun b v h => by
  by_cases q : b = p
  · subst q
    rw [upd_same] at h ⊢
    exact h
  · rw [upd_ne q] at h ⊢
    exact e b v h
/-- what has grown from G with a changing object beside it -/
theorem unmix {G H' : Hp} {p : Addr} {o : HO} (e : Same (upd G p o) H') (n : G p = none) : ∃ G', H' = upd G' p o ∧ G' p = none ∧ Same G G' := by
  refine ⟨del H' p, ?_, del_same, fun b u h => ?_⟩
  · funext b
    by_cases q : b = p
    · subst q
      rw [upd_same]
      exact e _ _ upd_same
    · rw [upd_ne q, del_ne q]
  · have q : b ≠ p := ne_of_none h n
    rw [del_ne q]
    exact e b u (by rw [upd_ne q]; exact h)
theorem upd_none {G : Hp} {p q : Addr} {o : HO} (h : G q = none) (n : q ≠ p) : upd G p o q = none := by rw [upd_ne n]; exact h
theorem upd_back {G : Hp} {p q : Addr} {o : HO} (h : upd G p o q = none) : q ≠ p ∧ G q = none := by
  have e : q ≠ p := fun z => by
    rw [z, upd_same] at h
    cases h
  exact ⟨e, by rw [upd_ne e] at h; exact h⟩
theorem upd_comm {G : Hp} {p q : Addr} {o u : HO} (n : q ≠ p) : upd (upd G p o) q u = upd (upd G q u) p o := by
  funext b
  unfold upd
  by_cases h1 : b = q
  · rw [if_pos h1]
    by_cases h2 : b = p
    · exact absurd (h1.symm.trans h2) n
    · rw [if_neg h2, if_pos h1]
  · rw [if_neg h1]
    by_cases h2 : b = p
    · rw [if_pos h2, if_pos h2]
    · rw [if_neg h2, if_neg h2, if_neg h1]
/-! ### readings, a step each -/
section
variable {σ : L2.St} {H H1 : Hp} {Q : VK} {D : Ends} {v w x y : V} {i j : Nat} {te ta tb : TE} {t1 t2 : TS} {g : TG} {c u : TT} {K : PySem.W.Frag} {f : Str} {C : Addr} {sp : Sp} {W : WX} {t : TA} {QB : Bool → Hp → Prop} {QL : List V → Hp → Prop}
theorem r_seq (h : t1 { D with nx := t2 D } σ H) : tSeq t1 t2 D σ H := h
theorem r_asg (h : te σ H fun x H1 => g x σ H1 D.nx) : tAsg te g D σ H := h
theorem r_drop (h : te σ H fun _ H1 => D.nx σ H1) : tDrop te D σ H := h
theorem r_ret (h : te σ H D.rt) : tRet te D σ H := h
theorem r_retN (h : D.rt .non H) : tRetN D σ H := h
theorem r_next (h : D.nx σ H) : tNext D σ H := h
theorem r_brk (h : D.bk σ H) : tBreak D σ H := h
theorem r_cont (h : D.ct σ H) : tCont D σ H := h
theorem r_ifS (h : c σ H fun b H1 => if b = true then t1 D σ H1 else t2 D σ H1) : tIfS c t1 t2 D σ H := h
theorem r_par (h : t σ H fun vs H1 => ∃ v w, vs = [v, w] ∧ D.nx ((σ.set i (some v)).set j (some w)) H1) : tPar i j t D σ H := h
theorem r_two {P : V → V → Prop} (h : P v w) : ∃ v' w', [v, w] = [v', w'] ∧ P v' w' := ⟨v, w, rfl, h⟩
theorem r_one {P : V → Prop} (h : P v) : ∃ v', [v] = [v'] ∧ P v' := ⟨v, rfl, h⟩
theorem r_var (e : σ[i]? = some (some v)) (h : Q v H) : tVar i σ H Q := ⟨v, e, h⟩
theorem r_c (h : Q v H) : tC v σ H Q := h
theorem r_op {r : R2} (h : ta σ H fun x H1 => tb σ H1 fun y H2 => r x y H2 Q) : tOp r ta tb σ H Q := h
theorem r_un {r : V → Hp → VK → Prop} (h : ta σ H fun x H1 => r x H1 Q) : tUn r ta σ H Q := h
theorem r_I0 {gf : Int → Int → V} {a b : Int} (h : Q (gf a b) H) : rI0 gf (.int a) (.int b) H Q := ⟨a, b, rfl, rfl, h⟩
theorem r_I {Cc : Int → Int → Prop} {gf : Int → Int → V} {a b : Int} (hc : Cc a b) (h : Q (gf a b) H) : rI Cc gf (.int a) (.int b) H Q := ⟨a, b, rfl, rfl, hc, h⟩
theorem r_U {gf : Int → V} {a : Int} (h : Q (gf a) H) : rU gf (.int a) H Q := ⟨a, rfl, h⟩
theorem r_eq (hs : scal x y = true) (h : Q (.bl (decide (x = y))) H) : rEq x y H Q := ⟨hs, h⟩
theorem r_ne (hs : scal x y = true) (h : Q (.bl (!decide (x = y))) H) : rNe x y H Q := ⟨hs, h⟩
theorem r_test (h : te σ H fun x H' => ∃ k, x = .bl k ∧ QB k H') : tTest te σ H QB := h
theorem r_B (h : te σ H fun x H' => ∃ k, x = .bl k ∧ QB k H') : tB te σ H QB := h
theorem r_bl {b : Bool} {P : Bool → Prop} (h : P b) : ∃ k, V.bl b = .bl k ∧ P k := ⟨b, rfl, h⟩
theorem r_and (h : c σ H fun b H1 => if b = true then u σ H1 QB else QB false H1) : tAnd c u σ H QB := h
theorem r_or (h : c σ H fun b H1 => if b = true then QB true H1 else u σ H1 QB) : tOr c u σ H QB := h
theorem r_not (h : c σ H fun b H1 => QB (!b) H1) : tNot c σ H QB := h
theorem r_andV (h : ta σ H fun x H1 => ∃ c, x = .bl c ∧ if c = true then tb σ H1 Q else Q (.bl false) H1) : tAndV ta tb σ H Q := h
theorem r_orV (h : ta σ H fun x H1 => ∃ c, x = .bl c ∧ if c = true then Q (.bl true) H1 else tb σ H1 Q) : tOrV ta tb σ H Q := h
theorem r_notV (h : ta σ H fun x H1 => ∃ c, x = .bl c ∧ Q (.bl (!c)) H1) : tNotV ta σ H Q := h
theorem r_ifE (h : c σ H fun b H1 => if b = true then ta σ H1 Q else tb σ H1 Q) : tIf c ta tb σ H Q := h
theorem r_chain {r r' : R2} {tc : TE} (h : ta σ H fun x H1 => tb σ H1 fun y H2 => r x y H2 fun z H3 => ∃ k, z = .bl k ∧ (if k = true then tc σ H3 fun w' H4 => r' y w' H4 Q else Q (.bl false) H3)) : tChain r r' ta tb tc σ H Q := h
theorem r_nil (h : QL [] H) : tNil σ H QL := h
theorem r_cons {tr : TA} (h : ta σ H fun x H1 => tr σ H1 fun xs H2 => QL (x :: xs) H2) : tCons ta tr σ H QL := h
def kTup (Q : VK) : List V → Hp → Prop := fun xs H1 => xs.length ≤ sizeLine ∧ ∀ p, H1 p = none → Q (.ref p) (upd H1 p (.tup xs))
theorem r_tup (h : t σ H (kTup Q)) : tTup t σ H Q := h
def kLst (Q : VK) : List V → Hp → Prop := fun xs H1 => xs.length ≤ sizeLine ∧ ∀ p, H1 p = none → Q (.ref p) (upd H1 p (.lst xs))
theorem r_lst (h : t σ H (kLst Q)) : tLst t σ H Q := h
def kFld (K : PySem.W.Frag) (f : Str) (Q : VK) : VK := fun x H1 => ∃ a C dx fs v, x = .ref a ∧ H1 a = some (.ins C dx fs) ∧ Cls K C ∧ NoAttr K C f ∧ fs.lookup f = some v ∧ Q v H1
theorem r_fld (h : ta σ H (kFld K f Q)) : tFld K ta f σ H Q := h
theorem r_callW (h : t σ H fun vs H1 => sp vs H1 Q (WE W σ)) : tCallW sp W t σ H Q := h
def kMeth (C : Addr) (m : Str) (R : V → Hp → Prop) : VK := fun x H1 => ∃ a dx fs, x = .ref a ∧ H1 a = some (.ins C dx fs) ∧ fs.lookup m = none ∧ R x H1
theorem r_methW {m : Str} (h : ta σ H (kMeth C m fun x H1 => t σ H1 fun vs H2 => sp (x :: vs) H2 Q (WE W σ))) : tMethW C m sp W ta t σ H Q := h
def kMake (C : Addr) (sp : Sp) (Q : VK) (E : XK) : List V → Hp → Prop := fun vs H1 => ∀ x dx, H1 x = none → H1 dx = none → dx ≠ x → sp (.ref x :: vs) (upd (upd H1 dx (.own x)) x (.ins C dx [])) (fun v H2 => v = .non ∧ Q (.ref x) H2) E
theorem r_makeW (h : t σ H (kMake C sp Q (WE W σ))) : tMakeW C sp W t σ H Q := h
theorem r_CB {r : List V → Hp → VK → Prop} (h : t σ H fun vs H1 => r vs H1 Q) : tCB r t σ H Q := h
theorem r_sub {to ti : TE} {ts : TSet} {QS : L2.St → Hp → Prop} (h : to σ H fun o H1 => ti σ H1 fun i H2 => ts o i v H2 fun H3 => QS σ H3) : gSub to ti ts v σ H QS := h
def kFldS (K : PySem.W.Frag) (f : Str) (y : V) (R : Hp → Prop) : VK := fun x H2 => ∃ a C dx fs, x = .ref a ∧ H2 a = some (.ins C dx fs) ∧ Cls K C ∧ NoAttr K C f ∧ fs.length < 1000 ∧ R (upd H2 a (.ins C dx (putF f y fs)))
theorem r_fldS {tv : TE} (h : tv σ H fun y H1 => ta σ H1 (kFldS K f y (D.nx σ))) : sFld K ta tv f D σ H := h
theorem r_bm {T : String} {r : V → List V → Hp → VK → Prop} {to : TE} (h : to σ H fun x H1 => tyV K T x H1 ∧ t σ H1 fun xs H2 => r x xs H2 Q) : tBM K T r to t σ H Q := h
theorem r_bm0 {T : String} {r : V → List V → Hp → VK → Prop} {to : TE} (h : to σ H fun x H1 => tyV K T x H1 ∧ r x [] H1 Q) : tBM0 K T r to σ H Q := h
theorem r_sl {r : V → Option Int → Option Int → Hp → VK → Prop} {tl th : TO} (h : te σ H fun x H1 => tl σ H1 fun l H2 => th σ H2 fun u H3 => r x l u H3 Q) : tSl r te tl th σ H Q := h
theorem r_part {QO : Option Int → Hp → Prop} (h : te σ H fun x H1 => ∃ i, x = .int i ∧ QO (some i) H1) : tPart te σ H QO := h
theorem r_noPart {QO : Option Int → Hp → Prop} (h : QO none H) : tNoPart σ H QO := h
theorem r_exI {a : Int} {P : Int → Prop} (h : P a) : ∃ i, V.int a = .int i ∧ P i := ⟨a, rfl, h⟩
theorem r_cutS {tu tw : TS} (Mid : L2.St → Hp → Prop) (h : tu { D with nx := Mid } σ H) (k : ∀ σ' H', Mid σ' H' → tw D σ' H') : Evl.tCut tu tw D σ H := ⟨Mid, h, k⟩
theorem r_mkE {C : Addr} {fld : Str} {QX : XK} (h : t σ H fun vs H1 => ∃ v, vs = [v] ∧ ∀ d, H1 d = none → QX (.ref C) (some d) (upd H1 d (.xd [(fld, v)]))) : tMkE C fld t σ H QX := h
/-- the ifs -/
theorem i_T {A B : Prop} (h : A) : if true = true then A else B := iteT h
theorem i_F {A B : Prop} (h : B) : if false = true then A else B := iteF h
theorem i_nT {A B : Prop} (h : B) : if (!true) = true then A else B := iteF h
theorem i_nF {A B : Prop} (h : A) : if (!false) = true then A else B := iteT h
theorem i_d {p A B : Prop} [Decidable p] (h1 : p → A) (h2 : ¬ p → B) : if decide p = true then A else B := by
  by_cases h : p
  · rw [decide_eq_true h]; exact iteT (h1 h)
  · rw [decide_eq_false h]; exact iteF (h2 h)
theorem i_dn {p A B : Prop} [Decidable p] (h1 : ¬ p → A) (h2 : p → B) : if (!decide p) = true then A else B := by
  by_cases h : p
  · rw [decide_eq_true h]; exact iteF (h2 h)
  · rw [decide_eq_false h]; exact iteT (h1 h)
theorem i_I {a b : Int} {A B : Prop} (h1 : a = b → A) (h2 : a ≠ b → B) : if decide (V.int a = V.int b) = true then A else B :=
  i_d (fun h => h1 (V.int.inj h)) fun h => h2 fun e => h (by rw [e])
theorem i_In {a b : Int} {A B : Prop} (h1 : a ≠ b → A) (h2 : a = b → B) : if (!decide (V.int a = V.int b)) = true then A else B :=
  i_dn (fun h => h1 fun e => h (by rw [e])) fun h => h2 (V.int.inj h)
theorem i_S {a b : Str} {A B : Prop} (h1 : a = b → A) (h2 : a ≠ b → B) : if decide (V.str a = V.str b) = true then A else B :=
  i_d (fun h => h1 (V.str.inj h)) fun h => h2 fun e => h (by rw [e])
theorem i_Sn {a b : Str} {A B : Prop} (h1 : a ≠ b → A) (h2 : a = b → B) : if (!decide (V.str a = V.str b)) = true then A else B :=
  i_dn (fun h => h1 fun e => h (by rw [e])) fun h => h2 (V.str.inj h)
theorem i_b {b : Bool} {A B : Prop} (h1 : b = true → A) (h2 : b = false → B) : if b = true then A else B := by
  cases b with
  | true => exact iteT (h1 rfl)
  | false => exact iteF (h2 rfl)
/-- names -/
theorem n_0 {a : Option V} {r : L2.St} {QS : L2.St → Hp → Prop} (h : QS (some v :: r) H) : gName 0 v (a :: r) H QS := h
theorem n_1 {a b : Option V} {r : L2.St} {QS : L2.St → Hp → Prop} (h : QS (a :: some v :: r) H) : gName 1 v (a :: b :: r) H QS := h
theorem n_2 {a b c : Option V} {r : L2.St} {QS : L2.St → Hp → Prop} (h : QS (a :: b :: some v :: r) H) : gName 2 v (a :: b :: c :: r) H QS := h
theorem n_3 {a b c d : Option V} {r : L2.St} {QS : L2.St → Hp → Prop} (h : QS (a :: b :: c :: some v :: r) H) : gName 3 v (a :: b :: c :: d :: r) H QS := h
theorem n_4 {a b c d e : Option V} {r : L2.St} {QS : L2.St → Hp → Prop} (h : QS (a :: b :: c :: d :: some v :: r) H) : gName 4 v (a :: b :: c :: d :: e :: r) H QS := h
theorem n_5 {a b c d e f : Option V} {r : L2.St} {QS : L2.St → Hp → Prop} (h : QS (a :: b :: c :: d :: e :: some v :: r) H) : gName 5 v (a :: b :: c :: d :: e :: f :: r) H QS := h
theorem n_6 {a b c d e f g : Option V} {r : L2.St} {QS : L2.St → Hp → Prop} (h : QS (a :: b :: c :: d :: e :: f :: some v :: r) H) : gName 6 v (a :: b :: c :: d :: e :: f :: g :: r) H QS := h
theorem n_7 {a b c d e f g a' : Option V} {r : L2.St} {QS : L2.St → Hp → Prop} (h : QS (a :: b :: c :: d :: e :: f :: g :: some v :: r) H) : gName 7 v (a :: b :: c :: d :: e :: f :: g :: a' :: r) H QS := h
theorem n_8 {a b c d e f g a' b' : Option V} {r : L2.St} {QS : L2.St → Hp → Prop} (h : QS (a :: b :: c :: d :: e :: f :: g :: a' :: some v :: r) H) : gName 8 v (a :: b :: c :: d :: e :: f :: g :: a' :: b' :: r) H QS := h
theorem n_9 {a b c d e f g a' b' c' : Option V} {r : L2.St} {QS : L2.St → Hp → Prop} (h : QS (a :: b :: c :: d :: e :: f :: g :: a' :: b' :: some v :: r) H) : gName 9 v (a :: b :: c :: d :: e :: f :: g :: a' :: b' :: c' :: r) H QS := h
theorem n_10 {a b c d e f g a' b' c' d' : Option V} {r : L2.St} {QS : L2.St → Hp → Prop} (h : QS (a :: b :: c :: d :: e :: f :: g :: a' :: b' :: c' :: some v :: r) H) : gName 10 v (a :: b :: c :: d :: e :: f :: g :: a' :: b' :: c' :: d' :: r) H QS := h
theorem n_11 {a b c d e f g a' b' c' d' e' : Option V} {r : L2.St} {QS : L2.St → Hp → Prop} (h : QS (a :: b :: c :: d :: e :: f :: g :: a' :: b' :: c' :: d' :: some v :: r) H) : gName 11 v (a :: b :: c :: d :: e :: f :: g :: a' :: b' :: c' :: d' :: e' :: r) H QS := h
theorem n_12 {a b c d e f g a' b' c' d' e' f' : Option V} {r : L2.St} {QS : L2.St → Hp → Prop} (h : QS (a :: b :: c :: d :: e :: f :: g :: a' :: b' :: c' :: d' :: e' :: some v :: r) H) : gName 12 v (a :: b :: c :: d :: e :: f :: g :: a' :: b' :: c' :: d' :: e' :: f' :: r) H QS := h
/-- new objects -/
theorem k_tup {xs : List V} (hz : xs.length ≤ 1000) (k : ∀ p H2, H p = none → Same H H2 → At H2 p (.tup xs) → Q (.ref p) H2) : kTup Q xs H :=
  ⟨Nat.le_trans hz (by decide), fun p n => k p _ n (Same.updR (Same.refl _) n) upd_same⟩
theorem k_tupD {xs : List V} {ds : List Sx.D} (hs : IsL K H xs ds) (hz : xs.length ≤ 1000) (k : ∀ v H2, Same H H2 → Is K H2 v (.tup ds) → Q v H2) : kTup Q xs H :=
  k_tup hz fun p H2 n e h => k _ _ e (.tup (SqT.of h) (IsL.mono e hs))
theorem k_lstD {xs : List V} {ds : List Sx.D} (hs : IsL K H xs ds) (hz : xs.length ≤ 1000) (k : ∀ v H2, Same H H2 → Is K H2 v (.lst ds) → Q v H2) : kLst Q xs H :=
  ⟨Nat.le_trans hz (by decide), fun p n => k _ _ (Same.updR (Same.refl _) n) (.lst (SqL.of upd_same) (IsL.mono (Same.updR (Same.refl _) n) hs))⟩
theorem k_lst {xs : List V} (hz : xs.length ≤ 1000) (k : ∀ p, H p = none → Q (.ref p) (upd H p (.lst xs))) : kLst Q xs H :=
  ⟨Nat.le_trans hz (by decide), k⟩
end
/-! ### isinstance -/
class DOk (K : PySem.W.Frag) (d : D) : Prop where
  ok : ∀ C gs, d = .ins C gs → IsCls K C
instance {K : PySem.W.Frag} : DOk K .non := ⟨fun _ _ e => nomatch e⟩
instance {K : PySem.W.Frag} {b : Bool} : DOk K (.bl b) := ⟨fun _ _ e => nomatch e⟩
instance {K : PySem.W.Frag} {i : Int} : DOk K (.int i) := ⟨fun _ _ e => nomatch e⟩
instance {K : PySem.W.Frag} {i : Str} : DOk K (.str i) := ⟨fun _ _ e => nomatch e⟩
instance {K : PySem.W.Frag} {ds : List D} : DOk K (.tup ds) := ⟨fun _ _ e => nomatch e⟩
instance {K : PySem.W.Frag} {ds : List D} : DOk K (.lst ds) := ⟨fun _ _ e => nomatch e⟩
instance {K : PySem.W.Frag} : DOk K .dic := ⟨fun _ _ e => nomatch e⟩
instance {K : PySem.W.Frag} {C : Str} {gs : List (Str × D)} [h : IsCls K C] : DOk K (.ins C gs) := ⟨fun _ _ e => by cases e; exact h⟩
section
variable {K : PySem.W.Frag} {H : Hp} {v : V} {d : D} {Q : VK}
theorem Is.tyx (h : Is K H v d) (ok : DOk K d) : TyX K H v (d.tn.val K) := by
  cases h with
  | non => exact .base .non
  | bl b => exact .base (.bl b)
  | int i => exact .base (.int i)
  | str x => exact .base (.str x)
  | tup h hs =>
    rcases h with (h | ⟨o, h⟩) | ⟨o, its, n, h1, h2, _⟩
    · exact .base (.tup h)
    · exact .fTuple h
    · exact .kTuple h1 h2
  | lst h hs =>
    rcases h with (h | ⟨o, h⟩) | ⟨o, its, n, h1, h2, _⟩
    · exact .base (.lst h)
    · exact .base (.frz h)
    · exact .kList h1 h2
  | ins h hs =>
    have c := ok.ok _ _ rfl
    obtain ⟨h1, h2, h3, h4⟩ := tyi_ok c.ty
    exact .base (.ins h c.cl h1 h2 h3 h4)
  | dic h => exact .base (.dK h)
theorem r_isiB {n : String} {b : Bool} (hx : Is K H v d) [ok : DOk K d] [k : Kit K d.tn (.b n) b] (h : Q (.bl b) H) : rIsi K [v, .ty n] H Q :=
  ⟨v, .ty n, _, _, b, rfl, .ty n, hx.tyx ok, k.h, h⟩
theorem r_isiC {C : Str} {b : Bool} (hx : Is K H v d) [ok : DOk K d] [k : Kit K d.tn (.c C) b] (h : Q (.bl b) H) : rIsi K [v, .ref (He.ga K C)] H Q :=
  ⟨v, .ref (He.ga K C), _, _, b, rfl, .own _, hx.tyx ok, k.h, h⟩
end
theorem cxK {CX : CXT} {P : Program} {w : World} {K : PySem.W.Frag} {mg : Str → Option Value} {base : Heap} {N : List Str} {qual : Str} {scope : Scope} {f : Addr} {cd : Value} {A : Around} {outer : List Env} {s : Shared} {H : Hp} {E : XK} :
    (cxOf CX P w K mg base N qual scope f cd A outer s H E).K = K := rfl
end Sx

namespace Sx
open PySem PySem.Spec PyProof.Rows L2
/-- // by a divisor not 0, below 2 ^ 9000 in size -/
def CDivX (_ j : Int) : Prop := j ≠ 0 ∧ j.natAbs.log2 < 9000
theorem op_fdivX {X : Cx} : OpR X (binaryOp .FloorDiv) (rI CDivX fun i j => .int (i.fdiv j)) := opI fun _ _ _ _ _ _ _ hc q => floordiv_int hc.1 q (.inl (PyProof.noPylong_of_log2 hc.2))
/-- numbers below 2 ^ n in size -/
def Bd (n : Nat) (i : Int) : Prop := i.natAbs < 2 ^ n
theorem Bd.log {n : Nat} {i : Int} (h : Bd n i) (hn : 0 < n) : i.natAbs.log2 < n := PySem.Flt.log2_lt_of hn h
theorem Bd.up {n m : Nat} {i : Int} (h : Bd n i) (e : n ≤ m) : Bd m i := Nat.lt_of_lt_of_le h (Nat.pow_le_pow_right (by decide) e)
theorem Bd.mul {n m : Nat} {i j : Int} (h : Bd n i) (k : Bd m j) : Bd (n + m) (i * j) := wide_lt h k
theorem Bd.neg {n : Nat} {i : Int} (h : Bd n i) : Bd n (-i) := by unfold Bd at *; rw [Int.natAbs_neg]; exact h
theorem Bd.add {n : Nat} {i j : Int} (h : Bd n i) (k : Bd n j) : Bd (n + 1) (i + j) := by
  unfold Bd at *
  have := Int.natAbs_add_le i j
  rw [Nat.pow_succ]
  omega
theorem Bd.sub {n : Nat} {i j : Int} (h : Bd n i) (k : Bd n j) : Bd (n + 1) (i - j) := by rw [Int.sub_eq_add_neg]; exact h.add k.neg
theorem Bd.zero {n : Nat} : Bd n 0 := Nat.two_pow_pos n
theorem Bd.of_le {n : Nat} {i j : Int} (k : Bd n j) (h : i.natAbs ≤ j.natAbs) : Bd n i := Nat.lt_of_le_of_lt h k
theorem Bd.mulOk {n m : Nat} {i j : Int} (h : Bd n i) (k : Bd m j) (hn : 0 < n) (hm : 0 < m) (e : n + m ≤ 1000000) : CMulW i j := wide_mul h k hn hm e
theorem Bd.divOk {n : Nat} {i j : Int} (k : Bd n j) (hn : 0 < n) (h0 : j ≠ 0) (e : n ≤ 9000) : CDivX i j := ⟨h0, Nat.lt_of_lt_of_le (k.log hn) e⟩
/-- what is told of data: the class is one of the text's, whether it is an int -/
def isNum : D → Bool
  | .int _ | .bl _ => true
  | _ => false
def isIntD : D → Bool
  | .int _ => true
  | _ => false
class Dn (K : PySem.W.Frag) (d : D) : Prop where
  ok : DOk K d
  ki : Kit K d.tn (.b "int") (isNum d)
instance {K : PySem.W.Frag} : Dn K .non := ⟨inferInstance, ⟨kit_ty (r := false) (by decide +kernel)⟩⟩
instance {K : PySem.W.Frag} {b : Bool} : Dn K (.bl b) := ⟨inferInstance, ⟨kit_ty (r := true) (by decide +kernel)⟩⟩
instance {K : PySem.W.Frag} {i : Int} : Dn K (.int i) := ⟨inferInstance, ⟨kit_ty (r := true) (by decide +kernel)⟩⟩
instance {K : PySem.W.Frag} {i : Str} : Dn K (.str i) := ⟨inferInstance, ⟨kit_ty (r := false) (by decide +kernel)⟩⟩
instance {K : PySem.W.Frag} {ds : List D} : Dn K (.tup ds) := ⟨inferInstance, ⟨kit_ty (r := false) (by decide +kernel)⟩⟩
instance {K : PySem.W.Frag} {ds : List D} : Dn K (.lst ds) := ⟨inferInstance, ⟨kit_ty (r := false) (by decide +kernel)⟩⟩
instance {K : PySem.W.Frag} : Dn K .dic := ⟨inferInstance, ⟨kit_ty (r := false) (by decide +kernel)⟩⟩
instance {K : PySem.W.Frag} {C : Str} {gs : List (Str × D)} [h : IsCls K C] [k : Kit K (.c C) (.b "int") false] : Dn K (.ins C gs) := ⟨inferInstance, k⟩
theorem cmul_r {i j : Int} (h1 : -(2 ^ 64) < j) (h2 : j < 2 ^ 64) : CMul i j := .inr ⟨h1, h2⟩
theorem cmul_l {i j : Int} (h1 : -(2 ^ 64) < i) (h2 : i < 2 ^ 64) : CMul i j := .inl ⟨h1, h2⟩
theorem cdiv_p {i j : Int} (h1 : 0 < j) (h2 : j < 1073741824) : CDiv i j := ⟨h1, h2⟩
theorem cpow_c {i j : Int} (h1 : 0 ≤ j) (h2 : j ≤ 1000000) (h3 : i.natAbs < 2 ^ 64) : CPow i j := ⟨h1, h2, h3⟩
def rInt : List V → Hp → VK → Prop := fun xs H Q => (∃ i, xs = [.int i] ∧ Q (.int i) H) ∨ ∃ k, xs = [.bl k] ∧ Q (.int (if k then 1 else 0)) H
theorem call_intN {X : Cx} : CallR X (.type "int") rInt := call_int1
theorem r_int {H : Hp} {Q : VK} {a : Int} (h : Q (.int a) H) : rInt [.int a] H Q := .inl ⟨a, rfl, h⟩
def rAbs : List V → Hp → VK → Prop := fun xs H Q => ∃ i, xs = [.int i] ∧ Q (.int (if i < 0 then -i else i)) H
theorem call_absN {X : Cx} : CallR X (.builtin "abs") rAbs := call_abs
theorem r_abs {H : Hp} {Q : VK} {a : Int} (h : Q (.int (a.natAbs : Int)) H) : rAbs [.int a] H Q := ⟨a, rfl, by
  have e : (if a < 0 then -a else a) = (a.natAbs : Int) := by split <;> omega
  rw [e]
  exact h⟩
def rLen (K : PySem.W.Frag) : List V → Hp → VK → Prop := fun xs H Q => ∃ x n, xs = [x] ∧ LenV K x H n ∧ Q (.int (n : Nat)) H
theorem call_lenN {X : Cx} : CallR X (.builtin "len") (rLen X.K) := call_len
theorem r_lenL {K : PySem.W.Frag} {H : Hp} {Q : VK} {p : Addr} {xs : List V} (hp : SqL K H p xs) (h : Q (.int (xs.length : Nat)) H) : rLen K [.ref p] H Q := ⟨.ref p, xs.length, rfl, .inl ⟨xs, hp, rfl⟩, h⟩
theorem r_lenT {K : PySem.W.Frag} {H : Hp} {Q : VK} {p : Addr} {xs : List V} (hp : SqT K H p xs) (h : Q (.int (xs.length : Nat)) H) : rLen K [.ref p] H Q := ⟨.ref p, xs.length, rfl, .inr ⟨xs, hp, rfl⟩, h⟩
theorem r_lenS {K : PySem.W.Frag} {H : Hp} {Q : VK} {x : Str} (hz : x.length ≤ sizeLine) (h : Q (.int (x.length : Nat)) H) : rLen K [.str x] H Q := ⟨.str x, x.length, rfl, ⟨hz, rfl⟩, h⟩
def rMin : List V → Hp → VK → Prop := fun xs H Q => ∃ i j, xs = [.int i, .int j] ∧ Q (.int (if j < i then j else i)) H
def rMax : List V → Hp → VK → Prop := fun xs H Q => ∃ i j, xs = [.int i, .int j] ∧ Q (.int (if j > i then j else i)) H
theorem call_minN {X : Cx} (hc : X.calm = true) : CallR X (.builtin "min") rMin := call_min2 hc
theorem call_maxN {X : Cx} (hc : X.calm = true) : CallR X (.builtin "max") rMax := call_max2 hc
theorem r_min {H : Hp} {Q : VK} {a b : Int} (h : Q (.int (min a b)) H) : rMin [.int a, .int b] H Q := ⟨a, b, rfl, by
  have e : (if b < a then b else a) = min a b := by omega
  rw [e]; exact h⟩
theorem r_max {H : Hp} {Q : VK} {a b : Int} (h : Q (.int (max a b)) H) : rMax [.int a, .int b] H Q := ⟨a, b, rfl, by
  have e : (if b > a then b else a) = max a b := by omega
  rw [e]; exact h⟩
theorem r_gcd {H : Hp} {Q : VK} {a b : Int} (h : Q (.int (Int.gcd a b : Nat)) H) : rGcd [.int a, .int b] H Q := ⟨a, b, rfl, h⟩
theorem isInt_ex {d : D} (h : isIntD d = true) : ∃ i, d = .int i := by cases d <;> first | exact ⟨_, rfl⟩ | cases h
/-- C(v) raised -/
def Rz (K : PySem.W.Frag) (E : XK) (C fld : Str) (v : V) (H : Hp) : Prop := ∀ d H2, Same H H2 → At H2 d (.xd [(fld, v)]) → E (.ref (He.ga K C)) (some d) H2
theorem Rz.mono {K : PySem.W.Frag} {E : XK} {C fld : Str} {v : V} {H H' : Hp} (h : Rz K E C fld v H) (e : Same H H') : Rz K E C fld v H' := fun d H2 s a => h d H2 (e.trans s) a
theorem Rz.e {K : PySem.W.Frag} {E : XK} {C fld : Str} {v : V} {H : Hp} (h : Rz K E C fld v H) : ∀ d, H d = none → E (.ref (He.ga K C)) (some d) (upd H d (.xd [(fld, v)])) :=
  fun d n => h d _ (Same.updR (Same.refl _) n) upd_same
theorem upd_upd {H : Hp} {a : Addr} {o u : HO} : upd (upd H a o) a u = upd H a u := by
  funext b
  by_cases h : b = a
  · rw [h, upd_same, upd_same]
  · rw [upd_ne h, upd_ne h, upd_ne h]
/-! ### fields of data -/
section
variable {K : PySem.W.Frag} {H : Hp} {Q : VK} {v : V} {C f : Str} {gs : List (Str × D)} {d : D}
theorem k_fldD (hv : Is K H v (.ins C gs)) (e : gs.lookup f = some d) [c : IsCls K C] [n : HasFld K C f] (h : ∀ u, Is K H u d → Q u H) : kFld K f Q v H := by
  cases hv with
  | ins ha hs =>
    obtain ⟨w, e1, e2⟩ := hs.look e
    exact ⟨_, _, _, _, w, rfl, ha, c.cl, n.no, e1, h w e2⟩
theorem k_fldI {i : Int} (hv : Is K H v (.ins C gs)) (e : gs.lookup f = some (.int i)) [c : IsCls K C] [n : HasFld K C f] (h : Q (.int i) H) : kFld K f Q v H := k_fldD hv e fun u hu => by
  rw [hu.int_eq]
  exact h
theorem k_setF {a dx : Addr} {fs : List (Str × V)} {y : V} {R : Hp → Prop} (ha : H a = some (.ins (He.ga K C) dx fs)) (hl : fs.length < 1000) [c : IsCls K C] [n : HasFld K C f] (h : R (upd H a (.ins (He.ga K C) dx (putF f y fs)))) : kFldS K f y R (.ref a) H :=
  ⟨a, _, dx, fs, rfl, ha, c.cl, n.no, hl, h⟩
theorem k_meth {m : Str} {R : V → Hp → Prop} (hv : Is K H v (.ins C gs)) (e : gs.lookup m = none) (h : R v H) : kMeth (He.ga K C) m R v H := by
  cases hv with
  | ins ha hs => exact ⟨_, _, _, rfl, ha, hs.none e, h⟩
end
end Sx

namespace Sx
theorem rat_num {p q : Int} (hq : q ≠ 0) : p.fdiv (if q < 0 then -(Int.gcd p q : Int) else (Int.gcd p q : Int)) = (Rat.divInt p q).num := by
  have d1 : (Int.gcd p q : Int) ∣ p := Int.gcd_dvd_left p q
  rw [Rat.num_divInt, Int.gcd_comm q p]
  by_cases h : q < 0
  · rw [if_pos h, Int.fdiv_eq_ediv_of_dvd ((Int.neg_dvd).mpr d1), Int.sign_eq_neg_one_of_neg h, Int.ediv_neg, Int.neg_one_mul, Int.neg_ediv_of_dvd d1]
  · rw [if_neg h, Int.fdiv_eq_ediv_of_dvd d1, Int.sign_eq_one_of_pos (by omega), Int.one_mul]
theorem rat_den {p q : Int} (hq : q ≠ 0) : q.fdiv (if q < 0 then -(Int.gcd p q : Int) else (Int.gcd p q : Int)) = ((Rat.divInt p q).den : Int) := by
  have d1 : (Int.gcd p q : Int) ∣ q := Int.gcd_dvd_right p q
  rw [Rat.den_divInt, Int.gcd_comm q p, if_neg hq]
  by_cases h : q < 0
  · have e : (q.natAbs : Int) = -q := by omega
    rw [if_pos h, Int.fdiv_eq_ediv_of_dvd ((Int.neg_dvd).mpr d1), Int.ediv_neg, Int.natCast_ediv, e, Int.neg_ediv_of_dvd d1]
  · have e : (q.natAbs : Int) = q := by omega
    rw [if_neg h, Int.fdiv_eq_ediv_of_dvd d1, Int.natCast_ediv, e]
theorem gcd_bd {n : Nat} {p q : Int} (h : Bd n q) (hq : q ≠ 0) : Bd n (Int.gcd p q : Int) := by
  refine h.of_le ?_
  have := Nat.le_of_dvd (by omega) (Int.gcd_dvd_natAbs_right p q)
  simpa using this
theorem gcd_ne {p q : Int} (hq : q ≠ 0) : (Int.gcd p q : Int) ≠ 0 := by
  have := Int.gcd_pos_of_ne_zero_right p hq
  omega
end Sx

namespace Sx
open PySem PySem.Spec PyProof.Rows L2
/-! ### a frame: what a call does not see stays as it is -/
def join (G F : Hp) : Hp := fun a => match F a with
  | some o => some o
  | none => G a
theorem join_f {G F : Hp} {a : Addr} {o : HO} (h : F a = some o) : join G F a = some o := by unfold join; rw [h]
theorem join_g {G F : Hp} {a : Addr} (h : F a = none) : join G F a = G a := by unfold join; rw [h]
def FO (F : Hp) (a : Addr) : HO → Prop
  | .lst _ => True
  | .dK _ => True
  | .xd _ => True
  | .ins _ dx _ => F dx = some (.own a)
  | .own x => ∃ u, F x = some u
  | _ => False
def FrOk (G F : Hp) : Prop := ∀ a o, F a = some o → G a = none ∧ FO F a o
def Fr (sp : Sp) : Sp := fun vs H Q E => ∃ G F, H = join G F ∧ FrOk G F ∧ sp vs G (fun v G2 => FrOk G2 F → Q v (join G2 F)) (fun c d G2 => FrOk G2 F → E c d (join G2 F))
section
variable {P : Program} {w : World} {G G2 F : Hp} {h h' : Heap}
theorem FrOk.none_of {G F : Hp} (k : FrOk G F) {a : Addr} {o : HO} (e : G a = some o) : F a = none := by
  cases q : F a with
  | none => rfl
  | some u => rw [(k a u q).1] at e; cases e
theorem frame_hok (k : FrOk G F) (x : HOk P w (join G F) h) : HOk P w G h := fun a o e => by
  have hf := k.none_of e
  have z := x a o (by rw [join_g hf]; exact e)
  refine z.stay (fun _ _ _ q => q) (fun b q => ?_) (fun b xs q => ?_)
  · cases qf : F b with
    | none => rw [join_g qf] at q; exact q
    | some u =>
      rw [join_f qf] at q
      cases q
      obtain ⟨u, hu⟩ := (k b _ qf).2
      rw [hf] at hu
      cases hu
  · cases qf : F b with
    | none => rw [join_g qf] at q; exact q
    | some u =>
      rw [join_f qf] at q
      cases q
      exact (k b _ qf).2.elim
theorem frame_back (k : FrOk G F) (n : ∀ a o, F a = some o → G2 a = none) (x : HOk P w (join G F) h) (y : HOk P w G2 h') (keep : ∀ a o, F a = some o → ∀ u, h.get? a = some u → h'.get? a = some u) : HOk P w (join G2 F) h' := fun a o e => by
  cases qf : F a with
  | none =>
    rw [join_g qf] at e
    refine (y a o e).stay (fun _ _ _ q => q) (fun b q => ?_) (fun b xs q => ?_)
    · have : F b = none := by
        cases z : F b with
        | none => rfl
        | some u => rw [n b u z] at q; cases q
      rw [join_g this]; exact q
    · have : F b = none := by
        cases z : F b with
        | none => rfl
        | some u => rw [n b u z] at q; cases q
      rw [join_g this]; exact q
  | some u =>
    rw [join_f qf] at e
    cases e
    have z := x a o (join_f qf)
    have fo := (k a o qf).2
    cases o with
    | lst xs => obtain ⟨z, its, n, r, e⟩ := z; exact ⟨z, its, n, r, keep _ _ qf _ e⟩
    | dK kvs => obtain ⟨z, y, vs, r, ob, es, ep, e, c⟩ := z; exact ⟨z, y, vs, r, ob, es, ep, keep _ _ qf _ e, c⟩
    | xd fs => obtain ⟨mA, ⟨od, es, ep, e, c⟩, r⟩ := z; exact ⟨mA, ⟨od, es, ep, keep _ _ qf _ e, c⟩, r⟩
    | ins C dx fs =>
      have fd : F dx = some (.own a) := fo
      obtain ⟨d, z, ne, e, mA, ⟨od, es, ep, e2, c⟩, r⟩ := z
      exact ⟨join_f fd, z, ne, keep _ _ qf _ e, mA, ⟨od, es, ep, keep _ _ fd _ e2, c⟩, r⟩
    | own y => obtain ⟨ob, e⟩ := z; exact ⟨ob, keep _ _ qf _ e⟩
    | _ => exact fo.elim
theorem frame_none {Z : Hp} (k : FrOk G F) {b : Addr} (e : join G F b = none) : F b = none ∧ G b = none := by
  cases q : F b with
  | none => rw [join_g q] at e; exact ⟨rfl, e⟩
  | some u => rw [join_f q] at e; cases e
theorem frame_un {fs : List Addr} (k : FrOk G F) (k2 : FrOk G2 F) (u : Un fs [] G G2 h h') : Un fs [] (join G F) (join G2 F) h h' where
  keep := fun b o q e => u.keep b o q (frame_none (Z := G) k e).2
  slot := fun b o q e => u.slot b o q (frame_none (Z := G) k e).2
  free := fun b o q e hx => by
    obtain ⟨e1, e2⟩ := frame_none (Z := G) k e
    rw [join_g e1]
    exact u.free b o q e2 hx
  there := u.there
  tups := fun b xs e => by
    cases q : F b with
    | none => rw [join_g q] at e ⊢; exact u.tups b xs e
    | some o => rw [join_f q] at e; cases e; exact (k b _ q).2.elim
  frzs := fun b o xs e => by
    cases q : F b with
    | none => rw [join_g q] at e ⊢; exact u.frzs b o xs e
    | some o => rw [join_f q] at e; cases e; exact (k b _ q).2.elim
  tbls := fun b xs e => by
    cases q : F b with
    | none => rw [join_g q] at e ⊢; exact u.tbls b xs e
    | some o => rw [join_f q] at e; cases e; exact (k b _ q).2.elim
theorem frame_ub {fs : List Addr} {B : Heap} (k : FrOk G F) (k2 : FrOk G2 F) (u : UB fs G G2 h B h') : UB fs (join G F) (join G2 F) h B h' where
  keep := fun b o q e => u.keep b o q (frame_none (Z := G) k e).2
  slot := u.slot
  free := fun b o q e => by
    obtain ⟨e1, e2⟩ := frame_none (Z := G) k e
    rw [join_g e1]
    exact u.free b o q e2
  there := u.there
  tups := fun b xs e => by
    cases q : F b with
    | none => rw [join_g q] at e ⊢; exact u.tups b xs e
    | some o => rw [join_f q] at e; cases e; exact (k b _ q).2.elim
  frzs := fun b o xs e => by
    cases q : F b with
    | none => rw [join_g q] at e ⊢; exact u.frzs b o xs e
    | some o => rw [join_f q] at e; cases e; exact (k b _ q).2.elim
  tbls := fun b xs e => by
    cases q : F b with
    | none => rw [join_g q] at e ⊢; exact u.tbls b xs e
    | some o => rw [join_f q] at e; cases e; exact (k b _ q).2.elim
end
theorem FnR.frame {P : Program} {w : World} {K : PySem.W.Frag} {mg : Str → Option Value} {base : Heap} {k : Nat} {f : Addr} {sp : Sp} (R : FnR P w K mg base (L2.CX P w) k f sp) : FnR P w K mg base (L2.CX P w) k f (Fr sp) := by
  intro A outer s H us vs Q E hr e0 r h
  obtain ⟨G, F, rfl, fk, h⟩ := h
  have at_ : ∀ a o, F a = some o → ∃ u, s.heap.get? a = some u := fun a o q => by
    have z := e0.hok a o (join_f q)
    have fo := (fk a o q).2
    cases o with
    | lst xs => obtain ⟨z, its, n, r, e⟩ := z; exact ⟨_, e⟩
    | dK kvs => obtain ⟨z, y, vs, r, ob, es, ep, e, c⟩ := z; exact ⟨_, e⟩
    | xd fs => obtain ⟨mA, ⟨od, es, ep, e, c⟩, r⟩ := z; exact ⟨_, e⟩
    | ins C dx fs => obtain ⟨d, z, ne, e, mA, ⟨od, es, ep, e2, c⟩, r⟩ := z; exact ⟨_, e⟩
    | own y => exact z
    | _ => exact fo.elim
  have nf : ∀ a o, F a = some o → a ∉ frs outer := fun a o q hm => by
    have := e0.frf a hm
    rw [join_f q] at this
    cases this
  have e1 : Env0 P w K mg base A outer s G := ⟨e0.frames, e0.mod, fun b o q => ⟨(e0.bs b o q).1, (frame_none (Z := G) fk (e0.bs b o q).2).2⟩, e0.bsz, e0.funs, fun b hb => (frame_none (Z := G) fk (e0.frf b hb)).2, frame_hok fk e0.hok, e0.bare⟩
  refine codeAny_mono (R A outer s G us vs _ _ hr e1 r h) fun res s' hq => ?_
  cases res with
  | error e =>
    obtain ⟨a, B, G2, cls, d, rfl, fl, ok, ub, na, os, ag, q⟩ := hq
    have n2 : ∀ b o, F b = some o → G2 b = none := fun b o z => by
      obtain ⟨u, hu⟩ := at_ b o z
      exact ub.free b u hu (fk b o z).1
    have k2 : FrOk G2 F := fun b o z => ⟨n2 b o z, (fk b o z).2⟩
    have kp : ∀ b o, F b = some o → ∀ u, s.heap.get? b = some u → B.get? b = some u := fun b o z u hu => ub.keep b u hu (fk b o z).1 (nf b o z)
    refine ⟨a, B, join G2 F, cls, d, rfl, fl, frame_back fk n2 e0.hok ok kp, frame_ub fk k2 ub, ?_, os, ag, q k2⟩
    have fa : F a = none := by
      cases z : F a with
      | none => rfl
      | some o =>
        obtain ⟨u, hu⟩ := at_ a o z
        have := kp a o z u hu
        rw [fl.2.1] at this
        cases this
    rw [join_g fa]
    exact na
  | ok fl =>
    cases fl with
    | ret u =>
      obtain ⟨v, G2, os, ag, un, ok, rv, q⟩ := hq
      have n2 : ∀ b o, F b = some o → G2 b = none := fun b o z => by
        obtain ⟨u, hu⟩ := at_ b o z
        exact un.free b u hu (fk b o z).1 (by simp)
      have k2 : FrOk G2 F := fun b o z => ⟨n2 b o z, (fk b o z).2⟩
      have kp : ∀ b o, F b = some o → ∀ u, s.heap.get? b = some u → s'.heap.get? b = some u := fun b o z u hu => un.keep b u hu (fk b o z).1 (nf b o z) (by simp)
      exact ⟨v, join G2 F, os, ag, frame_un fk k2 un, frame_back fk n2 e0.hok ok kp, rv, q k2⟩
    | next => exact False.elim hq
    | brk => exact False.elim hq
    | cont => exact False.elim hq
/-! ### one list, one instance beside -/
section
variable {G : Hp} {sp : Sp} {vs : List V} {Q : VK} {E : XK} {st x dx : Addr} {xs : List V} {C : Addr} {fs : List (Str × V)}
def F1 (a : Addr) (o : HO) : Hp := upd (fun _ => none) a o
theorem join_1 {a : Addr} {o : HO} : join G (F1 a o) = upd G a o := by
  funext b
  by_cases h : b = a
  · subst h; rw [upd_same]; exact join_f upd_same
  · rw [upd_ne h]; exact join_g (by unfold F1; rw [upd_ne h])
theorem frok_1 {a : Addr} (xs : List V) : FrOk G (F1 a (.lst xs)) ↔ G a = none := by
  constructor
  · intro h; exact (h a _ upd_same).1
  · intro h b o e
    by_cases q : b = a
    · subst q
      unfold F1 at e
      rw [upd_same] at e
      cases e
      exact ⟨h, trivial⟩
    · unfold F1 at e
      rw [upd_ne q] at e
      cases e
theorem fr_lst (n : G st = none) (h : sp vs G (fun v G2 => G2 st = none → Q v (upd G2 st (.lst xs))) (fun c d G2 => G2 st = none → E c d (upd G2 st (.lst xs)))) : Fr sp vs (upd G st (.lst xs)) Q E := by
  refine ⟨G, F1 st (.lst xs), join_1.symm, (frok_1 xs).mpr n, ?_⟩
  have e1 : (fun v G2 => FrOk G2 (F1 st (.lst xs)) → Q v (join G2 (F1 st (.lst xs)))) = fun v G2 => G2 st = none → Q v (upd G2 st (.lst xs)) := by
    funext v G2; rw [join_1, frok_1]
  have e2 : (fun c d G2 => FrOk G2 (F1 st (.lst xs)) → E c d (join G2 (F1 st (.lst xs)))) = fun c d G2 => G2 st = none → E c d (upd G2 st (.lst xs)) := by
    funext c d G2; rw [join_1, frok_1]
  rw [e1, e2]
  exact h
/-- nothing is framed -/
theorem fr_no (h : sp vs G Q E) (hi : ∀ {Q' : VK} {E' : XK}, (∀ v H, Q v H → Q' v H) → (∀ c d H, E c d H → E' c d H) → sp vs G Q E → sp vs G Q' E') : Fr sp vs G Q E := by
  have j0 : ∀ X : Hp, join X (fun _ => none) = X := fun X => by funext b; exact join_g rfl
  refine ⟨G, fun _ => none, (j0 G).symm, fun _ _ e => (nomatch e), hi (fun v H q _ => ?_) (fun c d H q _ => ?_) h⟩
  · rw [j0]; exact q
  · rw [j0]; exact q
theorem fr_ins (nx : G x = none) (ndx : G dx = none) (ne : dx ≠ x) (h : sp vs G (fun v G2 => G2 x = none → G2 dx = none → Q v (upd (upd G2 dx (.own x)) x (.ins C dx fs))) (fun c d G2 => G2 x = none → G2 dx = none → E c d (upd (upd G2 dx (.own x)) x (.ins C dx fs)))) :
    Fr sp vs (upd (upd G dx (.own x)) x (.ins C dx fs)) Q E := by
  have j : ∀ G : Hp, join G (upd (F1 dx (.own x)) x (.ins C dx fs)) = upd (upd G dx (.own x)) x (.ins C dx fs) := fun G => by
    funext b
    by_cases hb : b = x
    · subst hb; rw [upd_same]; exact join_f upd_same
    · rw [upd_ne hb]
      by_cases q : b = dx
      · rw [q, upd_same]; exact join_f (by rw [upd_ne ne]; exact upd_same)
      · rw [upd_ne q]; exact join_g (by rw [upd_ne hb]; unfold F1; rw [upd_ne q])
  have k : ∀ G : Hp, FrOk G (upd (F1 dx (.own x)) x (.ins C dx fs)) ↔ (G x = none ∧ G dx = none) := fun G => by
    constructor
    · intro h
      exact ⟨(h x _ upd_same).1, (h dx (.own x) (by rw [upd_ne ne]; exact upd_same)).1⟩
    · intro h b o e
      by_cases q : b = x
      · subst q
        rw [upd_same] at e
        cases e
        refine ⟨h.1, ?_⟩
        show upd (F1 dx (.own b)) b (.ins C dx fs) dx = some (.own b)
        rw [upd_ne ne]; exact upd_same
      · rw [upd_ne q] at e
        unfold F1 at e
        by_cases z : b = dx
        · subst z
          rw [upd_same] at e
          cases e
          exact ⟨h.2, _, upd_same⟩
        · rw [upd_ne z] at e
          cases e
  refine ⟨G, upd (F1 dx (.own x)) x (.ins C dx fs), (j G).symm, (k G).mpr ⟨nx, ndx⟩, ?_⟩
  have e1 : (fun v G2 => FrOk G2 (upd (F1 dx (.own x)) x (.ins C dx fs)) → Q v (join G2 (upd (F1 dx (.own x)) x (.ins C dx fs)))) = fun v G2 => G2 x = none → G2 dx = none → Q v (upd (upd G2 dx (.own x)) x (.ins C dx fs)) := by
    funext v G2; rw [j, k]; exact propext ⟨fun h a b => h ⟨a, b⟩, fun h a => h a.1 a.2⟩
  have e2 : (fun c d G2 => FrOk G2 (upd (F1 dx (.own x)) x (.ins C dx fs)) → E c d (join G2 (upd (F1 dx (.own x)) x (.ins C dx fs)))) = fun c d G2 => G2 x = none → G2 dx = none → E c d (upd (upd G2 dx (.own x)) x (.ins C dx fs)) := by
    funext c d G2; rw [j, k]; exact propext ⟨fun h a b => h ⟨a, b⟩, fun h a => h a.1 a.2⟩
  rw [e1, e2]
  exact h
end
end Sx

namespace Sx
open PySem PySem.Spec PyProof.Rows L2
section
variable {K : PySem.W.Frag} {G H : Hp} {Q : VK} {st p : Addr} {xs : List V} {a b c d e v : V} {i : Int}
theorem r_ixL (hp : SqL K H p xs) (he : atI xs i = some v) (h : Q v H) : rIxL K (.ref p) (.int i) H Q := ⟨p, xs, i, v, rfl, rfl, hp, he, h⟩
theorem r_setL {QS : Hp → Prop} {j : Nat} (he : ixN xs.length i = some j) (h : QS (upd G st (.lst (xs.set j v)))) : rSetL (.ref st) (.int i) v (upd G st (.lst xs)) QS :=
  ⟨st, xs, i, j, rfl, rfl, upd_same, he, by rw [L2.upd_upd]; exact h⟩
theorem r5_0 (h : Q a (upd G st (.lst [a, b, c, d, e]))) : rIxL K (.ref st) (.int 0) (upd G st (.lst [a, b, c, d, e])) Q := r_ixL (SqL.of upd_same) rfl h
theorem r5_1 (h : Q b (upd G st (.lst [a, b, c, d, e]))) : rIxL K (.ref st) (.int 1) (upd G st (.lst [a, b, c, d, e])) Q := r_ixL (SqL.of upd_same) rfl h
theorem r5_2 (h : Q c (upd G st (.lst [a, b, c, d, e]))) : rIxL K (.ref st) (.int 2) (upd G st (.lst [a, b, c, d, e])) Q := r_ixL (SqL.of upd_same) rfl h
theorem r5_3 (h : Q d (upd G st (.lst [a, b, c, d, e]))) : rIxL K (.ref st) (.int 3) (upd G st (.lst [a, b, c, d, e])) Q := r_ixL (SqL.of upd_same) rfl h
theorem r5_4 (h : Q e (upd G st (.lst [a, b, c, d, e]))) : rIxL K (.ref st) (.int 4) (upd G st (.lst [a, b, c, d, e])) Q := r_ixL (SqL.of upd_same) rfl h
theorem w5_1 {QS : Hp → Prop} (h : QS (upd G st (.lst [a, v, c, d, e]))) : rSetL (.ref st) (.int 1) v (upd G st (.lst [a, b, c, d, e])) QS := r_setL rfl h
theorem w5_2 {QS : Hp → Prop} (h : QS (upd G st (.lst [a, b, v, d, e]))) : rSetL (.ref st) (.int 2) v (upd G st (.lst [a, b, c, d, e])) QS := r_setL rfl h
theorem w5_3 {QS : Hp → Prop} (h : QS (upd G st (.lst [a, b, c, v, e]))) : rSetL (.ref st) (.int 3) v (upd G st (.lst [a, b, c, d, e])) QS := r_setL rfl h
theorem w5_4 {QS : Hp → Prop} (h : QS (upd G st (.lst [a, b, c, d, v]))) : rSetL (.ref st) (.int 4) v (upd G st (.lst [a, b, c, d, e])) QS := r_setL rfl h
end
/-! ### the state of the draws -/
structure Ds where
  it : Addr
  ns : List Int
  pos : Int
  big : Int
  mix : Int
  cnt : Int
abbrev Ds.o (s : Ds) : List V := [.ref s.it, .int s.pos, .int s.big, .int s.mix, .int s.cnt]
structure DsOk (K : PySem.W.Frag) (G : Hp) (s : Ds) : Prop where
  it : SqL K G s.it (s.ns.map V.int)
  pos : 0 ≤ s.pos
  mix0 : 0 ≤ s.mix
  mix1 : s.mix < 2147483648
theorem DsOk.mono {K : PySem.W.Frag} {G G' : Hp} {s : Ds} (h : DsOk K G s) (e : Same G G') : DsOk K G' s := ⟨Same.seq e h.it, h.pos, h.mix0, h.mix1⟩
def sp_draw (K : PySem.W.Frag) : Sp := fun vs H Q _ => ∃ st many G s, vs = [.ref st, .int many] ∧ H = upd G st (.lst (Ds.o s)) ∧ G st = none ∧ DsOk K G s ∧ 0 < many ∧ many < 1073741824 ∧
  ∀ r s', 0 ≤ r → r < many → DsOk K G s' → Q (.int r) (upd G st (.lst (Ds.o s')))
theorem k_draw {K : PySem.W.Frag} {G : Hp} {st : Addr} {s : Ds} {many : Int} {Q : VK} {E : XK} (hn : G st = none) (ok : DsOk K G s) (h1 : 0 < many) (h2 : many < 1073741824) (k : ∀ r s', 0 ≤ r → r < many → DsOk K G s' → Q (.int r) (upd G st (.lst (Ds.o s')))) : sp_draw K [.ref st, .int many] (upd G st (.lst (Ds.o s))) Q E :=
  ⟨st, many, G, s, rfl, rfl, hn, ok, h1, h2, k⟩
theorem atI_ints {ns : List Int} {i : Int} (h0 : 0 ≤ i) (h1 : i < (ns.map V.int).length) : ∃ n, atI (ns.map V.int) i = some (.int n) := by
  obtain ⟨j, rfl⟩ : ∃ j : Nat, i = j := ⟨i.toNat, by omega⟩
  have hj : j < ns.length := by simpa using h1
  exact ⟨ns[j], atI_nat (by rw [List.getElem?_map, List.getElem?_eq_getElem hj]; rfl)⟩
end Sx

namespace Sx
open PySem PySem.Spec PyProof.Rows L2
/-! ### list comprehensions that make data -/
section
variable {K : PySem.W.Frag} {H1 : Hp} {a : Addr} {xs : List V} {g : TG} {tt : TT} {te : TE} {vs : List Nat} {σ : L2.St} {Q : VK} {out : List (Option D)}
/-- what holds at the i-th turn -/
def LcP (K : PySem.W.Frag) (H1 : Hp) (D : Addr) (out : List (Option Sx.D)) (i : Nat) (H : Hp) : Prop := ∃ G ys, H = upd G D (.lst ys) ∧ G D = none ∧ Same H1 G ∧ ys.length ≤ i ∧ IsL K G ys ((out.take i).filterMap id)
/-- what is to be shown of one turn: the element y is the data d, or it is passed over -/
def LcS (K : PySem.W.Frag) (H1 : Hp) (D : Addr) (g : TG) (tt : TT) (te : TE) (vs : List Nat) (σ : L2.St) (x : V) (o : Option Sx.D) : Prop :=
  ∀ (G : Hp) (acc : List V) (Nk : VK) (El : Hp → Prop), Same H1 G → G D = none → (∀ d, o = some d → ∀ y G4, G4 D = none → Same G G4 → Is K G4 y d → Nk y (upd G4 D (.lst acc))) → (o = none → ∀ G4, G4 D = none → Same G G4 → El (upd G4 D (.lst acc))) →
    g x (wipe σ vs) (upd G D (.lst acc)) fun σ2 H2 => wipe σ2 vs = wipe σ vs ∧ tt σ2 H2 fun b H3 => if b = true then te σ2 H3 Nk else El H3
theorem LcP.step {D : Addr} {i : Nat} {H : Hp} {x : V} {o : Option Sx.D} (ho : out[i]? = some o) (hi : i < 1000000) (h : LcS K H1 D g tt te vs σ x o) (p : LcP K H1 D out i H) :
    g x (wipe σ vs) H fun σ2 H2 => wipe σ2 vs = wipe σ vs ∧ tt σ2 H2 fun b H3 => if b = true then te σ2 H3 fun y H4 => ∃ acc, H4 D = some (.lst acc) ∧ acc.length < sizeLine ∧ LcP K H1 D out (i + 1) (upd H4 D (.lst (acc ++ [y]))) else LcP K H1 D out (i + 1) H3 := by
  obtain ⟨G, ys, rfl, hn, hs, hl, hy⟩ := p
  have et : out.take (i + 1) = out.take i ++ [o] := by rw [List.take_succ, ho]; rfl
  refine h G ys _ _ hs hn (fun d ed y G4 n4 s4 hd => ⟨ys, upd_same, ?_, G4, ys ++ [y], ?_, n4, hs.trans s4, ?_, ?_⟩) (fun eo G4 n4 s4 => ⟨G4, ys, rfl, n4, hs.trans s4, by omega, ?_⟩)
  · rw [sizeLine_eq]; omega
  · rw [L2.upd_upd]
  · simp; omega
  · rw [et, List.filterMap_append, ed]
    exact (IsL.mono s4 hy).snoc hd
  · rw [et, List.filterMap_append, eo]
    simpa using IsL.mono s4 hy
theorem LcP.zero {D : Addr} (n : H1 D = none) : LcP K H1 D out 0 (upd H1 D (.lst [])) := ⟨H1, [], rfl, n, Same.refl _, Nat.le_refl _, .nil⟩
theorem LcP.last {D : Addr} {n : Nat} {H : Hp} (hn : n = out.length) (p : LcP K H1 D out n H) (h : ∀ G ys, Same H1 G → G D = none → IsL K G ys (out.filterMap id) → Q (.ref D) (upd G D (.lst ys))) : Q (.ref D) H := by
  obtain ⟨G, ys, rfl, n1, s, _, hy⟩ := p
  rw [hn, List.take_length] at hy
  exact h G ys s n1 hy
theorem LcP.seq {D : Addr} {i : Nat} {H : Hp} (ha : SqL K H1 a xs) (p : LcP K H1 D out i H) : SqL K H a xs := by
  obtain ⟨G, ys, rfl, n1, s, _⟩ := p
  exact Same.seq (Same.updR s n1) ha
theorem LcP.seqT {D : Addr} {i : Nat} {H : Hp} (ha : SqT K H1 a xs) (p : LcP K H1 D out i H) : SqT K H a xs := by
  obtain ⟨G, ys, rfl, n1, s, _⟩ := p
  exact Same.seqT (Same.updR s n1) ha
end
section
variable {K : PySem.W.Frag} {H : Hp} {a : Addr} {xs : List V} {g : TG} {tt : TT} {te : TE} {vs : List Nat} {σ : L2.St} {Q : VK}
def kLcL (K : PySem.W.Frag) (g : TG) (tt : TT) (te : TE) (vs : List Nat) (σ : L2.St) (Q : VK) : VK := fun x H => ∃ b, x = .ref b ∧ (∃ xs, SqL K H b xs) ∧ ∀ D, H D = none → ∃ W : Nat → Nat → Hp → Prop, (∃ m, W 0 m (upd H D (.lst []))) ∧ ∀ i m H, W i m H →
      ((Itl K b).stop i H ∧ Q (.ref D) H) ∨ ((Itl K b).go i H ∧ ∃ Nx : Hp → Prop, (∀ H', Nx H' → ∃ m', m' < m ∧ W (i + 1) m' H') ∧ ∀ x H', (Itl K b).yld i H x H' → g x (wipe σ vs) H' fun σ2 H2 => wipe σ2 vs = wipe σ vs ∧ tt σ2 H2 fun b H3 =>
        if b = true then te σ2 H3 fun y H4 => ∃ acc, H4 D = some (.lst acc) ∧ acc.length < sizeLine ∧ Nx (upd H4 D (.lst (acc ++ [y]))) else Nx H3)
def kLcT (K : PySem.W.Frag) (g : TG) (tt : TT) (te : TE) (vs : List Nat) (σ : L2.St) (Q : VK) : VK := fun x H => ∃ b, x = .ref b ∧ (∃ xs, SqT K H b xs) ∧ ∀ D, H D = none → ∃ W : Nat → Nat → Hp → Prop, (∃ m, W 0 m (upd H D (.lst []))) ∧ ∀ i m H, W i m H →
      ((Itt K b).stop i H ∧ Q (.ref D) H) ∨ ((Itt K b).go i H ∧ ∃ Nx : Hp → Prop, (∀ H', Nx H' → ∃ m', m' < m ∧ W (i + 1) m' H') ∧ ∀ x H', (Itt K b).yld i H x H' → g x (wipe σ vs) H' fun σ2 H2 => wipe σ2 vs = wipe σ vs ∧ tt σ2 H2 fun b H3 =>
        if b = true then te σ2 H3 fun y H4 => ∃ acc, H4 D = some (.lst acc) ∧ acc.length < sizeLine ∧ Nx (upd H4 D (.lst (acc ++ [y]))) else Nx H3)
def kLcR (lo : Int) (n : Nat) (g : TG) (tt : TT) (te : TE) (vs : List Nat) (σ : L2.St) (Q : VK) (H : Hp) : Prop := ∀ D, H D = none → ∃ W : Nat → Nat → Hp → Prop, (∃ m, W 0 m (upd H D (.lst []))) ∧ ∀ i m H, W i m H →
      ((Itr lo n).stop i H ∧ Q (.ref D) H) ∨ ((Itr lo n).go i H ∧ ∃ Nx : Hp → Prop, (∀ H', Nx H' → ∃ m', m' < m ∧ W (i + 1) m' H') ∧ ∀ x H', (Itr lo n).yld i H x H' → g x (wipe σ vs) H' fun σ2 H2 => wipe σ2 vs = wipe σ vs ∧ tt σ2 H2 fun b H3 =>
        if b = true then te σ2 H3 fun y H4 => ∃ acc, H4 D = some (.lst acc) ∧ acc.length < sizeLine ∧ Nx (upd H4 D (.lst (acc ++ [y]))) else Nx H3)
def kLcR1 (g : TG) (tt : TT) (te : TE) (vs : List Nat) (σ : L2.St) (Q : VK) : List V → Hp → Prop := fun us H => ∃ j : Int, us = [.int j] ∧ -(2 ^ 62) ≤ j ∧ j < 2 ^ 62 ∧ kLcR 0 j.toNat g tt te vs σ Q H
def kLcR2 (g : TG) (tt : TT) (te : TE) (vs : List Nat) (σ : L2.St) (Q : VK) : List V → Hp → Prop := fun us H => ∃ i j : Int, us = [.int i, .int j] ∧ (-(2 ^ 62) ≤ i ∧ i < 2 ^ 62 ∧ -(2 ^ 62) ≤ j ∧ j < 2 ^ 62) ∧ kLcR i (j - i).toNat g tt te vs σ Q H
theorem r_lcL {tl : TE} (h : tl σ H (kLcL K g tt te vs σ Q)) : tLc (iList K tl) g tt te vs σ H Q := h
theorem r_lcT {tl : TE} (h : tl σ H (kLcT K g tt te vs σ Q)) : tLc (iTup K tl) g tt te vs σ H Q := h
theorem r_lcR1 {ta : TA} (h : ta σ H (kLcR1 g tt te vs σ Q)) : tLc (iRng1 ta) g tt te vs σ H Q := h
theorem r_lcR2 {ta : TA} (h : ta σ H (kLcR2 g tt te vs σ Q)) : tLc (iRng2 ta) g tt te vs σ H Q := h
/-- the walk over a list that stands: [e for x in l] -/
theorem k_lcL (out : List (Option D)) (ha : SqL K H a xs) (hl : out.length = xs.length) (hz : xs.length < 1000000) (h : ∀ D, H D = none → (∀ (i : Nat) x o, xs[i]? = some x → out[i]? = some o → LcS K H D g tt te vs σ x o) ∧
      ∀ G ys, Same H G → G D = none → IsL K G ys (out.filterMap id) → Q (.ref D) (upd G D (.lst ys))) :
    kLcL K g tt te vs σ Q (.ref a) H := by
  refine ⟨a, rfl, ⟨xs, ha⟩, fun D n => ?_⟩
  obtain ⟨q1, q2⟩ := h D n
  refine lc_list (xs := xs) (LcP K H D out) (LcP.zero n) (fun i H _ p => p.seq ha) (fun i x H e p => ?_) (fun H p => p.last hl.symm q2)
  have hi : i < xs.length := (List.getElem?_eq_some_iff.mp e).1
  have ho : out[i]? = some out[i] := List.getElem?_eq_getElem (by omega)
  exact p.step ho (by omega) (q1 i x _ e ho)
theorem k_lcT (out : List (Option D)) (ha : SqT K H a xs) (hl : out.length = xs.length) (hz : xs.length < 1000000) (h : ∀ D, H D = none → (∀ (i : Nat) x o, xs[i]? = some x → out[i]? = some o → LcS K H D g tt te vs σ x o) ∧
      ∀ G ys, Same H G → G D = none → IsL K G ys (out.filterMap id) → Q (.ref D) (upd G D (.lst ys))) :
    kLcT K g tt te vs σ Q (.ref a) H := by
  refine ⟨a, rfl, ⟨xs, ha⟩, fun D n => ?_⟩
  obtain ⟨q1, q2⟩ := h D n
  refine lc_tup (xs := xs) (LcP K H D out) (LcP.zero n) (fun i H _ p => p.seqT ha) (fun i x H e p => ?_) (fun H p => p.last hl.symm q2)
  have hi : i < xs.length := (List.getElem?_eq_some_iff.mp e).1
  have ho : out[i]? = some out[i] := List.getElem?_eq_getElem (by omega)
  exact p.step ho (by omega) (q1 i x _ e ho)
theorem k_lcR {lo : Int} {n : Nat} (out : List (Option D)) (hl : out.length = n) (hz : n < 1000000) (h : ∀ D, H D = none → (∀ (i : Nat) o, i < n → out[i]? = some o → LcS K H D g tt te vs σ (.int (lo + i)) o) ∧
      ∀ G ys, Same H G → G D = none → IsL K G ys (out.filterMap id) → Q (.ref D) (upd G D (.lst ys))) : kLcR lo n g tt te vs σ Q H := by
  intro D hn
  obtain ⟨q1, q2⟩ := h D hn
  refine lc_range (LcP K H D out) (LcP.zero hn) (fun i H e p => ?_) (fun H p => p.last hl.symm q2)
  have ho : out[i]? = some out[i] := List.getElem?_eq_getElem (by omega)
  exact p.step ho (by omega) (q1 i _ e ho)
theorem k_lcR1 {j : Int} (h1 : -(2 ^ 62) ≤ j) (h2 : j < 2 ^ 62) (h : kLcR 0 j.toNat g tt te vs σ Q H) : kLcR1 g tt te vs σ Q [.int j] H := ⟨j, rfl, h1, h2, h⟩
theorem k_lcR2 {i j : Int} (h1 : -(2 ^ 62) ≤ i) (h2 : i < 2 ^ 62) (h3 : -(2 ^ 62) ≤ j) (h4 : j < 2 ^ 62) (h : kLcR i (j - i).toNat g tt te vs σ Q H) : kLcR2 g tt te vs σ Q [.int i, .int j] H := ⟨i, j, rfl, ⟨h1, h2, h3, h4⟩, h⟩
theorem r_sliceL {lo hi : Option Int} (ha : SqL K H a xs) (h : ∀ p, H p = none → Q (.ref p) (upd H p (.lst (cutV xs lo hi)))) : rSlL K (.ref a) lo hi H Q := ⟨a, xs, rfl, ha, h⟩
end
theorem r_yes {σ : L2.St} {H : Hp} {QB : Bool → Hp → Prop} (h : QB true H) : tYes σ H QB := h
theorem fm_map {α : Type} (f : α → D) : ∀ l : List α, (l.map fun n => some (f n)).filterMap id = l.map f
  | [] => rfl
  | a :: l => by rw [List.map_cons, List.map_cons, ← fm_map f l]; rfl
theorem fm_some : ∀ l : List D, (l.map some).filterMap id = l
  | [] => rfl
  | a :: l => by show a :: (l.map some).filterMap id = a :: l; rw [fm_some l]
/-! ### for -/
section
variable {K : PySem.W.Frag} {H : Hp} {a : Addr} {xs : List V} {g : TG} {tb : TS} {D : Ends} {σ : L2.St}
def kFor (J : It) (g : TG) (tb : TS) (D : Ends) (σ : L2.St) (H : Hp) : Prop := ∃ W : Nat → Nat → L2.St → Hp → Prop, (∃ m, W 0 m σ H) ∧ ∀ i m σ H, W i m σ H →
  (J.stop i H ∧ D.nx σ H) ∨ (J.go i H ∧ ∃ N : L2.St → Hp → Prop, (∀ σ' H', N σ' H' → ∃ m', m' < m ∧ W (i + 1) m' σ' H') ∧ ∀ x H', J.yld i H x H' → g x σ H' fun σ2 H2 => tb { D with nx := N, ct := N, bk := D.nx } σ2 H2)
def kForL (K : PySem.W.Frag) (g : TG) (tb : TS) (D : Ends) (σ : L2.St) : VK := fun x H => ∃ b, x = .ref b ∧ (∃ xs, SqL K H b xs) ∧ kFor (Itl K b) g tb D σ H
def kForT (K : PySem.W.Frag) (g : TG) (tb : TS) (D : Ends) (σ : L2.St) : VK := fun x H => ∃ b, x = .ref b ∧ (∃ xs, SqT K H b xs) ∧ kFor (Itt K b) g tb D σ H
def kForR1 (g : TG) (tb : TS) (D : Ends) (σ : L2.St) : List V → Hp → Prop := fun us H => ∃ j : Int, us = [.int j] ∧ -(2 ^ 62) ≤ j ∧ j < 2 ^ 62 ∧ kFor (Itr 0 j.toNat) g tb D σ H
def kForR2 (g : TG) (tb : TS) (D : Ends) (σ : L2.St) : List V → Hp → Prop := fun us H => ∃ i j : Int, us = [.int i, .int j] ∧ (-(2 ^ 62) ≤ i ∧ i < 2 ^ 62 ∧ -(2 ^ 62) ≤ j ∧ j < 2 ^ 62) ∧ kFor (Itr i (j - i).toNat) g tb D σ H
theorem r_forL {tl : TE} (h : tl σ H (kForL K g tb D σ)) : tFor (iList K tl) g tb D σ H := h
theorem r_forT {tl : TE} (h : tl σ H (kForT K g tb D σ)) : tFor (iTup K tl) g tb D σ H := h
theorem r_forR1 {ta : TA} (h : ta σ H (kForR1 g tb D σ)) : tFor (iRng1 ta) g tb D σ H := h
theorem r_forR2 {ta : TA} (h : ta σ H (kForR2 g tb D σ)) : tFor (iRng2 ta) g tb D σ H := h
theorem k_forL (Pv : Nat → L2.St → Hp → Prop) (ha : SqL K H a xs) (h0 : Pv 0 σ H) (hl : ∀ i σ H, i ≤ xs.length → Pv i σ H → SqL K H a xs)
    (hs : ∀ (i : Nat) x σ H, xs[i]? = some x → Pv i σ H → g x σ H fun σ2 H2 => tb { D with nx := Pv (i + 1), ct := Pv (i + 1), bk := D.nx } σ2 H2) (hd : ∀ σ H, Pv xs.length σ H → D.nx σ H) : kForL K g tb D σ (.ref a) H :=
  ⟨a, rfl, ⟨xs, ha⟩, for_list (xs := xs) Pv h0 hl hs hd⟩
theorem k_forT (Pv : Nat → L2.St → Hp → Prop) (ha : SqT K H a xs) (h0 : Pv 0 σ H) (hl : ∀ i σ H, i ≤ xs.length → Pv i σ H → SqT K H a xs)
    (hs : ∀ (i : Nat) x σ H, xs[i]? = some x → Pv i σ H → g x σ H fun σ2 H2 => tb { D with nx := Pv (i + 1), ct := Pv (i + 1), bk := D.nx } σ2 H2) (hd : ∀ σ H, Pv xs.length σ H → D.nx σ H) : kForT K g tb D σ (.ref a) H :=
  ⟨a, rfl, ⟨xs, ha⟩, for_tup (xs := xs) Pv h0 hl hs hd⟩
theorem k_forR {lo : Int} {n : Nat} (Pv : Nat → L2.St → Hp → Prop) (h0 : Pv 0 σ H)
    (hs : ∀ i σ H, i < n → Pv i σ H → g (.int (lo + i)) σ H fun σ2 H2 => tb { D with nx := Pv (i + 1), ct := Pv (i + 1), bk := D.nx } σ2 H2) (hd : ∀ σ H, Pv n σ H → D.nx σ H) : kFor (Itr lo n) g tb D σ H := for_range Pv h0 hs hd
theorem k_forR1 {j : Int} (h1 : -(2 ^ 62) ≤ j) (h2 : j < 2 ^ 62) (h : kFor (Itr 0 j.toNat) g tb D σ H) : kForR1 g tb D σ [.int j] H := ⟨j, rfl, h1, h2, h⟩
theorem k_forR2 {i j : Int} (h1 : -(2 ^ 62) ≤ i) (h2 : i < 2 ^ 62) (h3 : -(2 ^ 62) ≤ j) (h4 : j < 2 ^ 62) (h : kFor (Itr i (j - i).toNat) g tb D σ H) : kForR2 g tb D σ [.int i, .int j] H := ⟨i, j, rfl, ⟨h1, h2, h3, h4⟩, h⟩
end
theorem cut_to (xs : List V) (k : Nat) : cutV xs none (some (k : Int)) = xs.take k := by
  unfold cutV
  rw [HT.sIx_none, HT.sIx_nat, List.drop_zero, Nat.sub_zero]
  by_cases h : k ≤ xs.length
  · rw [Nat.min_eq_left h]
  · rw [Nat.min_eq_right (by omega), List.take_of_length_le (Nat.le_refl _), List.take_of_length_le (by omega)]
end Sx

namespace Sx
open PySem PySem.Spec PyProof.Rows L2
/-! ### what stands in an except suite -/
theorem excC_of {K : PySem.W.Frag} {x : Str} (f : XfC K (He.ga K x)) (c : (Fx.xis x).ok K = true) : ExcC K (He.ga K x) := by
  obtain ⟨c1, c⟩ := He.ba c
  obtain ⟨c2, c⟩ := He.ba c
  obtain ⟨c3, c4⟩ := He.ba c
  exact ⟨f.ga, f.gg, f.exC, f.hdC, He.eqO_ok c1, He.eqO_ok c2, of_decide_eq_true c3, of_decide_eq_true c4⟩
class IsExc (K : PySem.W.Frag) (x : Str) : Prop where
  c : ExcC K (He.ga K x)
def rIsX (K : PySem.W.Frag) (a : Addr) (cls : Value) (d : Option Addr) : List V → Hp → VK → Prop := fun xs H Q => ∃ (C : Addr) (c : V) (cv : Value) (b : Bool), cls = .ref C ∧ xs = [.ref a, c] ∧ (∀ u, RelV c u → u = cv) ∧ ExcC K C ∧ PySem.W.kitOne K (.ref C) cv = some b ∧
  (d = none ∨ ∃ dd fs, d = some dd ∧ H dd = some (.xd fs)) ∧ Q (.bl b) H
theorem call_isX {X : Cx} {a : Addr} {cls : Value} {d : Option Addr} {oe : Obj} {pn : List (Addr × Obj)} (hz : Zc cls d oe) (hf : ∃ vs, oe.data = .fields vs) : CallR (X.suite a ((a, oe) :: pn)) (.builtin "isinstance") (rIsX X.K a cls d) := by
  intro pins s σ H xs us Q I r h
  obtain ⟨D, c, cv, b, rfl, rfl, hcv, C, e, hd, q⟩ := h
  cases r with
  | cons rx rr =>
    cases rr with
    | cons rt rr =>
      cases rr
      cases rx
      have ec := hcv _ rt
      subst ec
      obtain ⟨hget, _⟩ := I.pin (a, oe) (List.mem_append.mpr (.inl List.mem_cons_self))
      obtain ⟨vs, hv⟩ := hf
      have J : ∃ od, PySem.W.InstAt s.heap a oe D od := by
        rcases hd with rfl | ⟨dd, fs, rfl, ea⟩
        · exact ⟨none, hget, hz.1, by unfold PySem.W.notCls; rw [hv] <;> rfl, by rw [hz.2]; trivial⟩
        · have hx : ObjOk X.prog X.w H s.heap dd (.xd fs) := I.hok dd _ ea
          obtain ⟨mA, hns, hr⟩ := hx
          obtain ⟨od, ho, hl⟩ := lookIn_ns hns
          exact ⟨some od, hget, hz.1, by unfold PySem.W.notCls; rw [hv] <;> rfl, by rw [hz.2]; exact ho⟩
      obtain ⟨od, J⟩ := J
      have hcl : (PySem.W.clsIn X.K D).isSome = true := by
        obtain ⟨cd, hc, _⟩ := PySem.W.any_some C.hd
        rw [hc]; rfl
      exact PySem.W.kia_one (PySem.W.kitx_exc (od := od) hcl C.hg C.hk C.hs C.ha C.hn C.ht C.hm) I.kIn J e (fun z => nomatch z) fun tk => ⟨.bl b, H, I.kept (t' := tk) fun _ _ z => z, rfl, q⟩
section
variable {K : PySem.W.Frag} {H : Hp} {Q : VK} {a dd : Addr} {fs : List (Str × V)} {x c f : Str} {b : Bool} {v : V} {σ : L2.St}
theorem r_isXC [C : IsExc K x] [k : Kit K (.c x) (.c c) b] (hd : At H dd (.xd fs)) (h : Q (.bl b) H) : rIsX K a (.ref (He.ga K x)) (some dd) [.ref a, .ref (He.ga K c)] H Q :=
  ⟨_, _, _, b, rfl, rfl, fun u e => e, C.c, k.h, .inr ⟨dd, fs, rfl, hd⟩, h⟩
theorem r_isXB {n : String} [C : IsExc K x] [k : Kit K (.c x) (.b n) b] (hd : At H dd (.xd fs)) (h : Q (.bl b) H) : rIsX K a (.ref (He.ga K x)) (some dd) [.ref a, .ty n] H Q :=
  ⟨_, _, _, b, rfl, rfl, fun u e => e, C.c, k.h, .inr ⟨dd, fs, rfl, hd⟩, h⟩
def kXf (a : Addr) (cls : Value) (d : Option Addr) (C : Addr) (f : Str) (Q : VK) : VK := fun x H1 => x = .ref a ∧ cls = .ref C ∧ ∃ (dd : Addr) (fs : List (Str × V)) (v : V), d = some dd ∧ H1 dd = some (.xd fs) ∧ fs.lookup f = some v ∧ Q v H1
theorem r_xf {cls : Value} {d : Option Addr} {C : Addr} {te : TE} (h : te σ H (kXf a cls d C f Q)) : tXf a cls d C f te σ H Q := h
theorem k_xf {C : Addr} (hd : At H dd (.xd fs)) (e : fs.lookup f = some v) (h : Q v H) : kXf a (.ref C) (some dd) C f Q (.ref a) H := ⟨rfl, rfl, dd, fs, v, rfl, hd, e, h⟩
theorem r_wAs {cls cv : Value} {i : Nat} {ts : Addr → Value → Option Addr → TS} {Wout : WX} {D : Ends} {d : Option Addr} (hx : PySem.W.exmOne K cls cv = some true)
    (h : ∀ a, H a = none → ts a cls d { nx := fun σ' H' => D.nx (σ'.set i none) H', rt := D.rt, bk := fun σ' H' => D.bk (σ'.set i none) H', ct := fun σ' H' => D.ct (σ'.set i none) H' } (σ.set i (some (.ref a))) H) : wAs K cv i ts Wout D cls d σ H :=
  ⟨true, hx, fun _ => h, fun e => by cases e⟩
theorem r_wOnly {cls cv : Value} {ts : Addr → Value → Option Addr → TS} {Wout : WX} {D : Ends} {d : Option Addr} (hx : PySem.W.exmOne K cls cv = some true) (h : ∀ a, H a = none → ts a cls d D σ H) : wOnly K cv ts Wout D cls d σ H :=
  ⟨true, hx, fun _ => h, fun e => by cases e⟩
end
end Sx

namespace Sx
open PySem PySem.Spec PyProof.Rows L2
mutual
def D.py : D → PyData
  | .non => .none
  | .bl b => .bool b
  | .int i => .int i
  | .str x => .str x
  | .tup ds => .tuple (pyL ds)
  | .lst ds => .list (pyL ds)
  | .ins _ _ => .none
  | .dic => .none
def pyL : List D → List PyData
  | [] => []
  | d :: ds => D.py d :: pyL ds
end
mutual
/-- None, bools, ints, texts, tuples and lists of such -/
def D.pl : D → Bool
  | .tup ds => plL ds
  | .lst ds => plL ds
  | .ins _ _ => false
  | .dic => false
  | .non => true
  | .bl _ => true
  | .int _ => true
  | .str _ => true
def plL : List D → Bool
  | [] => true
  | d :: ds => D.pl d && plL ds
end
section
variable {K : PySem.W.Frag} {H : Hp}
mutual
theorem Is.dp : ∀ {v : V} {d : D}, Is K H v d → D.pl d = true → Dp K H v (D.py d)
  | _, _, .non, _ => by rw [D.py]; exact .non
  | _, _, .bl b, _ => by rw [D.py]; exact .bl b
  | _, _, .int i, _ => by rw [D.py]; exact .int i
  | _, _, .str x, _ => by rw [D.py]; exact .str x
  | _, _, .tup h hs, p => by rw [D.py]; rw [D.pl] at p; exact .tup h (IsL.dp hs p)
  | _, _, .lst h hs, p => by rw [D.py]; rw [D.pl] at p; exact .lst h (IsL.dp hs p)
  | _, _, .ins _ _, p => by rw [D.pl] at p; cases p
  | _, _, .dic _, p => by rw [D.pl] at p; cases p
theorem IsL.dp : ∀ {vs : List V} {ds : List D}, IsL K H vs ds → plL ds = true → DpAll K H vs (pyL ds)
  | _, _, .nil, _ => by rw [pyL]; exact .nil
  | _, _, .cons h hs, p => by
    rw [plL, Bool.and_eq_true] at p
    rw [pyL]
    exact .cons (Is.dp h p.1) (IsL.dp hs p.2)
end
variable {Q : VK} {x y v : V} {d e : D} {b : Bool} {ds : List D} {i : Int}
theorem r_neD (hx : Is K H x d) (hy : Is K H y e) (p1 : d.pl = true) (p2 : e.pl = true) (s1 : SeqAt.shaped d.py = true) (s2 : SeqAt.shaped e.py = true) (hb : PyData.eqv d.py e.py = b) (h : Q (.bl (!b)) H) : rNeD K x y H Q :=
  ⟨_, _, hx.dp p1, hy.dp p2, s1, s2, by rw [hb]; exact h⟩
theorem r_eqD (hx : Is K H x d) (hy : Is K H y e) (p1 : d.pl = true) (p2 : e.pl = true) (s1 : SeqAt.shaped d.py = true) (s2 : SeqAt.shaped e.py = true) (hb : PyData.eqv d.py e.py = b) (h : Q (.bl b) H) : rEqD K x y H Q :=
  ⟨_, _, hx.dp p1, hy.dp p2, s1, s2, by rw [hb]; exact h⟩
theorem k_ixD (hv : Is K H v (.lst ds)) (h0 : 0 ≤ i) (h1 : i < ds.length) (h : ∀ u d, ds[i.toNat]? = some d → Is K H u d → Q u H) : rIxL K v (.int i) H Q := by
  obtain ⟨j, rfl⟩ : ∃ j : Nat, i = j := ⟨i.toNat, by omega⟩
  cases hv with
  | lst hs hd =>
    have hj : j < ds.length := by omega
    obtain ⟨u, e1, e2⟩ := hd.get (List.getElem?_eq_getElem hj)
    exact ⟨_, _, _, u, rfl, rfl, hs, atI_nat e1, h u _ (by simp [hj]) e2⟩
theorem r_dic {σ : L2.St} (k : ∀ v H2, Same H H2 → Is K H2 v .dic → Q v H2) : tDNewK σ H Q :=
  fun p n => k _ _ (Same.updR (Same.refl _) n) (.dic upd_same)
end
theorem Vals.rev : ∀ {vs : List V} {us : List Value}, Vals vs us → Vals vs.reverse us.reverse
  | _, _, .nil => .nil
  | _, _, .cons r t => by
    rw [List.reverse_cons, List.reverse_cons]
    exact L2.Vals.append (Vals.rev t) (.cons r .nil)
def kMakeK (C : Addr) (n m : Nat) (sp : Sp) (gV : List V → List V → List V) (Q : VK) (E : XK) (vs : List V) : List V → Hp → Prop := fun zs H2 => vs.length = n ∧ zs.length = m ∧
  ∀ x dx, H2 x = none → H2 dx = none → dx ≠ x → sp (gV (.ref x :: vs) zs) (upd (upd H2 dx (.own x)) x (.ins C dx [])) (fun v H3 => v = .non ∧ Q (.ref x) H3) E
theorem r_makeK {C : Addr} {n m : Nat} {sp : Sp} {gV : List V → List V → List V} {E : XK} {t tk : TA} {σ : L2.St} {H : Hp} {Q : VK} (h : t σ H fun vs H1 => tk σ H1 (kMakeK C n m sp gV Q E vs)) : tMakeK C n m sp gV E t tk σ H Q := h
end Sx

namespace Sx
open PySem PySem.Spec PyProof.Rows L2
/-- a law whose defs may raise inside: what a call lets out is told world by world -/
theorem walk_x {law : PySem.W.OpenLaw} {lim lev : Nat} {pq : Program} {names : List Str} {XP : (Str → Option Value) → Heap → Prop} {YP : World → Heap → Prop} {def_ : DefRec} {x : Str}
    (h1 : law.most = some lim) (h2 : lim ≤ sizeLine) (h3 : def_.params.defaults = []) (h4 : Room lev callerA)
    (F : ∀ (w : World) (mg : Str → Option Value) (at_ : Addr) (hp : Heap), YP w hp → hp.Ns mainGlobals mg → mg def_.name = some (.ref at_) → ∃ (K : PySem.W.Frag) (fd : FuncData) (sp : Sp), K.In hp ∧
      (∀ (sh : Shared) (val : Value), BindsTo sh fd ⟨[val], []⟩ [(x, val)]) ∧ (∀ (H : Hp) (li : Addr) (ns : List Int), ns.length ≤ lim → SqL K H li (ns.map V.int) → sp [.ref li] H (fun v _ => v = .bl true) fun _ _ _ => False) ∧
      ∀ b0 : Heap, K.In b0 → b0.Ns mainGlobals mg → FnOk law.prog w K mg b0 (L2.CX law.prog w) lev at_ fd [x] sp) :
    PySem.W.WalkO pq names XP YP law.row.toRowW def_ [] (fun f vs => PySem.call f vs) := by
  refine Att.attach_call h1 h3 fun w _ sh mg _ at_ _ _ _ _ li vals ns gr yp _ _ _ hname hli hvals hlen hgens => ?_
  obtain ⟨K, fd, sp, kin, bnd, hsp, ok⟩ := F w mg at_ _ yp gr.T.g hname
  refine law_call kin gr.T.g gr.T.b gr.T.builtins gr.T.nolimit hgens hli hvals (Nat.le_trans hlen h2) h4 ok bnd (fun H _ sq => hsp H li ns hlen sq) fun H e s' out => ?_
  obtain ⟨_, _, _, _, _, _, _, _, _, _, _, _, no⟩ := out
  exact no
end Sx

namespace Sx
open PySem PySem.Spec PyProof.Rows L2
section
variable {prog : Program} {w : World} {A : Around} {E : Value → Shared → Prop} {s : Shared} {i : Int} {t : Tok} {y : Addr} {o : Obj} {Q : Value → Shared → Prop}
theorem decl_add (hy : s.heap.get? y = some o) (hd : o.data = .plain) (hq : Q .notImplemented s) : wpAny (model prog w) A (call (.builtin "int.__add__") [.int i t, .ref y]) Q E s := by
  refine wpAny_call (codeAny_call_builtin F.slot_int_add.plain F.entry_int_add (F.slot_int_add.check _ _ _ _ _ _ _ _ (typeIs_int s i t) (F.args_int_add_2 _ _) ?_))
  unfold Builtin.«int.__add__» Builtin.Int.intBinary
  repeat wp_step
  rw [hd]
  repeat wp_step
  exact hq
theorem decl_sub (hy : s.heap.get? y = some o) (hd : o.data = .plain) (hq : Q .notImplemented s) : wpAny (model prog w) A (call (.builtin "int.__sub__") [.int i t, .ref y]) Q E s := by
  refine wpAny_call (codeAny_call_builtin F.slot_int_sub.plain F.entry_int_sub (F.slot_int_sub.check _ _ _ _ _ _ _ _ (typeIs_int s i t) (F.args_int_sub_2 _ _) ?_))
  unfold Builtin.«int.__sub__» Builtin.Int.intBinary
  repeat wp_step
  rw [hd]
  repeat wp_step
  exact hq
theorem decl_mul (hy : s.heap.get? y = some o) (hd : o.data = .plain) (hq : Q .notImplemented s) : wpAny (model prog w) A (call (.builtin "int.__mul__") [.int i t, .ref y]) Q E s := by
  refine wpAny_call (codeAny_call_builtin F.slot_int_mul.plain F.entry_int_mul (F.slot_int_mul.check _ _ _ _ _ _ _ _ (typeIs_int s i t) (F.args_int_mul_2 _ _) ?_))
  unfold Builtin.«int.__mul__» Builtin.Int.intBinary
  repeat wp_step
  rw [hd]
  repeat wp_step
  exact hq
variable {K : PySem.W.Frag} {C f f1 : Addr} {od : Option Obj}
/-- an int on the left, an own instance on the right: its reflected method -/
theorem bin_refl {op : Operator} {id : String} (X : K.In s.heap) (I : PySem.W.InstAt s.heap y o C od) (hc : PySem.W.selfFirst K C = true)
    (hs : PySem.W.findIn K (.ref C) (PySem.dunder op.info.2) = some (some (.ref f1))) (hr : PySem.W.findIn K (.ref C) (dunderR op.info.2) = some (some (.ref f))) (hf : PySem.W.isFn K (.ref f) = true) (hsub : PySem.W.kitOne K (.ref C) (.type "int") = some false)
    (hfl : fillsNumberSlot (.type "int") op.info.2 = pure true) (slot : Slot "int" (PySem.dunder op.info.2) id) (decl : ∀ R : Value → Shared → Prop, R .notImplemented s → wpAny (model prog w) A (call (.builtin id) [.int i t, .ref y]) R E s)
    (h : wpAny (model prog w) A (call (.ref f) [.ref y, .int i t]) (PySem.W.CmpBack Q) E s) : wpAny (model prog w) A (binaryOp op (.int i t) (.ref y)) Q E s := by
  obtain ⟨cd, rest, hcd, hm⟩ := PySem.W.ksp_first hc
  rcases hi : op.info with ⟨sym, nm⟩
  rw [hi] at hs hr hfl slot
  dsimp only at hs hr hfl slot
  have one := PySem.W.ksp_try X I hr hf h
  have dec : wpAny (model prog w) A (tryMethod (.int i t) (PySem.dunder nm) (.ref y)) (fun r s' => r = none ∧ s' = s) E s := wpAny_tryMethod_declines (typeIs_int s i t) slot (decl _ ⟨rfl, rfl, rfl⟩)
  have ty2 : PySem.W.Looks (model prog w) s.heap (typeOf (.ref y)) (.ref C) := I.type
  have fl2 : PySem.W.Looks (model prog w) s.heap (fillsNumberSlot (.ref C) nm) true := PySem.W.fills_K X hcd hm hs
  have sb2 : PySem.W.Looks (model prog w) s.heap (isSubtype (.ref C) (.type "int")) false := by
    have e : (Value.ref C == Value.type "int") = false := Bool.eq_false_iff.mpr fun q => by cases beq_iff_eq.mp q
    unfold PySem.W.kitOne at hsub
    rw [e, if_neg Bool.false_ne_true] at hsub
    exact (PySem.W.kit_cls X hsub).2.2
  have hne : (Value.type "int" == Value.ref C) = false := Bool.eq_false_iff.mpr fun q => by cases beq_iff_eq.mp q
  have hpy : numberSlotInPython (.type "int") nm = pure false := rfl
  simp only [binaryOp, hi]
  refine wpAny_holding (wpAny_bind ?_)
  simp only [binaryOp1]
  refine wpAny_bind (wpAny_typeOf (typeIs_int s i t) (wpAny_bind (ty2.here (wpAny_bind (wpAny_of_eq hfl ?_)))))
  simp only [hne, Bool.false_eq_true, if_false]
  refine wpAny_bind (fl2.here ?_)
  simp only [Bool.and_self, if_true]
  refine wpAny_bind (sb2.here ?_)
  simp only [Bool.false_eq_true, if_false, pure_bind, Bool.not_false, Bool.and_self, if_true, hpy]
  refine wpAny_bind (wpAny_mono dec (fun r s' z => ?_) fun _ _ e => e)
  obtain ⟨rfl, rfl⟩ := z
  dsimp only
  refine wpAny_bind (wpAny_mono one (fun r s' z => ?_) fun _ _ e => e)
  obtain ⟨v, rfl, hq⟩ := z
  exact wpAny_bind (wpAny_rule (wpAny_pure (wpAny_pure hq)))
end
/-! ### an operator of own instances and ints -/
theorem subInt {K : PySem.W.Frag} {C : Addr} : PySem.W.subIn K (.type "int") (.ref C) = some false := by
  have e : fastBuiltinMro "int" = some [.type "int", .type "object"] := by decide +kernel
  show (fastBuiltinMro "int").map (·.contains (.ref C)) = some false
  rw [e]
  first
    | rfl
    | simp
/-- what is known of an operator at the ints -/
structure IntO (op : Operator) (id : String) : Prop where
  fl : fillsNumberSlot (.type "int") op.info.2 = pure true
  slot : Slot "int" (PySem.dunder op.info.2) id
  decl : ∀ {prog : Program} {w : World} {A : Around} {E : Value → Shared → Prop} {s : Shared} {i : Int} {t : Tok} {y : Addr} {o : Obj} (R : Value → Shared → Prop), s.heap.get? y = some o → o.data = .plain → R .notImplemented s → wpAny (model prog w) A (call (.builtin id) [.int i t, .ref y]) R E s
  l1 : ∃ fo, ∀ K : PySem.W.Frag, PySem.W.findIn K (.type "int") (PySem.dunder op.info.2) = some fo
  l2 : ∃ ro, ∀ K : PySem.W.Frag, PySem.W.findIn K (.type "int") (dunderR op.info.2) = some ro
theorem into_add : IntO .Add "int.__add__" := ⟨F.fills_int_add, F.slot_int_add, fun _ h1 h2 h3 => decl_add h1 h2 h3, ⟨some (.builtin "int.__add__"), fun _ => by show fastLookup "int" _ = _; kernel_rfl⟩, ⟨some (.builtin "int.__radd__"), fun _ => by show fastLookup "int" _ = _; kernel_rfl⟩⟩
theorem into_sub : IntO .Sub "int.__sub__" := ⟨F.fills_int_sub, F.slot_int_sub, fun _ h1 h2 h3 => decl_sub h1 h2 h3, ⟨some (.builtin "int.__sub__"), fun _ => by show fastLookup "int" _ = _; kernel_rfl⟩, ⟨some (.builtin "int.__rsub__"), fun _ => by show fastLookup "int" _ = _; kernel_rfl⟩⟩
theorem into_mul : IntO .Mult "int.__mul__" := ⟨F.fills_int_mul, F.slot_int_mul, fun _ h1 h2 h3 => decl_mul h1 h2 h3, ⟨some (.builtin "int.__mul__"), fun _ => by show fastLookup "int" _ = _; kernel_rfl⟩, ⟨some (.builtin "int.__rmul__"), fun _ => by show fastLookup "int" _ = _; kernel_rfl⟩⟩
def kOp (r : R2) (C : Addr) (spL spR : Sp) (E : XK) (Q : VK) : V → V → Hp → Prop := fun x y H =>
  ((∃ i j, x = .int i ∧ y = .int j) ∧ r x y H Q) ∨
  (∃ a dx fs, x = .ref a ∧ H a = some (.ins C dx fs) ∧ ((∃ j, y = .int j) ∨ ∃ b dy gs, y = .ref b ∧ H b = some (.ins C dy gs)) ∧ spL [x, y] H Q E) ∨
  (∃ i b dy gs, x = .int i ∧ y = .ref b ∧ H b = some (.ins C dy gs) ∧ spR [y, x] H Q E)
def tOpX (r : R2) (C : Addr) (spL spR : Sp) (W : WX) (ta tb : TE) : TE := fun σ H Q => ta σ H fun x H1 => tb σ H1 fun y H2 => kOp r C spL spR (WE W σ) Q x y H2
theorem back_of {X : Cx} {pins : List (Addr × Obj)} {σ : L2.St} {Q : VK} {u : Value} {s : Shared} (h : EP X pins σ Q u s) : PySem.W.CmpBack (EP X pins σ Q) u s := by
  obtain ⟨v, H, I, r, q⟩ := id h
  cases u <;> first | exact h | (exfalso; cases v <;> first | (obtain ⟨_, z⟩ := r; cases z; done) | (cases r; done))
section
variable {X : Cx} {pins : List (Addr × Obj)} {σ : L2.St} {H : Hp} {s : Shared} {k k' : Nat} {C fL fR : Addr} {spL spR : Sp} {W : WX} {r : R2} {op : Operator} {id : String} {a b : Expr} {ta tb : TE} {pos : Pos} {Q : VK} {x y : V} {u v : Value}
theorem wp_fn {f : Addr} {sp : Sp} {us : List Value} {vs : List V} (F : FnR X.prog X.w X.K X.mg X.base (L2.CX X.prog X.w) k f sp) (hr : Room k X.A) (tk : Takes X W) (I : Inv X pins σ H s) (rv : Vals vs us) (h : sp vs H Q (WE W σ)) :
    wpAny (model X.prog X.w) X.A (call (.ref f) us) (EP X pins σ Q) X.xe s := wpAny_call (run_fnW F hr tk I rv h)
theorem run_opX (o : IntO op id) (hc : PySem.W.selfFirst X.K C = true) (hk : PySem.W.kitOne X.K (.ref C) (.type "int") = some false) (mL : Meth X.K C (PySem.dunder op.info.2) fL) (mR : Meth X.K C (dunderR op.info.2) fR)
    (FL : FnR X.prog X.w X.K X.mg X.base (L2.CX X.prog X.w) k fL spL) (FR : FnR X.prog X.w X.K X.mg X.base (L2.CX X.prog X.w) k' fR spR) (hr : Room k X.A) (hr' : Room k' X.A) (tk : Takes X W) (ho : OpR X (binaryOp op) r)
    (I : Inv X pins σ H s) (rx : RelV x u) (ry : RelV y v) (h : kOp r C spL spR (WE W σ) Q x y H) : wpAny (model X.prog X.w) X.A (binaryOp op u v) (EP X pins σ Q) X.xe s := by
  obtain ⟨m, hF⟩ := I.fr
  rcases h with ⟨⟨i, j, rfl, rfl⟩, h⟩ | ⟨a, dx, fs, rfl, ha, hy, h⟩ | ⟨i, b, dy, gs, rfl, rfl, hb, h⟩
  · exact ho pins s σ H _ _ _ _ Q I rx ry h
  · obtain ⟨mA, J, _⟩ := ins_get I.hok ha
    obtain ⟨od, J, _⟩ := J.look
    have fin := wpAny_mono (wp_fn FL hr tk I (.cons rx (.cons ry .nil)) h) (fun _ _ z => back_of z) fun _ _ z => z
    cases rx
    rcases hy with ⟨j, rfl⟩ | ⟨b, dy, gs, rfl, hb⟩
    · obtain ⟨t, rfl⟩ := ry
      obtain ⟨fo, h1⟩ := o.l1
      obtain ⟨ro, h2⟩ := o.l2
      exact PySem.W.ksp_binT (T := "int") hF I.ok.mod.kin J rfl hc mL.at_ mL.fn mR.at_ (.inr ⟨_, rfl⟩) (h1 _) (h2 _) subInt fin
    · cases ry
      obtain ⟨mB, J2, _⟩ := ins_get I.hok hb
      obtain ⟨od2, J2, _⟩ := J2.look
      exact PySem.W.binop_K hF I.ok.mod.kin J J2.type hc mL.at_ mL.fn fin
  · obtain ⟨mB, J2, _⟩ := ins_get I.hok hb
    have hob := (I.hok b _ hb).2.2.2.1
    obtain ⟨od2, J2, _⟩ := J2.look
    have fin := wpAny_mono (wp_fn FR hr' tk I (.cons ry (.cons rx .nil)) h) (fun _ _ z => back_of z) fun _ _ z => z
    cases ry
    obtain ⟨t, rfl⟩ := rx
    exact bin_refl I.kIn J2 hc mL.at_ mR.at_ mR.fn hk o.fl o.slot (fun R q => o.decl R hob rfl q) fin
theorem pe_opX (o : IntO op id) (hc : PySem.W.selfFirst X.K C = true) (hk : PySem.W.kitOne X.K (.ref C) (.type "int") = some false) (mL : Meth X.K C (PySem.dunder op.info.2) fL) (mR : Meth X.K C (dunderR op.info.2) fR)
    (FL : FnR X.prog X.w X.K X.mg X.base (L2.CX X.prog X.w) k fL spL) (FR : FnR X.prog X.w X.K X.mg X.base (L2.CX X.prog X.w) k' fR spR) (hr : Room k X.A) (hr' : Room k' X.A) (tk : Takes X W) (ho : OpR X (binaryOp op) r) (ha : PE X a ta) (hb : PE X b tb) :
    PE X (.BinOp a op b pos) (tOpX r C spL spR W ta tb) := by
  refine ⟨fun pins s σ H Q I h => ?_⟩
  exact wpAny_BinOp (binT ha hb I h fun v u s2 x y H2 I2 rx ry q => run_opX o hc hk mL mR FL FR hr hr' tk ho I2 rx ry q)
/-! ### -x -/
def kNeg (C : Addr) (sp : Sp) (E : XK) (Q : VK) : VK := fun x H => (∃ i, x = .int i ∧ Q (.int (-i)) H) ∨ ∃ a dx fs, x = .ref a ∧ H a = some (.ins C dx fs) ∧ sp [x] H Q E
def tNegX (C : Addr) (sp : Sp) (W : WX) (ta : TE) : TE := fun σ H Q => ta σ H (kNeg C sp (WE W σ) Q)
theorem pe_negX (m : Meth X.K C "__neg__" fL) (FL : FnR X.prog X.w X.K X.mg X.base (L2.CX X.prog X.w) k fL spL) (hr : Room k X.A) (tk : Takes X W) (ha : PE X a ta) : PE X (.UnaryOp .USub a pos) (tNegX C spL W ta) := by
  refine ⟨fun pins s σ H Q I h => ?_⟩
  refine UnaryOp_ (thn (ha.run pins s σ H _ I h) fun v s1 ⟨x, H1, I1, r1, q1⟩ => ?_)
  rcases q1 with ⟨i, rfl, q⟩ | ⟨z, dx, fs, rfl, hz, q⟩
  · exact un_neg pins s1 σ H1 _ v Q I1 r1 ⟨i, rfl, q⟩
  · obtain ⟨m0, hF⟩ := I1.fr
    obtain ⟨mA, J, _⟩ := ins_get I1.hok hz
    obtain ⟨od, J, _⟩ := J.look
    have fin := wp_fn FL hr tk I1 (.cons r1 .nil) q
    cases r1
    exact PySem.W.ksp_neg hF I1.ok.mod.kin J m.at_ m.fn fin
/-! ### x == y, the class's own -/
def kEq (K : PySem.W.Frag) (C : Addr) (sp : Sp) (E : XK) (Q : VK) : V → V → Hp → Prop := fun x y H =>
  (scal x y = true ∧ Q (.bl (decide (x = y))) H) ∨ ∃ a dx fs ty, x = .ref a ∧ H a = some (.ins C dx fs) ∧ TyX K H y ty ∧ PySem.W.notFirst K C ty = true ∧ sp [x, y] H Q E
def tEqX (K : PySem.W.Frag) (C : Addr) (sp : Sp) (W : WX) (ta tb : TE) : TE := fun σ H Q => ta σ H fun x H1 => tb σ H1 fun y H2 => kEq K C sp (WE W σ) Q x y H2
theorem run_eqX (m : Meth X.K C "__eq__" fL) (FL : FnR X.prog X.w X.K X.mg X.base (L2.CX X.prog X.w) k fL spL) (hr : Room k X.A) (tk : Takes X W) (I : Inv X pins σ H s) (rx : RelV x u) (ry : RelV y v) (h : kEq X.K C spL (WE W σ) Q x y H) :
    wpAny (model X.prog X.w) X.A (compareOp .Eq u v) (EP X pins σ Q) X.xe s := by
  rcases h with ⟨h1, h2⟩ | ⟨z, dx, fs, ty, rfl, hz, hy, hn, q⟩
  · exact op_eq pins s σ H x y u v Q I rx ry ⟨h1, h2⟩
  · obtain ⟨m0, hF⟩ := I.fr
    obtain ⟨mA, J, _⟩ := ins_get I.hok hz
    obtain ⟨od, J, _⟩ := J.look
    obtain ⟨P, kx, pp, _⟩ := kit_of I ry hy
    have fin := wpAny_mono (wp_fn FL hr tk I (.cons rx (.cons ry .nil)) q) (fun _ _ z => back_of z) fun _ _ z => z
    cases rx
    exact PySem.W.cmp_K (op := .Eq) (tb := ty) hr.units0 hF I.ok.mod.kin J (kx.ty _ _ I.kIn pp) hn m.at_ m.fn fin
theorem pe_eqX (m : Meth X.K C "__eq__" fL) (FL : FnR X.prog X.w X.K X.mg X.base (L2.CX X.prog X.w) k fL spL) (hr : Room k X.A) (tk : Takes X W) (ha : PE X a ta) (hb : PE X b tb) : PE X (.Compare a [.Eq] [b] pos) (tEqX X.K C spL W ta tb) := by
  refine ⟨fun pins s σ H Q I h => ?_⟩
  exact wpAny_Compare1 (binT ha hb I h fun v u s2 x y H2 I2 rx ry q => run_eqX m FL hr tk I2 rx ry q) (nomark _)
theorem pt_eqX (m : Meth X.K C "__eq__" fL) (FL : FnR X.prog X.w X.K X.mg X.base (L2.CX X.prog X.w) k fL spL) (hr : Room k X.A) (tk : Takes X W) (ha : PE X a ta) (hb : PE X b tb) : PT X (.Compare a [.Eq] [b] pos) (tTest (tEqX X.K C spL W ta tb)) := by
  refine ⟨fun pins s σ H Q I h => ?_⟩
  refine wpAny_isTrue_Compare1 (thn (ha.run pins s σ H _ I h) fun v s1 ⟨x, H1, I1, r1, q1⟩ => thn (hb.run pins s1 σ H1 _ I1 q1) fun u s2 ⟨y, H2, I2, r2, q2⟩ => ?_) (nomark _)
  refine thn (run_eqX m FL hr tk I2 r1 r2 q2) fun c s3 ⟨z, H3, I3, r3, n, e, q3⟩ => ?_
  subst e
  cases r3
  exact wpAny_truthy_bool ⟨H3, I3, q3⟩
end
/-! ### x op= y without an in-place method: as x op y -/
section
variable {prog : Program} {w : World} {A : Around} {E : Value → Shared → Prop} {s : Shared} {x : Addr} {ox : Obj} {Q : Value → Shared → Prop} {K : PySem.W.Frag} {C f f1 : Addr} {od : Option Obj} {b tb : Value} {nm : String}
theorem bin1_left {op : Operator} {id : String} (o : IntO op id) (X : K.In s.heap) (I : PySem.W.InstAt s.heap x ox C od) (hc : PySem.W.selfFirst K C = true) (hb : PySem.W.Looks (model prog w) s.heap (typeOf b) tb) (htb : tb = .ref C ∨ tb = .type "int")
    (hs : PySem.W.findIn K (.ref C) (PySem.dunder op.info.2) = some (some (.ref f))) (hf : PySem.W.isFn K (.ref f) = true) (hr : PySem.W.findIn K (.ref C) (dunderR op.info.2) = some (some (.ref f1)))
    (h : wpAny (model prog w) A (call (.ref f) [.ref x, b]) (PySem.W.CmpBack Q) E s) : wpAny (model prog w) A (binaryOp1 op.info.2 (.ref x) b) (fun r s' => ∃ v, r = some v ∧ Q v s') E s := by
  obtain ⟨cd, rest, hcd, hm⟩ := PySem.W.ksp_first hc
  have one := PySem.W.ksp_try X I hs hf h
  obtain ⟨fo, h1⟩ := o.l1
  obtain ⟨ro, h2⟩ := o.l2
  have fl := o.fl
  generalize op.info.2 = nm at hs hr h1 h2 one fl ⊢
  have g1 : PySem.W.Looks (model prog w) s.heap (typeOf (.ref x)) (.ref C) := I.type
  have g3 : PySem.W.Looks (model prog w) s.heap (fillsNumberSlot (.ref C) nm) true := PySem.W.fills_K X hcd hm hs
  rcases htb with rfl | rfl
  · unfold binaryOp1
    refine wpAny_bind (g1.here (wpAny_bind (hb.here (wpAny_bind (g3.here ?_)))))
    simp only [beq_self_eq_true, if_true]
    refine wpAny_bind (wpAny_pure ?_)
    simp only [Bool.and_false, Bool.false_eq_true, if_false, Bool.false_and]
    refine wpAny_bind (wpAny_pure ?_)
    simp only [Bool.false_eq_true, if_false]
    refine wpAny_bind (wpAny_mono one (fun r s' z => ?_) fun _ _ e => e)
    obtain ⟨v, rfl, q⟩ := z
    exact wpAny_pure ⟨v, rfl, q⟩
  · have g5 : PySem.W.Looks (model prog w) s.heap (isSubtype (.type "int") (.ref C)) false := PySem.W.looks_subIn X subInt
    have g6 : PySem.W.Looks (model prog w) s.heap (numberSlotInPython (.ref C) nm) true := PySem.W.ksp_inPy X hs hr (.inr ⟨_, rfl⟩)
    have g8 : PySem.W.Looks (model prog w) s.heap (typeLookup (.type "int") (dunderR nm)) ro := PySem.W.looks_findIn X (h2 K)
    have hne : (Value.ref C == Value.type "int") = false := Bool.eq_false_iff.mpr fun q => by cases beq_iff_eq.mp q
    have hpy : numberSlotInPython (.type "int") nm = pure false := rfl
    simp only [binaryOp1]
    refine wpAny_bind (g1.here (wpAny_bind (hb.here (wpAny_bind (g3.here ?_)))))
    simp only [hne, Bool.false_eq_true, if_false]
    refine wpAny_bind (wpAny_of_eq fl ?_)
    simp only [Bool.and_self, if_true]
    refine wpAny_bind (g5.here ?_)
    simp only [Bool.false_eq_true, if_false, pure_bind, Bool.not_false, Bool.and_self, if_true]
    refine wpAny_bind (g6.here ?_)
    simp only [if_true, hpy, pure_bind, Bool.not_false]
    refine wpAny_bind (g8.here ?_)
    refine wpAny_bind (wpAny_mono one (fun r s' z => ?_) fun _ _ e => e)
    obtain ⟨v, rfl, q⟩ := z
    exact wpAny_pure ⟨v, rfl, q⟩
/-- no in-place method anywhere: the class and object alone -/
def NoIp (K : PySem.W.Frag) (C : Addr) (nm : String) : Prop := (∃ cd, PySem.W.clsIn K C = some cd ∧ cd.mro = [.ref C, .type "object"]) ∧ PySem.W.findIn K (.ref C) (dunderI nm) = some none ∧ fastLookup "object" (dunderI nm) = some none
theorem ip_left {op : Operator} (n : NoIp K C op.info.2) (X : K.In s.heap) (I : PySem.W.InstAt s.heap x ox C od) (h : wpAny (model prog w) A (binaryOp1 op.info.2 (.ref x) b) (fun r s' => ∃ v, r = some v ∧ Q v s') E s) : wpAny (model prog w) A (inplaceOp op (.ref x) b) Q E s := by
  obtain ⟨⟨cd, hcd, hm⟩, n1, n2⟩ := n
  have g1 : PySem.W.Looks (model prog w) s.heap (typeOf (.ref x)) (.ref C) := I.type
  have gm : PySem.W.Looks (model prog w) s.heap (mroOf (.ref C)) cd.mro := (PySem.W.looks_clsIn X hcd).andThen (f := fun cd => pure cd.mro) .now
  have gc : PySem.W.Looks (model prog w) s.heap (typeLookup (.ref C) (dunderI op.info.2)) none := PySem.W.looks_findIn X n1
  have go : PySem.W.Looks (model prog w) s.heap (typeLookup (.type "object") (dunderI op.info.2)) none := PySem.W.looks_findIn (K := K) X n2
  unfold inplaceOp
  refine wpAny_holding (wpAny_bind (g1.here ?_))
  refine wpAny_bind ?_
  unfold fillsInplaceSlot
  dsimp only
  refine wpAny_bind (gm.here ?_)
  rw [hm, List.anyM_cons]
  refine wpAny_bind (wpAny_bind (gc.here (wpAny_pure ?_)))
  rw [List.anyM_cons]
  refine wpAny_bind (wpAny_bind (go.here (wpAny_pure ?_)))
  try dsimp only
  refine wpAny_pure ?_
  simp only [Bool.false_eq_true, if_false]
  refine wpAny_bind (wpAny_mono h (fun r s' z => ?_) fun _ _ e => e)
  obtain ⟨v, rfl, q⟩ := z
  exact wpAny_pure q
end
section
variable {X : Cx} {k : Nat} {C fL fR : Addr} {spL : Sp} {E : XK} {op : Operator} {id : String}
def rIpX (C : Addr) (sp : Sp) (E : XK) : TIp := fun x y H Q => ∃ a dx fs, x = .ref a ∧ H a = some (.ins C dx fs) ∧ ((∃ j, y = .int j) ∨ ∃ b dy gs, y = .ref b ∧ H b = some (.ins C dy gs)) ∧ sp [x, y] H Q E
theorem ip_own (o : IntO op id) (n : NoIp X.K C op.info.2) (hc : PySem.W.selfFirst X.K C = true) (mL : Meth X.K C (PySem.dunder op.info.2) fL) (mR : Meth X.K C (dunderR op.info.2) fR) (FL : FnR X.prog X.w X.K X.mg X.base (L2.CX X.prog X.w) k fL spL) (hr : Room k X.A) (tk : Takes X (wx E)) :
    PIp X op (rIpX C spL E) := by
  intro pins s σ H x y u v Q I rx ry h
  obtain ⟨a, dx, fs, rfl, ha, hy, h⟩ := h
  obtain ⟨mA, J, _⟩ := ins_get I.hok ha
  obtain ⟨od, J, _⟩ := J.look
  have fin := wpAny_mono (wp_fn (W := wx E) FL hr tk I (.cons rx (.cons ry .nil)) h) (fun _ _ z => back_of z) fun _ _ z => z
  cases rx
  rcases hy with ⟨j, rfl⟩ | ⟨b, dy, gs, rfl, hb⟩
  · obtain ⟨t, rfl⟩ := ry
    exact ip_left n I.kIn J (bin1_left o I.kIn J hc (PySem.W.Looks.of_pure rfl) (.inr rfl) mL.at_ mL.fn mR.at_ fin)
  · cases ry
    obtain ⟨mB, J2, _⟩ := ins_get I.hok hb
    obtain ⟨od2, J2, _⟩ := J2.look
    exact ip_left n I.kIn J (bin1_left o I.kIn J hc J2.type (.inl rfl) mL.at_ mL.fn mR.at_ fin)
end
theorem dn_add : ("__add__" : Str) = PySem.dunder Operator.Add.info.2 := by kernel_rfl
theorem dr_add : ("__radd__" : Str) = dunderR Operator.Add.info.2 := by kernel_rfl
theorem di_add : ("__iadd__" : Str) = dunderI Operator.Add.info.2 := by kernel_rfl
theorem dn_sub : ("__sub__" : Str) = PySem.dunder Operator.Sub.info.2 := by kernel_rfl
theorem dr_sub : ("__rsub__" : Str) = dunderR Operator.Sub.info.2 := by kernel_rfl
theorem di_sub : ("__isub__" : Str) = dunderI Operator.Sub.info.2 := by kernel_rfl
theorem dn_mul : ("__mul__" : Str) = PySem.dunder Operator.Mult.info.2 := by kernel_rfl
theorem dr_mul : ("__rmul__" : Str) = dunderR Operator.Mult.info.2 := by kernel_rfl
theorem di_mul : ("__imul__" : Str) = dunderI Operator.Mult.info.2 := by kernel_rfl
theorem noip_of {K : PySem.W.Frag} {C : Addr} {m : Str} {nm : String} (e : m = dunderI nm) (c : ∃ cd, PySem.W.clsIn K C = some cd ∧ cd.mro = [.ref C, .type "object"]) (n : NoAttr K C m) (o : fastLookup "object" (dunderI nm) = some none) : NoIp K C nm := ⟨c, e ▸ n, o⟩
section
variable {K : PySem.W.Frag} {H : Hp} {Q : VK} {E : XK} {r : R2} {C : Str} {gs gs' : List (Str × D)} {spL spR sp : Sp} {x y : V} {i j : Int} {σ : L2.St} {W : WX} {ta tb : TE}
theorem r_opX (h : ta σ H fun x H1 => tb σ H1 fun y H2 => kOp r (He.ga K C) spL spR (WE W σ) Q x y H2) : tOpX r (He.ga K C) spL spR W ta tb σ H Q := h
theorem k_opI {C : Addr} (h : r (.int i) (.int j) H Q) : kOp r C spL spR E Q (.int i) (.int j) H := .inl ⟨⟨i, j, rfl, rfl⟩, h⟩
theorem k_opLI (hx : Is K H x (.ins C gs)) (h : spL [x, .int j] H Q E) : kOp r (He.ga K C) spL spR E Q x (.int j) H := by
  cases hx with
  | ins ha _ => exact .inr (.inl ⟨_, _, _, rfl, ha, .inl ⟨j, rfl⟩, h⟩)
theorem k_opLL (hx : Is K H x (.ins C gs)) (hy : Is K H y (.ins C gs')) (h : spL [x, y] H Q E) : kOp r (He.ga K C) spL spR E Q x y H := by
  cases hx with
  | ins ha _ => cases hy with
    | ins hb _ => exact .inr (.inl ⟨_, _, _, rfl, ha, .inr ⟨_, _, _, rfl, hb⟩, h⟩)
theorem k_opR (hy : Is K H y (.ins C gs')) (h : spR [y, .int i] H Q E) : kOp r (He.ga K C) spL spR E Q (.int i) y H := by
  cases hy with
  | ins hb _ => exact .inr (.inr ⟨i, _, _, _, rfl, rfl, hb, h⟩)
theorem r_negX (h : ta σ H (kNeg (He.ga K C) sp (WE W σ) Q)) : tNegX (He.ga K C) sp W ta σ H Q := h
theorem k_negI {C : Addr} (h : Q (.int (-i)) H) : kNeg C sp E Q (.int i) H := .inl ⟨i, rfl, h⟩
theorem k_negL (hx : Is K H x (.ins C gs)) (h : sp [x] H Q E) : kNeg (He.ga K C) sp E Q x H := by
  cases hx with
  | ins ha _ => exact .inr ⟨_, _, _, rfl, ha, h⟩
theorem r_eqX {C : Addr} (h : ta σ H fun x H1 => tb σ H1 fun y H2 => kEq K C sp (WE W σ) Q x y H2) : tEqX K C sp W ta tb σ H Q := h
theorem k_eqI {C : Addr} (h : Q (.bl (decide (V.int i = V.int j))) H) : kEq K C sp E Q (.int i) (.int j) H := .inl ⟨rfl, h⟩
class NF (K : PySem.W.Frag) (C : Str) (t : Tn) : Prop where
  h : PySem.W.notFirst K (He.ga K C) (t.val K) = true
instance : NF K C (.c C) := ⟨by unfold PySem.W.notFirst; simp [Tn.val]⟩
theorem nf_b {n : String} {l : List Value} (e : fastBuiltinMro n = some l) (hl : l.contains (.ref (He.ga K C)) = false) : NF K C (.b n) := ⟨by
  have h : PySem.W.subIn K (.type n) (.ref (He.ga K C)) = some false := by
    show (fastBuiltinMro n).map (·.contains (.ref (He.ga K C))) = some false
    rw [e, Option.map_some, hl]
  show (Value.type n == .ref (He.ga K C) || PySem.W.subIn K (.type n) (.ref (He.ga K C)) == some false) = true
  rw [h, beq_self_eq_true, Bool.or_true]⟩
instance : NF K C (.b "int") := nf_b (l := [.type "int", .type "object"]) (by decide +kernel) rfl
instance : NF K C (.b "str") := nf_b (l := [.type "str", .type "object"]) (by decide +kernel) rfl
instance : NF K C (.b "NoneType") := nf_b (l := [.type "NoneType", .type "object"]) (by decide +kernel) rfl
instance : NF K C (.b "list") := nf_b (l := [.type "list", .type "object"]) (by decide +kernel) rfl
instance : NF K C (.b "tuple") := nf_b (l := [.type "tuple", .type "object"]) (by decide +kernel) rfl
instance : NF K C (.b "bool") := nf_b (l := [.type "bool", .type "int", .type "object"]) (by decide +kernel) rfl
theorem k_eqL {d : D} (hx : Is K H x (.ins C gs)) (hy : Is K H y d) [ok : DOk K d] [n : NF K C d.tn] (h : sp [x, y] H Q E) : kEq K (He.ga K C) sp E Q x y H := by
  have ty := hy.tyx ok
  cases hx with
  | ins ha _ => exact .inr ⟨_, _, _, _, rfl, ha, ty, n.h, h⟩
def kIp (C : Addr) (sp : Sp) (E : XK) : V → V → Hp → VK → Prop := rIpX C sp E
theorem k_ipI (hx : Is K H x (.ins C gs)) (h : sp [x, .int j] H Q E) : rIpX (He.ga K C) sp E x (.int j) H Q := by
  cases hx with
  | ins ha _ => exact ⟨_, _, _, rfl, ha, .inl ⟨j, rfl⟩, h⟩
theorem k_ipL (hx : Is K H x (.ins C gs)) (hy : Is K H y (.ins C gs')) (h : sp [x, y] H Q E) : rIpX (He.ga K C) sp E x y H Q := by
  cases hx with
  | ins ha _ => cases hy with
    | ins hb _ => exact ⟨_, _, _, rfl, ha, .inr ⟨_, _, _, rfl, hb⟩, h⟩
theorem r_aug {i : Nat} {te : TE} {ti : TIp} {D : Ends} {v : V} (e : σ[i]? = some (some v)) (h : te σ H fun y H1 => ti v y H1 fun z H2 => D.nx (σ.set i (some z)) H2) : tAug i te ti D σ H := ⟨v, e, h⟩
end
/-- nothing is promised -/
theorem fnr_false {P : Program} {w : World} {K : PySem.W.Frag} {mg : Str → Option Value} {base : Heap} {CX : CXT} {f : Addr} : FnR P w K mg base CX 0 f (fun _ _ _ _ => False) := fun _ _ _ _ _ _ _ _ _ _ _ h => h.elim
section
end
end Sx

namespace Sx
open PySem PySem.Spec PyProof.Rows L2
theorem seer_of {K : PySem.W.Frag} {h : Heap} {mg : Str → Option Value} (c : (Fx.seer).ok K = true) (X : K.In h) (G : h.Ns mainGlobals mg) (b : ∃ mb, h.Ns builtinsNs mb ∧ ∀ x : Str, x ≠ "__name__" → mb x = bootBuiltins x) : h.NoSeer := by
  obtain ⟨c1, c⟩ := He.ba c
  obtain ⟨c2, c⟩ := He.ba c
  obtain ⟨c3, c⟩ := He.ba c
  obtain ⟨c4, c⟩ := He.ba c
  obtain ⟨c5, c6⟩ := He.ba c
  refine ⟨⟨_, .of_isNs (PySem.W.isNs_of_in X c1), PySem.W.nsMap_none_of_in X c1 (He.eqO_ok c2), PySem.W.nsMap_none_of_in X c1 (He.eqO_ok c3)⟩, ⟨_, .of_isNs (PySem.W.isNs_of_in X c4), PySem.W.nsMap_none_of_in X c4 (He.eqO_ok c5)⟩, b, ?_⟩
  unfold seerB at c6
  split at c6
  · rename_i bm e
    split at c6
    · rename_i o lk
      simp only [Bool.and_eq_true, decide_eq_true_eq] at c6
      exact ⟨mg, bm, o, G, PySem.W.mg_of X G e, X _ _ lk, c6.1, c6.2⟩
    · cases c6
  · cases c6
def CDivP (_ j : Int) : Prop := j ≠ 0
theorem op_fdivP {X : Cx} {e : Env} {l : List Env} (hz : (Fx.seer).ok X.K = true) (hr : Room 32 X.A) (hst : X.stack = e :: l) (hg : e.scope.isGenerator = false) (hco : e.scope.isCoroutine = false) (hb : e.builtins = builtinsNs) (hgl : e.globals = mainGlobals) (ht : X.prog.given.tree = none) :
    OpR X (binaryOp .FloorDiv) (rI CDivP fun i j => .int (i.fdiv j)) := by
  intro pins s σ H x y u v Q I rx ry h
  obtain ⟨i, j, rfl, rfl, hc, q⟩ := h
  obtain ⟨t1, rfl⟩ := rx
  obtain ⟨t2, rfl⟩ := ry
  have bl : ∃ mb, s.heap.Ns builtinsNs mb ∧ ∀ x : Str, x ≠ "__name__" → mb x = bootBuiltins x := by
    obtain ⟨mb, h1, h2⟩ := I.ok.mod.blt
    exact ⟨mb, h1.keepsP I.bk, h2⟩
  have ns := seer_of hz I.kIn (I.ok.mod.glob.keepsP I.bk) bl
  refine floordiv_int hc ⟨.int _, H, I.tok _, ⟨_, rfl⟩, q⟩ (.inr (PylongRoom.of (I.ok.mod.nolimit.keeps I.bk) ?_ (SeerAt.of (env := e) (l := l) ns ht (by rw [I.ok.frames, hst]) hg hco hb hgl)))
  have := hr.dp
  have e1 : Builtin.pylongFrames = 100 := rfl
  omega
end Sx

namespace Sx
open PySem PySem.Spec PyProof.Rows L2
/-- X(), an own exception class without own __init__ -/
theorem pmk_none {X : Cx} {x n : Str} {p pos : Pos} (o : OexC X.K (He.ga X.K n)) (q : (Fx.noi n).ok X.K = true) (hg : Gl X x) (gC : X.mg x = some (.ref (He.ga X.K n))) (hdb : (x == ("__debug__" : Str)) = false := by decide) :
    PMk X (.Call (.Name x p) [] [] pos) (fun _ H Q => Q (.ref (He.ga X.K n)) none H) := by
  intro pins s σ H Q I h
  refine wpAny_Call_Name_kw (ld_glob I hg gC ?_ hdb)
  refine PySem.W.callWith_K0 I.kIn o.kC ?_
  show wpAny _ _ (call (.ref (He.ga X.K n)) []) _ _ _
  obtain ⟨bm, N, nm, qn, bs, hdct, sn, sub, ab, col, dd, k0, k1, k2, k3, k5, mN, hC, hN, hni, T⟩ := exc_obj I.kIn q
  refine wpAny_call_exc_subT F.excBase_ValueError T hC hN hni (fun h' e hm => ?_) (Nat.zero_le _)
  exact mk_of I hm (raises_own o.exC o.tyC) h (I.hok.gone hm.new)
end Sx

namespace Gq
open PySem PySem.SeqAt
open AutoSeq1 (wpAny_loadPart')
open MeetsSeq MeetsSeq2 MeetsSeq3 SeqRoads2
section
variable {prog : Program} {w : World} {A : Around} {R : Result → Shared → Prop}
/-- at each turn the two lists are read anew: N and N2 items; I goes on, J: two items differ -/
def ListT (prog : Program) (w : World) (A : Around) (E : Value → Shared → Prop) (l b : Addr) (N N2 : Nat) (I : Nat → Shared → Prop) (J : Shared → Prop) : Prop :=
  (∀ i s, I i s → ∃ (items items2 : Array Value) (n n2 : Nat) (dd dd2 : Option Addr) (sl sl2 : Array (Option Value)), s.heap.get? l = some { cls := .type "list", dict := dd, data := .seq items n, slots := sl } ∧ s.heap.get? b = some { cls := .type "list", dict := dd2, data := .seq items2 n2, slots := sl2 } ∧ items.size = N ∧ items2.size = N2 ∧
    ∀ (h1 : i < items.size) (h2 : i < items2.size), wpAny (model prog w) A.in1 (eqBool items[i] items2[i]) (fun r s' => if r = true then I (i + 1) s' else J s') E s) ∧
  ∀ s, J s → ∃ (items items2 : Array Value) (n n2 : Nat) (dd dd2 : Option Addr) (sl sl2 : Array (Option Value)), s.heap.get? l = some { cls := .type "list", dict := dd, data := .seq items n, slots := sl } ∧ s.heap.get? b = some { cls := .type "list", dict := dd2, data := .seq items2 n2, slots := sl2 } ∧ items.size = N ∧ items2.size = N2

/-- Eq over lists: at each turn the two lists are read anew -/
theorem eq_loopT (l b : Addr) (N : Nat) (I : Nat → Shared → Prop) (J : Shared → Prop) (hl : ListT prog w A (fun e s' => R (.error e) s') l b N N I J)
    (fin : ∀ s, I N s → R (.ok (.ret (.bool true))) s) (out : ∀ s, J s → R (.ok (.ret (.bool false))) s) (k : Nat) :
    ∀ i : Nat, N - i = k → i ≤ N → ∀ s, I i s →
      wpAny (model prog w) A.in1 (Builtin.«list.__eq__.loop» ⟨[.ref l, .ref b, rawInt i, rawInt 2], []⟩) (GQ.FinOf prog w A R) (fun e s' => R (.error e) s') s := by
  induction k with
  | zero =>
    intro i hk hi s h
    obtain ⟨items, items2, n, n2, dd, dd2, sl, sl2, hl1, hb1, hs1, hs2, _⟩ := hl.1 _ _ h
    have hi' : i = N := by omega
    have hR : R (.ok (.ret (.bool true))) s := fin s (hi' ▸ h)
    obtain ⟨hp, g, d, tk, os⟩ := s
    wp_walk using wpAny_loadPart' hl1, wpAny_loadPart' hb1
    have hi1 : items[((i : Nat) : Int).toNat]? = none := by simp; omega
    have hi2 : items2[((i : Nat) : Int).toNat]? = none := by simp; omega
    rw [hi1, hi2]
    wp_walk using wpAny_loadPart' hl1, wpAny_loadPart' hb1
    show R (.ok (.ret (.bool (items.size == items2.size)))) _
    rw [hs1, hs2]
    simpa using hR
  | succ k ih =>
    intro i hk hi s h
    obtain ⟨items, items2, n, n2, dd, dd2, sl, sl2, hl1, hb1, hs1, hs2, turn⟩ := hl.1 _ _ h
    have hlt : i < items.size := by omega
    have hlt2 : i < items2.size := by omega
    have ht := turn hlt hlt2
    obtain ⟨hp, g, d, tk, os⟩ := s
    wp_walk using wpAny_loadPart' hl1, wpAny_loadPart' hb1
    have hi1 : items[((i : Nat) : Int).toNat]? = some items[i] := by simp [hlt]
    have hi2 : items2[((i : Nat) : Int).toNat]? = some items2[i] := by simp [hlt2]
    have hc : ((i : Int) + 1) = ((i + 1 : Nat) : Int) := by omega
    rw [hi1, hi2]
    refine wpAny_bind (wpAny_mono ht (fun r s2 h2 => ?_) fun _ _ x => x)
    cases r with
    | true =>
      have h2 : I (i + 1) s2 := h2
      have hrec := ih (i + 1) (by omega) (by omega) s2 h2
      obtain ⟨hp2, g2, d2, tk2, os2⟩ := s2
      wp_walk
      rw [hc]
      exact ⟨plainId_quiet plain_eq_loop _, codeAny_builtin entry_eq_loop (by
        rw [Around.under_plainId plain_eq_loop _]
        exact hrec)⟩
    | false =>
      have h2 : J s2 := h2
      have hR := out s2 h2
      obtain ⟨jt, jt2, m, m2, ed, ed2, tl, tl2, hl2, hb2, hz1, hz2⟩ := hl.2 s2 h2
      obtain ⟨hp2, g2, d2, tk2, os2⟩ := s2
      have hj1 : jt[((i : Nat) : Int).toNat]? = some (jt[i]'(by omega)) := by simp
      have hj2 : jt2[((i : Nat) : Int).toNat]? = some (jt2[i]'(by omega)) := by simp
      wp_walk using wpAny_loadPart' hl2, wpAny_loadPart' hb2
      rw [hj1, hj2]
      wp_walk
      simpa using hR
theorem list_eqT (l b : Addr) (N N2 : Nat) (I : Nat → Shared → Prop) (J : Shared → Prop) (hl : ListT prog w A (fun e s' => R (.error e) s') l b N N2 I J)
    (fin : N = N2 → ∀ s, I N s → R (.ok (.ret (.bool true))) s) (out : ∀ s, J s → R (.ok (.ret (.bool false))) s) {s : Shared} (h : I 0 s) (off : N ≠ N2 → R (.ok (.ret (.bool false))) s) :
    wpAny (model prog w) A.in1 (Builtin.«list.__eq__» ⟨[.ref l, .ref b], []⟩) (GQ.FinOf prog w A R) (fun e s' => R (.error e) s') s := by
  obtain ⟨items, items2, n, n2, dd, dd2, sl, sl2, hl1, hb1, hs1, hs2, _⟩ := hl.1 _ _ h
  have f3 := AutoSeq1.sub_list_list
  by_cases e : N = N2
  · subst e
    have hrec := eq_loopT (A := A) (R := R) l b N I J hl (fin rfl) out _ 0 rfl (Nat.zero_le _) s h
    obtain ⟨hp, g, d, tk, os⟩ := s
    have hne : ¬ (items.size != items2.size) = true := by simp [hs1, hs2]
    wp_walk using wpAny_loadPart' hl1, wpAny_loadPart' hb1
    exact ⟨plainId_quiet plain_eq_loop _, codeAny_builtin entry_eq_loop (by
      rw [Around.under_plainId plain_eq_loop _]
      exact hrec)⟩
  · have hR := off e
    obtain ⟨hp, g, d, tk, os⟩ := s
    have hc0 : (items.size != items2.size) = true := by simp [hs1, hs2, e]
    wp_walk using wpAny_loadPart' hl1, wpAny_loadPart' hb1
    first | exact hR | exact ⟨_, rfl, hR⟩
theorem tuple_eqT (l b : Addr) (items items2 : Array Value) (n n2 : Nat) (dd dd2 : Option Addr) (sl sl2 : Array (Option Value)) (I : Nat → Shared → Prop) (J : Shared → Prop)
    (turn : ∀ i (h1 : i < items.size) (h2 : i < items2.size) s, I i s → wpAny (model prog w) A.in1 (eqBool items[i] items2[i]) (fun r s' => if r = true then I (i + 1) s' else J s') (fun e s' => R (.error e) s') s)
    (fin : ∀ s, I (min items.size items2.size) s → R (.ok (.ret (.bool (items.size == items2.size)))) s) (out : ∀ s, J s → R (.ok (.ret (.bool false))) s) {s : Shared} (hl1 : s.heap.get? l = some { cls := .type "tuple", dict := dd, data := .seq items n, slots := sl }) (hb1 : s.heap.get? b = some { cls := .type "tuple", dict := dd2, data := .seq items2 n2, slots := sl2 }) (h : I 0 s) :
    wpAny (model prog w) A.in1 (Builtin.«tuple.__eq__» ⟨[.ref l, .ref b], []⟩) (GQ.FinOf prog w A R) (fun e s' => R (.error e) s') s := by
  have f2 := AutoSeq1.sub_tuple_tuple
  have hZ : (items.toList.zip items2.toList).length = min items.size items2.size := by simp
  have h0 := h
  obtain ⟨hp, g, d, tk, os⟩ := s
  wp_walk using wpAny_loadPart' hl1, wpAny_loadPart' hb1, wpAny_forIn_list _ (fun rest b s' => b.1 = none ∧ ∃ i, rest = (items.toList.zip items2.toList).drop i ∧ i ≤ min items.size items2.size ∧ I i s') _
  case turn =>
    rintro ⟨y, x⟩ rest b s' ⟨hb', i, hz, hi, hI⟩
    have hlt : i < (items.toList.zip items2.toList).length := by
      rcases Nat.lt_or_ge i (items.toList.zip items2.toList).length with h' | h'
      · exact h'
      · rw [List.drop_of_length_le h'] at hz; cases hz
    have hm : i < min items.size items2.size := hZ ▸ hlt
    have h1 : i < items.size := Nat.lt_of_lt_of_le hm (Nat.min_le_left _ _)
    have h2 : i < items2.size := Nat.lt_of_lt_of_le hm (Nat.min_le_right _ _)
    rw [List.drop_eq_getElem_cons hlt] at hz
    injection hz with hyx hrest
    have hy : y = items[i] := by have := congrArg Prod.fst hyx; simpa using this
    have hx : x = items2[i] := by have := congrArg Prod.snd hyx; simpa using this
    subst hy hx
    refine wpAny_bind (wpAny_mono (turn i h1 h2 s' hI) (fun r s2 q2 => ?_) fun _ _ x => x)
    cases r with
    | true =>
      have q2 : I (i + 1) s2 := q2
      wp_walk
      exact ⟨rfl, i + 1, hrest, hm, q2⟩
    | false =>
      have q2 : J s2 := q2
      have hR := out s2 q2
      wp_walk
      first | exact hR | exact ⟨_, rfl, by simpa using hR⟩
  case fin =>
    rintro ⟨b1, b2⟩ s' ⟨hb', i, hz, hi, hI⟩
    simp only at hb'
    subst hb'
    have hge : min items.size items2.size ≤ i := by
      rcases Nat.lt_or_ge i (items.toList.zip items2.toList).length with h' | h'
      · rw [List.drop_eq_getElem_cons h'] at hz; cases hz
      · exact hZ ▸ h'
    have hi' : i = min items.size items2.size := by omega
    have hR := fin s' (hi' ▸ hI)
    wp_walk
    simpa [Builtin.Tuple.tupleCompareSizes] using hR
  case h =>
    exact ⟨rfl, 0, rfl, Nat.zero_le _, h0⟩


/-- NotEq over lists: at each turn the two lists are read anew -/
theorem ne_loopT (l b : Addr) (N : Nat) (I : Nat → Shared → Prop) (J : Shared → Prop) (hl : ListT prog w A (fun e s' => R (.error e) s') l b N N I J)
    (fin : ∀ s, I N s → R (.ok (.ret (.bool false))) s) (out : ∀ s, J s → R (.ok (.ret (.bool true))) s) (k : Nat) :
    ∀ i : Nat, N - i = k → i ≤ N → ∀ s, I i s →
      wpAny (model prog w) A.in1 (Builtin.«list.__eq__.loop» ⟨[.ref l, .ref b, rawInt i, rawInt 3], []⟩) (GQ.FinOf prog w A R) (fun e s' => R (.error e) s') s := by
  induction k with
  | zero =>
    intro i hk hi s h
    obtain ⟨items, items2, n, n2, dd, dd2, sl, sl2, hl1, hb1, hs1, hs2, _⟩ := hl.1 _ _ h
    have hi' : i = N := by omega
    have hR : R (.ok (.ret (.bool false))) s := fin s (hi' ▸ h)
    obtain ⟨hp, g, d, tk, os⟩ := s
    wp_walk using wpAny_loadPart' hl1, wpAny_loadPart' hb1
    have hi1 : items[((i : Nat) : Int).toNat]? = none := by simp; omega
    have hi2 : items2[((i : Nat) : Int).toNat]? = none := by simp; omega
    rw [hi1, hi2]
    wp_walk using wpAny_loadPart' hl1, wpAny_loadPart' hb1
    show R (.ok (.ret (.bool (items.size != items2.size)))) _
    rw [hs1, hs2]
    simpa using hR
  | succ k ih =>
    intro i hk hi s h
    obtain ⟨items, items2, n, n2, dd, dd2, sl, sl2, hl1, hb1, hs1, hs2, turn⟩ := hl.1 _ _ h
    have hlt : i < items.size := by omega
    have hlt2 : i < items2.size := by omega
    have ht := turn hlt hlt2
    obtain ⟨hp, g, d, tk, os⟩ := s
    wp_walk using wpAny_loadPart' hl1, wpAny_loadPart' hb1
    have hi1 : items[((i : Nat) : Int).toNat]? = some items[i] := by simp [hlt]
    have hi2 : items2[((i : Nat) : Int).toNat]? = some items2[i] := by simp [hlt2]
    have hc : ((i : Int) + 1) = ((i + 1 : Nat) : Int) := by omega
    rw [hi1, hi2]
    refine wpAny_bind (wpAny_mono ht (fun r s2 h2 => ?_) fun _ _ x => x)
    cases r with
    | true =>
      have h2 : I (i + 1) s2 := h2
      have hrec := ih (i + 1) (by omega) (by omega) s2 h2
      obtain ⟨hp2, g2, d2, tk2, os2⟩ := s2
      wp_walk
      rw [hc]
      exact ⟨plainId_quiet plain_eq_loop _, codeAny_builtin entry_eq_loop (by
        rw [Around.under_plainId plain_eq_loop _]
        exact hrec)⟩
    | false =>
      have h2 : J s2 := h2
      have hR := out s2 h2
      obtain ⟨jt, jt2, m, m2, ed, ed2, tl, tl2, hl2, hb2, hz1, hz2⟩ := hl.2 s2 h2
      obtain ⟨hp2, g2, d2, tk2, os2⟩ := s2
      have hj1 : jt[((i : Nat) : Int).toNat]? = some (jt[i]'(by omega)) := by simp
      have hj2 : jt2[((i : Nat) : Int).toNat]? = some (jt2[i]'(by omega)) := by simp
      wp_walk using wpAny_loadPart' hl2, wpAny_loadPart' hb2
      rw [hj1, hj2]
      wp_walk
      simpa using hR
theorem list_neT (l b : Addr) (N N2 : Nat) (I : Nat → Shared → Prop) (J : Shared → Prop) (hl : ListT prog w A (fun e s' => R (.error e) s') l b N N2 I J)
    (fin : N = N2 → ∀ s, I N s → R (.ok (.ret (.bool false))) s) (out : ∀ s, J s → R (.ok (.ret (.bool true))) s) {s : Shared} (h : I 0 s) (off : N ≠ N2 → R (.ok (.ret (.bool true))) s) :
    wpAny (model prog w) A.in1 (Builtin.«list.__ne__» ⟨[.ref l, .ref b], []⟩) (GQ.FinOf prog w A R) (fun e s' => R (.error e) s') s := by
  obtain ⟨items, items2, n, n2, dd, dd2, sl, sl2, hl1, hb1, hs1, hs2, _⟩ := hl.1 _ _ h
  have f3 := AutoSeq1.sub_list_list
  by_cases e : N = N2
  · subst e
    have hrec := ne_loopT (A := A) (R := R) l b N I J hl (fin rfl) out _ 0 rfl (Nat.zero_le _) s h
    obtain ⟨hp, g, d, tk, os⟩ := s
    have hne : ¬ (items.size != items2.size) = true := by simp [hs1, hs2]
    wp_walk using wpAny_loadPart' hl1, wpAny_loadPart' hb1
    exact ⟨plainId_quiet plain_eq_loop _, codeAny_builtin entry_eq_loop (by
      rw [Around.under_plainId plain_eq_loop _]
      exact hrec)⟩
  · have hR := off e
    obtain ⟨hp, g, d, tk, os⟩ := s
    have hc0 : (items.size != items2.size) = true := by simp [hs1, hs2, e]
    wp_walk using wpAny_loadPart' hl1, wpAny_loadPart' hb1
    first | exact hR | exact ⟨_, rfl, hR⟩
theorem tuple_neT (l b : Addr) (items items2 : Array Value) (n n2 : Nat) (dd dd2 : Option Addr) (sl sl2 : Array (Option Value)) (I : Nat → Shared → Prop) (J : Shared → Prop)
    (turn : ∀ i (h1 : i < items.size) (h2 : i < items2.size) s, I i s → wpAny (model prog w) A.in1 (eqBool items[i] items2[i]) (fun r s' => if r = true then I (i + 1) s' else J s') (fun e s' => R (.error e) s') s)
    (fin : ∀ s, I (min items.size items2.size) s → R (.ok (.ret (.bool (items.size != items2.size)))) s) (out : ∀ s, J s → R (.ok (.ret (.bool true))) s) {s : Shared} (hl1 : s.heap.get? l = some { cls := .type "tuple", dict := dd, data := .seq items n, slots := sl }) (hb1 : s.heap.get? b = some { cls := .type "tuple", dict := dd2, data := .seq items2 n2, slots := sl2 }) (h : I 0 s) :
    wpAny (model prog w) A.in1 (Builtin.«tuple.__ne__» ⟨[.ref l, .ref b], []⟩) (GQ.FinOf prog w A R) (fun e s' => R (.error e) s') s := by
  have f2 := AutoSeq1.sub_tuple_tuple
  have hZ : (items.toList.zip items2.toList).length = min items.size items2.size := by simp
  have h0 := h
  obtain ⟨hp, g, d, tk, os⟩ := s
  wp_walk using wpAny_loadPart' hl1, wpAny_loadPart' hb1, wpAny_forIn_list _ (fun rest b s' => b.1 = none ∧ ∃ i, rest = (items.toList.zip items2.toList).drop i ∧ i ≤ min items.size items2.size ∧ I i s') _
  case turn =>
    rintro ⟨y, x⟩ rest b s' ⟨hb', i, hz, hi, hI⟩
    have hlt : i < (items.toList.zip items2.toList).length := by
      rcases Nat.lt_or_ge i (items.toList.zip items2.toList).length with h' | h'
      · exact h'
      · rw [List.drop_of_length_le h'] at hz; cases hz
    have hm : i < min items.size items2.size := hZ ▸ hlt
    have h1 : i < items.size := Nat.lt_of_lt_of_le hm (Nat.min_le_left _ _)
    have h2 : i < items2.size := Nat.lt_of_lt_of_le hm (Nat.min_le_right _ _)
    rw [List.drop_eq_getElem_cons hlt] at hz
    injection hz with hyx hrest
    have hy : y = items[i] := by have := congrArg Prod.fst hyx; simpa using this
    have hx : x = items2[i] := by have := congrArg Prod.snd hyx; simpa using this
    subst hy hx
    refine wpAny_bind (wpAny_mono (turn i h1 h2 s' hI) (fun r s2 q2 => ?_) fun _ _ x => x)
    cases r with
    | true =>
      have q2 : I (i + 1) s2 := q2
      wp_walk
      exact ⟨rfl, i + 1, hrest, hm, q2⟩
    | false =>
      have q2 : J s2 := q2
      have hR := out s2 q2
      wp_walk
      first | exact hR | exact ⟨_, rfl, by simpa using hR⟩
  case fin =>
    rintro ⟨b1, b2⟩ s' ⟨hb', i, hz, hi, hI⟩
    simp only at hb'
    subst hb'
    have hge : min items.size items2.size ≤ i := by
      rcases Nat.lt_or_ge i (items.toList.zip items2.toList).length with h' | h'
      · rw [List.drop_eq_getElem_cons h'] at hz; cases hz
      · exact hZ ▸ h'
    have hi' : i = min items.size items2.size := by omega
    have hR := fin s' (hi' ▸ hI)
    wp_walk
    simpa [Builtin.Tuple.tupleCompareSizes] using hR
  case h =>
    exact ⟨rfl, 0, rfl, Nat.zero_le _, h0⟩

end
section
variable {prog : Program} {w : World} {A : Around} {E : Value → Shared → Prop} {s : Shared}

theorem rc_list_eqT {l b : Addr} {N N2 : Nat} {Q : Value → Shared → Prop} (hu : A.units < cLine) (I : Nat → Shared → Prop) (J : Shared → Prop) (hl : ListT prog w A E l b N N2 I J)
    (fin : N = N2 → ∀ s, I N s → Q (.bool true) s) (out : ∀ s, J s → Q (.bool false) s) (h : I 0 s) (off : N ≠ N2 → Q (.bool false) s) : wpAny (model prog w) A (richCompare .Eq (.ref l) (.ref b)) Q E s := by
  obtain ⟨items, items2, n, n2, dd, dd2, sl, sl2, hl1, hb1, _, _, _⟩ := hl.1 _ _ h
  refine wpAny_richCompare_same_room (op := .Eq) ⟨_, hl1, rfl⟩ ⟨_, hb1, rfl⟩ F.slot_list_eq (GQ.call_here F.slot_list_eq ⟨_, hl1, rfl⟩ F.entry_list_eq (F.args_list_eq_2 _ _) ?_) hu
  exact list_eqT (R := wants (fun v s' => v ≠ .notImplemented ∧ Q v s') E) l b N N2 I J hl (fun e s' q => ⟨(fun x => nomatch x), fin e s' q⟩) (fun s' q => ⟨(fun x => nomatch x), out s' q⟩) h (fun e => ⟨(fun x => nomatch x), off e⟩)
theorem rc_tup_eqT {l b : Addr} {items items2 : Array Value} {Q : Value → Shared → Prop} (hu : A.units < cLine) (I : Nat → Shared → Prop) (J : Shared → Prop)
    (hl : s.heap.IsTuple l items) (hb : s.heap.IsTuple b items2)
    (turn : ∀ i (h1 : i < items.size) (h2 : i < items2.size) s, I i s → wpAny (model prog w) A.in1 (eqBool items[i] items2[i]) (fun r s' => if r = true then I (i + 1) s' else J s') E s)
    (fin : ∀ s, I (min items.size items2.size) s → Q (.bool (items.size == items2.size)) s) (out : ∀ s, J s → Q (.bool false) s) (h : I 0 s) : wpAny (model prog w) A (richCompare .Eq (.ref l) (.ref b)) Q E s := by
  obtain ⟨⟨cls, dd, data, sl⟩, ho, hc, n, hd⟩ := id hl
  obtain ⟨⟨cls2, dd2, data2, sl2⟩, ho2, hc2, n2, hd2⟩ := id hb
  simp only at hc hd hc2 hd2
  subst hc hd hc2 hd2
  refine wpAny_richCompare_same_room (op := .Eq) ⟨_, ho, rfl⟩ ⟨_, ho2, rfl⟩ F.slot_tuple_eq (GQ.call_here F.slot_tuple_eq ⟨_, ho, rfl⟩ F.entry_tuple_eq (F.args_tuple_eq_2 _ _) ?_) hu
  exact tuple_eqT (R := wants (fun v s' => v ≠ .notImplemented ∧ Q v s') E) l b items items2 n n2 dd dd2 sl sl2 I J turn (fun s' q => ⟨(fun x => nomatch x), fin s' q⟩) (fun s' q => ⟨(fun x => nomatch x), out s' q⟩) ho ho2 h


theorem rc_list_neT {l b : Addr} {N N2 : Nat} {Q : Value → Shared → Prop} (hu : A.units < cLine) (I : Nat → Shared → Prop) (J : Shared → Prop) (hl : ListT prog w A E l b N N2 I J)
    (fin : N = N2 → ∀ s, I N s → Q (.bool false) s) (out : ∀ s, J s → Q (.bool true) s) (h : I 0 s) (off : N ≠ N2 → Q (.bool true) s) : wpAny (model prog w) A (richCompare .NotEq (.ref l) (.ref b)) Q E s := by
  obtain ⟨items, items2, n, n2, dd, dd2, sl, sl2, hl1, hb1, _, _, _⟩ := hl.1 _ _ h
  refine wpAny_richCompare_same_room (op := .NotEq) ⟨_, hl1, rfl⟩ ⟨_, hb1, rfl⟩ F.slot_list_ne (GQ.call_here F.slot_list_ne ⟨_, hl1, rfl⟩ F.entry_list_ne (F.args_list_ne_2 _ _) ?_) hu
  exact list_neT (R := wants (fun v s' => v ≠ .notImplemented ∧ Q v s') E) l b N N2 I J hl (fun e s' q => ⟨(fun x => nomatch x), fin e s' q⟩) (fun s' q => ⟨(fun x => nomatch x), out s' q⟩) h (fun e => ⟨(fun x => nomatch x), off e⟩)
theorem rc_tup_neT {l b : Addr} {items items2 : Array Value} {Q : Value → Shared → Prop} (hu : A.units < cLine) (I : Nat → Shared → Prop) (J : Shared → Prop)
    (hl : s.heap.IsTuple l items) (hb : s.heap.IsTuple b items2)
    (turn : ∀ i (h1 : i < items.size) (h2 : i < items2.size) s, I i s → wpAny (model prog w) A.in1 (eqBool items[i] items2[i]) (fun r s' => if r = true then I (i + 1) s' else J s') E s)
    (fin : ∀ s, I (min items.size items2.size) s → Q (.bool (items.size != items2.size)) s) (out : ∀ s, J s → Q (.bool true) s) (h : I 0 s) : wpAny (model prog w) A (richCompare .NotEq (.ref l) (.ref b)) Q E s := by
  obtain ⟨⟨cls, dd, data, sl⟩, ho, hc, n, hd⟩ := id hl
  obtain ⟨⟨cls2, dd2, data2, sl2⟩, ho2, hc2, n2, hd2⟩ := id hb
  simp only at hc hd hc2 hd2
  subst hc hd hc2 hd2
  refine wpAny_richCompare_same_room (op := .NotEq) ⟨_, ho, rfl⟩ ⟨_, ho2, rfl⟩ F.slot_tuple_ne (GQ.call_here F.slot_tuple_ne ⟨_, ho, rfl⟩ F.entry_tuple_ne (F.args_tuple_ne_2 _ _) ?_) hu
  exact tuple_neT (R := wants (fun v s' => v ≠ .notImplemented ∧ Q v s') E) l b items items2 n n2 dd dd2 sl sl2 I J turn (fun s' q => ⟨(fun x => nomatch x), fin s' q⟩) (fun s' q => ⟨(fun x => nomatch x), out s' q⟩) ho ho2 h

end
end Gq

namespace Gq
open PySem PySem.W PySem.Calls PyProof.Rows
section
variable {prog : Program} {w : World} {A : Around} {E : Value → Shared → Prop} {s : Shared} {K : Frag} {x C L f : Addr} {h₀ : Heap} {m : Str → Option Value} {ox : Obj} {od : Option Obj} {name : Str} {b tb : Value}
theorem ifBound_B {M : Model} {id : String} {args : List Value} {Q : Option Value → Shared → Prop} (X : K.In s.heap) (I : InstAt s.heap x ox C od) (hs : findIn K (.ref C) name = some (some (.builtin id))) (hf : ∀ self, bindSpecial (.builtin id) self = pure (.builtin id, [self]))
    (h : wpAny M A (call (.builtin id) (.ref x :: args)) (fun v => Q (some v)) E s) : wpAny M A (callSpecialIfBound? (.ref x) name args) Q E s := by
  simp only [callSpecialIfBound?, bindSpecialIfBound?]
  refine wpAny_holding (wpAny_bind (wpAny_bind (wpAny_bind (I.type.here ((looks_findIn X hs).here ?_)))))
  simp only [hf]
  refine wpAny_bind (wpAny_askSetting (wpAny_ite ?_))
  have fin : wpAny M A (call (.builtin id) ([.ref x] ++ args) >>= fun v => pure (some v)) Q E s := wpAny_bind (wpAny_mono h (fun v s' h' => wpAny_pure h') fun _ _ h' => h')
  split
  · exact wpAny_bind (wpAny_pure (wpAny_pure fin))
  · exact wpAny_tryCatch (wpAny_bind (wpAny_pure (wpAny_pure fin)))
theorem objNe_K {Q : Fin → Shared → Prop} (X : K.In s.heap) (I : InstAt s.heap x ox C od) (he : findIn K (.ref C) "__eq__" = some (some (.ref f))) (hf : isFn K (.ref f) = true) (hu : A.units < cLine)
    (hcall : wpAny (model prog w) A (call (.ref f) [.ref x, b]) (fun v s' => ∃ r, v = .bool r ∧ Q (.done (.ret (.bool (!r)))) s') E s) :
    wpAny (model prog w) A (Builtin.«object.__ne__» ⟨[.ref x, b], []⟩) Q E s := by
  unfold Builtin.«object.__ne__»
  obtain ⟨hp, g, d, tk, os⟩ := s
  repeat (first
    | with_reducible refine wpAny_cRoomFor hu ?_
    | (refine wpAny_bind (m := callSpecialIfBound? (.ref x) (Str.ofString "__eq__") [b])
        (ifBound_K X I he hf (wpAny_mono hcall (fun r s' hr => by
          obtain ⟨b, rfl, hq⟩ := hr
          repeat (first | exact hq | exact wpAny_pure hq | exact wpAny_truthy_bool hq | (refine wpAny_bind (m := truthy (.bool _)) (wpAny_truthy_bool ?_)) | wp_step)) fun _ _ e => e)))
    | wp_step)
theorem check_K {M : Model} {id owner n : String} {rest : List Value} {Q : Unit → Shared → Prop} (X : K.In s.heap) (I : InstAt s.heap x ox C od) (hk : builtinKind id = some .slot) (hs : splitId id = some (owner, n))
    (ha : argsOk id ⟨.ref x :: rest, []⟩) (hm : mroIn K C (.type owner) = some true) (hq : Q () s) :
    wpAny M A (checkBuiltinCall id ⟨.ref x :: rest, []⟩) Q E s := by
  simp only [checkBuiltinCall, hk, hs]
  refine wpAny_bind ?_
  unfold isInstance
  refine wpAny_bind (I.type.here ((looks_mroIn X hm).here ?_))
  cases hsig : Manifest.signature? id with
  | none => exact wpAny_pure hq
  | some sig =>
    simp only [argsOk, hsig] at ha
    have h2 : Bind.checkArgs id sig ⟨.ref x :: rest, []⟩ = pure () := ha
    show wpAny M A (Bind.checkArgs id sig ⟨.ref x :: rest, []⟩) Q E _
    rw [h2]; exact wpAny_pure hq
theorem ne_K {Q : Value → Shared → Prop} (hu : A.units + 1 < cLine) (F0 : Fr h₀ L s.heap m) (X₀ : K.In h₀) (I : InstAt s.heap x ox C od) (hb : Looks (model prog w) s.heap (typeOf b) tb) (hn : notFirst K C tb = true)
    (hs : findIn K (.ref C) "__ne__" = some (some (.builtin "object.__ne__"))) (he : findIn K (.ref C) "__eq__" = some (some (.ref f))) (hf : isFn K (.ref f) = true) (hm : mroIn K C (.type "object") = some true)
    (h : wpAny (model prog w) A.in1 (call (.ref f) [.ref x, b]) (fun v s' => ∃ r, v = .bool r ∧ Q (.bool (!r)) s') E s) : wpAny (model prog w) A (richCompare .NotEq (.ref x) b) Q E s := by
  have X := X₀.keeps F0.keep
  have one : wpAny (model prog w) A (tryCompare (.ref x) (cmpInfo .NotEq).2.1 b) (fun r s' => ∃ v, r = some v ∧ Q v s') E s := by
    unfold tryCompare
    refine wpAny_bind (ifBound_B (id := "object.__ne__") X I hs PySem.F.slot_object_ne.bind (wpAny_call (codeAny_call_builtin PySem.F.slot_object_ne.plain F.cmpEntry_ne (check_K X I F.cmpKind_ne F.cmpSplit_ne (F.cmpArgs_ne _ _) hm
      (objNe_K (A := A.in1) X I he hf hu (wpAny_mono h (fun v s' hv => ?_) fun _ _ e => e))))))
    obtain ⟨r, rfl, hq⟩ := hv
    first | exact ⟨r, rfl, wpAny_pure ⟨_, rfl, hq⟩⟩ | exact ⟨r, rfl, ⟨_, rfl, hq⟩⟩
  unfold richCompare
  simp only [oneThing_ref]
  refine wpAny_holding (wpAny_bind (wpAny_cRoomFor (Nat.lt_of_succ_lt hu) ?_))
  refine wpAny_bind (I.type.here (wpAny_bind (hb.here ?_)))
  split
  · rename_i q
    have e : subIn K tb (.ref C) = some false := by
      rcases Bool.or_eq_true_iff.mp hn with e | e
      · rw [beq_iff_eq.mp e] at q; simp at q
      · exact beq_iff_eq.mp e
    refine wpAny_bind ((looks_subIn X e).here ?_)
    simp only [Bool.false_eq_true, if_false]
    refine wpAny_bind (wpAny_mono one (fun r s' z => ?_) fun _ _ e => e)
    obtain ⟨v, rfl, hq⟩ := z
    exact wpAny_pure hq
  · refine wpAny_bind (wpAny_pure ?_)
    simp only [Bool.false_eq_true, if_false]
    refine wpAny_bind (wpAny_mono one (fun r s' z => ?_) fun _ _ e => e)
    obtain ⟨v, rfl, hq⟩ := z
    exact wpAny_pure hq
end
end Gq

namespace Sx
open PySem PySem.Spec PyProof.Rows L2
/-! ### keywords -/
/-- a def called with n positions and the keywords ks -/
def FnKw (P : Program) (w : World) (K : PySem.W.Frag) (mg : Str → Option Value) (base : Heap) (k : Nat) (f : Addr) (n : Nat) (ks : List Str) (gV : List V → List V → List V) (sp : Sp) : Prop :=
  ∀ (A : Around) (outer : List Env) (s : Shared) (H : Hp) (us ws : List Value) (vs zs : List V) (Q : VK) (E : XK), Room k A → Env0 P w K mg base A outer s H → Vals vs us → Vals zs ws → vs.length = n → zs.length = ks.length → sp (gV vs zs) H Q E →
    codeAny (model P w) A (.call (.ref f) ⟨us, ks.zip ws⟩) (CR (L2.CX P w) outer P w H s Q E) s
theorem FnKw.of {P : Program} {w : World} {K : PySem.W.Frag} {mg : Str → Option Value} {base : Heap} {k n : Nat} {f : Addr} {fd : FuncData} {ps ks : List Str} {sp : Sp} {g : List Value → List Value → List Value} {gV : List V → List V → List V}
    (F : FnOk P w K mg base (L2.CX P w) k f fd ps sp) (hb : KBn K fd ps n ks g gV) : FnKw P w K mg base k f n ks gV sp := fun A outer s H us ws vs zs Q E hr e0 r rz l1 l2 h =>
  F.run A outer s H ⟨us, ks.zip ws⟩ (g us ws) (gV vs zs) Q E hr e0 (hb.to s us ws (e0.mod.kin.keeps fun a o q => (e0.bs a o q).1) (r.length.symm.trans l1) (rz.length.symm.trans l2)) (hb.rel r rz) h
theorem FnKw.frame {P : Program} {w : World} {K : PySem.W.Frag} {mg : Str → Option Value} {base : Heap} {k n : Nat} {ks : List Str} {gV : List V → List V → List V} {f : Addr} {sp : Sp} (R : FnKw P w K mg base k f n ks gV sp) : FnKw P w K mg base k f n ks gV (Fr sp) := by
  intro A outer s H us ws vs zs Q E hr e0 r rz l1 l2 h
  obtain ⟨G, F, rfl, fk, h⟩ := h
  have at_ : ∀ a o, F a = some o → ∃ u, s.heap.get? a = some u := fun a o q => by
    have z := e0.hok a o (join_f q)
    have fo := (fk a o q).2
    cases o with
    | lst xs => obtain ⟨z, its, n, r, e⟩ := z; exact ⟨_, e⟩
    | dK kvs => obtain ⟨z, y, vs, r, ob, es, ep, e, c⟩ := z; exact ⟨_, e⟩
    | xd fs => obtain ⟨mA, ⟨od, es, ep, e, c⟩, r⟩ := z; exact ⟨_, e⟩
    | ins C dx fs => obtain ⟨d, z, ne, e, mA, ⟨od, es, ep, e2, c⟩, r⟩ := z; exact ⟨_, e⟩
    | own y => exact z
    | _ => exact fo.elim
  have nf : ∀ a o, F a = some o → a ∉ frs outer := fun a o q hm => by
    have := e0.frf a hm
    rw [join_f q] at this
    cases this
  have e1 : Env0 P w K mg base A outer s G := ⟨e0.frames, e0.mod, fun b o q => ⟨(e0.bs b o q).1, (frame_none (Z := G) fk (e0.bs b o q).2).2⟩, e0.bsz, e0.funs, fun b hb => (frame_none (Z := G) fk (e0.frf b hb)).2, frame_hok fk e0.hok, e0.bare⟩
  refine codeAny_mono (R A outer s G us ws vs zs _ _ hr e1 r rz l1 l2 h) fun res s' hq => ?_
  cases res with
  | error e =>
    obtain ⟨a, B, G2, cls, d, rfl, fl, ok, ub, na, os, ag, q⟩ := hq
    have n2 : ∀ b o, F b = some o → G2 b = none := fun b o z => by
      obtain ⟨u, hu⟩ := at_ b o z
      exact ub.free b u hu (fk b o z).1
    have k2 : FrOk G2 F := fun b o z => ⟨n2 b o z, (fk b o z).2⟩
    have kp : ∀ b o, F b = some o → ∀ u, s.heap.get? b = some u → B.get? b = some u := fun b o z u hu => ub.keep b u hu (fk b o z).1 (nf b o z)
    refine ⟨a, B, join G2 F, cls, d, rfl, fl, frame_back fk n2 e0.hok ok kp, frame_ub fk k2 ub, ?_, os, ag, q k2⟩
    have fa : F a = none := by
      cases z : F a with
      | none => rfl
      | some o =>
        obtain ⟨u, hu⟩ := at_ a o z
        have := kp a o z u hu
        rw [fl.2.1] at this
        cases this
    rw [join_g fa]
    exact na
  | ok fl =>
    cases fl with
    | ret u =>
      obtain ⟨v, G2, os, ag, un, ok, rv, q⟩ := hq
      have n2 : ∀ b o, F b = some o → G2 b = none := fun b o z => by
        obtain ⟨u, hu⟩ := at_ b o z
        exact un.free b u hu (fk b o z).1 (by simp)
      have k2 : FrOk G2 F := fun b o z => ⟨n2 b o z, (fk b o z).2⟩
      have kp : ∀ b o, F b = some o → ∀ u, s.heap.get? b = some u → s'.heap.get? b = some u := fun b o z u hu => un.keep b u hu (fk b o z).1 (nf b o z) (by simp)
      exact ⟨v, join G2 F, os, ag, frame_un fk k2 un, frame_back fk n2 e0.hok ok kp, rv, q k2⟩
    | next => exact False.elim hq
    | brk => exact False.elim hq
    | cont => exact False.elim hq
section
variable {X : Cx} {k n : Nat} {f C : Addr} {ks : List Str} {sp : Sp} {W : WX} {x : Str} {p pos : Pos} {e : Expr} {es : List Expr} {kws : List Keyword} {t tk : TA} {gV : List V → List V → List V}
def tMakeKw (C : Addr) (n m : Nat) (sp : Sp) (gV : List V → List V → List V) (W : WX) (t tk : TA) : TE := fun σ H Q => t σ H fun vs H1 => tk σ H1 fun zs H2 => vs.length = n ∧ zs.length = m ∧ ∀ x dx, H2 x = none → H2 dx = none → dx ≠ x →
  sp (gV (.ref x :: vs) zs) (upd (upd H2 dx (.own x)) x (.ins C dx [])) (fun v H3 => v = .non ∧ Q (.ref x) H3) (WE W σ)
theorem run_makeKw {pins : List (Addr × Obj)} {σ : L2.St} {H : Hp} {s : Shared} {Q : VK} {us ws : List Value} {vs zs : List V} (M : Mk X.K C f) (F : FnKw X.prog X.w X.K X.mg X.base k f (n + 1) ks gV sp) (hr : Room (k + 1) X.A) (tk : Takes X W)
    (I : Inv X pins σ H s) (r : Vals vs us) (rz : Vals zs ws) (l1 : vs.length = n) (l2 : zs.length = ks.length)
    (h : ∀ x dx, H x = none → H dx = none → dx ≠ x → sp (gV (.ref x :: vs) zs) (upd (upd H dx (.own x)) x (.ins C dx [])) (fun v H2 => v = .non ∧ Q (.ref x) H2) (WE W σ)) :
    wpAny (model X.prog X.w) X.A (call (.ref C) us (ks.zip ws)) (EP X pins σ Q) X.xe s := by
  have hq := h (s.heap.objs.size + 1) s.heap.objs.size (I.hok.fresh (Nat.le_succ _)) (I.hok.fresh (Nat.le_refl _)) (Nat.ne_of_lt (Nat.lt_succ_self _))
  have I2 := Inv.made (C := C) I
  have r1 : Vals (V.ref (s.heap.objs.size + 1) :: vs) (Value.ref (s.heap.objs.size + 1) :: us) := .cons rfl r
  refine wpAny_call (make_map (f := f) I.kIn M.makes M.init (beq_iff_eq.mp M.fn) (codeAny_mono (F _ X.stack _ _ (Value.ref (s.heap.objs.size + 1) :: us) ws _ _ _ (WE W σ) (hr.make C us (ks.zip ws))
    (I2.env0.make C us (ks.zip ws)) r1 rz (by rw [List.length_cons, l1]) l2 hq) fun r s' hq' => ?_))
  cases r with
  | error e => exact passAt tk σ pins _ _ e s' I2 hq'
  | ok fl =>
    cases fl with
    | ret u =>
      obtain ⟨v, H', I3, rv, ev, q3⟩ := I2.after hq'
      subst ev
      exact ⟨rv, ⟨V.ref (s.heap.objs.size + 1), H', I3, rfl, q3⟩⟩
    | next => exact False.elim hq'
    | brk => exact False.elim hq'
    | cont => exact False.elim hq'
/-- C(k = v, ..) -/
theorem pe_mkKw0 (M : Mk X.K C f) (F : FnKw X.prog X.w X.K X.mg X.base k f 1 ks gV sp) (hr : Room (k + 1) X.A) (hg : Gl X x) (hm : X.mg x = some (.ref C)) (tk' : Takes X W) (hkw : PK X kws tk)
    (hall : (backToKw pos (keywordEach kws X.env)).all (·.1.isSome) = true := by rfl) (hks : (backToKw pos (keywordEach kws X.env)).filterMap (·.1) = ks := by rfl) (hdb : (x == ("__debug__" : Str)) = false := by decide)
    (hpl : ((backTo pos (starEach [] X.env)).any (·.1) || (backToKw pos (keywordEach kws X.env)).any (·.1.isNone)) = false := by rfl) :
    PE X (.Call (.Name x p) [] kws pos) (tMakeKw C 0 ks.length sp gV W tNil tk) := by
  refine ⟨fun pins s σ H Q I h => ?_⟩
  refine wpAny_Call_Name_kw (ld_glob I hg hm ?_ hdb)
  refine PySem.W.callWith_KW0 (h₀ := X.base) I.ok.mod.kin M.kp hall ?_ hpl
  refine thn (hkw.run pos pins s σ H _ I h) fun ws s2 ⟨zs, H2, I2, rz, l1, l2, q2⟩ => ⟨I2.kIn, ?_⟩
  rw [hks]
  exact run_makeKw (us := []) (vs := []) M F hr tk' I2 .nil rz rfl l2 q2
end
end Sx

namespace Mi
open PySem PySem.Spec PyProof.Rows L2
open Sx (Tn Fx btys unmix)
/-! ### data -/
inductive D where
  | non | bl (b : Bool) | int (i : Int) | str (x : Str) | tup (ds : List D) | lst (ds : List D) | ins (C : Str) (fs : List (Str × D)) | dic
instance : Inhabited D := ⟨.non⟩
abbrev D.tn : D → Tn
  | .non => .b "NoneType"
  | .bl _ => .b "bool"
  | .int _ => .b "int"
  | .str _ => .b "str"
  | .tup _ => .b "tuple"
  | .lst _ => .b "list"
  | .ins C _ => .c C
  | .dic => .b "dict"
structure ClsF (K : PySem.W.Frag) (l : List Str) (C : Str) : Prop where
  cl : Cls K (He.ga K C)
  ty : (Fx.tyi C).ok K = true
  sf : PySem.W.selfFirst K (He.ga K C) = true
  kb : ∀ n ∈ btys, PySem.W.kitOne K (.ref (He.ga K C)) (.type n) = some false
  bk : ∀ n ∈ btys, PySem.W.kitOne K (.type n) (.ref (He.ga K C)) = some false
  ko : ∀ c ∈ l, PySem.W.kitOne K (.ref (He.ga K C)) (.ref (He.ga K c)) = some (decide (C = c))
  nf : ∀ c ∈ l, PySem.W.notFirst K (He.ga K C) (.ref (He.ga K c)) = true
/-- the classes of the text -/
class Rows (K : PySem.W.Frag) where
  cls : List Str
  ok : ∀ C ∈ cls, ClsF K cls C
  exs : List Str
  xok : ∀ C ∈ exs, ∀ Y ∈ exs, PySem.W.exmOne K (.ref (He.ga K C)) (.ref (He.ga K Y)) = some (Sx.xsub C Y)
theorem rowsX_ok {K : PySem.W.Frag} {l : List Str} (c : (Fx.rowsX l).ok K = true) : ∀ C ∈ l, ∀ Y ∈ l, PySem.W.exmOne K (.ref (He.ga K C)) (.ref (He.ga K Y)) = some (Sx.xsub C Y) := fun C hC Y hY =>
  He.exm_ok (List.all_eq_true.mp (List.all_eq_true.mp c C hC) Y hY)
theorem rows_ok {K : PySem.W.Frag} {l : List Str} (c : (Fx.rows l).ok K = true) : ∀ C ∈ l, ClsF K l C := fun C hC => by
  have c := List.all_eq_true.mp c C hC
  obtain ⟨c1, c⟩ := He.ba c
  obtain ⟨c2, c⟩ := He.ba c
  obtain ⟨c3, c⟩ := He.ba c
  obtain ⟨c4, c5⟩ := He.ba c
  refine ⟨He.cls_ok c1, c2, c3, fun n hn => ?_, fun n hn => ?_, fun y hy => ?_, fun y hy => ?_⟩
  · exact of_decide_eq_true (He.ba (List.all_eq_true.mp c4 n hn)).1
  · exact of_decide_eq_true (He.ba (List.all_eq_true.mp c4 n hn)).2
  · exact of_decide_eq_true (He.ba (List.all_eq_true.mp c5 y hy)).1
  · exact (He.ba (List.all_eq_true.mp c5 y hy)).2
section
variable (K : PySem.W.Frag) [Rows K] (H : Hp)
mutual
/-- the value v is, in the heap H, the data d -/
inductive Is : V → D → Prop where
  | non : Is .non .non
  | bl (b : Bool) : Is (.bl b) (.bl b)
  | int (i : Int) : Is (.int i) (.int i)
  | str (x : Str) : Is (.str x) (.str x)
  | tup {a : Addr} {xs : List V} {ds : List D} (h : SqT K H a xs) (hs : IsL xs ds) : Is (.ref a) (.tup ds)
  | lst {a : Addr} {xs : List V} {ds : List D} (h : SqL K H a xs) (hs : IsL xs ds) : Is (.ref a) (.lst ds)
  | ins {a dx : Addr} {C : Str} {fs : List (Str × V)} {gs : List (Str × D)} (hc : C ∈ Rows.cls K) (hn : ∀ p ∈ gs, NoAttr K (He.ga K C) p.1) (h : H a = some (.ins (He.ga K C) dx fs)) (hs : IsF fs gs) : Is (.ref a) (.ins C gs)
  | dic {a : Addr} (h : H a = some (.dK [])) : Is (.ref a) .dic
inductive IsL : List V → List D → Prop where
  | nil : IsL [] []
  | cons {v : V} {d : D} {vs : List V} {ds : List D} (h : Is v d) (hs : IsL vs ds) : IsL (v :: vs) (d :: ds)
inductive IsF : List (Str × V) → List (Str × D) → Prop where
  | nil : IsF [] []
  | cons {f : Str} {v : V} {d : D} {fs : List (Str × V)} {gs : List (Str × D)} (h : Is v d) (hs : IsF fs gs) : IsF ((f, v) :: fs) ((f, d) :: gs)
end
end
section
variable {K : PySem.W.Frag} [Rows K] {H H' : Hp}
mutual
theorem Is.mono (e : Same H H') : ∀ {v : V} {d : D}, Is K H v d → Is K H' v d
  | _, _, .non => .non
  | _, _, .bl b => .bl b
  | _, _, .int i => .int i
  | _, _, .str x => .str x
  | _, _, .tup h hs => .tup (Sx.Same.seqT e h) (IsL.mono e hs)
  | _, _, .lst h hs => .lst (Same.seq e h) (IsL.mono e hs)
  | _, _, .ins hc hn h hs => .ins hc hn (e _ _ h) (IsF.mono e hs)
  | _, _, .dic h => .dic (e _ _ h)
theorem IsL.mono (e : Same H H') : ∀ {vs : List V} {ds : List D}, IsL K H vs ds → IsL K H' vs ds
  | _, _, .nil => .nil
  | _, _, .cons h hs => .cons (Is.mono e h) (IsL.mono e hs)
theorem IsF.mono (e : Same H H') : ∀ {fs : List (Str × V)} {gs : List (Str × D)}, IsF K H fs gs → IsF K H' fs gs
  | _, _, .nil => .nil
  | _, _, .cons h hs => .cons (Is.mono e h) (IsF.mono e hs)
end
theorem IsL.length : ∀ {vs : List V} {ds : List D}, IsL K H vs ds → vs.length = ds.length
  | _, _, .nil => rfl
  | _, _, .cons _ hs => congrArg Nat.succ hs.length
theorem IsF.length : ∀ {vs : List (Str × V)} {ds : List (Str × D)}, IsF K H vs ds → vs.length = ds.length
  | _, _, .nil => rfl
  | _, _, .cons _ hs => congrArg Nat.succ hs.length
theorem IsL.get : ∀ {vs : List V} {ds : List D} {i : Nat} {d : D}, IsL K H vs ds → ds[i]? = some d → ∃ v, vs[i]? = some v ∧ Is K H v d
  | _, _, _, _, .nil, e => by simp at e
  | _, _, 0, _, .cons h _, e => by simp at e; subst e; exact ⟨_, rfl, h⟩
  | _, _, i + 1, d, .cons _ hs, e => by
    obtain ⟨v, h1, h2⟩ := IsL.get (i := i) (d := d) hs (by simpa using e)
    exact ⟨v, by simpa using h1, h2⟩
theorem IsL.getV : ∀ {vs : List V} {ds : List D} {i : Nat} {v : V}, IsL K H vs ds → vs[i]? = some v → ∃ d, ds[i]? = some d ∧ Is K H v d
  | _, _, _, _, .nil, e => by simp at e
  | _, _, 0, _, .cons h _, e => by simp at e; subst e; exact ⟨_, rfl, h⟩
  | _, _, i + 1, v, .cons _ hs, e => by
    obtain ⟨d, h1, h2⟩ := IsL.getV (i := i) (v := v) hs (by simpa using e)
    exact ⟨d, by simpa using h1, h2⟩
theorem IsL.append : ∀ {vs ws : List V} {ds es : List D}, IsL K H vs ds → IsL K H ws es → IsL K H (vs ++ ws) (ds ++ es)
  | _, _, _, _, .nil, s => s
  | _, _, _, _, .cons h hs, s => .cons h (IsL.append hs s)
theorem IsL.snoc {vs : List V} {ds : List D} {v : V} {d : D} (hs : IsL K H vs ds) (h : Is K H v d) : IsL K H (vs ++ [v]) (ds ++ [d]) := hs.append (.cons h .nil)
theorem IsL.take : ∀ {vs : List V} {ds : List D} (n : Nat), IsL K H vs ds → IsL K H (vs.take n) (ds.take n)
  | _, _, 0, _ => .nil
  | _, _, _ + 1, .nil => .nil
  | _, _, n + 1, .cons h hs => .cons h (IsL.take n hs)
theorem IsL.drop : ∀ {vs : List V} {ds : List D} (n : Nat), IsL K H vs ds → IsL K H (vs.drop n) (ds.drop n)
  | _, _, 0, r => r
  | _, _, _ + 1, .nil => .nil
  | _, _, n + 1, .cons _ hs => IsL.drop n hs
theorem IsL.set {v : V} {d : D} (h : Is K H v d) : ∀ {vs : List V} {ds : List D} (n : Nat), IsL K H vs ds → IsL K H (vs.set n v) (ds.set n d)
  | _, _, _, .nil => .nil
  | _, _, 0, .cons _ hs => .cons h hs
  | _, _, n + 1, .cons q hs => .cons q (IsL.set h n hs)
theorem IsL.rev : ∀ {vs : List V} {ds : List D}, IsL K H vs ds → IsL K H vs.reverse ds.reverse
  | _, _, .nil => .nil
  | _, _, .cons h hs => by
    rw [List.reverse_cons, List.reverse_cons]
    exact (IsL.rev hs).append (.cons h .nil)
theorem IsL.ints : ∀ (ns : List Int), IsL K H (ns.map V.int) (ns.map D.int)
  | [] => .nil
  | n :: ns => .cons (.int n) (IsL.ints ns)
theorem IsF.look : ∀ {fs : List (Str × V)} {gs : List (Str × D)} {f : Str} {d : D}, IsF K H fs gs → gs.lookup f = some d → ∃ v, fs.lookup f = some v ∧ Is K H v d
  | _, _, _, _, .nil, e => by cases e
  | _, _, f, d, .cons (f := g) h hs, e => by
    by_cases q : f = g
    · subst q
      simp [List.lookup] at e ⊢
      subst e
      exact h
    · have q' : (f == g) = false := by simpa using q
      simp only [List.lookup, q'] at e ⊢
      exact IsF.look hs e
theorem IsF.none : ∀ {fs : List (Str × V)} {gs : List (Str × D)} {f : Str}, IsF K H fs gs → gs.lookup f = none → fs.lookup f = none
  | _, _, _, .nil, _ => rfl
  | _, _, f, .cons (f := g) h hs, e => by
    by_cases q : f = g
    · subst q
      simp [List.lookup] at e
    · have q' : (f == g) = false := by simpa using q
      simp only [List.lookup, q'] at e ⊢
      exact IsF.none hs e
/-- a field put -/
def putD (f : Str) (d : D) : List (Str × D) → List (Str × D)
  | [] => [(f, d)]
  | (g, e) :: r => if g = f then (g, d) :: r else (g, e) :: putD f d r
theorem Is.int_eq {v : V} {i : Int} (h : Is K H v (.int i)) : v = .int i := by cases h; rfl
theorem Is.str_eq {v : V} {i : Str} (h : Is K H v (.str i)) : v = .str i := by cases h; rfl
theorem Is.bl_eq {v : V} {i : Bool} (h : Is K H v (.bl i)) : v = .bl i := by cases h; rfl
theorem Is.non_eq {v : V} (h : Is K H v .non) : v = .non := by cases h; rfl
/-! ### kinds -/
def isub : Tn → Tn → Bool
  | .b n, .b m => n == m || (n == "bool" && m == "int")
  | .c x, .c y => decide (x = y)
  | _, _ => false
theorem kit_bb : ∀ n ∈ btys, ∀ m ∈ btys, kitB n m = some (isub (.b n) (.b m)) := by decide +kernel
/-- a class that may be asked for -/
def Tgt (K : PySem.W.Frag) [Rows K] : Tn → Prop
  | .b n => n ∈ btys
  | .c x => x ∈ Rows.cls K
theorem Is.kit {v : V} {d : D} {c : Tn} (h : Is K H v d) (t : Tgt K c) : PySem.W.kitOne K (d.tn.val K) (c.val K) = some (isub d.tn c) := by
  have bb : ∀ n ∈ btys, PySem.W.kitOne K (.type n) (c.val K) = some (isub (.b n) c) := fun n hn => by
    cases c with
    | b m => exact kit_ty (kit_bb n hn m t)
    | c x => exact (Rows.ok x t).bk n hn
  cases h with
  | non => exact bb _ (by decide)
  | bl b => exact bb _ (by decide)
  | int b => exact bb _ (by decide)
  | str b => exact bb _ (by decide)
  | tup _ _ => exact bb _ (by decide)
  | lst _ _ => exact bb _ (by decide)
  | dic _ => exact bb _ (by decide)
  | ins hc hn h hs =>
    cases c with
    | b m => exact (Rows.ok _ hc).kb m t
    | c x => exact (Rows.ok _ hc).ko x t
theorem Is.tyx {v : V} {d : D} (h : Is K H v d) : TyX K H v (d.tn.val K) := by
  cases h with
  | non => exact .base .non
  | bl b => exact .base (.bl b)
  | int i => exact .base (.int i)
  | str x => exact .base (.str x)
  | tup h hs =>
    rcases h with (h | ⟨o, h⟩) | ⟨o, its, n, h1, h2, _⟩
    · exact .base (.tup h)
    · exact .fTuple h
    · exact .kTuple h1 h2
  | lst h hs =>
    rcases h with (h | ⟨o, h⟩) | ⟨o, its, n, h1, h2, _⟩
    · exact .base (.lst h)
    · exact .base (.frz h)
    · exact .kList h1 h2
  | ins hc hn h hs =>
    have c := Rows.ok _ hc
    obtain ⟨h1, h2, h3, h4⟩ := Sx.tyi_ok c.ty
    exact .base (.ins h c.cl h1 h2 h3 h4)
  | dic h => exact .base (.dK h)
end
end Mi

namespace Mi
open PySem PySem.Spec PyProof.Rows L2
open Sx (Tn Fx btys FrOk Fr FO join join_f join_g)
/-! ### cells: objects that are owned -/
inductive Cell where
  | ls (ys : List V) | is (C : Str) (dx : Addr) (fs : List (Str × V))
abbrev Cells := List (Addr × Cell)
def put1 (K : PySem.W.Frag) (G : Hp) (p : Addr) : Cell → Hp
  | .ls ys => upd G p (.lst ys)
  | .is C dx fs => upd (upd G dx (.own p)) p (.ins (He.ga K C) dx fs)
def ad1 : Addr × Cell → List Addr
  | (p, .ls _) => [p]
  | (p, .is _ dx _) => [p, dx]
def upds (K : PySem.W.Frag) (G : Hp) : Cells → Hp
  | [] => G
  | (p, c) :: L => put1 K (upds K G L) p c
def ads (L : Cells) : List Addr := L.flatMap ad1
structure Frs (G : Hp) (L : Cells) : Prop where
  nd : (ads L).Nodup
  no : ∀ a ∈ ads L, G a = none
section
variable {K : PySem.W.Frag} {G G' H : Hp} {L L1 L2 : Cells} {p q a : Addr} {c : Cell} {o : HO}
theorem ads_cons : ads ((p, c) :: L) = ad1 (p, c) ++ ads L := rfl
theorem ads_app : ads (L1 ++ L2) = ads L1 ++ ads L2 := by unfold ads; rw [List.flatMap_append]
theorem put1_off (h : a ∉ ad1 (p, c)) : put1 K G p c a = G a := by
  cases c with
  | ls ys => exact upd_ne (by simpa [ad1] using h)
  | is C dx fs =>
    have h' : a ≠ p ∧ a ≠ dx := by simpa [ad1] using h
    simp only [put1]
    rw [upd_ne h'.1, upd_ne h'.2]
theorem put1_on (h : a ∈ ad1 (p, c)) : put1 K G p c a = put1 K G' p c a ∧ put1 K G p c a ≠ none := by
  cases c with
  | ls ys =>
    have : a = p := by simpa [ad1] using h
    subst this
    simp only [put1]
    rw [upd_same, upd_same]
    exact ⟨rfl, by simp⟩
  | is C dx fs =>
    have : a = p ∨ a = dx := by simpa [ad1] using h
    simp only [put1]
    by_cases e : a = p
    · subst e
      rw [upd_same, upd_same]
      exact ⟨rfl, by simp⟩
    · have e2 : a = dx := this.resolve_left e
      subst e2
      rw [upd_ne e, upd_ne e, upd_same, upd_same]
      exact ⟨rfl, by simp⟩
theorem upds_off : ∀ {L : Cells}, a ∉ ads L → upds K G L a = G a
  | [], _ => rfl
  | (p, c) :: L, h => by
    rw [ads_cons, List.mem_append] at h
    unfold upds
    rw [put1_off fun z => h (.inl z)]
    exact upds_off fun z => h (.inr z)
theorem upds_on : ∀ {L : Cells}, a ∈ ads L → upds K G L a = upds K G' L a ∧ upds K G L a ≠ none
  | [], h => by cases h
  | (p, c) :: L, h => by
    unfold upds
    by_cases z : a ∈ ad1 (p, c)
    · exact put1_on z
    · rw [put1_off z, put1_off z]
      rw [ads_cons, List.mem_append] at h
      exact upds_on (h.resolve_left z)
theorem upds_join (G : Hp) (L : Cells) : upds K G L = join G (upds K (fun _ => none) L) := by
  funext a
  by_cases h : a ∈ ads L
  · obtain ⟨e1, e2⟩ := upds_on (K := K) (G := G) (G' := fun _ => none) h
    rw [e1] at e2 ⊢
    cases e : upds K (fun _ => none) L a with
    | none => exact absurd e e2
    | some o => exact (join_f e).symm
  · rw [upds_off h, join_g (upds_off h)]
theorem upds_app : ∀ (L1 L2 : Cells), upds K G (L1 ++ L2) = upds K (upds K G L2) L1
  | [], _ => rfl
  | (p, c) :: L1, L2 => by
    show put1 K (upds K G (L1 ++ L2)) p c = put1 K (upds K (upds K G L2) L1) p c
    rw [upds_app]
theorem upds_ext {G G' : Hp} (h : ∀ a, a ∉ ads L → G a = G' a) : upds K G L = upds K G' L := by
  funext a
  by_cases z : a ∈ ads L
  · exact (upds_on z).1
  · rw [upds_off z, upds_off z, h a z]
theorem Frs.dis (h : Frs G (L1 ++ L2)) : ∀ a, a ∈ ads L1 → a ∈ ads L2 → False := fun a h1 h2 => by
  have nd := h.nd
  rw [ads_app] at nd
  exact (List.nodup_append.mp nd).2.2 a h1 a h2 rfl
/-- the order of cells does not matter -/
theorem upds_swap (h : Frs G (L1 ++ L2)) : upds K G (L1 ++ L2) = upds K G (L2 ++ L1) := by
  funext a
  rw [upds_app, upds_app]
  by_cases h1 : a ∈ ads L1
  · have h2 : a ∉ ads L2 := fun z => h.dis a h1 z
    rw [upds_off h2]
    exact (upds_on h1).1
  · rw [upds_off h1]
    by_cases h2 : a ∈ ads L2
    · exact (upds_on h2).1
    · rw [upds_off h2, upds_off h2, upds_off h1]
theorem Frs.swap (h : Frs G (L1 ++ L2)) : Frs G (L2 ++ L1) := by
  refine ⟨?_, fun a ha => h.no a ?_⟩
  · have nd := h.nd
    rw [ads_app] at nd ⊢
    exact (List.perm_append_comm.nodup_iff).mp nd
  · rw [ads_app, List.mem_append] at ha ⊢
    exact ha.symm
theorem Frs.right (h : Frs G (L1 ++ L2)) : Frs G L2 := by
  have nd := h.nd
  rw [ads_app] at nd
  exact ⟨(List.nodup_append.mp nd).2.1, fun a ha => h.no a (by rw [ads_app]; exact List.mem_append.mpr (.inr ha))⟩
/-- cells that go into the ground -/
theorem Frs.sink (h : Frs G (L1 ++ L2)) : Frs (upds K G L2) L1 := by
  have nd := h.nd
  rw [ads_app] at nd
  refine ⟨(List.nodup_append.mp nd).1, fun a ha => ?_⟩
  rw [upds_off fun z => h.dis a ha z]
  exact h.no a (by rw [ads_app]; exact List.mem_append.mpr (.inl ha))
theorem Frs.same (h : Frs G L) : Same G (upds K G L) := fun a o e => by
  have : a ∉ ads L := fun z => by rw [h.no a z] at e; cases e
  rw [upds_off this]
  exact e
/-- the middle one goes into the ground -/
theorem mid_eq {c : Cells} (h : Frs G (L1 ++ (c ++ L2))) : upds K G (L1 ++ (c ++ L2)) = upds K (upds K G c) (L1 ++ L2) ∧ Frs (upds K G c) (L1 ++ L2) := by
  have h2 : Frs G ((c ++ L2) ++ L1) := h.swap
  have h3 : Frs G (c ++ (L2 ++ L1)) := by rw [List.append_assoc] at h2; exact h2
  have h4 : Frs G ((L2 ++ L1) ++ c) := h3.swap
  have s1 : Frs (upds K G c) (L2 ++ L1) := h4.sink
  refine ⟨?_, s1.swap⟩
  rw [upds_swap h, List.append_assoc, upds_swap h3, upds_app, upds_swap s1]
/-- and back -/
theorem mid_frs {c : Cells} (hc : Frs G c) (h : Frs (upds K G c) (L1 ++ L2)) : Frs G (L1 ++ (c ++ L2)) := by
  have d : ∀ a, a ∈ ads (L1 ++ L2) → a ∉ ads c ∧ G a = none := fun a ha => by
    have z := h.no a ha
    have n : a ∉ ads c := fun q => (upds_on (K := K) (G := G) (G' := G) q).2 z
    rw [upds_off n] at z
    exact ⟨n, z⟩
  have nd := h.nd
  rw [ads_app] at nd
  obtain ⟨n1, n2, n3⟩ := List.nodup_append.mp nd
  have m1 : ∀ a, a ∈ ads L1 → a ∈ ads (L1 ++ L2) := fun a h => by rw [ads_app]; exact List.mem_append.mpr (.inl h)
  have m2 : ∀ a, a ∈ ads L2 → a ∈ ads (L1 ++ L2) := fun a h => by rw [ads_app]; exact List.mem_append.mpr (.inr h)
  refine ⟨?_, fun a ha => ?_⟩
  · rw [ads_app, ads_app]
    refine List.nodup_append.mpr ⟨n1, List.nodup_append.mpr ⟨hc.nd, n2, fun a h1 b h2 e => ?_⟩, fun a h1 b h2 e => ?_⟩
    · subst e; exact (d a (m2 a h2)).1 h1
    · subst e
      rcases List.mem_append.mp h2 with h2 | h2
      · exact (d a (m1 a h1)).1 h2
      · exact n3 a h1 a h2 rfl
  · rw [ads_app, ads_app, List.mem_append, List.mem_append] at ha
    rcases ha with ha | ha | ha
    · exact (d a (m1 a ha)).2
    · exact hc.no a ha
    · exact (d a (m2 a ha)).2
/-- what is free in the heap -/
theorem free_of (n : upds K G L p = none) : G p = none ∧ p ∉ ads L := by
  have z : p ∉ ads L := fun q => (upds_on (K := K) (G := G) (G' := G) q).2 n
  rw [upds_off z] at n
  exact ⟨n, z⟩
theorem upds_new (n : p ∉ ads L) : upd (upds K G L) p o = upds K (upd G p o) L := by
  funext a
  by_cases e : a = p
  · subst e
    rw [upd_same, upds_off n, upd_same]
  · rw [upd_ne e]
    by_cases z : a ∈ ads L
    · exact (upds_on z).1
    · rw [upds_off z, upds_off z, upd_ne e]
theorem Frs.new (h : Frs G L) (n : p ∉ ads L) : Frs (upd G p o) L := ⟨h.nd, fun a ha => by
  rw [upd_ne fun (e : a = p) => n (e ▸ ha)]
  exact h.no a ha⟩
theorem Frs.ls (h : Frs G L) (n1 : G p = none) (n2 : p ∉ ads L) {ys : List V} : Frs G ((p, .ls ys) :: L) :=
  ⟨List.nodup_cons.mpr ⟨n2, h.nd⟩, fun a ha => by
    rcases List.mem_cons.mp ha with e | e
    · rw [e]; exact n1
    · exact h.no a e⟩
theorem frs_nil : Frs G [] := ⟨List.nodup_nil, fun _ z => by cases z⟩
/-! ### frames -/
theorem fo_cells : ∀ {L : Cells}, Frs (fun _ => none) L → ∀ a o, upds K (fun _ => none) L a = some o → FO (upds K (fun _ => none) L) a o := by
  intro L h
  -- each object of the frame is a list, an instance with its dict, or a dict's mark
  have key : ∀ (L' : Cells), (∀ x ∈ L', x ∈ L) → ∀ a o, upds K (fun _ => none) L' a = some o → FO (upds K (fun _ => none) L) a o := by
    intro L'
    induction L' with
    | nil => intro _ a o e; cases e
    | cons x L' ih =>
      obtain ⟨p, c⟩ := x
      intro hm a o e
      by_cases z : a ∈ ad1 (p, c)
      · have hx := hm (p, c) List.mem_cons_self
        obtain ⟨A1, A2, rfl⟩ := List.append_of_mem hx
        have at_ : ∀ b, b ∈ ad1 (p, c) → upds K (fun _ => none) (A1 ++ (p, c) :: A2) b = put1 K (fun _ => none) p c b := fun b hb => by
          rw [upds_app, upds_off fun q => (Frs.dis h b q (by rw [ads_cons]; exact List.mem_append.mpr (.inl hb)))]
          exact (put1_on hb).1
        unfold upds at e
        rw [(put1_on (G' := fun _ => none) z).1] at e
        cases c with
        | ls ys =>
          have : a = p := by simpa [ad1] using z
          subst this
          simp only [put1] at e
          rw [upd_same] at e
          cases e
          trivial
        | is C dx fs =>
          have ne : p ≠ dx := by
            have nd := h.nd
            rw [ads_app, ads_cons] at nd
            have := (List.nodup_append.mp (List.nodup_append.mp nd).2.1).1
            intro q
            rw [q] at this
            simp [ad1] at this
          simp only [put1] at e
          by_cases q : a = p
          · subst q
            rw [upd_same] at e
            cases e
            show upds K (fun _ => none) (A1 ++ (a, .is C dx fs) :: A2) dx = some (.own a)
            rw [at_ dx (by simp [ad1])]
            simp only [put1]
            rw [upd_ne (Ne.symm ne), upd_same]
          · have q2 : a = dx := by
              have : a = p ∨ a = dx := by simpa [ad1] using z
              exact this.resolve_left q
            subst q2
            rw [upd_ne q, upd_same] at e
            cases e
            refine ⟨.ins (He.ga K C) a fs, ?_⟩
            rw [at_ p (by simp [ad1])]
            simp only [put1]
            rw [upd_same]
      · unfold upds at e
        rw [put1_off z] at e
        exact ih (fun x hx => hm x (List.mem_cons_of_mem _ hx)) a o e
  exact key L fun x hx => hx
theorem frok_cells (nd : (ads L).Nodup) : FrOk G (upds K (fun _ => none) L) ↔ Frs G L := by
  constructor
  · intro h
    refine ⟨nd, fun a ha => ?_⟩
    have z := (upds_on (K := K) (G := fun _ => none) (G' := fun _ => none) ha).2
    cases e : upds K (fun _ => none) L a with
    | none => exact absurd e z
    | some o => exact (h a o e).1
  · intro h a o e
    have ha : a ∈ ads L := by
      refine Classical.byContradiction fun n => ?_
      rw [upds_off n] at e
      cases e
    exact ⟨h.no a ha, fo_cells ⟨nd, fun _ _ => rfl⟩ a o e⟩
theorem fr_cells {sp : Sp} {vs : List V} {Q : VK} {E : XK} (h : Frs G L) (k : sp vs G (fun v G2 => Frs G2 L → Q v (upds K G2 L)) (fun c d G2 => Frs G2 L → E c d (upds K G2 L))) : Fr sp vs (upds K G L) Q E := by
  refine ⟨G, upds K (fun _ => none) L, upds_join G L, (frok_cells h.nd).mpr h, ?_⟩
  have e1 : (fun v G2 => FrOk G2 (upds K (fun _ => none) L) → Q v (join G2 (upds K (fun _ => none) L))) = fun v G2 => Frs G2 L → Q v (upds K G2 L) := by
    funext v G2; rw [frok_cells h.nd, ← upds_join]
  have e2 : (fun c d G2 => FrOk G2 (upds K (fun _ => none) L) → E c d (join G2 (upds K (fun _ => none) L))) = fun c d G2 => Frs G2 L → E c d (upds K G2 L) := by
    funext c d G2; rw [frok_cells h.nd, ← upds_join]
  rw [e1, e2]
  exact k
end
/-! ### slots -/
/-- a list or an instance by reference; the exception of a suite, its dict -/
structure Anc where
  a : Addr
  b : Addr
  od : Option Addr
  c : Str
inductive Sl where
  | un | pl (d : D) | ow (ds : List D) | rf (ds : List D) | se (C : Str) (gs : List (Str × D)) | exn (C : Str) (x : Option (Str × D))
abbrev Env := List Sl
section
variable (K : PySem.W.Frag) [Rows K]
def XF (G : Hp) : Option (Str × D) → Option Addr → Prop
  | none, od => od = none
  | some (f, d), od => ∃ a v, od = some a ∧ G a = some (.xd [(f, v)]) ∧ Is K G v d
def XIs (G : Hp) (C : Str) (x : Option (Str × D)) (od : Option Addr) : Prop := C ∈ Rows.exs K ∧ XF K G x od
variable (G : Hp) (A : Anc)
inductive SlR : Option V → Sl → Cells → Prop where
  | un : SlR none .un []
  | pl {v : V} {d : D} (h : Is K G v d) : SlR (some v) (.pl d) []
  | ow {p : Addr} {ys : List V} {ds : List D} (h : IsL K G ys ds) : SlR (some (.ref p)) (.ow ds) [(p, .ls ys)]
  | rf {ys : List V} {ds : List D} (h : IsL K G ys ds) : SlR (some (.ref A.a)) (.rf ds) [(A.a, .ls ys)]
  | se {C : Str} {dx : Addr} {fs : List (Str × V)} {gs : List (Str × D)} (hc : C ∈ Rows.cls K) (hn : ∀ p ∈ gs, NoAttr K (He.ga K C) p.1) (h : IsF K G fs gs) : SlR (some (.ref A.a)) (.se C gs) [(A.a, .is C dx fs)]
  | exn {x : Option (Str × D)} (h : XIs K G A.c x A.od) : SlR (some (.ref A.b)) (.exn A.c x) []
/-- X: further cells -/
inductive Rl (X : Cells) : L2.St → Env → Cells → Prop where
  | nil : Rl X [] [] X
  | cons {v : Option V} {s : Sl} {c L : Cells} {σ : L2.St} {ρ : Env} (h : SlR K G A v s c) (hs : Rl X σ ρ L) : Rl X (v :: σ) (s :: ρ) (c ++ L)
structure Good (X : Cells) (σ : L2.St) (ρ : Env) (L : Cells) : Prop where
  rl : Rl K G A X σ ρ L
  fr : Frs G L
end
section
variable {K : PySem.W.Frag} [Rows K] {G G' : Hp} {A : Anc} {X L : Cells} {σ : L2.St} {ρ : Env}
theorem XIs.mono {C : Str} {x : Option (Str × D)} {od : Option Addr} (e : Same G G') (h : XIs K G C x od) : XIs K G' C x od := by
  refine ⟨h.1, ?_⟩
  match x, h.2 with
  | none, h => exact h
  | some (f, d), ⟨a, v, h1, h2, h3⟩ => exact ⟨a, v, h1, e _ _ h2, h3.mono e⟩
theorem SlR.mono {v : Option V} {s : Sl} {c : Cells} (e : Same G G') (h : SlR K G A v s c) : SlR K G' A v s c := by
  cases h with
  | un => exact .un
  | pl h => exact .pl (h.mono e)
  | ow h => exact .ow (h.mono e)
  | rf h => exact .rf (h.mono e)
  | se hc hn h => exact .se hc hn (h.mono e)
  | exn h => exact .exn (h.mono e)
theorem Rl.mono (e : Same G G') : ∀ {σ : L2.St} {ρ : Env} {L : Cells}, Rl K G A X σ ρ L → Rl K G' A X σ ρ L
  | _, _, _, .nil => .nil
  | _, _, _, .cons h hs => .cons (h.mono e) (Rl.mono e hs)
theorem Good.mono (h : Good K G A X σ ρ L) (e : Same G G') (f : Frs G' L) : Good K G' A X σ ρ L := ⟨h.rl.mono e, f⟩
theorem Rl.focus : ∀ {σ : L2.St} {ρ : Env} {L : Cells} {i : Nat} {s : Sl}, Rl K G A X σ ρ L → ρ[i]? = some s → ∃ v c L1 L2, σ[i]? = some v ∧ SlR K G A v s c ∧ L = L1 ++ (c ++ L2) ∧
    ∀ G' v' s' c', Same G G' → SlR K G' A v' s' c' → Rl K G' A X (σ.set i v') (ρ.set i s') (L1 ++ (c' ++ L2))
  | _, _, _, _, _, .nil, e => by simp at e
  | _, _, _, 0, s, .cons (c := c) (L := L) h hs, e => by
    simp at e
    subst e
    exact ⟨_, c, [], L, rfl, h, rfl, fun G' v' s' c' e h' => Rl.cons (c := c') (L := L) h' (hs.mono e)⟩
  | _, _, _, i + 1, s, .cons (v := v0) (s := s0) (c := c0) h hs, e => by
    obtain ⟨v, c, L1, L2, e1, h1, rfl, k⟩ := Rl.focus (i := i) (s := s) hs (by simpa using e)
    refine ⟨v, c, c0 ++ L1, L2, by simpa using e1, h1, by rw [List.append_assoc], fun G' v' s' c' e h' => ?_⟩
    rw [List.append_assoc]
    exact .cons (h.mono e) (k G' v' s' c' e h')
theorem Rl.len : ∀ {σ : L2.St} {ρ : Env} {L : Cells}, Rl K G A X σ ρ L → σ.length = ρ.length
  | _, _, _, .nil => rfl
  | _, _, _, .cons h hs => congrArg Nat.succ hs.len
/-- plain data in a slot -/
theorem Good.get {i : Nat} {d : D} (h : Good K G A X σ ρ L) (e : ρ[i]? = some (.pl d)) : ∃ v, σ[i]? = some (some v) ∧ Is K G v d := by
  obtain ⟨v, c, L1, L2, e1, s, _, _⟩ := h.rl.focus e
  cases s with
  | pl q => exact ⟨_, e1, q⟩
def loose : Sl → Bool
  | .un | .pl _ | .ow _ => true
  | _ => false
/-- a slot gets plain data -/
theorem Good.asg {i : Nat} {s : Sl} {v : V} {d : D} (h : Good K G A X σ ρ L) (e : ρ[i]? = some s) (hl : loose s = true) (hv : Is K G v d) :
    ∃ G' L', Same G G' ∧ upds K G L = upds K G' L' ∧ Good K G' A X (σ.set i (some v)) (ρ.set i (.pl d)) L' := by
  obtain ⟨v0, c, L1, L2, e1, s, rfl, k⟩ := h.rl.focus e
  obtain ⟨q1, q2⟩ := mid_eq (K := K) h.fr
  have sm : Same G (upds K G c) := by
    have := (h.fr.swap)
    rw [List.append_assoc] at this
    exact (this.swap.right).same
  exact ⟨upds K G c, L1 ++ L2, sm, q1, ⟨k _ _ _ [] sm (.pl (hv.mono sm)), q2⟩⟩
/-- a slot gets a new list -/
theorem Good.asgN {i : Nat} {s : Sl} {p : Addr} {ys : List V} {ds : List D} (h : Good K G A X σ ρ L) (e : ρ[i]? = some s) (hl : loose s = true) (n1 : G p = none) (n2 : p ∉ ads L) (hv : IsL K G ys ds) :
    ∃ G' L', Same G G' ∧ upd (upds K G L) p (.lst ys) = upds K G' L' ∧ Good K G' A X (σ.set i (some (.ref p))) (ρ.set i (.ow ds)) L' := by
  obtain ⟨v0, c, L1, L2, e1, s, rfl, k⟩ := h.rl.focus e
  obtain ⟨q1, q2⟩ := mid_eq (K := K) h.fr
  have sm : Same G (upds K G c) := by
    have := (h.fr.swap)
    rw [List.append_assoc] at this
    exact (this.swap.right).same
  have n3 : p ∉ ads c := fun z => n2 (by rw [ads_app, ads_app]; simp [z])
  have n4 : p ∉ ads (L1 ++ L2) := fun z => n2 (by
    rw [ads_app, ads_app]
    rw [ads_app] at z
    rcases List.mem_append.mp z with z | z <;> simp [z])
  have g0 : upds K G c p = none := by rw [upds_off n3]; exact n1
  have f1 : Frs (upds K G c) [(p, .ls ys)] := Frs.ls (frs_nil (G := _)) g0 (fun z => by cases z)
  have f2 : Frs (upds K (upds K G c) [(p, .ls ys)]) (L1 ++ L2) := q2.new n4
  have f3 := mid_frs f1 f2
  refine ⟨upds K G c, L1 ++ ([(p, .ls ys)] ++ L2), sm, ?_, ⟨k _ _ _ _ sm (.ow (hv.mono sm)), f3⟩⟩
  rw [q1, (mid_eq f3).1, upds_new n4]
  rfl
/-- an owned list is read as a value -/
theorem Good.frz {i : Nat} {ds : List D} (h : Good K G A X σ ρ L) (e : ρ[i]? = some (.ow ds)) :
    ∃ v G' L', σ[i]? = some (some v) ∧ Same G G' ∧ upds K G L = upds K G' L' ∧ Is K G' v (.lst ds) ∧ Good K G' A X σ (ρ.set i (.pl (.lst ds))) L' := by
  obtain ⟨v0, c, L1, L2, e1, s, rfl, k⟩ := h.rl.focus e
  obtain ⟨q1, q2⟩ := mid_eq (K := K) h.fr
  cases s with
  | @ow p ys _ hy =>
    have sm : Same G (upds K G [(p, .ls ys)]) := by
      have := (h.fr.swap)
      rw [List.append_assoc] at this
      exact (this.swap.right).same
    have hi : Is K (upds K G [(p, .ls ys)]) (.ref p) (.lst ds) := .lst (SqL.of (by simp only [upds, put1]; exact upd_same)) (hy.mono sm)
    have r := k _ _ _ [] sm (.pl hi)
    have es : σ.set i (some (.ref p)) = σ := by
      apply List.ext_getElem? 
      intro j
      by_cases q : j = i
      · subst q
        have hl : j < σ.length := (List.getElem?_eq_some_iff.mp e1).1
        rw [List.getElem?_set_self hl, e1]
      · rw [List.getElem?_set_ne (Ne.symm q)]
    rw [es] at r
    exact ⟨_, _, _, e1, sm, q1, hi, ⟨r, q2⟩⟩
/-- an owned list is looked at -/
theorem Good.peek {i : Nat} {ds : List D} {s : Sl} (h : Good K G A X σ ρ L) (e : ρ[i]? = some s) (hs : s = .ow ds ∨ s = .rf ds) :
    ∃ p ys, σ[i]? = some (some (.ref p)) ∧ IsL K G ys ds ∧ upds K G L p = some (.lst ys) ∧
      ∀ G' ys' ds', Same G G' → Frs G' L → IsL K G' ys' ds' → ∃ L', upd (upds K G' L) p (.lst ys') = upds K G' L' ∧ Good K G' A X σ (ρ.set i (match s with | .rf _ => .rf ds' | _ => .ow ds')) L' := by
  obtain ⟨v0, c, L1, L2, e1, s1, rfl, k⟩ := h.rl.focus e
  have main : ∀ p ys, c = [(p, .ls ys)] → v0 = some (.ref p) → IsL K G ys ds → (∀ G' ys' ds', Same G G' → IsL K G' ys' ds' → Rl K G' A X (σ.set i (some (.ref p))) (ρ.set i (match s with | .rf _ => .rf ds' | _ => .ow ds')) (L1 ++ ([(p, .ls ys')] ++ L2))) → 
      ∃ p ys, σ[i]? = some (some (.ref p)) ∧ IsL K G ys ds ∧ upds K G (L1 ++ (c ++ L2)) p = some (.lst ys) ∧
      ∀ G' ys' ds', Same G G' → Frs G' (L1 ++ (c ++ L2)) → IsL K G' ys' ds' → ∃ L', upd (upds K G' (L1 ++ (c ++ L2))) p (.lst ys') = upds K G' L' ∧ Good K G' A X σ (ρ.set i (match s with | .rf _ => .rf ds' | _ => .ow ds')) L' := by
    rintro p ys rfl rfl hy kk
    have es : σ.set i (some (.ref p)) = σ := by
      apply List.ext_getElem? 
      intro j
      by_cases q : j = i
      · subst q
        have hl : j < σ.length := (List.getElem?_eq_some_iff.mp e1).1
        rw [List.getElem?_set_self hl, e1]
      · rw [List.getElem?_set_ne (Ne.symm q)]
    refine ⟨p, ys, e1, hy, ?_, fun G' ys' ds' sm fr hy' => ?_⟩
    · obtain ⟨q1, q2⟩ := mid_eq (K := K) h.fr
      rw [q1]
      exact q2.same p _ (by simp only [upds, put1]; exact upd_same)
    · have r := kk G' ys' ds' sm hy'
      rw [es] at r
      obtain ⟨q1, q2⟩ := mid_eq (K := K) fr
      have gp : G' p = none := fr.no p (by rw [ads_app, ads_app]; simp [ads, ad1])
      have np : p ∉ ads (L1 ++ L2) := fun z => by
        have := q2.no p z
        simp only [upds, put1] at this
        rw [upd_same] at this
        cases this
      have f1 : Frs G' [(p, .ls ys')] := Frs.ls (frs_nil (G := _)) gp (fun z => by cases z)
      have f2 : Frs (upds K G' [(p, .ls ys')]) (L1 ++ L2) := ⟨q2.nd, fun a ha => by
        have ne : a ≠ p := fun z => np (z ▸ ha)
        have := q2.no a ha
        simp only [upds, put1] at this ⊢
        rw [upd_ne ne] at this ⊢
        exact this⟩
      have f3 := mid_frs f1 f2
      refine ⟨_, ?_, ⟨r, f3⟩⟩
      rw [q1, (mid_eq f3).1, upds_new np]
      simp only [upds, put1]
      show upds K (upd (upd G' p _) p _) _ = _
      rw [Sx.upd_upd]
  rcases hs with rfl | rfl
  · cases s1 with
    | ow hy => exact main _ _ rfl rfl hy fun G' ys' ds' sm h' => k G' _ _ _ sm (.ow h')
  · cases s1 with
    | rf hy => exact main _ _ rfl rfl hy fun G' ys' ds' sm h' => k G' _ _ _ sm (.rf h')
theorem Good.peekS {i : Nat} {C : Str} {gs : List (Str × D)} (h : Good K G A X σ ρ L) (e : ρ[i]? = some (.se C gs)) :
    ∃ dx fs, σ[i]? = some (some (.ref A.a)) ∧ C ∈ Rows.cls K ∧ (∀ p ∈ gs, NoAttr K (He.ga K C) p.1) ∧ IsF K G fs gs ∧ upds K G L A.a = some (.ins (He.ga K C) dx fs) ∧
      ∀ G' fs' gs', Same G G' → Frs G' L → IsF K G' fs' gs' → (∀ p ∈ gs', NoAttr K (He.ga K C) p.1) → ∃ L', upd (upds K G' L) A.a (.ins (He.ga K C) dx fs') = upds K G' L' ∧ Good K G' A X σ (ρ.set i (.se C gs')) L' := by
  obtain ⟨v0, c, L1, L2, e1, s1, rfl, k⟩ := h.rl.focus e
  cases s1 with
  | @se _ dx fs _ hc hn hy =>
    have es : σ.set i (some (.ref A.a)) = σ := by
      apply List.ext_getElem? 
      intro j
      by_cases q : j = i
      · subst q
        have hl : j < σ.length := (List.getElem?_eq_some_iff.mp e1).1
        rw [List.getElem?_set_self hl, e1]
      · rw [List.getElem?_set_ne (Ne.symm q)]
    refine ⟨dx, fs, e1, hc, hn, hy, ?_, fun G' fs' gs' sm fr hy' hn' => ?_⟩
    · obtain ⟨q1, q2⟩ := mid_eq (K := K) h.fr
      rw [q1]
      exact q2.same A.a _ (by simp only [upds, put1]; exact upd_same)
    · have r := k G' _ _ _ sm (.se (dx := dx) hc hn' hy')
      rw [es] at r
      obtain ⟨q1, q2⟩ := mid_eq (K := K) fr
      have fc : Frs G' [(A.a, .is C dx fs)] := by
        have := fr.swap
        rw [List.append_assoc] at this
        have := this.swap.right
        exact this
      have f1 : Frs G' [(A.a, .is C dx fs')] := ⟨fc.nd, fc.no⟩
      have f2 : Frs (upds K G' [(A.a, .is C dx fs')]) (L1 ++ L2) := ⟨q2.nd, fun a ha => by
        have z := q2.no a ha
        have n : a ∉ ads [(A.a, Cell.is C dx fs)] := fun w => (upds_on (K := K) (G := G') (G' := G') w).2 z
        rw [upds_off n] at z
        rw [upds_off (show a ∉ ads [(A.a, Cell.is C dx fs')] from n)]
        exact z⟩
      have f3 := mid_frs f1 f2
      have np : A.a ∉ ads (L1 ++ L2) := fun z => by
        have := q2.no A.a z
        simp only [upds, put1] at this
        rw [upd_same] at this
        cases this
      refine ⟨_, ?_, ⟨r, f3⟩⟩
      rw [q1, (mid_eq f3).1, upds_new np]
      congr 1
      simp only [upds, put1]
      rw [Sx.upd_upd]
end
end Mi

namespace Mi
open PySem PySem.Spec PyProof.Rows L2
open Sx (Tn Fx btys tCallW tMethW tMakeW)
/-! ### mirrors: a state monad over the slots -/
inductive Out (α : Type) where
  | ok (a : α) (ρ : Env) | ex (C : Str) (x : Option (Str × D)) (ρ : Env) | bad
abbrev M (α : Type) := Env → Out α
inductive Re (α : Type) where
  | ok (a : α) | ex (C : Str) (x : Option (Str × D)) | bad
def ret {α : Type} (a : α) (ρ : Env) : Out α := .ok a ρ
def bnd {α β : Type} (m : M α) (f : α → M β) (ρ : Env) : Out β := match m ρ with
  | .ok a ρ' => f a ρ'
  | .ex C x ρ' => .ex C x ρ'
  | .bad => .bad
def lift {α : Type} (r : Re α) (ρ : Env) : Out α := match r with
  | .ok a => .ok a ρ
  | .ex C x => .ex C x ρ
  | .bad => .bad
def fail {α : Type} (_ : Env) : Out α := .bad
/-- by a truth value -/
def ib {α : Type} : Bool → α → α → α
  | true, x, _ => x
  | false, _, y => y
theorem ib_pos {α : Type} {b : Bool} {x y : α} (h : b = true) : ib b x y = x := by rw [h] <;> rfl
theorem ib_neg {α : Type} {b : Bool} {x y : α} (h : ¬ b = true) : ib b x y = y := by
  cases b with
  | true => exact absurd rfl h
  | false => rfl
theorem ib_t {α : Type} (x y : α) : ib true x y = x := rfl
theorem ib_f {α : Type} (x y : α) : ib false x y = y := rfl
inductive Rv where
  | pl (d : D) | nw (ds : List D)
def Rv.d : Rv → D
  | .pl d => d
  | .nw ds => .lst ds
inductive Fl where
  | nx | bk | ct | rt (r : Rv)
section
variable (K : PySem.W.Frag) [Rows K]
variable (A : Anc) (X : Cells) (W : WX)
def PO {α : Type} (σ : L2.St) (G : Hp) (k : α → Hp → Cells → Prop) : Out α → Prop
  | .ok a ρ' => ∀ G' L', Same G G' → Good K G' A X σ ρ' L' → k a G' L'
  | .ex C x ρ' => ∀ od G' L', Same G G' → Good K G' A X σ ρ' L' → XIs K G' C x od → W (.ref (He.ga K C)) od σ (upds K G' L')
  | .bad => False
def SO (E : Ends) (G : Hp) : Out Fl → Prop
  | .ok .nx ρ' => ∀ σ' G' L', Same G G' → Good K G' A X σ' ρ' L' → E.nx σ' (upds K G' L')
  | .ok .bk ρ' => ∀ σ' G' L', Same G G' → Good K G' A X σ' ρ' L' → E.bk σ' (upds K G' L')
  | .ok .ct ρ' => ∀ σ' G' L', Same G G' → Good K G' A X σ' ρ' L' → E.ct σ' (upds K G' L')
  | .ok (.rt (.pl d)) ρ' => ∀ σ' G' L' v, Same G G' → Good K G' A X σ' ρ' L' → Is K G' v d → E.rt v (upds K G' L')
  | .ok (.rt (.nw ds)) ρ' => ∀ σ' G' L' p ys, Same G G' → Good K G' A X σ' ρ' L' → G' p = none → p ∉ ads L' → IsL K G' ys ds → E.rt (.ref p) (upd (upds K G' L') p (.lst ys))
  | .ex C x ρ' => ∀ od σ' G' L', Same G G' → Good K G' A X σ' ρ' L' → XIs K G' C x od → W (.ref (He.ga K C)) od σ' (upds K G' L')
  | .bad => False
end
section
variable (K : PySem.W.Frag) [Rows K] (A : Anc) (W : WX)
/-- an expression; a new list; arguments; a test; a statement; an operation on values -/
def RE (t : TE) (m : M D) : Prop := ∀ X σ ρ G L Q, Good K G A X σ ρ L → PO K A X W σ G (fun d G' L' => ∀ v, Is K G' v d → Q v (upds K G' L')) (m ρ) → t σ (upds K G L) Q
def RN (t : TE) (m : M (List D)) : Prop := ∀ X σ ρ G L Q, Good K G A X σ ρ L → PO K A X W σ G (fun ds G' L' => ∀ p ys, G' p = none → p ∉ ads L' → IsL K G' ys ds → Q (.ref p) (upd (upds K G' L') p (.lst ys))) (m ρ) → t σ (upds K G L) Q
def RA (t : TA) (m : M (List D)) : Prop := ∀ X σ ρ G L Q, Good K G A X σ ρ L → PO K A X W σ G (fun ds G' L' => ∀ vs, IsL K G' vs ds → Q vs (upds K G' L')) (m ρ) → t σ (upds K G L) Q
def RT (t : TT) (m : M Bool) : Prop := ∀ X σ ρ G L Q, Good K G A X σ ρ L → PO K A X W σ G (fun b G' L' => Q b (upds K G' L')) (m ρ) → t σ (upds K G L) Q
def RO (t : TO) (m : M (Option Int)) : Prop := ∀ X σ ρ G L Q, Good K G A X σ ρ L → PO K A X W σ G (fun b G' L' => Q b (upds K G' L')) (m ρ) → t σ (upds K G L) Q
def RS (t : TS) (m : M Fl) : Prop := ∀ X σ ρ G L E, Good K G A X σ ρ L → SO K A X W E G (m ρ) → t E σ (upds K G L)
def R1 (r : V → Hp → VK → Prop) (g : D → Re D) : Prop := ∀ X σ ρ G L Q x a, Good K G A X σ ρ L → Is K G x a → PO K A X W σ G (fun d G' L' => ∀ v, Is K G' v d → Q v (upds K G' L')) (lift (g a) ρ) → r x (upds K G L) Q
def RR (r : R2) (g : D → D → Re D) : Prop := ∀ X σ ρ G L Q x y a b, Good K G A X σ ρ L → Is K G x a → Is K G y b → PO K A X W σ G (fun d G' L' => ∀ v, Is K G' v d → Q v (upds K G' L')) (lift (g a b) ρ) → r x y (upds K G L) Q
def RC (r : List V → Hp → VK → Prop) (g : List D → Re D) : Prop := ∀ X σ ρ G L Q xs as, Good K G A X σ ρ L → IsL K G xs as → PO K A X W σ G (fun d G' L' => ∀ v, Is K G' v d → Q v (upds K G' L')) (lift (g as) ρ) → r xs (upds K G L) Q
/-- .. whose answer is a new list -/
def RCn (r : List V → Hp → VK → Prop) (g : List D → Re (List D)) : Prop := ∀ X σ ρ G L Q xs as, Good K G A X σ ρ L → IsL K G xs as → PO K A X W σ G (fun ds G' L' => ∀ p ys, G' p = none → p ∉ ads L' → IsL K G' ys ds → Q (.ref p) (upd (upds K G' L') p (.lst ys))) (lift (g as) ρ) → r xs (upds K G L) Q
def RRn (r : R2) (g : D → D → Re (List D)) : Prop := ∀ X σ ρ G L Q x y a b, Good K G A X σ ρ L → Is K G x a → Is K G y b → PO K A X W σ G (fun ds G' L' => ∀ p ys, G' p = none → p ∉ ads L' → IsL K G' ys ds → Q (.ref p) (upd (upds K G' L') p (.lst ys))) (lift (g a b) ρ) → r x y (upds K G L) Q
/-- a target -/
def RG (t : TG) (g : D → Env → Option Env) : Prop := ∀ X σ ρ G L v d (Q : L2.St → Hp → Prop), Good K G A X σ ρ L → Is K G v d → (match g d ρ with
  | some ρ' => ∀ σ' G' L', Same G G' → Good K G' A X σ' ρ' L' → Q σ' (upds K G' L')
  | none => False) → t v σ (upds K G L) Q
def RGs (t : TGs) (g : List D → Env → Option Env) : Prop := ∀ X σ ρ G L vs ds (Q : L2.St → Hp → Prop), Good K G A X σ ρ L → IsL K G vs ds → (match g ds ρ with
  | some ρ' => ∀ σ' G' L', Same G G' → Good K G' A X σ' ρ' L' → Q σ' (upds K G' L')
  | none => False) → t vs σ (upds K G L) Q
def tgt (o : Env → Option Env) (ρ : Env) : Out Unit := match o ρ with
  | some ρ' => .ok () ρ'
  | none => .bad
end
section
variable {K : PySem.W.Frag} [Rows K] {A : Anc} {X : Cells} {W : WX} {σ : L2.St} {ρ : Env} {G G' : Hp} {L : Cells}
theorem PO.mono {α : Type} {k : α → Hp → Cells → Prop} {o : Out α} (e : Same G G') (h : PO K A X W σ G k o) : PO K A X W σ G' k o := by
  cases o with
  | ok a ρ' => exact fun G2 L' s g => h G2 L' (e.trans s) g
  | ex C x ρ' => exact fun od G2 L' s g q => h od G2 L' (e.trans s) g q
  | bad => exact h
theorem PO.imp {α : Type} {k k' : α → Hp → Cells → Prop} {o : Out α} (h : PO K A X W σ G k o) (i : ∀ a G' L', k a G' L' → k' a G' L') : PO K A X W σ G k' o := by
  cases o with
  | ok a ρ' => exact fun G2 L' s g => i _ _ _ (h G2 L' s g)
  | ex C x ρ' => exact fun od G2 L' s g q => h od G2 L' s g q
  | bad => exact h
theorem PO.at_ {α : Type} {k : α → Hp → Cells → Prop} {a : α} (h : PO K A X W σ G k (.ok a ρ)) (g : Good K G A X σ ρ L) : k a G L := h G L (Same.refl _) g
/-- the first of two -/
theorem PO.seq {α β : Type} {m : M α} {c : α → M β} {k : β → Hp → Cells → Prop} {k' : α → Hp → Cells → Prop} (p : PO K A X W σ G k (bnd m c ρ))
    (h : ∀ a ρ' G' L', Same G G' → Good K G' A X σ ρ' L' → PO K A X W σ G' k (c a ρ') → k' a G' L') : PO K A X W σ G k' (m ρ) := by
  unfold bnd at p
  cases e : m ρ with
  | ok a ρ' =>
    rw [e] at p
    exact fun G' L' s g => h a ρ' G' L' s g (p.mono s)
  | ex C x ρ' => rw [e] at p; exact p
  | bad => rw [e] at p; exact p
theorem SO.mono {E : Ends} {o : Out Fl} (e : Same G G') (h : SO K A X W E G o) : SO K A X W E G' o := by
  cases o with
  | ok a ρ' =>
    cases a with
    | nx => exact fun σ' G2 L' s g => h σ' G2 L' (e.trans s) g
    | bk => exact fun σ' G2 L' s g => h σ' G2 L' (e.trans s) g
    | ct => exact fun σ' G2 L' s g => h σ' G2 L' (e.trans s) g
    | rt r =>
      cases r with
      | pl d => exact fun σ' G2 L' v s g => h σ' G2 L' v (e.trans s) g
      | nw ds => exact fun σ' G2 L' p ys s g => h σ' G2 L' p ys (e.trans s) g
  | ex C x ρ' => exact fun od σ' G2 L' s g q => h od σ' G2 L' (e.trans s) g q
  | bad => exact h
/-- an expression ahead of a statement's rest -/
theorem SO.seqE {α : Type} {m : M α} {c : α → M Fl} {E : Ends} {k' : α → Hp → Cells → Prop} (p : SO K A X W E G (bnd m c ρ))
    (h : ∀ a ρ' G' L', Same G G' → Good K G' A X σ ρ' L' → SO K A X W E G' (c a ρ') → k' a G' L') : PO K A X W σ G k' (m ρ) := by
  unfold bnd at p
  cases e : m ρ with
  | ok a ρ' =>
    rw [e] at p
    exact fun G' L' s g => h a ρ' G' L' s g (p.mono s)
  | ex C x ρ' => rw [e] at p; exact fun od G' L' s g q => p od σ G' L' s g q
  | bad => rw [e] at p; exact p
/-! ### expressions -/
def mVar (i : Nat) (ρ : Env) : Out D := match ρ[i]? with
  | some (.pl d) => .ok d ρ
  | some (.ow ds) => .ok (.lst ds) (ρ.set i (.pl (.lst ds)))
  | _ => .bad
theorem re_var {i : Nat} : RE K A W (tVar i) (mVar i) := by
  intro X σ ρ G L Q g p
  unfold mVar at p
  split at p
  · rename_i d e
    obtain ⟨v, e1, hv⟩ := g.get e
    exact ⟨v, e1, p.at_ g v hv⟩
  · rename_i ds e
    obtain ⟨v, G', L', e1, sm, eq, hv, g'⟩ := g.frz e
    exact ⟨v, e1, by rw [eq]; exact p G' L' sm g' v hv⟩
  · exact p.elim
def mC (d : D) : M D := ret d
theorem re_c {v : V} {d : D} (h : ∀ G, Is K G v d) : RE K A W (tC v) (mC d) := fun X σ ρ G L Q g p => p.at_ g v (h G)
theorem re_int {i : Int} : RE K A W (tC (.int i)) (mC (.int i)) := re_c fun _ => .int i
theorem re_bl {i : Bool} : RE K A W (tC (.bl i)) (mC (.bl i)) := re_c fun _ => .bl i
theorem re_str {i : Str} : RE K A W (tC (.str i)) (mC (.str i)) := re_c fun _ => .str i
theorem re_non : RE K A W (tC .non) (mC .non) := re_c fun _ => .non
def mBin (g : D → D → Re D) (a b : M D) : M D := bnd a fun x => bnd b fun y => lift (g x y)
theorem re_op {r : R2} {g : D → D → Re D} {ta tb : TE} {a b : M D} (hr : RR K A W r g) (ha : RE K A W ta a) (hb : RE K A W tb b) : RE K A W (tOp r ta tb) (mBin g a b) := by
  intro X σ ρ G L Q gd p
  refine ha X σ ρ G L _ gd (p.seq fun x ρ1 G1 L1 s1 g1 p1 v hv => ?_)
  refine hb X σ ρ1 G1 L1 _ g1 (p1.seq fun y ρ2 G2 L2 s2 g2 p2 u hu => ?_)
  exact hr X σ ρ2 G2 L2 Q v u x y g2 (hv.mono s2) hu p2
def mBinN (g : D → D → Re (List D)) (a b : M D) : M (List D) := bnd a fun x => bnd b fun y => lift (g x y)
theorem rn_op {r : R2} {g : D → D → Re (List D)} {ta tb : TE} {a b : M D} (hr : RRn K A W r g) (ha : RE K A W ta a) (hb : RE K A W tb b) : RN K A W (tOp r ta tb) (mBinN g a b) := by
  intro X σ ρ G L Q gd p
  refine ha X σ ρ G L _ gd (p.seq fun x ρ1 G1 L1 s1 g1 p1 v hv => ?_)
  refine hb X σ ρ1 G1 L1 _ g1 (p1.seq fun y ρ2 G2 L2 s2 g2 p2 u hu => ?_)
  exact hr X σ ρ2 G2 L2 Q v u x y g2 (hv.mono s2) hu p2
def mUn (g : D → Re D) (a : M D) : M D := bnd a fun x => lift (g x)
theorem re_un {r : V → Hp → VK → Prop} {g : D → Re D} {ta : TE} {a : M D} (hr : R1 K A W r g) (ha : RE K A W ta a) : RE K A W (tUn r ta) (mUn g a) := by
  intro X σ ρ G L Q gd p
  refine ha X σ ρ G L _ gd (p.seq fun x ρ1 G1 L1 s1 g1 p1 v hv => ?_)
  exact hr X σ ρ1 G1 L1 Q v x g1 hv p1
/-- a new list read as a value -/
def mFrz (m : M (List D)) : M D := bnd m fun ds => ret (.lst ds)
theorem re_frz {t : TE} {m : M (List D)} (h : RN K A W t m) : RE K A W t (mFrz m) := by
  intro X σ ρ G L Q gd p
  refine h X σ ρ G L _ gd (p.seq fun ds ρ1 G1 L1 s1 g1 p1 q ys n1 n2 hy => ?_)
  rw [upds_new n2]
  have sm : Same G1 (upd G1 q (.lst ys)) := Sx.Same.updR (Same.refl _) n1
  exact p1 _ _ sm (g1.mono sm (g1.fr.new n2)) _ (.lst (SqL.of upd_same) (hy.mono sm))
def tru : D → Re Bool
  | .bl b => .ok b
  | _ => .bad
def mB (m : M D) : M Bool := bnd m fun d => lift (tru d)
theorem rt_B {t : TE} {m : M D} (h : RE K A W t m) : RT K A W (tB t) (mB m) := by
  intro X σ ρ G L Q gd p
  refine h X σ ρ G L _ gd (p.seq fun d ρ1 G1 L1 s1 g1 p1 v hv => ?_)
  cases d with
  | bl b => rw [hv.bl_eq]; exact ⟨b, rfl, p1.at_ g1⟩
  | _ => exact p1.elim
theorem rt_test {t : TE} {m : M D} (h : RE K A W t m) : RT K A W (tTest t) (mB m) := rt_B h
def mAnd (a b : M Bool) : M Bool := bnd a fun x => ib x b (ret false)
def mOr (a b : M Bool) : M Bool := bnd a fun x => ib x (ret true) b
def mNot (a : M Bool) : M Bool := bnd a fun x => ret (!x)
theorem rt_and {ta tb : TT} {a b : M Bool} (ha : RT K A W ta a) (hb : RT K A W tb b) : RT K A W (tAnd ta tb) (mAnd a b) := by
  intro X σ ρ G L Q gd p
  refine ha X σ ρ G L _ gd (p.seq fun x ρ1 G1 L1 s1 g1 p1 => ?_)
  cases x with
  | true => exact hb X σ ρ1 G1 L1 _ g1 p1
  | false => exact p1.at_ g1
theorem rt_or {ta tb : TT} {a b : M Bool} (ha : RT K A W ta a) (hb : RT K A W tb b) : RT K A W (tOr ta tb) (mOr a b) := by
  intro X σ ρ G L Q gd p
  refine ha X σ ρ G L _ gd (p.seq fun x ρ1 G1 L1 s1 g1 p1 => ?_)
  cases x with
  | false => exact hb X σ ρ1 G1 L1 _ g1 p1
  | true => exact p1.at_ g1
theorem rt_not {ta : TT} {a : M Bool} (ha : RT K A W ta a) : RT K A W (tNot ta) (mNot a) := by
  intro X σ ρ G L Q gd p
  exact ha X σ ρ G L _ gd (p.seq fun x ρ1 G1 L1 s1 g1 p1 => p1.at_ g1)
theorem rt_yes : RT K A W tYes (ret true) := fun X σ ρ G L Q gd p => p.at_ gd
def mAndV (a b : M D) : M D := bnd a fun x => bnd (lift (tru x)) fun c => ib c b (ret (.bl false))
def mOrV (a b : M D) : M D := bnd a fun x => bnd (lift (tru x)) fun c => ib c (ret (.bl true)) b
def mNotV (a : M D) : M D := bnd a fun x => bnd (lift (tru x)) fun c => ret (.bl (!c))
theorem re_and {ta tb : TE} {a b : M D} (ha : RE K A W ta a) (hb : RE K A W tb b) : RE K A W (tAndV ta tb) (mAndV a b) := by
  intro X σ ρ G L Q gd p
  refine ha X σ ρ G L _ gd (p.seq fun x ρ1 G1 L1 s1 g1 p1 v hv => ?_)
  cases x with
  | bl c =>
    rw [hv.bl_eq]
    refine ⟨c, rfl, ?_⟩
    cases c with
    | true => exact hb X σ ρ1 G1 L1 _ g1 p1
    | false => exact p1.at_ g1 _ (.bl false)
  | _ => exact p1.elim
theorem re_or {ta tb : TE} {a b : M D} (ha : RE K A W ta a) (hb : RE K A W tb b) : RE K A W (tOrV ta tb) (mOrV a b) := by
  intro X σ ρ G L Q gd p
  refine ha X σ ρ G L _ gd (p.seq fun x ρ1 G1 L1 s1 g1 p1 v hv => ?_)
  cases x with
  | bl c =>
    rw [hv.bl_eq]
    refine ⟨c, rfl, ?_⟩
    cases c with
    | false => exact hb X σ ρ1 G1 L1 _ g1 p1
    | true => exact p1.at_ g1 _ (.bl true)
  | _ => exact p1.elim
theorem re_not {ta : TE} {a : M D} (ha : RE K A W ta a) : RE K A W (tNotV ta) (mNotV a) := by
  intro X σ ρ G L Q gd p
  refine ha X σ ρ G L _ gd (p.seq fun x ρ1 G1 L1 s1 g1 p1 v hv => ?_)
  cases x with
  | bl c =>
    rw [hv.bl_eq]
    exact ⟨c, rfl, p1.at_ g1 _ (.bl _)⟩
  | _ => exact p1.elim
def mIf (c : M Bool) (a b : M D) : M D := bnd c fun x => ib x a b
theorem re_if {tc : TT} {ta tb : TE} {c : M Bool} {a b : M D} (hc : RT K A W tc c) (ha : RE K A W ta a) (hb : RE K A W tb b) : RE K A W (tIf tc ta tb) (mIf c a b) := by
  intro X σ ρ G L Q gd p
  refine hc X σ ρ G L _ gd (p.seq fun x ρ1 G1 L1 s1 g1 p1 => ?_)
  cases x with
  | true => exact ha X σ ρ1 G1 L1 _ g1 p1
  | false => exact hb X σ ρ1 G1 L1 _ g1 p1
def mChain (r r' : D → D → Re D) (a b c : M D) : M D := bnd a fun x => bnd b fun y => bnd (lift (r x y)) fun z => bnd (lift (tru z)) fun k => ib k (bnd c fun w => lift (r' y w)) (ret (.bl false))
theorem re_chain {r r' : R2} {g g' : D → D → Re D} {ta tb tc : TE} {a b c : M D} (hr : RR K A W r g) (hr' : RR K A W r' g') (ha : RE K A W ta a) (hb : RE K A W tb b) (hc : RE K A W tc c) : RE K A W (tChain r r' ta tb tc) (mChain g g' a b c) := by
  intro X σ ρ G L Q gd p
  refine ha X σ ρ G L _ gd (p.seq fun x ρ1 G1 L1 s1 g1 p1 v hv => ?_)
  refine hb X σ ρ1 G1 L1 _ g1 (p1.seq fun y ρ2 G2 L2 s2 g2 p2 u hu => ?_)
  refine hr X σ ρ2 G2 L2 _ v u x y g2 (hv.mono s2) hu (p2.seq fun z ρ3 G3 L3 s3 g3 p3 w hw => ?_)
  cases z with
  | bl k =>
    rw [hw.bl_eq]
    refine ⟨k, rfl, ?_⟩
    cases k with
    | true =>
      show tc σ _ _
      refine hc X σ ρ3 G3 L3 _ g3 (PO.seq p3 fun e ρ4 G4 L4 s4 g4 p4 w2 hw2 => ?_)
      exact hr' X σ ρ4 G4 L4 Q u w2 y e g4 (hu.mono (s3.trans s4)) hw2 p4
    | false => exact p3.at_ g3 _ (.bl false)
  | _ => exact p3.elim
def mNil : M (List D) := ret []
def mCons (a : M D) (r : M (List D)) : M (List D) := bnd a fun x => bnd r fun xs => ret (x :: xs)
theorem ra_nil : RA K A W tNil mNil := fun X σ ρ G L Q gd p => p.at_ gd _ .nil
theorem ra_cons {ta : TE} {tr : TA} {a : M D} {r : M (List D)} (ha : RE K A W ta a) (hr : RA K A W tr r) : RA K A W (tCons ta tr) (mCons a r) := by
  intro X σ ρ G L Q gd p
  refine ha X σ ρ G L _ gd (p.seq fun x ρ1 G1 L1 s1 g1 p1 v hv => ?_)
  refine hr X σ ρ1 G1 L1 _ g1 (p1.seq fun xs ρ2 G2 L2 s2 g2 p2 vs hvs => ?_)
  exact p2.at_ g2 _ (.cons (hv.mono s2) hvs)
def mTup (m : M (List D)) : M D := bnd m fun ds => if ds.length ≤ 1000 then ret (.tup ds) else fail
theorem re_tup {t : TA} {m : M (List D)} (h : RA K A W t m) : RE K A W (tTup t) (mTup m) := by
  intro X σ ρ G L Q gd p
  refine h X σ ρ G L _ gd (p.seq fun ds ρ1 G1 L1 s1 g1 p1 vs hvs => ?_)
  by_cases hl : ds.length ≤ 1000
  · rw [if_pos hl] at p1
    refine ⟨by rw [hvs.length]; exact Nat.le_trans hl (by decide), fun q n => ?_⟩
    obtain ⟨n1, n2⟩ := free_of n
    rw [upds_new n2]
    have sm : Same G1 (upd G1 q (.tup vs)) := Sx.Same.updR (Same.refl _) n1
    exact p1 _ _ sm (g1.mono sm (g1.fr.new n2)) _ (.tup (SqT.of upd_same) (hvs.mono sm))
  · rw [if_neg hl] at p1
    exact p1.elim
def mLst (m : M (List D)) : M (List D) := bnd m fun ds => if ds.length ≤ 1000 then ret ds else fail
theorem rn_lst {t : TA} {m : M (List D)} (h : RA K A W t m) : RN K A W (tLst t) (mLst m) := by
  intro X σ ρ G L Q gd p
  refine h X σ ρ G L _ gd (p.seq fun ds ρ1 G1 L1 s1 g1 p1 vs hvs => ?_)
  by_cases hl : ds.length ≤ 1000
  · rw [if_pos hl] at p1
    refine ⟨by rw [hvs.length]; exact Nat.le_trans hl (by decide), fun q n => ?_⟩
    obtain ⟨n1, n2⟩ := free_of n
    exact p1.at_ g1 q vs n1 n2 hvs
  · rw [if_neg hl] at p1
    exact p1.elim
def dFld (f : Str) : D → Re D
  | .ins _ gs => match gs.lookup f with
    | some d => .ok d
    | none => .bad
  | _ => .bad
def mFld (f : Str) (m : M D) : M D := bnd m fun d => lift (dFld f d)
theorem re_fld {t : TE} {m : M D} {f : Str} (h : RE K A W t m) : RE K A W (tFld K t f) (mFld f m) := by
  intro X σ ρ G L Q gd p
  refine h X σ ρ G L _ gd (p.seq fun d ρ1 G1 L1 s1 g1 p1 v hv => ?_)
  cases hv with
  | @ins a dx C fs gs hc hn ha hs =>
    simp only [lift, dFld] at p1
    cases e : gs.lookup f with
    | none => rw [e] at p1; exact p1.elim
    | some d' =>
      rw [e] at p1
      obtain ⟨w, e1, e2⟩ := hs.look e
      have hm : (f, d') ∈ gs := by
        clear hn hs p1 ha e1 e2
        induction gs with
        | nil => cases e
        | cons x r ih =>
          obtain ⟨g, d2⟩ := x
          by_cases q : f = g
          · subst q
            simp [List.lookup] at e
            subst e
            exact List.mem_cons_self
          · have q' : (f == g) = false := by simpa using q
            simp only [List.lookup, q'] at e
            exact List.mem_cons_of_mem _ (ih e)
      exact ⟨a, _, dx, fs, w, rfl, g1.fr.same _ _ ha, (Rows.ok _ hc).cl, hn _ hm, e1, p1.at_ g1 w e2⟩
  | _ => exact p1.elim
def mCB (g : List D → Re D) (m : M (List D)) : M D := bnd m fun ds => lift (g ds)
theorem re_CB {r : List V → Hp → VK → Prop} {g : List D → Re D} {t : TA} {m : M (List D)} (hr : RC K A W r g) (h : RA K A W t m) : RE K A W (tCB r t) (mCB g m) := by
  intro X σ ρ G L Q gd p
  refine h X σ ρ G L _ gd (p.seq fun ds ρ1 G1 L1 s1 g1 p1 vs hvs => ?_)
  exact hr X σ ρ1 G1 L1 Q vs ds g1 hvs p1
def mCBn (g : List D → Re (List D)) (m : M (List D)) : M (List D) := bnd m fun ds => lift (g ds)
theorem rn_CB {r : List V → Hp → VK → Prop} {g : List D → Re (List D)} {t : TA} {m : M (List D)} (hr : RCn K A W r g) (h : RA K A W t m) : RN K A W (tCB r t) (mCBn g m) := by
  intro X σ ρ G L Q gd p
  refine h X σ ρ G L _ gd (p.seq fun ds ρ1 G1 L1 s1 g1 p1 vs hvs => ?_)
  exact hr X σ ρ1 G1 L1 Q vs ds g1 hvs p1
/-- an owned list looked at: x[i] -/
def listAt (ds : List D) (i : Int) : Re D := match atI ds i with
  | some d => .ok d
  | none => .bad
def bound : Option Sl → Bool
  | some .un => false
  | none => false
  | _ => true
def seqAt (s : Option Sl) (y : D) : Re D := match s, y with
  | some (.ow ds), .int k => listAt ds k
  | some (.rf ds), .int k => listAt ds k
  | some (.pl (.lst ds)), .int k => listAt ds k
  | _, _ => .bad
def mIdxV (i : Nat) (b : M D) (ρ : Env) : Out D := ib (bound ρ[i]?) (bnd b (fun y ρ' => lift (seqAt ρ'[i]? y) ρ') ρ) .bad
theorem Good.bound {i : Nat} (g : Good K G A X σ ρ L) (h : bound ρ[i]? = true) : ∃ v, σ[i]? = some (some v) := by
  cases e : ρ[i]? with
  | none => rw [e] at h; cases h
  | some s =>
    rw [e] at h
    obtain ⟨v, c, L1, L2, e1, sr, _, _⟩ := g.rl.focus e
    cases sr with
    | un => cases h
    | pl _ => exact ⟨_, e1⟩
    | ow _ => exact ⟨_, e1⟩
    | rf _ => exact ⟨_, e1⟩
    | se _ _ _ => exact ⟨_, e1⟩
    | exn _ => exact ⟨_, e1⟩
/-- the list at a slot -/
theorem Good.seqL {i : Nat} {ds : List D} (g : Good K G A X σ ρ L) (h : ρ[i]? = some (.ow ds) ∨ ρ[i]? = some (.rf ds) ∨ ρ[i]? = some (.pl (.lst ds))) : ∃ p ys, σ[i]? = some (some (.ref p)) ∧ SqL K (upds K G L) p ys ∧ IsL K G ys ds := by
  rcases h with h | h | h
  · obtain ⟨p, ys, e1, hy, hp, _⟩ := g.peek h (.inl rfl)
    exact ⟨p, ys, e1, SqL.of hp, hy⟩
  · obtain ⟨p, ys, e1, hy, hp, _⟩ := g.peek h (.inr rfl)
    exact ⟨p, ys, e1, SqL.of hp, hy⟩
  · obtain ⟨v, e1, hv⟩ := g.get h
    cases hv with
    | lst hs hd => exact ⟨_, _, e1, Same.seq g.fr.same hs, hd⟩
theorem IsL.atI {vs : List V} {ds : List D} {k : Int} {d : D} (h : IsL K G vs ds) (e : L2.atI ds k = some d) : ∃ v, L2.atI vs k = some v ∧ Is K G v d := by
  unfold L2.atI at e ⊢
  rw [h.length]
  cases q : ixN ds.length k with
  | none => rw [q] at e; cases e
  | some j =>
    rw [q] at e
    exact h.get e
theorem re_idxV {i : Nat} {tb : TE} {b : M D} (hb : RE K A W tb b) : RE K A W (tOp (rIxL K) (tVar i) tb) (mIdxV i b) := by
  intro X σ ρ G L Q gd p
  unfold mIdxV at p
  by_cases hh : bound ρ[i]? = true
  · rw [ib_pos hh] at p
    obtain ⟨v, e1⟩ := gd.bound hh
    refine ⟨v, e1, hb X σ ρ G L _ gd (p.seq fun y ρ1 G1 L1 s1 g1 p1 u hu => ?_)⟩
    have fin : ∀ ds k, y = .int k → (ρ1[i]? = some (.ow ds) ∨ ρ1[i]? = some (.rf ds) ∨ ρ1[i]? = some (.pl (.lst ds))) → PO K A X W σ G1 (fun d G' L' => ∀ v, Is K G' v d → Q v (upds K G' L')) (lift (listAt ds k) ρ1) → rIxL K v u (upds K G1 L1) Q := by
      rintro ds k rfl h q
      obtain ⟨p, ys, e2, hs, hy⟩ := g1.seqL h
      rw [e1] at e2
      cases e2
      unfold listAt at q
      cases e3 : L2.atI ds k with
      | none => rw [e3] at q; exact q.elim
      | some d =>
        rw [e3] at q
        obtain ⟨w, e4, hw⟩ := hy.atI e3
        exact ⟨p, ys, k, w, rfl, hu.int_eq, hs, e4, q.at_ g1 w hw⟩
    unfold seqAt at p1
    split at p1
    · rename_i ds k e; exact fin ds k rfl (.inl e) p1
    · rename_i ds k e; exact fin ds k rfl (.inr (.inl e)) p1
    · rename_i ds k e; exact fin ds k rfl (.inr (.inr e)) p1
    · exact p1.elim
  · rw [ib_neg hh] at p
    exact p.elim
end
end Mi

namespace Mi
open PySem PySem.Spec PyProof.Rows L2
open Sx (Tn Fx btys tCallW tMethW tMakeW)
section
variable {K : PySem.W.Frag} [Rows K] {A : Anc} {X : Cells} {W : WX} {σ : L2.St} {ρ : Env} {G G' : Hp} {L : Cells}
/-! ### statements -/
def mSkip : M Fl := ret .nx
def thenF (b : M Fl) : Fl → M Fl
  | .nx => b
  | f => ret f
def mSeq (a b : M Fl) : M Fl := bnd a (thenF b)
/-- another end for what follows -/
theorem SO.with {E : Ends} {nx : L2.St → Hp → Prop} {a b : M Fl} (p : SO K A X W E G (mSeq a b ρ)) (h : ∀ σ' ρ' G' L', Same G G' → Good K G' A X σ' ρ' L' → SO K A X W E G' (b ρ') → nx σ' (upds K G' L')) : SO K A X W { E with nx := nx } G (a ρ) := by
  unfold mSeq bnd at p
  cases e : a ρ with
  | ok f ρ' =>
    rw [e] at p
    cases f with
    | nx => exact fun σ' G' L' s g => h σ' ρ' G' L' s g (p.mono s)
    | bk => exact p
    | ct => exact p
    | rt r => cases r <;> exact p
  | ex C x ρ' => rw [e] at p; exact p
  | bad => rw [e] at p; exact p
theorem rs_skip : RS K A W tNext mSkip := fun X σ ρ G L E g p => p σ G L (Same.refl _) g
theorem rs_seq {t u : TS} {a b : M Fl} (ha : RS K A W t a) (hb : RS K A W u b) : RS K A W (tSeq t u) (mSeq a b) := by
  intro X σ ρ G L E g p
  exact ha X σ ρ G L _ g (p.with fun σ' ρ' G' L' s g' p' => hb X σ' ρ' G' L' E g' p')
theorem rs_break : RS K A W tBreak (ret .bk) := fun X σ ρ G L E g p => p σ G L (Same.refl _) g
theorem rs_cont : RS K A W tCont (ret .ct) := fun X σ ρ G L E g p => p σ G L (Same.refl _) g
def okAsg : Option Sl → Bool
  | some s => loose s
  | none => false
def sto (i : Nat) (s : Sl) (ρ : Env) : Out Unit := ib (okAsg ρ[i]?) (.ok () (ρ.set i s)) .bad
theorem Good.sto {i : Nat} {v : V} {d : D} (g : Good K G A X σ ρ L) (h : okAsg ρ[i]? = true) (hv : Is K G v d) : ∃ G' L', Same G G' ∧ upds K G L = upds K G' L' ∧ Good K G' A X (σ.set i (some v)) (ρ.set i (.pl d)) L' := by
  cases e : ρ[i]? with
  | none => rw [e] at h; cases h
  | some s => rw [e] at h; exact g.asg e h hv
theorem Good.stoN {i : Nat} {p : Addr} {ys : List V} {ds : List D} (g : Good K G A X σ ρ L) (h : okAsg ρ[i]? = true) (n1 : G p = none) (n2 : p ∉ ads L) (hv : IsL K G ys ds) :
    ∃ G' L', Same G G' ∧ upd (upds K G L) p (.lst ys) = upds K G' L' ∧ Good K G' A X (σ.set i (some (.ref p))) (ρ.set i (.ow ds)) L' := by
  cases e : ρ[i]? with
  | none => rw [e] at h; cases h
  | some s => rw [e] at h; exact g.asgN e h n1 n2 hv
def mAsg (i : Nat) (m : M D) : M Fl := bnd m fun d => bnd (sto i (.pl d)) fun _ => ret .nx
theorem rs_asg {i : Nat} {t : TE} {m : M D} (h : RE K A W t m) : RS K A W (tAsg t (gName i)) (mAsg i m) := by
  intro X σ ρ G L E g p
  refine h X σ ρ G L _ g (p.seqE fun d ρ1 G1 L1 s1 g1 p1 v hv => ?_)
  show E.nx (σ.set i (some v)) _
  unfold bnd sto at p1
  by_cases ho : okAsg ρ1[i]? = true
  · rw [ib_pos ho] at p1
    obtain ⟨G2, L2, s2, e2, g2⟩ := g1.sto ho hv
    rw [e2]
    exact p1 _ _ _ s2 g2
  · rw [ib_neg ho] at p1
    exact p1.elim
def mAsgN (i : Nat) (m : M (List D)) : M Fl := bnd m fun ds => bnd (sto i (.ow ds)) fun _ => ret .nx
theorem rs_asgN {i : Nat} {t : TE} {m : M (List D)} (h : RN K A W t m) : RS K A W (tAsg t (gName i)) (mAsgN i m) := by
  intro X σ ρ G L E g p
  refine h X σ ρ G L _ g (p.seqE fun ds ρ1 G1 L1 s1 g1 p1 q ys n1 n2 hy => ?_)
  show E.nx (σ.set i (some (.ref q))) _
  unfold bnd sto at p1
  by_cases ho : okAsg ρ1[i]? = true
  · rw [ib_pos ho] at p1
    obtain ⟨G2, L2, s2, e2, g2⟩ := g1.stoN ho n1 n2 hy
    rw [e2]
    exact p1 _ _ _ s2 g2
  · rw [ib_neg ho] at p1
    exact p1.elim
def two : List D → Re (D × D)
  | [a, b] => .ok (a, b)
  | _ => .bad
def mPar (i j : Nat) (m : M (List D)) : M Fl := bnd m fun ds => bnd (lift (two ds)) fun x => bnd (sto i (.pl x.1)) fun _ => bnd (sto j (.pl x.2)) fun _ => ret .nx
theorem rs_par {i j : Nat} {t : TA} {m : M (List D)} (h : RA K A W t m) : RS K A W (tPar i j t) (mPar i j m) := by
  intro X σ ρ G L E g p
  refine h X σ ρ G L _ g (p.seqE fun ds ρ1 G1 L1 s1 g1 p1 vs hvs => ?_)
  match ds, vs, hvs, p1 with
  | [a, b], [v, w], .cons hv (.cons hw .nil), p1 =>
    refine ⟨v, w, rfl, ?_⟩
    simp only [bnd, lift, two, sto] at p1
    by_cases ho : okAsg ρ1[i]? = true
    · rw [ib_pos ho] at p1
      obtain ⟨G2, L2, s2, e2, g2⟩ := g1.sto ho hv
      by_cases ho2 : okAsg (ρ1.set i (.pl a))[j]? = true
      · simp only [ib_pos ho2] at p1
        obtain ⟨G3, L3, s3, e3, g3⟩ := g2.sto ho2 (hw.mono s2)
        rw [e2, e3]
        exact p1 _ _ _ (s2.trans s3) g3
      · simp only [ib_neg ho2] at p1
        exact p1.elim
    · rw [ib_neg ho] at p1
      exact p1.elim
  | [], _, _, p1 => exact p1.elim
  | [_], _, _, p1 => exact p1.elim
  | _ :: _ :: _ :: _, _, _, p1 => exact p1.elim
def mDrop (m : M D) : M Fl := bnd m fun _ => ret .nx
theorem rs_drop {t : TE} {m : M D} (h : RE K A W t m) : RS K A W (tDrop t) (mDrop m) := by
  intro X σ ρ G L E g p
  exact h X σ ρ G L _ g (p.seqE fun d ρ1 G1 L1 s1 g1 p1 v hv => p1 σ G1 L1 (Same.refl _) g1)
def mRet (m : M D) : M Fl := bnd m fun d => ret (.rt (.pl d))
theorem rs_ret {t : TE} {m : M D} (h : RE K A W t m) : RS K A W (tRet t) (mRet m) := by
  intro X σ ρ G L E g p
  exact h X σ ρ G L _ g (p.seqE fun d ρ1 G1 L1 s1 g1 p1 v hv => p1 σ G1 L1 v (Same.refl _) g1 hv)
def mRetN (m : M (List D)) : M Fl := bnd m fun d => ret (.rt (.nw d))
theorem rs_retN {t : TE} {m : M (List D)} (h : RN K A W t m) : RS K A W (tRet t) (mRetN m) := by
  intro X σ ρ G L E g p
  exact h X σ ρ G L _ g (p.seqE fun d ρ1 G1 L1 s1 g1 p1 q ys n1 n2 hy => p1 σ G1 L1 q ys (Same.refl _) g1 n1 n2 hy)
theorem rs_ret0 : RS K A W tRetN (ret (.rt (.pl .non))) := fun X σ ρ G L E g p => p σ G L .non (Same.refl _) g .non
/-- return of a name -/
def mRetV (i : Nat) (ρ : Env) : Out Fl := match ρ[i]? with
  | some (.pl d) => .ok (.rt (.pl d)) ρ
  | some (.ow ds) => .ok (.rt (.nw ds)) (ρ.set i .un)
  | _ => .bad
theorem rs_retV {i : Nat} : RS K A W (tRet (tVar i)) (mRetV i) := by
  intro X σ ρ G L E g p
  unfold mRetV at p
  split at p
  · rename_i d e
    obtain ⟨v, e1, hv⟩ := g.get e
    exact ⟨v, e1, p σ G L v (Same.refl _) g hv⟩
  · rename_i ds e
    obtain ⟨v0, c, L1, L2, e1, s1, rfl, k⟩ := g.rl.focus e
    cases s1 with
    | @ow q ys _ hy =>
      have r := k G none .un [] (Same.refl _) .un
      obtain ⟨q1, q2⟩ := mid_eq (K := K) g.fr
      have gq : G q = none := g.fr.no q (by rw [ads_app, ads_app]; simp [ads, ad1])
      have np : q ∉ ads (L1 ++ L2) := fun z => by
        have := q2.no q z
        simp only [upds, put1] at this
        rw [upd_same] at this
        cases this
      have fr : Frs G (L1 ++ L2) := ⟨q2.nd, fun a ha => by
        have := q2.no a ha
        simp only [upds, put1] at this
        rw [upd_ne fun (z : a = q) => np (z ▸ ha)] at this
        exact this⟩
      refine ⟨_, e1, ?_⟩
      have := p (σ.set i none) G (L1 ++ L2) q ys (Same.refl _) ⟨r, fr⟩ gq np hy
      rw [upds_new np] at this
      rw [q1]
      exact this
  · exact p.elim
def mIfS (c : M Bool) (a b : M Fl) : M Fl := bnd c fun x => ib x a b
theorem rs_if {tc : TT} {t u : TS} {c : M Bool} {a b : M Fl} (hc : RT K A W tc c) (ha : RS K A W t a) (hb : RS K A W u b) : RS K A W (tIfS tc t u) (mIfS c a b) := by
  intro X σ ρ G L E g p
  refine hc X σ ρ G L _ g (p.seqE fun x ρ1 G1 L1 s1 g1 p1 => ?_)
  cases x with
  | true => exact ha X σ ρ1 G1 L1 E g1 p1
  | false => exact hb X σ ρ1 G1 L1 E g1 p1
/-! ### while -/
def againF (r : M Fl) : Fl → M Fl
  | .nx => r
  | .ct => r
  | .bk => ret .nx
  | .rt v => ret (.rt v)
def wloop (c : M Bool) (b : M Fl) : Nat → M Fl
  | 0 => fail
  | n + 1 => bnd c fun x => ib x (bnd b (againF (wloop c b n))) (ret .nx)
def isBad {α : Type} : Out α → Bool
  | .bad => true
  | _ => false
open Classical in
noncomputable def mWhile (c : M Bool) (b : M Fl) (ρ : Env) : Out Fl := if h : ∃ n, isBad (wloop c b n ρ) = false then wloop c b h.choose ρ else .bad
theorem wloop_more {c : M Bool} {b : M Fl} : ∀ {n : Nat} {ρ : Env}, isBad (wloop c b n ρ) = false → wloop c b (n + 1) ρ = wloop c b n ρ
  | 0, _, h => by cases h
  | n + 1, ρ, h => by
    rw [wloop.eq_2 c b n, wloop.eq_2 c b (n + 1)]
    rw [wloop.eq_2 c b n] at h
    simp only [bnd] at h ⊢
    cases e : c ρ with
    | ok x ρ1 =>
      rw [e] at h
      cases x with
      | false => rfl
      | true =>
        simp only [ib_t, bnd] at h ⊢
        cases e2 : b ρ1 with
        | ok f ρ2 =>
          rw [e2] at h
          cases f with
          | nx => exact wloop_more h
          | ct => exact wloop_more h
          | bk => rfl
          | rt v => rfl
        | ex C y ρ2 => rfl
        | bad => rfl
    | ex C y ρ1 => rfl
    | bad => rfl
theorem wloop_le {c : M Bool} {b : M Fl} {n m : Nat} {ρ : Env} (h : isBad (wloop c b n ρ) = false) (e : n ≤ m) : wloop c b m ρ = wloop c b n ρ := by
  induction e with
  | refl => rfl
  | @step m e ih =>
    have h2 : isBad (wloop c b m ρ) = false := by rw [ih]; exact h
    rw [← ih]
    exact wloop_more h2
theorem mWhile_eq {c : M Bool} {b : M Fl} {n : Nat} {ρ : Env} (h : isBad (wloop c b n ρ) = false) : mWhile c b ρ = wloop c b n ρ := by
  unfold mWhile
  have hx : ∃ n, isBad (wloop c b n ρ) = false := ⟨n, h⟩
  rw [dif_pos hx]
  rcases Nat.le_total hx.choose n with e | e
  · exact (wloop_le hx.choose_spec e).symm
  · exact wloop_le h e
theorem rs_while {tc : TT} {tb : TS} {c : M Bool} {b : M Fl} (hc : RT K A W tc c) (hb : RS K A W tb b) : RS K A W (tWhile tc tb) (mWhile c b) := by
  intro X σ ρ G L E g p
  unfold mWhile at p
  by_cases hx : ∃ n, isBad (wloop c b n ρ) = false
  · rw [dif_pos hx] at p
    refine ⟨fun m σ H => ∃ ρ G L, H = upds K G L ∧ Good K G A X σ ρ L ∧ SO K A X W E G (wloop c b m ρ), ⟨_, ρ, G, L, rfl, g, p⟩, ?_⟩
    rintro m σ H ⟨ρ, G, L, rfl, g, p⟩
    cases m with
    | zero => exact p.elim
    | succ n =>
      rw [wloop.eq_2] at p
      refine hc X σ ρ G L _ g (p.seqE fun x ρ1 G1 L1 s1 g1 p1 => ?_)
      cases x with
      | false => exact p1 σ G1 L1 (Same.refl _) g1
      | true =>
        show ∃ N, _
        refine ⟨fun σ' H' => ∃ ρ G L, H' = upds K G L ∧ Good K G A X σ' ρ L ∧ SO K A X W E G (wloop c b n ρ), fun σ' H' h => ⟨n, Nat.lt_succ_self n, h⟩, ?_⟩
        refine hb X σ ρ1 G1 L1 _ g1 ?_
        simp only [ib_t, bnd] at p1
        cases e : b ρ1 with
        | ok f ρ2 =>
          rw [e] at p1
          cases f with
          | nx => exact fun σ' G' L' s g' => ⟨ρ2, G', L', rfl, g', SO.mono s p1⟩
          | ct => exact fun σ' G' L' s g' => ⟨ρ2, G', L', rfl, g', SO.mono s p1⟩
          | bk => exact p1
          | rt v => cases v <;> exact p1
        | ex C y ρ2 => rw [e] at p1; exact p1
        | bad => rw [e] at p1; exact p1
  · rw [dif_neg hx] at p
    exact p.elim
/-! ### for -/
/-- the iterator J walks the data ds -/
def ItOk (K : PySem.W.Frag) [Rows K] (J : It) (ds : List D) (G : Hp) : Prop := ∀ (i : Nat) (G2 : Hp) (L2 : Cells), Same G G2 → Frs G2 L2 →
  (∀ d, ds[i]? = some d → J.go i (upds K G2 L2) ∧ ∀ x H', J.yld i (upds K G2 L2) x H' → ∃ G3, H' = upds K G3 L2 ∧ Same G2 G3 ∧ Frs G3 L2 ∧ Is K G3 x d) ∧ (ds.length ≤ i → J.stop i (upds K G2 L2))
def RI (K : PySem.W.Frag) [Rows K] (A : Anc) (W : WX) (wi : TI) (m : M (List D)) : Prop := ∀ X σ ρ G L (R : It → Hp → Prop), Good K G A X σ ρ L → PO K A X W σ G (fun ds G' L' => ∀ J, ItOk K J ds G' → R J (upds K G' L')) (m ρ) → wi σ (upds K G L) R
theorem ItOk.mono {J : It} {ds : List D} (h : ItOk K J ds G) (e : Same G G') : ItOk K J ds G' := fun i G2 L2 s f => h i G2 L2 (e.trans s) f
def forL (g : D → Env → Option Env) (b : M Fl) : List D → M Fl
  | [] => ret .nx
  | d :: ds => bnd (tgt (g d)) fun _ => bnd b (againF (forL g b ds))
def mFor (it : M (List D)) (g : D → Env → Option Env) (b : M Fl) : M Fl := bnd it fun ds => forL g b ds
theorem rs_for {wi : TI} {tg : TG} {tb : TS} {it : M (List D)} {g : D → Env → Option Env} {b : M Fl} (hi : RI K A W wi it) (hg : RG K A tg g) (hb : RS K A W tb b) : RS K A W (tFor wi tg tb) (mFor it g b) := by
  intro X σ ρ G L E gd p
  refine hi X σ ρ G L _ gd (p.seqE fun ds ρ1 G1 L1 s1 g1 p1 J hJ => ?_)
  refine ⟨fun i m σ H => ∃ ρ G L, H = upds K G L ∧ Good K G A X σ ρ L ∧ Same G1 G ∧ i ≤ ds.length ∧ m = ds.length - i ∧ SO K A X W E G (forL g b (ds.drop i) ρ), ⟨ds.length, ρ1, G1, L1, rfl, g1, Same.refl _, Nat.zero_le _, rfl, p1⟩, ?_⟩
  rintro i m σ H ⟨ρ, G, L, rfl, gd, sm, hi, rfl, p⟩
  obtain ⟨q1, q2⟩ := hJ i G L sm gd.fr
  by_cases hl : i < ds.length
  · right
    have ed : ds.drop i = ds[i] :: ds.drop (i + 1) := List.drop_eq_getElem_cons hl
    obtain ⟨go, yl⟩ := q1 ds[i] (List.getElem?_eq_getElem hl)
    refine ⟨go, fun σ H => ∃ ρ G L, H = upds K G L ∧ Good K G A X σ ρ L ∧ Same G1 G ∧ SO K A X W E G (forL g b (ds.drop (i + 1)) ρ), fun σ' H' ⟨ρ, G, L, e, g', s', p'⟩ => ⟨ds.length - (i + 1), by omega, ρ, G, L, e, g', s', by omega, rfl, p'⟩, fun x H' hy => ?_⟩
    obtain ⟨G3, rfl, s3, f3, hx⟩ := yl x H' hy
    rw [ed] at p
    have g3 := gd.mono s3 f3
    refine hg X σ ρ G3 L x _ _ g3 hx ?_
    simp only [forL, bnd, tgt] at p
    cases e : g ds[i] ρ with
    | some ρ2 =>
      rw [e] at p
      intro σ' G' L' s' g'
      refine hb X σ' ρ2 G' L' _ g' ?_
      have p := SO.mono (s3.trans s') p
      cases e2 : b ρ2 with
      | ok f ρ3 =>
        simp only [e2] at p
        cases f with
        | nx => exact fun σ2 G2 L2 s2 g2 => ⟨ρ3, G2, L2, rfl, g2, ((sm.trans s3).trans s').trans s2, SO.mono s2 p⟩
        | ct => exact fun σ2 G2 L2 s2 g2 => ⟨ρ3, G2, L2, rfl, g2, ((sm.trans s3).trans s').trans s2, SO.mono s2 p⟩
        | bk => exact p
        | rt v => cases v <;> exact p
      | ex C y ρ3 => simp only [e2] at p; exact p
      | bad => simp only [e2] at p; exact p
    | none => rw [e] at p; exact p.elim
  · left
    refine ⟨q2 (by omega), ?_⟩
    rw [List.drop_eq_nil_of_le (by omega)] at p
    exact p σ G L (Same.refl _) gd
end
end Mi

namespace Mi
open PySem PySem.Spec PyProof.Rows L2
open Sx (Tn Fx btys tCallW tMethW tMakeW)
section
variable {K : PySem.W.Frag} [Rows K] {A : Anc} {X : Cells} {W : WX} {σ : L2.St} {ρ : Env} {G G' : Hp} {L : Cells}
/-! ### targets -/
def gV (i : Nat) (d : D) (ρ : Env) : Option Env := ib (okAsg ρ[i]?) (some (ρ.set i (.pl d))) none
theorem rg_name {i : Nat} : RG K A (gName i) (gV i) := by
  intro X σ ρ G L v d Q g hv p
  unfold gV at p
  by_cases ho : okAsg ρ[i]? = true
  · rw [ib_pos ho] at p
    obtain ⟨G2, L2, s2, e2, g2⟩ := g.sto ho hv
    show Q (σ.set i (some v)) _
    rw [e2]
    exact p _ _ _ s2 g2
  · rw [ib_neg ho] at p
    exact p.elim
def gsN (ds : List D) (ρ : Env) : Option Env := match ds with
  | [] => some ρ
  | _ => none
def gsC (g : D → Env → Option Env) (r : List D → Env → Option Env) (ds : List D) (ρ : Env) : Option Env := match ds with
  | d :: ds => (g d ρ).bind fun ρ' => r ds ρ'
  | [] => none
theorem rgs_nil : RGs K A gNil gsN := by
  intro X σ ρ G L vs ds Q g hv p
  cases hv with
  | nil => exact ⟨rfl, p σ G L (Same.refl _) g⟩
  | cons _ _ => exact p.elim
theorem rgs_cons {t : TG} {u : TGs} {g : D → Env → Option Env} {r : List D → Env → Option Env} (h1 : RG K A t g) (h2 : RGs K A u r) : RGs K A (gCons t u) (gsC g r) := by
  intro X σ ρ G L vs ds Q gd hv p
  cases hv with
  | nil => exact p.elim
  | @cons v d vs ds hv hvs =>
    refine ⟨v, vs, rfl, h1 X σ ρ G L v d _ gd hv ?_⟩
    simp only [gsC] at p
    cases e : g d ρ with
    | none => rw [e] at p; exact p.elim
    | some ρ' =>
      rw [e] at p
      intro σ' G' L' s' g'
      refine h2 X σ' ρ' G' L' vs ds Q g' (hvs.mono s') ?_
      simp only [Option.bind_some] at p
      cases e2 : r ds ρ' with
      | none => rw [e2] at p; exact p.elim
      | some ρ2 => rw [e2] at p; exact fun σ2 G2 L2 s2 g2 => p σ2 G2 L2 (s'.trans s2) g2
def gT (n : Nat) (r : List D → Env → Option Env) (d : D) (ρ : Env) : Option Env := match d with
  | .tup ds => if ds.length = n then r ds ρ else none
  | _ => none
theorem rg_tup {n : Nat} {t : TGs} {r : List D → Env → Option Env} (h : RGs K A t r) : RG K A (gTup K n t) (gT n r) := by
  intro X σ ρ G L v d Q g hv p
  cases hv with
  | @tup a xs ds hs hd =>
    simp only [gT] at p
    by_cases e : ds.length = n
    · rw [if_pos e] at p
      exact ⟨a, xs, rfl, Sx.Same.seqT g.fr.same hs, by rw [hd.length]; exact e, h X σ ρ G L xs ds Q g hd p⟩
    · rw [if_neg e] at p; exact p.elim
  | _ => exact p.elim
/-- target = value -/
def mAsgT (g : D → Env → Option Env) (m : M D) : M Fl := bnd m fun d => bnd (tgt (g d)) fun _ => ret .nx
theorem rs_asgT {t : TE} {tg : TG} {m : M D} {g : D → Env → Option Env} (h : RE K A W t m) (hg : RG K A tg g) : RS K A W (tAsg t tg) (mAsgT g m) := by
  intro X σ ρ G L E gd p
  refine h X σ ρ G L _ gd (p.seqE fun d ρ1 G1 L1 s1 g1 p1 v hv => ?_)
  refine hg X σ ρ1 G1 L1 v d _ g1 hv ?_
  simp only [bnd, tgt] at p1
  cases e : g d ρ1 with
  | none => rw [e] at p1; exact p1.elim
  | some ρ2 => rw [e] at p1; exact fun σ2 G2 L2 s2 g2 => p1 σ2 G2 L2 s2 g2
/-! ### what is walked -/
def asL : D → Re (List D)
  | .lst ds => .ok ds
  | _ => .bad
def asT : D → Re (List D)
  | .tup ds => .ok ds
  | _ => .bad
def asQ : D → Re (List D)
  | .lst ds => .ok ds
  | .tup ds => .ok ds
  | _ => .bad
theorem it_list {a : Addr} {xs : List V} {ds : List D} (hs : SqL K G a xs) (hd : IsL K G xs ds) : ItOk K (Itl K a) ds G := by
  intro i G2 L2 sm f
  have h2 : SqL K (upds K G2 L2) a xs := Same.seq (sm.trans f.same) hs
  refine ⟨fun d e => ?_, fun hl => ⟨xs, h2, by rw [hd.length]; exact hl⟩⟩
  obtain ⟨v, e1, hv⟩ := hd.get e
  refine ⟨⟨xs, v, h2, e1⟩, fun x H' hy => ?_⟩
  obtain ⟨rfl, hx⟩ := hy
  have e2 := hx xs h2
  rw [e1] at e2
  cases e2
  exact ⟨G2, rfl, Same.refl _, f, hv.mono sm⟩
theorem it_tup {a : Addr} {xs : List V} {ds : List D} (hs : SqT K G a xs) (hd : IsL K G xs ds) : ItOk K (Itt K a) ds G := by
  intro i G2 L2 sm f
  have h2 : SqT K (upds K G2 L2) a xs := Sx.Same.seqT (sm.trans f.same) hs
  refine ⟨fun d e => ?_, fun hl => ⟨xs, h2, by rw [hd.length]; exact hl⟩⟩
  obtain ⟨v, e1, hv⟩ := hd.get e
  refine ⟨⟨xs, v, h2, e1⟩, fun x H' hy => ?_⟩
  obtain ⟨rfl, hx⟩ := hy
  have e2 := hx xs h2
  rw [e1] at e2
  cases e2
  exact ⟨G2, rfl, Same.refl _, f, hv.mono sm⟩
def mItL (m : M D) : M (List D) := bnd m fun d => lift (asL d)
def mItT (m : M D) : M (List D) := bnd m fun d => lift (asT d)
def mItQ (m : M D) : M (List D) := bnd m fun d => lift (asQ d)
theorem ri_list {t : TE} {m : M D} (h : RE K A W t m) : RI K A W (iList K t) (mItL m) := by
  intro X σ ρ G L R g p
  refine h X σ ρ G L _ g (p.seq fun d ρ1 G1 L1 s1 g1 p1 v hv => ?_)
  cases hv with
  | @lst a xs ds hs hd => exact ⟨a, rfl, ⟨xs, Same.seq g1.fr.same hs⟩, p1.at_ g1 _ (it_list hs hd)⟩
  | _ => exact p1.elim
theorem ri_tup {t : TE} {m : M D} (h : RE K A W t m) : RI K A W (iTup K t) (mItT m) := by
  intro X σ ρ G L R g p
  refine h X σ ρ G L _ g (p.seq fun d ρ1 G1 L1 s1 g1 p1 v hv => ?_)
  cases hv with
  | @tup a xs ds hs hd => exact ⟨a, rfl, ⟨xs, Sx.Same.seqT g1.fr.same hs⟩, p1.at_ g1 _ (it_tup hs hd)⟩
  | _ => exact p1.elim
def iSeq (K : PySem.W.Frag) (tl : TE) : TI := fun σ H R => tl σ H fun x H1 => ∃ a, x = .ref a ∧ (((∃ xs, SqL K H1 a xs) ∧ R (Itl K a) H1) ∨ ((∃ xs, SqT K H1 a xs) ∧ R (Itt K a) H1))
theorem pi_seq {X : Cx} {tg l : Expr} {tl : TE} (hl : PE X l tl) : PI X tg l (iSeq X.K tl) := by
  refine ⟨fun pins s σ H R I h => ?_⟩
  refine thn (hl.run pins s σ H _ I h) fun v s1 ⟨x, H1, I1, r1, q1⟩ => ?_
  obtain ⟨a, e, q1⟩ := q1
  subst e
  rcases q1 with ⟨⟨xs, hq⟩, q⟩ | ⟨⟨xs, hq⟩, q⟩
  · cases r1
    obtain ⟨its, rv, p, hz⟩ := I1.list hq
    refine wpAny_pyIter_list p.isList ?_
    refine ⟨s1.heap.objs.size, [s1.heap.objs.size], _, _, H1, rfl, I1.kept (t' := s1.toks) fun b o e => Heap.get?_push_of_some _ e, turn_list a _, ⟨_, Heap.get?_push_size _ rfl, rfl, rfl⟩, fun b hb => ?_, q⟩
    have e : b = s1.heap.objs.size := by simpa using hb
    subst e
    exact I1.fpOk (Nat.le_refl _) (I1.hok.fresh (Nat.le_refl _))
  · cases r1
    obtain ⟨its, rv, p, hz⟩ := I1.tuple hq
    refine wpAny_pyIter_tuple (show s1.heap.IsTuple a its.toArray from p) ?_
    refine ⟨s1.heap.objs.size, [s1.heap.objs.size], _, _, H1, rfl, I1.kept (t' := s1.toks) fun b o e => Heap.get?_push_of_some _ e, turn_tuple a _, ⟨_, Heap.get?_push_size _ rfl, rfl, rfl⟩, fun b hb => ?_, q⟩
    have e : b = s1.heap.objs.size := by simpa using hb
    subst e
    exact I1.fpOk (Nat.le_refl _) (I1.hok.fresh (Nat.le_refl _))
theorem ri_seq {t : TE} {m : M D} (h : RE K A W t m) : RI K A W (iSeq K t) (mItQ m) := by
  intro X σ ρ G L R g p
  refine h X σ ρ G L _ g (p.seq fun d ρ1 G1 L1 s1 g1 p1 v hv => ?_)
  cases hv with
  | @lst a xs ds hs hd => exact ⟨a, rfl, .inl ⟨⟨xs, Same.seq g1.fr.same hs⟩, p1.at_ g1 _ (it_list hs hd)⟩⟩
  | @tup a xs ds hs hd => exact ⟨a, rfl, .inr ⟨⟨xs, Sx.Same.seqT g1.fr.same hs⟩, p1.at_ g1 _ (it_tup hs hd)⟩⟩
  | _ => exact p1.elim
def rngL (lo : Int) (n : Nat) : List D := (List.range n).map fun (i : Nat) => .int (lo + i)
def rngC (lo c : Int) (n : Nat) : List D := (List.range n).map fun (i : Nat) => .int (lo + i * c)
theorem rngL_at {lo : Int} {n i : Nat} : (rngL lo n)[i]? = if i < n then some (.int (lo + i)) else none := by
  unfold rngL
  by_cases h : i < n
  · rw [if_pos h]; simp [h]
  · rw [if_neg h]; simp; omega
theorem it_rng {lo : Int} {n : Nat} : ItOk K (Itr lo n) (rngL lo n) G := by
  intro i G2 L2 sm f
  refine ⟨fun d e => ?_, fun hl => by show n ≤ i; simpa [rngL] using hl⟩
  rw [rngL_at] at e
  by_cases h : i < n
  · rw [if_pos h] at e
    cases e
    refine ⟨h, fun x H' hy => ?_⟩
    obtain ⟨rfl, rfl⟩ := hy
    exact ⟨G2, rfl, Same.refl _, f, .int _⟩
  · rw [if_neg h] at e; cases e
theorem it_rngC {lo c : Int} {n : Nat} : ItOk K (Itc lo c n) (rngC lo c n) G := by
  intro i G2 L2 sm f
  refine ⟨fun d e => ?_, fun hl => by show n ≤ i; simpa [rngC] using hl⟩
  by_cases h : i < n
  · have : (rngC lo c n)[i]? = some (.int (lo + i * c)) := by unfold rngC; simp [h]
    rw [this] at e
    cases e
    refine ⟨h, fun x H' hy => ?_⟩
    obtain ⟨rfl, rfl⟩ := hy
    exact ⟨G2, rfl, Same.refl _, f, .int _⟩
  · have : (rngC lo c n)[i]? = none := by unfold rngC; simp; omega
    rw [this] at e; cases e
def small (i : Int) : Bool := decide (-(2 ^ 62) ≤ i) && decide (i < 2 ^ 62)
def rng1 : List D → Re (List D)
  | [.int j] => ib (small j) (.ok (rngL 0 j.toNat)) .bad
  | _ => .bad
def rng2 : List D → Re (List D)
  | [.int i, .int j] => ib (small i && small j) (.ok (rngL i (j - i).toNat)) .bad
  | _ => .bad
def rng3 : List D → Re (List D)
  | [.int i, .int j, .int c] => ib ((small i && small j) && decide (c = -1)) (.ok (rngC i (-1) (i - j).toNat)) .bad
  | _ => .bad
def mItA (g : List D → Re (List D)) (m : M (List D)) : M (List D) := bnd m fun ds => lift (g ds)
theorem ri_rng1 {t : TA} {m : M (List D)} (h : RA K A W t m) : RI K A W (iRng1 t) (mItA rng1 m) := by
  intro X σ ρ G L R g p
  refine h X σ ρ G L _ g (p.seq fun ds ρ1 G1 L1 s1 g1 p1 vs hvs => ?_)
  match ds, vs, hvs, p1 with
  | [.int j], [_], .cons (.int _) .nil, p1 =>
    simp only [lift, rng1] at p1
    by_cases hs : small j = true
    · simp only [ib_pos hs] at p1
      have hs2 := hs
      simp only [small, Bool.and_eq_true, decide_eq_true_eq] at hs2
      exact ⟨j, rfl, hs2.1, hs2.2, p1.at_ g1 _ it_rng⟩
    · simp only [ib_neg hs] at p1; exact p1.elim
  | [], _, _, p1 => exact p1.elim
  | .non :: _, _, _, p1 => exact p1.elim
  | .bl _ :: _, _, _, p1 => exact p1.elim
  | .str _ :: _, _, _, p1 => exact p1.elim
  | .tup _ :: _, _, _, p1 => exact p1.elim
  | .lst _ :: _, _, _, p1 => exact p1.elim
  | .ins _ _ :: _, _, _, p1 => exact p1.elim
  | .dic :: _, _, _, p1 => exact p1.elim
  | .int _ :: _ :: _, _, _, p1 => exact p1.elim
theorem rng2_ok {ds es : List D} (h : rng2 ds = .ok es) : ∃ i j : Int, ds = [.int i, .int j] ∧ small i = true ∧ small j = true ∧ es = rngL i (j - i).toNat := by
  unfold rng2 at h
  split at h
  · rename_i i j
    by_cases q : (small i && small j) = true
    · rw [ib_pos q] at h
      simp only [Bool.and_eq_true] at q
      cases h
      exact ⟨_, _, rfl, q.1, q.2, rfl⟩
    · rw [ib_neg q] at h; cases h
  · cases h
theorem rng3_ok {ds es : List D} (h : rng3 ds = .ok es) : ∃ i j : Int, ds = [.int i, .int j, .int (-1)] ∧ small i = true ∧ small j = true ∧ es = rngC i (-1) (i - j).toNat := by
  unfold rng3 at h
  split at h
  · rename_i i j c
    by_cases q : ((small i && small j) && decide (c = -1)) = true
    · rw [ib_pos q] at h
      simp only [Bool.and_eq_true, decide_eq_true_eq] at q
      obtain ⟨⟨h1, h2⟩, rfl⟩ := q
      cases h
      exact ⟨_, _, rfl, h1, h2, rfl⟩
    · rw [ib_neg q] at h; cases h
  · cases h
/-- a pure step that neither raises -/
def noX {α : Type} (r : Re α) : Prop := ∀ C x, r ≠ .ex C x
theorem PO.lift {α : Type} {k : α → Hp → Cells → Prop} {r : Re α} (p : PO K A X W σ G k (lift r ρ)) (n : noX r) : ∃ a, r = .ok a ∧ PO K A X W σ G k (.ok a ρ) := by
  cases r with
  | ok a => exact ⟨a, rfl, p⟩
  | ex C x => exact absurd rfl (n C x)
  | bad => exact p.elim
theorem nx_ib {α : Type} {b : Bool} {a : α} : noX (ib b (Re.ok a) .bad) := fun C x => by cases b <;> simp [ib]
theorem nx_rng2 (ds : List D) : noX (rng2 ds) := by unfold rng2; split; exact nx_ib; exact fun C x => by simp
theorem nx_rng3 (ds : List D) : noX (rng3 ds) := by unfold rng3; split; exact nx_ib; exact fun C x => by simp
theorem IsL.ints_eq : ∀ {vs : List V} {ns : List Int}, IsL K G vs (ns.map D.int) → vs = ns.map V.int
  | _, [], .nil => rfl
  | _, n :: ns, .cons h hs => by
    cases h
    rw [IsL.ints_eq hs]
    rfl
theorem ri_rng2 {t : TA} {m : M (List D)} (h : RA K A W t m) : RI K A W (iRng2 t) (mItA rng2 m) := by
  intro X σ ρ G L R g p
  refine h X σ ρ G L _ g (p.seq fun ds ρ1 G1 L1 s1 g1 p1 vs hvs => ?_)
  obtain ⟨es, e, p1⟩ := p1.lift (nx_rng2 ds)
  obtain ⟨i, j, rfl, h1, h2, rfl⟩ := rng2_ok e
  have ev : vs = [.int i, .int j] := IsL.ints_eq (ns := [i, j]) hvs
  simp only [small, Bool.and_eq_true, decide_eq_true_eq] at h1 h2
  exact ⟨i, j, ev, ⟨h1.1, h1.2, h2.1, h2.2⟩, p1.at_ g1 _ it_rng⟩
theorem ri_rng3 {t : TA} {m : M (List D)} (h : RA K A W t m) : RI K A W (iRng3 t) (mItA rng3 m) := by
  intro X σ ρ G L R g p
  refine h X σ ρ G L _ g (p.seq fun ds ρ1 G1 L1 s1 g1 p1 vs hvs => ?_)
  obtain ⟨es, e, p1⟩ := p1.lift (nx_rng3 ds)
  obtain ⟨i, j, rfl, h1, h2, rfl⟩ := rng3_ok e
  have ev : vs = [.int i, .int j, .int (-1)] := IsL.ints_eq (ns := [i, j, -1]) hvs
  simp only [small, Bool.and_eq_true, decide_eq_true_eq] at h1 h2
  exact ⟨i, j, -1, _, ev, RgC.neg h1.1 h1.2 h2.1 h2.2, p1.at_ g1 _ it_rngC⟩
/-- reversed(list) -/
def revA : List D → Re (List D)
  | [.lst ds] => .ok ds.reverse
  | _ => .bad
theorem nx_revA (ds : List D) : noX (revA ds) := fun C x => by unfold revA; split <;> simp
theorem it_rev {a : Addr} {xs : List V} {ds : List D} (hs : SqL K G a xs) (hd : IsL K G xs ds) : ItOk K (Itv K a xs.length) ds.reverse G := by
  intro i G2 L2 sm f
  have h2 : SqL K (upds K G2 L2) a xs := Same.seq (sm.trans f.same) hs
  have hl := hd.length
  refine ⟨fun d e => ?_, fun q => by show xs.length ≤ i; simpa [hl] using q⟩
  have hi : i < ds.length := by
    have := (List.getElem?_eq_some_iff.mp e).1
    simpa using this
  rw [List.getElem?_reverse hi] at e
  obtain ⟨v, e1, hv⟩ := hd.get e
  rw [← hl] at e1
  refine ⟨⟨by omega, xs, v, h2, e1⟩, fun x H' hy => ?_⟩
  obtain ⟨rfl, hx⟩ := hy
  have e2 := hx xs h2
  rw [e1] at e2
  cases e2
  exact ⟨G2, rfl, Same.refl _, f, hv.mono sm⟩
theorem ri_rev {t : TA} {m : M (List D)} (h : RA K A W t m) : RI K A W (iRev K t) (mItA revA m) := by
  intro X σ ρ G L R g p
  refine h X σ ρ G L _ g (p.seq fun ds ρ1 G1 L1 s1 g1 p1 vs hvs => ?_)
  obtain ⟨es, e, p1⟩ := p1.lift (nx_revA ds)
  unfold revA at e
  split at e
  · cases e
    match vs, hvs with
    | [_], .cons (.lst (a := a) (xs := xs) hs hd) .nil => exact ⟨a, xs, rfl, Same.seq g1.fr.same hs, p1.at_ g1 _ (it_rev hs hd)⟩
  · cases e
/-- enumerate(list) -/
def enumL (ds : List D) : List D := (List.range ds.length).map fun (i : Nat) => .tup [.int i, ds.getD i .non]
def enumA : List D → Re (List D)
  | [.lst ds] => .ok (enumL ds)
  | _ => .bad
theorem nx_enumA (ds : List D) : noX (enumA ds) := fun C x => by unfold enumA; split <;> simp
theorem it_enum {a : Addr} {xs : List V} {ds : List D} (hs : SqL K G a xs) (hd : IsL K G xs ds) : ItOk K (Ite K a) (enumL ds) G := by
  intro i G2 L2 sm f
  have h2 : SqL K (upds K G2 L2) a xs := Same.seq (sm.trans f.same) hs
  have hl := hd.length
  refine ⟨fun d e => ?_, fun q => ⟨xs, h2, by simpa [enumL, hl] using q⟩⟩
  have hi : i < ds.length := by
    have := (List.getElem?_eq_some_iff.mp e).1
    simpa [enumL] using this
  have e0 : d = .tup [.int i, ds[i]] := by
    unfold enumL at e
    simp [hi] at e
    exact e.symm
  subst e0
  obtain ⟨v, e1, hv⟩ := hd.get (List.getElem?_eq_getElem hi)
  refine ⟨⟨xs, v, h2, e1⟩, fun x H' hy => ?_⟩
  obtain ⟨T, y, rfl, n, rfl, hx⟩ := hy
  have e2 := hx xs h2
  rw [e1] at e2
  cases e2
  obtain ⟨n1, n2⟩ := free_of n
  have sm2 : Same G2 (upd G2 T (.tup [.int (i : Nat), v])) := Sx.Same.updR (Same.refl _) n1
  exact ⟨_, upds_new n2, sm2, f.new n2, .tup (SqT.of upd_same) (.cons (.int _) (.cons (hv.mono (sm.trans sm2)) .nil))⟩
theorem ri_enum {t : TA} {m : M (List D)} (h : RA K A W t m) : RI K A W (iEnum K t) (mItA enumA m) := by
  intro X σ ρ G L R g p
  refine h X σ ρ G L _ g (p.seq fun ds ρ1 G1 L1 s1 g1 p1 vs hvs => ?_)
  obtain ⟨es, e, p1⟩ := p1.lift (nx_enumA ds)
  unfold enumA at e
  split at e
  · cases e
    match vs, hvs with
    | [_], .cons (.lst (a := a) (xs := xs) hs hd) .nil => exact ⟨a, xs, rfl, Same.seq g1.fr.same hs, p1.at_ g1 _ (it_enum hs hd)⟩
  · cases e
/-- the signs of a text -/
def signs : D → Re (List D)
  | .str x => .ok (x.cps.toList.map fun c => .str ⟨#[c]⟩)
  | _ => .bad
theorem nx_signs (d : D) : noX (signs d) := fun C x => by unfold signs; split <;> simp
def mItS (m : M D) : M (List D) := bnd m fun d => lift (signs d)
theorem ri_str {t : TE} {m : M D} (h : RE K A W t m) : RI K A W (iStr t) (mItS m) := by
  intro X σ ρ G L R g p
  refine h X σ ρ G L _ g (p.seq fun d ρ1 G1 L1 s1 g1 p1 v hv => ?_)
  cases hv with
  | str x =>
    refine ⟨x, rfl, p1.at_ g1 _ fun i G2 L2 sm f => ⟨fun d e => ?_, fun q => by show x.cps.size ≤ i; simpa using q⟩⟩
    rw [List.getElem?_map, Array.getElem?_toList] at e
    cases ec : x.cps[i]? with
    | none => rw [ec] at e; cases e
    | some c =>
      rw [ec] at e
      cases e
      refine ⟨by show i < x.cps.size; exact (Array.getElem?_eq_some_iff.mp ec).1, fun y H' hy => ?_⟩
      obtain ⟨rfl, c', ec', rfl⟩ := hy
      rw [ec] at ec'
      cases ec'
      exact ⟨G2, rfl, Same.refl _, f, .str _⟩
  | _ => exact p1.elim
end
end Mi

namespace Mi
open PySem PySem.Spec PyProof.Rows L2
open Sx (Tn Fx btys tCallW tMethW tMakeW)
section
variable {K : PySem.W.Frag} [Rows K] {A : Anc} {X : Cells} {W : WX} {σ : L2.St} {ρ : Env} {G G' : Hp} {L : Cells}
/-! ### further cells -/
theorem Rl.tail : ∀ {σ : L2.St} {ρ : Env} {L : Cells}, Rl K G A X σ ρ L → ∃ L0, L = L0 ++ X ∧ ∀ X', Rl K G A X' σ ρ (L0 ++ X')
  | _, _, _, .nil => ⟨[], rfl, fun X' => .nil⟩
  | _, _, _, .cons (c := c) h hs => by
    obtain ⟨L0, rfl, k⟩ := Rl.tail hs
    exact ⟨c ++ L0, by rw [List.append_assoc], fun X' => by rw [List.append_assoc]; exact .cons h (k X')⟩
theorem Good.addX {p : Addr} {ys : List V} (g : Good K G A X σ ρ L) (n1 : G p = none) (n2 : p ∉ ads L) : ∃ L', upd (upds K G L) p (.lst ys) = upds K G L' ∧ Good K G A ((p, .ls ys) :: X) σ ρ L' := by
  obtain ⟨L0, rfl, k⟩ := g.rl.tail
  have f1 : Frs G [(p, .ls ys)] := Frs.ls frs_nil n1 (fun z => by cases z)
  have f2 : Frs (upds K G [(p, .ls ys)]) (L0 ++ X) := g.fr.new n2
  have f3 := mid_frs f1 f2
  refine ⟨L0 ++ ([(p, .ls ys)] ++ X), ?_, ⟨k _, f3⟩⟩
  rw [(mid_eq f3).1, upds_new n2]
  rfl
theorem Good.delX {p : Addr} {ys : List V} (g : Good K G A ((p, .ls ys) :: X) σ ρ L) : ∃ L', upds K G L = upd (upds K G L') p (.lst ys) ∧ Good K G A X σ ρ L' ∧ G p = none ∧ p ∉ ads L' := by
  obtain ⟨L0, rfl, k⟩ := g.rl.tail
  have fr : Frs G (L0 ++ ([(p, .ls ys)] ++ X)) := g.fr
  obtain ⟨q1, q2⟩ := mid_eq (K := K) fr
  have gp : G p = none := fr.no p (by rw [ads_app, ads_app]; simp [ads, ad1])
  have np : p ∉ ads (L0 ++ X) := fun z => by
    have := q2.no p z
    simp only [upds, put1] at this
    rw [upd_same] at this
    cases this
  have f2 : Frs G (L0 ++ X) := ⟨q2.nd, fun a ha => by
    have := q2.no a ha
    simp only [upds, put1] at this
    rw [upd_ne fun (z : a = p) => np (z ▸ ha)] at this
    exact this⟩
  refine ⟨L0 ++ X, ?_, ⟨k X, f2⟩, gp, np⟩
  rw [upds_new np]
  exact q1
theorem Good.setX {p : Addr} {ys : List V} (g : Good K G A ((p, .ls ys) :: X) σ ρ L) : upds K G L p = some (.lst ys) ∧ ∀ ys', ∃ L', upd (upds K G L) p (.lst ys') = upds K G L' ∧ Good K G A ((p, .ls ys') :: X) σ ρ L' := by
  obtain ⟨L', e, g', n1, n2⟩ := g.delX
  refine ⟨by rw [e]; exact upd_same, fun ys' => ?_⟩
  obtain ⟨L2, e2, g2⟩ := g'.addX (ys := ys') n1 n2
  exact ⟨L2, by rw [e, Sx.upd_upd, e2], g2⟩
/-! ### [e for x in l if t] -/
abbrev wn : WX := fun _ _ _ _ => False
def noEx {α : Type} (m : M α) (ρ : Env) : Out α := match m ρ with
  | .ok a ρ' => .ok a ρ'
  | _ => .bad
def clr (v : Nat) (ρ : Env) : Out Unit := match ρ[v]? with
  | some (.pl _) => .ok () (ρ.set v .un)
  | some .un => .ok () (ρ.set v .un)
  | _ => .bad
theorem clr_ok {v : Nat} {ρ ρ' : Env} (h : clr v ρ = .ok () ρ') : (∃ s, ρ[v]? = some s ∧ (s = .un ∨ ∃ d, s = .pl d)) ∧ ρ' = ρ.set v .un := by
  unfold clr at h
  split at h
  · rename_i d e; cases h; exact ⟨⟨_, e, .inr ⟨d, rfl⟩⟩, rfl⟩
  · rename_i e; cases h; exact ⟨⟨_, e, .inl rfl⟩, rfl⟩
  · cases h
theorem Good.clr {v : Nat} {ρ' : Env} (g : Good K G A X σ ρ L) (h : clr v ρ = .ok () ρ') : Good K G A X (σ.set v none) ρ' L ∧ ρ'[v]? = some .un := by
  obtain ⟨⟨s, e, hs⟩, rfl⟩ := clr_ok h
  have hl : v < ρ.length := (List.getElem?_eq_some_iff.mp e).1
  refine ⟨?_, List.getElem?_set_self hl⟩
  obtain ⟨v0, c, L1, L2, e1, s1, rfl, k⟩ := g.rl.focus e
  have hc : c = [] := by
    rcases hs with rfl | ⟨d, rfl⟩
    · cases s1; rfl
    · cases s1; rfl
  subst hc
  exact ⟨k G none .un [] (Same.refl _) .un, g.fr⟩
def lcTurn (v : Nat) (t : M Bool) (e : M D) (d : D) : M (Option D) := bnd (tgt (gV v d)) fun _ => bnd (noEx t) fun b => ib b (bnd (noEx e) fun y => bnd (clr v) fun _ => ret (some y)) (bnd (clr v) fun _ => ret none)
def lcL (f : D → M (Option D)) : List D → M (List D)
  | [] => ret []
  | d :: ds => bnd (f d) fun o => bnd (lcL f ds) fun ys => ret (o.toList ++ ys)
def putS (v : Nat) (s : Option Sl) (ρ : Env) : Out Unit := match s with
  | some s => .ok () (ρ.set v s)
  | none => .bad
def mLc (v : Nat) (it : M (List D)) (t : M Bool) (e : M D) : M (List D) := bnd it fun ds => if ds.length < 1000000 then fun ρ => bnd (clr v) (fun _ => bnd (noEx (lcL (lcTurn v t e) ds)) fun ys => bnd (putS v ρ[v]?) fun _ => ret ys) ρ else fail
theorem bnd_ok {α β : Type} {m : M α} {f : α → M β} {b : β} {ρ ρ' : Env} (h : bnd m f ρ = .ok b ρ') : ∃ a ρ1, m ρ = .ok a ρ1 ∧ f a ρ1 = .ok b ρ' := by
  unfold bnd at h
  cases e : m ρ with
  | ok a ρ1 => rw [e] at h; exact ⟨a, ρ1, rfl, h⟩
  | ex C x ρ1 => rw [e] at h; cases h
  | bad => rw [e] at h; cases h
theorem noEx_ok {α : Type} {m : M α} {a : α} {ρ ρ' : Env} (h : noEx m ρ = .ok a ρ') : m ρ = .ok a ρ' := by
  unfold noEx at h
  cases e : m ρ with
  | ok b ρ1 => rw [e] at h; exact h
  | ex C x ρ1 => rw [e] at h; cases h
  | bad => rw [e] at h; cases h
theorem set_back {α : Type} {l : List α} {v : Nat} {x y : α} (h : l[v]? = some y) : (l.set v x).set v y = l := by
  apply List.ext_getElem?
  intro j
  by_cases q : j = v
  · subst q
    have hl : j < l.length := (List.getElem?_eq_some_iff.mp h).1
    rw [List.getElem?_set_self (by simpa using hl), h]
  · rw [List.getElem?_set_ne (Ne.symm q), List.getElem?_set_ne (Ne.symm q)]
theorem rn_lc {v : Nat} {wi : TI} {tt : TT} {te : TE} {it : M (List D)} {t : M Bool} {e : M D} (hi : RI K A W wi it) (ht : RT K A wn tt t) (he : RE K A wn te e) : RN K A W (tLc wi (gName v) tt te [v]) (mLc v it t e) := by
  intro X σ ρ G L Q gd p
  refine hi X σ ρ G L _ gd (p.seq fun ds ρ1 G1 L1 s1 g1 p1 J hJ => ?_)
  by_cases hz : ds.length < 1000000
  · rw [if_pos hz] at p1
    -- the whole run
    cases ec : clr v ρ1 with
    | ex C x ρ' => unfold clr at ec; split at ec <;> cases ec
    | bad => simp only [bnd, ec] at p1; exact p1.elim
    | ok u ρw =>
      simp only [bnd, ec] at p1
      cases el : noEx (lcL (lcTurn v t e) ds) ρw with
      | ex C x ρ' => unfold noEx at el; split at el <;> cases el
      | bad => simp only [el] at p1; exact p1.elim
      | ok zs ρz =>
        simp only [el] at p1
        have el := noEx_ok el
        obtain ⟨⟨s0, e0, hs0⟩, _⟩ := clr_ok ec
        obtain ⟨gw, uw⟩ := g1.clr ec
        rw [e0] at p1
        simp only [putS] at p1
        intro Dl hD
        obtain ⟨n1, n2⟩ := free_of hD
        obtain ⟨Lw, ew, gw2⟩ := gw.addX (ys := []) n1 n2
        refine ⟨fun i m H => ∃ ρ G L ys ed zr, H = upds K G L ∧ Good K G A ((Dl, .ls ys) :: X) (σ.set v none) ρ L ∧ Same G1 G ∧ i ≤ ds.length ∧ m = ds.length - i ∧ ys.length ≤ i ∧ IsL K G ys ed ∧ ρ[v]? = some .un ∧ lcL (lcTurn v t e) (ds.drop i) ρ = .ok zr ρz ∧ ed ++ zr = zs,
          ⟨ds.length, ρw, G1, Lw, [], [], zs, ew, gw2, Same.refl _, Nat.zero_le _, rfl, Nat.le_refl _, .nil, uw, el, rfl⟩, ?_⟩
        rintro i m H ⟨ρ, G, L, ys, ed, zr, rfl, g, sm, hile, rfl, hyl, hy, un, el, ez⟩
        obtain ⟨q1, q2⟩ := hJ i G L sm g.fr
        by_cases hl : i < ds.length
        · right
          have ed' : ds.drop i = ds[i] :: ds.drop (i + 1) := List.drop_eq_getElem_cons hl
          rw [ed'] at el
          obtain ⟨o, ρ2, et, el⟩ := bnd_ok el
          obtain ⟨zr', ρ3, el2, er⟩ := bnd_ok el
          cases er
          obtain ⟨_, ρa, eg, et⟩ := bnd_ok et
          obtain ⟨b, ρb, etb, et⟩ := bnd_ok et
          have etb := noEx_ok etb
          obtain ⟨go, yl⟩ := q1 ds[i] (List.getElem?_eq_getElem hl)
          refine ⟨go, fun H => ∃ ρ G L ys ed zr, H = upds K G L ∧ Good K G A ((Dl, .ls ys) :: X) (σ.set v none) ρ L ∧ Same G1 G ∧ ys.length ≤ i + 1 ∧ IsL K G ys ed ∧ ρ[v]? = some .un ∧ lcL (lcTurn v t e) (ds.drop (i + 1)) ρ = .ok zr ρz ∧ ed ++ zr = zs,
            fun H' ⟨ρ, G, L, ys, ed, zr, h1, h2, h3, h4, h5, h6, h7, h8⟩ => ⟨ds.length - (i + 1), by omega, ρ, G, L, ys, ed, zr, h1, h2, h3, by omega, rfl, h4, h5, h6, h7, h8⟩, fun x H' hyd => ?_⟩
          obtain ⟨G3, rfl, s3, f3, hx⟩ := yl x H' hyd
          have g3 := g.mono s3 f3
          -- the target
          have ea : okAsg ρ[v]? = true ∧ ρa = ρ.set v (.pl ds[i]) := by
            simp only [tgt, gV] at eg
            by_cases q : okAsg ρ[v]? = true
            · rw [ib_pos q] at eg; cases eg; exact ⟨q, rfl⟩
            · rw [ib_neg q] at eg; cases eg
          obtain ⟨oa, rfl⟩ := ea
          obtain ⟨G4, L4, s4, e4, g4⟩ := g3.sto oa hx
          show wipe ((wipe σ [v]).set v (some x)) [v] = wipe σ [v] ∧ _
          refine ⟨?_, ?_⟩
          · show ((σ.set v none).set v (some x)).set v none = σ.set v none
            rw [List.set_set, List.set_set]
          · show tt ((σ.set v none).set v (some x)) _ _
            rw [e4]
            refine ht _ _ _ G4 L4 _ g4 ?_
            rw [etb]
            intro G5 L5 s5 g5
            cases b with
            | true =>
              simp only [ib_t] at et
              obtain ⟨y, ρc, ee, et⟩ := bnd_ok et
              have ee := noEx_ok ee
              obtain ⟨_, ρd, eclr, et⟩ := bnd_ok et
              cases et
              show te _ _ _
              refine he _ _ _ G5 L5 _ g5 ?_
              rw [ee]
              intro G6 L6 s6 g6 w hw
              obtain ⟨hD6, hset⟩ := g6.setX
              refine ⟨ys, hD6, by rw [sizeLine_eq]; omega, ?_⟩
              obtain ⟨L7, e7, g7⟩ := hset (ys ++ [w])
              obtain ⟨g8, u8⟩ := g7.clr eclr
              have es : ((wipe σ [v]).set v (some x)).set v none = σ.set v none := by show ((σ.set v none).set v (some x)).set v none = σ.set v none; rw [List.set_set, List.set_set]
              rw [es] at g8
              refine ⟨_, G6, L7, ys ++ [w], ed ++ [y], zr', e7, g8, (sm.trans (s3.trans (s4.trans (s5.trans s6)))), by simp; omega, ((hy.mono (s3.trans (s4.trans (s5.trans s6)))).snoc hw), u8, el2, ?_⟩
              rw [← ez]
              simp
            | false =>
              simp only [ib_f] at et
              obtain ⟨_, ρd, eclr, et⟩ := bnd_ok et
              cases et
              obtain ⟨g8, u8⟩ := g5.clr eclr
              rw [List.set_set, List.set_set] at g8
              exact ⟨_, G5, L5, ys, ed, zr', rfl, g8, sm.trans (s3.trans (s4.trans s5)), by omega, hy.mono (s3.trans (s4.trans s5)), u8, el2, by rw [← ez]; rfl⟩
        · left
          refine ⟨q2 (by omega), ?_⟩
          rw [List.drop_eq_nil_of_le (by omega)] at el
          cases el
          have ez : ed = zs := by simpa using ez
          subst ez
          obtain ⟨L2, e2, g2, m1, m2⟩ := g.delX
          rw [e2]
          -- the slot comes back
          obtain ⟨v0, c, La, Lb, e1, sr, rfl, k⟩ := g1.rl.focus e0
          have hc : c = [] := by
            rcases hs0 with rfl | ⟨d, rfl⟩
            · cases sr; rfl
            · cases sr; rfl
          subst hc
          obtain ⟨v1, c1, Lc, Ld, e3, sr1, rfl, k1⟩ := g2.rl.focus un
          have hc1 : c1 = [] := by cases sr1; rfl
          subst hc1
          have r := k1 G v0 s0 [] (Same.refl _) (sr.mono sm)
          rw [set_back e1] at r
          exact p1 G (Lc ++ ([] ++ Ld)) sm ⟨r, g2.fr⟩ Dl ys m1 m2 hy
  · rw [if_neg hz] at p1; exact p1.elim
end
end Mi

namespace Mi
open PySem PySem.Spec PyProof.Rows L2
open Sx (Tn Fx btys tCallW tMethW tMakeW Fr wx tMkE)
/-! ### promises -/
abbrev MFn := List D → Re Rv
section
variable (K : PySem.W.Frag) [Rows K]
def PostF (H : Hp) (Q : VK) (E : XK) : Re Rv → Prop
  | .ok (.pl d) => ∀ v H2, Same H H2 → Is K H2 v d → Q v H2
  | .ok (.nw ds) => ∀ p ys G2, Same H G2 → G2 p = none → IsL K G2 ys ds → Q (.ref p) (upd G2 p (.lst ys))
  | .ex C x => ∀ od H2, Same H H2 → XIs K H2 C x od → E (.ref (He.ga K C)) od H2
  | .bad => False
def spM (m : MFn) : Sp := fun vs H Q E => ∃ ds, IsL K H vs ds ∧ PostF K H Q E (m ds)
/-- the first argument a list by reference -/
abbrev MFr := List D → List D → Option (Rv × List D)
def PostR (G : Hp) (p : Addr) (Q : VK) : Option (Rv × List D) → Prop
  | some (.pl d, c) => ∀ v G2 ys, Same G G2 → G2 p = none → IsL K G2 ys c → Is K G2 v d → Q v (upd G2 p (.lst ys))
  | some (.nw es, c) => ∀ q zs G2 ys, Same G G2 → G2 p = none → G2 q = none → q ≠ p → IsL K G2 ys c → IsL K G2 zs es → Q (.ref q) (upd (upd G2 p (.lst ys)) q (.lst zs))
  | none => False
def spR (m : MFr) : Sp := fun vs H Q E => ∃ p ys c vs' ds G, vs = .ref p :: vs' ∧ H = upd G p (.lst ys) ∧ G p = none ∧ IsL K G ys c ∧ IsL K G vs' ds ∧ PostR K G p Q (m c ds)
/-- __init__ -/
abbrev MFi := List D → Re (List (Str × D))
def PostI (C : Str) (a : Addr) (G : Hp) (Q : VK) (E : XK) : Re (List (Str × D)) → Prop
  | .ok gs => ∀ dx fs G', Same G G' → Frs G' [(a, .is C dx fs)] → IsF K G' fs gs → (∀ p ∈ gs, NoAttr K (He.ga K C) p.1) → Q .non (upds K G' [(a, .is C dx fs)])
  | .ex C' x => ∀ od H', Same G H' → XIs K H' C' x od → E (.ref (He.ga K C')) od H'
  | .bad => False
def spI (C : Str) (m : MFi) : Sp := fun vs H Q E => ∃ a dx vs' ds G, vs = .ref a :: vs' ∧ H = upd (upd G dx (.own a)) a (.ins (He.ga K C) dx []) ∧ G a = none ∧ G dx = none ∧ dx ≠ a ∧ IsL K G vs' ds ∧ PostI K C a G Q E (m ds)
end
section
variable {K : PySem.W.Frag} [Rows K] {A : Anc} {X : Cells} {W : WX} {σ : L2.St} {ρ : Env} {G G' : Hp} {L : Cells}
def frzR : Re Rv → Re D
  | .ok r => .ok r.d
  | .ex C x => .ex C x
  | .bad => .bad
def newR : Re Rv → Re (List D)
  | .ok (.nw ds) => .ok ds
  | .ok (.pl _) => .bad
  | .ex C x => .ex C x
  | .bad => .bad
def mCall (f : MFn) (m : M (List D)) : M D := bnd m fun ds => lift (frzR (f ds))
theorem Frs.off {p : Addr} {o : HO} (h : Frs (upd G p o) L) : p ∉ ads L := fun z => by
  have := h.no p z
  rw [upd_same] at this
  cases this
theorem Frs.un {p : Addr} {o : HO} (h : Frs (upd G p o) L) : Frs G L := ⟨h.nd, fun a ha => by
  have := h.no a ha
  rw [upd_ne fun (z : a = p) => h.off (z ▸ ha)] at this
  exact this⟩
/-- what a call asks for -/
theorem fr_call {f : MFn} {vs : List V} {ds : List D} {Q : VK} (g : Good K G A X σ ρ L) (hv : IsL K G vs ds) (p : PO K A X W σ G (fun d G' L' => ∀ v, Is K G' v d → Q v (upds K G' L')) (lift (frzR (f ds)) ρ)) : Fr (spM K f) vs (upds K G L) Q (WE W σ) := by
  refine fr_cells g.fr ⟨ds, hv, ?_⟩
  cases e : f ds with
  | ok r =>
    rw [e] at p
    cases r with
    | pl d => exact fun v H2 s hd fr => p H2 L s (g.mono s fr) v hd
    | nw es =>
      intro q ys G2 s n hy fr
      have sm : Same G2 (upd G2 q (.lst ys)) := Sx.Same.updR (Same.refl _) n
      exact p _ L (s.trans sm) (g.mono (s.trans sm) fr) _ (.lst (SqL.of upd_same) (hy.mono sm))
  | ex C x => rw [e] at p; exact fun od H2 s hx fr => p od H2 L s (g.mono s fr) hx
  | bad => rw [e] at p; exact p
theorem fr_callN {f : MFn} {vs : List V} {ds : List D} {Q : VK} (g : Good K G A X σ ρ L) (hv : IsL K G vs ds)
    (p : PO K A X W σ G (fun ds G' L' => ∀ p ys, G' p = none → p ∉ ads L' → IsL K G' ys ds → Q (.ref p) (upd (upds K G' L') p (.lst ys))) (lift (newR (f ds)) ρ)) : Fr (spM K f) vs (upds K G L) Q (WE W σ) := by
  refine fr_cells g.fr ⟨ds, hv, ?_⟩
  cases e : f ds with
  | ok r =>
    rw [e] at p
    cases r with
    | pl d => exact p.elim
    | nw es =>
      intro q ys G2 s n hy fr
      rw [← upds_new fr.off]
      exact p G2 L s (g.mono s fr.un) q ys n fr.off hy
  | ex C x => rw [e] at p; exact fun od H2 s hx fr => p od H2 L s (g.mono s fr) hx
  | bad => rw [e] at p; exact p
theorem re_call {f : MFn} {t : TA} {m : M (List D)} (h : RA K A W t m) : RE K A W (tCallW (Fr (spM K f)) W t) (mCall f m) := by
  intro X σ ρ G L Q g p
  exact h X σ ρ G L _ g (p.seq fun ds ρ1 G1 L1 s1 g1 p1 vs hvs => fr_call g1 hvs p1)
def mCallN (f : MFn) (m : M (List D)) : M (List D) := bnd m fun ds => lift (newR (f ds))
theorem rn_call {f : MFn} {t : TA} {m : M (List D)} (h : RA K A W t m) : RN K A W (tCallW (Fr (spM K f)) W t) (mCallN f m) := by
  intro X σ ρ G L Q g p
  exact h X σ ρ G L _ g (p.seq fun ds ρ1 G1 L1 s1 g1 p1 vs hvs => fr_callN g1 hvs p1)
def recv (C m : Str) : D → Re Unit
  | .ins C' gs => if C' = C ∧ gs.lookup m = none then .ok () else .bad
  | _ => .bad
def mMeth (C m : Str) (f : MFn) (o : M D) (a : M (List D)) : M D := bnd o fun d => bnd (lift (recv C m d)) fun _ => bnd a fun ds => lift (frzR (f (d :: ds)))
theorem re_meth {C m : Str} {f : MFn} {to : TE} {t : TA} {o : M D} {a : M (List D)} (ho : RE K A W to o) (ha : RA K A W t a) : RE K A W (tMethW (He.ga K C) m (Fr (spM K f)) W to t) (mMeth C m f o a) := by
  intro X σ ρ G L Q g p
  refine ho X σ ρ G L _ g (p.seq fun d ρ1 G1 L1 s1 g1 p1 v hv => ?_)
  cases hv with
  | @ins b dx C' fs gs hc hn hb hs =>
    simp only [bnd, lift, recv] at p1
    by_cases e : C' = C ∧ gs.lookup m = none
    · simp only [if_pos e] at p1
      obtain ⟨rfl, e2⟩ := e
      refine ⟨b, dx, fs, rfl, g1.fr.same _ _ hb, hs.none e2, ha X σ ρ1 G1 L1 _ g1 (PO.seq (m := a) (c := fun ds => lift (frzR (f (.ins C' gs :: ds)))) p1 fun ds ρ2 G2 L2 s2 g2 p2 vs hvs => ?_)⟩
      exact fr_call g2 (.cons (Is.mono s2 (.ins hc hn hb hs)) hvs) p2
    · simp only [if_neg e] at p1; exact p1.elim
  | _ => exact p1.elim
def mMethN (C m : Str) (f : MFn) (o : M D) (a : M (List D)) : M (List D) := bnd o fun d => bnd (lift (recv C m d)) fun _ => bnd a fun ds => lift (newR (f (d :: ds)))
theorem rn_meth {C m : Str} {f : MFn} {to : TE} {t : TA} {o : M D} {a : M (List D)} (ho : RE K A W to o) (ha : RA K A W t a) : RN K A W (tMethW (He.ga K C) m (Fr (spM K f)) W to t) (mMethN C m f o a) := by
  intro X σ ρ G L Q g p
  refine ho X σ ρ G L _ g (p.seq fun d ρ1 G1 L1 s1 g1 p1 v hv => ?_)
  cases hv with
  | @ins b dx C' fs gs hc hn hb hs =>
    simp only [bnd, lift, recv] at p1
    by_cases e : C' = C ∧ gs.lookup m = none
    · simp only [if_pos e] at p1
      obtain ⟨rfl, e2⟩ := e
      refine ⟨b, dx, fs, rfl, g1.fr.same _ _ hb, hs.none e2, ha X σ ρ1 G1 L1 _ g1 (PO.seq (m := a) (c := fun ds => lift (newR (f (.ins C' gs :: ds)))) p1 fun ds ρ2 G2 L2 s2 g2 p2 vs hvs => ?_)⟩
      exact fr_callN g2 (.cons (Is.mono s2 (.ins hc hn hb hs)) hvs) p2
    · simp only [if_neg e] at p1; exact p1.elim
  | _ => exact p1.elim
def mkR (C : Str) : Re (List (Str × D)) → Re D
  | .ok gs => .ok (.ins C gs)
  | .ex C x => .ex C x
  | .bad => .bad
def mMake (C : Str) (f : MFi) (m : M (List D)) : M D := bnd m fun ds => lift (mkR C (f ds))
theorem re_make {C : Str} {f : MFi} {t : TA} {m : M (List D)} (hC : C ∈ Rows.cls K) (h : RA K A W t m) : RE K A W (tMakeW (He.ga K C) (Fr (spI K C f)) W t) (mMake C f m) := by
  intro X σ ρ G L Q g p
  refine h X σ ρ G L _ g (p.seq fun ds ρ1 G1 L1 s1 g1 p1 vs hvs => ?_)
  intro x dx hx hdx hne
  obtain ⟨nx1, nx2⟩ := free_of hx
  obtain ⟨nd1, nd2⟩ := free_of hdx
  have e1 : upd (upd (upds K G1 L1) dx (.own x)) x (.ins (He.ga K C) dx []) = upds K (upd (upd G1 dx (.own x)) x (.ins (He.ga K C) dx [])) L1 := by rw [upds_new nd2, upds_new nx2]
  rw [e1]
  refine fr_cells ((g1.fr.new nd2).new nx2) ⟨x, dx, vs, ds, G1, rfl, rfl, nx1, nd1, hne, hvs, ?_⟩
  cases e : f ds with
  | ok gs =>
    rw [e] at p1
    intro dx' fs G' s fr hs hn fr2
    refine ⟨rfl, ?_⟩
    have sm : Same G' (upds K G' [(x, .is C dx' fs)]) := fr.same
    exact p1 _ L1 (s.trans sm) (g1.mono (s.trans sm) fr2) _ (.ins hC hn (by simp only [upds, put1]; exact upd_same) (hs.mono sm))
  | ex C' y => rw [e] at p1; exact fun od H' s hx fr => p1 od H' L1 s (g1.mono s fr) hx
  | bad => rw [e] at p1; exact p1
/-! ### calls with a list by reference -/
def cellOf : Option Sl → Option (List D)
  | some (.ow c) => some c
  | some (.rf c) => some c
  | _ => none
def setC (c : List D) : Option Sl → Sl
  | some (.rf _) => .rf c
  | _ => .ow c
def callR (i : Nat) (f : MFr) (ds : List D) (ρ : Env) : Out Rv := match cellOf ρ[i]? with
  | some c => (match f c ds with
    | some (r, c') => .ok r (ρ.set i (setC c' ρ[i]?))
    | none => .bad)
  | none => .bad
def mCallR (i : Nat) (f : MFr) (m : M (List D)) (ρ : Env) : Out D := ib (bound ρ[i]?) (bnd m (fun ds => bnd (callR i f ds) fun r => ret r.d) ρ) .bad
def newM : Rv → M (List D)
  | .nw ds => ret ds
  | .pl _ => fail
def mCallRN (i : Nat) (f : MFr) (m : M (List D)) (ρ : Env) : Out (List D) := ib (bound ρ[i]?) (bnd m (fun ds => bnd (callR i f ds) newM) ρ) .bad
theorem Good.cell {i : Nat} {c : List D} (g : Good K G A X σ ρ L) (e : cellOf ρ[i]? = some c) : ∃ p ys La Lb, σ[i]? = some (some (.ref p)) ∧ L = La ++ ([(p, .ls ys)] ++ Lb) ∧ IsL K G ys c ∧
    ∀ G' ys' c', Same G G' → IsL K G' ys' c' → Rl K G' A X σ (ρ.set i (setC c' ρ[i]?)) (La ++ ([(p, .ls ys')] ++ Lb)) := by
  cases e0 : ρ[i]? with
  | none => rw [e0] at e; cases e
  | some s =>
    rw [e0] at e
    obtain ⟨v0, c0, La, Lb, e1, sr, rfl, k⟩ := g.rl.focus e0
    have sb : ∀ p, v0 = some (.ref p) → σ.set i (some (.ref p)) = σ := fun p h => by
      subst h
      apply List.ext_getElem?
      intro j
      by_cases q : j = i
      · subst q
        have hl : j < σ.length := (List.getElem?_eq_some_iff.mp e1).1
        rw [List.getElem?_set_self hl, e1]
      · rw [List.getElem?_set_ne (Ne.symm q)]
    cases sr with
    | @ow p ys ds hy =>
      cases e
      refine ⟨p, ys, La, Lb, e1, rfl, hy, fun G' ys' c' s h => ?_⟩
      have := k G' _ _ _ s (.ow (p := p) h)
      rw [sb p rfl] at this
      exact this
    | @rf ys ds hy =>
      cases e
      refine ⟨A.a, ys, La, Lb, e1, rfl, hy, fun G' ys' c' s h => ?_⟩
      have := k G' _ _ _ s (.rf h)
      rw [sb _ rfl] at this
      exact this
    | un => cases e
    | pl _ => cases e
    | se _ _ _ => cases e
    | exn _ => cases e
theorem frR {i : Nat} {f : MFr} {vs : List V} {v0 : V} {ds : List D} {Q : VK} {E : XK} (g : Good K G A X σ ρ L) (hv : IsL K G vs ds) (e0 : σ[i]? = some (some v0)) (k : match callR i f ds ρ with
      | .ok (.pl d) ρ' => ∀ v G' L', Same G G' → Good K G' A X σ ρ' L' → Is K G' v d → Q v (upds K G' L')
      | .ok (.nw es) ρ' => ∀ q zs G' L', Same G G' → Good K G' A X σ ρ' L' → G' q = none → q ∉ ads L' → IsL K G' zs es → Q (.ref q) (upd (upds K G' L') q (.lst zs))
      | _ => False) : Fr (spR K f) (v0 :: vs) (upds K G L) Q E := by
  unfold callR at k
  cases e : cellOf ρ[i]? with
  | none => rw [e] at k; exact k.elim
  | some c =>
    rw [e] at k
    obtain ⟨p, ys, La, Lb, e1, rfl, hy, kk⟩ := g.cell e
    rw [e0] at e1
    cases e1
    obtain ⟨q1, q2⟩ := mid_eq (K := K) g.fr
    have gp : G p = none := g.fr.no p (by rw [ads_app, ads_app]; simp [ads, ad1])
    rw [q1]
    refine fr_cells q2 ⟨p, ys, c, vs, ds, G, rfl, rfl, gp, hy, hv, ?_⟩
    have back : ∀ G2 ys', G2 p = none → Frs (upd G2 p (.lst ys')) (La ++ Lb) → Frs G2 (La ++ ([(p, .ls ys')] ++ Lb)) ∧ upds K (upd G2 p (.lst ys')) (La ++ Lb) = upds K G2 (La ++ ([(p, .ls ys')] ++ Lb)) := fun G2 ys' n fr => by
      have f1 : Frs G2 [(p, .ls ys')] := Frs.ls frs_nil n (fun z => by cases z)
      have f3 := mid_frs (K := K) f1 fr
      exact ⟨f3, (mid_eq f3).1.symm⟩
    dsimp only at k
    cases ef : f c ds with
    | none => rw [ef] at k; exact k.elim
    | some rc =>
      obtain ⟨r, c'⟩ := rc
      rw [ef] at k
      cases r with
      | pl d =>
        intro v G2 ys' s n hy' hd fr
        obtain ⟨f3, e3⟩ := back G2 ys' n fr
        rw [e3]
        exact k v G2 _ s ⟨kk G2 ys' c' s hy', f3⟩ hd
      | nw es =>
        intro q zs G2 ys' s n nq ne hy' hz fr
        have nq2 : q ∉ ads (La ++ Lb) := fr.off
        obtain ⟨f3, e3⟩ := back G2 ys' n fr.un
        have nq3 : q ∉ ads (La ++ ([(p, .ls ys')] ++ Lb)) := by
          rw [ads_app, ads_app]
          rw [ads_app] at nq2
          simp only [List.mem_append, not_or] at nq2 ⊢
          exact ⟨nq2.1, by simpa [ads, ad1] using ne, nq2.2⟩
        rw [← upds_new nq2, e3]
        exact k q zs G2 _ s ⟨kk G2 ys' c' s hy', f3⟩ nq nq3 hz
theorem re_callR {i : Nat} {f : MFr} {t : TA} {m : M (List D)} (h : RA K A W t m) : RE K A W (tCallW (Fr (spR K f)) W (tCons (tVar i) t)) (mCallR i f m) := by
  intro X σ ρ G L Q g p
  unfold mCallR at p
  by_cases hb : bound ρ[i]? = true
  · rw [ib_pos hb] at p
    obtain ⟨v, e1⟩ := g.bound hb
    refine ⟨v, e1, h X σ ρ G L _ g (p.seq fun ds ρ1 G1 L1 s1 g1 p1 vs hvs => ?_)⟩
    refine frR g1 hvs e1 ?_
    unfold bnd at p1
    cases e : callR i f ds ρ1 with
    | ok r ρ2 =>
      rw [e] at p1
      cases r with
      | pl d => exact fun v G' L' s g' hd => p1 G' L' s g' v hd
      | nw es =>
        intro q zs G' L' s g' n1 n2 hz
        rw [upds_new n2]
        have sm : Same G' (upd G' q (.lst zs)) := Sx.Same.updR (Same.refl _) n1
        exact p1 _ L' (s.trans sm) (g'.mono sm (g'.fr.new n2)) _ (.lst (SqL.of upd_same) (hz.mono sm))
    | ex C x ρ2 => unfold callR at e; split at e <;> (try split at e) <;> cases e
    | bad => rw [e] at p1; exact p1
  · rw [ib_neg hb] at p; exact p.elim
theorem rn_callR {i : Nat} {f : MFr} {t : TA} {m : M (List D)} (h : RA K A W t m) : RN K A W (tCallW (Fr (spR K f)) W (tCons (tVar i) t)) (mCallRN i f m) := by
  intro X σ ρ G L Q g p
  unfold mCallRN at p
  by_cases hb : bound ρ[i]? = true
  · rw [ib_pos hb] at p
    obtain ⟨v, e1⟩ := g.bound hb
    refine ⟨v, e1, h X σ ρ G L _ g (p.seq fun ds ρ1 G1 L1 s1 g1 p1 vs hvs => ?_)⟩
    refine frR g1 hvs e1 ?_
    unfold bnd at p1
    cases e : callR i f ds ρ1 with
    | ok r ρ2 =>
      rw [e] at p1
      cases r with
      | pl d => exact p1.elim
      | nw es => exact fun q zs G' L' s g' n1 n2 hz => p1 G' L' s g' q zs n1 n2 hz
    | ex C x ρ2 => unfold callR at e; split at e <;> (try split at e) <;> cases e
    | bad => rw [e] at p1; exact p1
  · rw [ib_neg hb] at p; exact p.elim
end
end Mi

namespace Mi
open PySem PySem.Spec PyProof.Rows L2
open Sx (Tn Fx btys tCallW tMethW tMakeW Fr wx tMkE)
section
variable {K : PySem.W.Frag} [Rows K] {A : Anc} {X : Cells} {W : WX} {σ : L2.St} {ρ : Env} {G G' : Hp} {L : Cells}
/-! ### changes in place -/
def mApp (i : Nat) (m : M D) (ρ : Env) : Out Fl := ib (cellOf ρ[i]?).isSome (bnd m (fun d ρ => match cellOf ρ[i]? with
  | some c => if c.length < 1000000 then .ok .nx (ρ.set i (setC (c ++ [d]) ρ[i]?)) else .bad
  | none => .bad) ρ) .bad
theorem Good.cellS {i : Nat} {c : List D} (g : Good K G A X σ ρ L) (e : cellOf ρ[i]? = some c) : ∃ p ys, σ[i]? = some (some (.ref p)) ∧ upds K G L p = some (.lst ys) ∧ IsL K G ys c ∧
    ∀ ys' c', IsL K G ys' c' → ∃ L', upd (upds K G L) p (.lst ys') = upds K G L' ∧ Good K G A X σ (ρ.set i (setC c' ρ[i]?)) L' := by
  obtain ⟨p, ys, La, Lb, e1, rfl, hy, k⟩ := g.cell e
  obtain ⟨q1, q2⟩ := mid_eq (K := K) g.fr
  have gp : G p = none := g.fr.no p (by rw [ads_app, ads_app]; simp [ads, ad1])
  refine ⟨p, ys, e1, by rw [q1]; exact q2.same p _ (by simp only [upds, put1]; exact upd_same), hy, fun ys' c' h => ?_⟩
  have np : p ∉ ads (La ++ Lb) := Frs.off q2
  have f1 : Frs G [(p, .ls ys')] := Frs.ls frs_nil gp (fun z => by cases z)
  have f2 : Frs (upds K G [(p, .ls ys')]) (La ++ Lb) := (Frs.un q2).new np
  have f3 := mid_frs (K := K) f1 f2
  refine ⟨_, ?_, ⟨k G ys' c' (Same.refl _) h, f3⟩⟩
  rw [q1, (mid_eq f3).1, upds_new np]
  congr 1
  simp only [upds, put1]
  rw [Sx.upd_upd]
theorem rs_app {i : Nat} {t : TE} {m : M D} (h : RE K A W t m) : RS K A W (tDrop (tBM K "list" rAppend (tVar i) (tCons t tNil))) (mApp i m) := by
  intro X σ ρ G L E g p
  unfold mApp at p
  by_cases hb : (cellOf ρ[i]?).isSome = true
  · rw [ib_pos hb] at p
    obtain ⟨c0, e0⟩ := Option.isSome_iff_exists.mp hb
    obtain ⟨q, ys, e1, hq, _, _⟩ := g.cellS e0
    refine ⟨.ref q, e1, .inl ⟨rfl, ys, SqL.of hq⟩, h X σ ρ G L _ g (p.seqE fun d ρ1 G1 L1 s1 g1 p1 v hv => ?_)⟩
    cases ec : cellOf ρ1[i]? with
    | none => simp only [ec] at p1; exact p1.elim
    | some c =>
      simp only [ec] at p1
      by_cases hl : c.length < 1000000
      · rw [if_pos hl] at p1
        obtain ⟨q2, zs, e2, hq2, hz, k⟩ := g1.cellS ec
        rw [e1] at e2
        cases e2
        obtain ⟨L', e3, g3⟩ := k (zs ++ [v]) (c ++ [d]) (hz.snoc hv)
        refine ⟨q, zs, v, rfl, rfl, hq2, by rw [hz.length, sizeLine_eq]; omega, ?_⟩
        rw [e3]
        exact p1 σ G1 L' (Same.refl _) g3
      · rw [if_neg hl] at p1; exact p1.elim
  · rw [ib_neg hb] at p; exact p.elim
def mRev (i : Nat) (ρ : Env) : Out Fl := match cellOf ρ[i]? with
  | some c => .ok .nx (ρ.set i (setC c.reverse ρ[i]?))
  | none => .bad
theorem rs_rev {i : Nat} : RS K A W (tDrop (tBM0 K "list" rReverse (tVar i))) (mRev i) := by
  intro X σ ρ G L E g p
  unfold mRev at p
  cases ec : cellOf ρ[i]? with
  | none => rw [ec] at p; exact p.elim
  | some c =>
    rw [ec] at p
    obtain ⟨q, zs, e1, hq, hz, k⟩ := g.cellS ec
    obtain ⟨L', e3, g3⟩ := k zs.reverse c.reverse hz.rev
    refine ⟨.ref q, e1, .inl ⟨rfl, zs, SqL.of hq⟩, q, zs, rfl, rfl, hq, ?_⟩
    rw [e3]
    exact p σ G L' (Same.refl _) g3
/-- x[i] = e -/
def setAt (i : Nat) (y d : D) (ρ : Env) : Out Fl := match cellOf ρ[i]?, y with
  | some c, .int k => (match ixN c.length k with
    | some j => .ok .nx (ρ.set i (setC (c.set j d) ρ[i]?))
    | none => .bad)
  | _, _ => .bad
def mSetV (i : Nat) (b e : M D) : M Fl := bnd e fun d ρ => ib (bound ρ[i]?) (bnd b (fun y => setAt i y d) ρ) .bad
theorem rs_setV {i : Nat} {tb te : TE} {b e : M D} (hb : RE K A W tb b) (he : RE K A W te e) : RS K A W (tAsg te (gSub (tVar i) tb rSetL)) (mSetV i b e) := by
  intro X σ ρ G L E g p
  refine he X σ ρ G L _ g (p.seqE fun d ρ1 G1 L1 s1 g1 p1 v hv => ?_)
  by_cases hbo : bound ρ1[i]? = true
  · rw [ib_pos hbo] at p1
    obtain ⟨u, e1⟩ := g1.bound hbo
    refine ⟨u, e1, hb X σ ρ1 G1 L1 _ g1 (p1.seqE fun y ρ2 G2 L2 s2 g2 p2 w hw => ?_)⟩
    unfold setAt at p2
    split at p2
    · rename_i c k ec
      split at p2
      · rename_i j ej
        obtain ⟨q2, zs, e2, hq2, hz, kk⟩ := g2.cellS ec
        rw [e1] at e2
        cases e2
        obtain ⟨L', e3, g3⟩ := kk (zs.set j v) (c.set j d) (hz.set (hv.mono s2) j)
        refine ⟨q2, zs, k, j, rfl, hw.int_eq, hq2, by rw [hz.length]; exact ej, ?_⟩
        rw [e3]
        exact p2 σ G2 L' (Same.refl _) g3
      · exact p2.elim
    · exact p2.elim
  · rw [ib_neg hbo] at p1; exact p1.elim
/-- self.f = e -/
def mSetF (C : Str) (i : Nat) (f : Str) (m : M D) : M Fl := bnd m fun d ρ => match ρ[i]? with
  | some (.se C' gs) => if C' = C ∧ gs.length < 1000 then .ok .nx (ρ.set i (.se C (putD f d gs))) else .bad
  | _ => .bad
theorem IsF.put {f : Str} {v : V} {d : D} (h : Is K G v d) : ∀ {fs : List (Str × V)} {gs : List (Str × D)}, IsF K G fs gs → IsF K G (putF f v fs) (putD f d gs)
  | _, _, .nil => .cons h .nil
  | _, _, .cons (f := g) q hs => by
    unfold putF putD
    by_cases e : g = f
    · rw [if_pos e, if_pos e]; exact .cons h hs
    · rw [if_neg e, if_neg e]; exact .cons q (IsF.put h hs)
theorem putD_mem {f : Str} {d : D} : ∀ {gs : List (Str × D)} {p : Str × D}, p ∈ putD f d gs → p.1 = f ∨ p ∈ gs
  | [], p, h => by
    have : p = (f, d) := by simpa [putD] using h
    left; rw [this]
  | (g, e) :: r, p, h => by
    unfold putD at h
    by_cases q : g = f
    · rw [if_pos q] at h
      rcases List.mem_cons.mp h with h | h
      · left; rw [h]; exact q
      · right; exact List.mem_cons_of_mem _ h
    · rw [if_neg q] at h
      rcases List.mem_cons.mp h with h | h
      · right; rw [h]; exact List.mem_cons_self
      · rcases putD_mem h with h | h
        · left; exact h
        · right; exact List.mem_cons_of_mem _ h
theorem rs_setF {C f : Str} {i : Nat} {t : TE} {m : M D} (hn : NoAttr K (He.ga K C) f) (h : RE K A W t m) : RS K A W (sFld K (tVar i) t f) (mSetF C i f m) := by
  intro X σ ρ G L E g p
  refine h X σ ρ G L _ g (p.seqE fun d ρ1 G1 L1 s1 g1 p1 v hv => ?_)
  cases e : ρ1[i]? with
  | none => simp only [e] at p1; exact p1.elim
  | some s =>
    cases s with
    | se C' gs =>
      simp only [e] at p1
      by_cases q : C' = C ∧ gs.length < 1000
      · rw [if_pos q] at p1
        obtain ⟨rfl, hl⟩ := q
        obtain ⟨dx, fs, e1, hc, hna, hf, ha, k⟩ := g1.peekS e
        have hn' : ∀ p ∈ putD f d gs, NoAttr K (He.ga K C') p.1 := fun p hp => by
          rcases putD_mem hp with z | z
          · rw [z]; exact hn
          · exact hna p z
        obtain ⟨L', e3, g3⟩ := k G1 _ _ (Same.refl _) g1.fr (hf.put hv) hn'
        refine ⟨.ref A.a, e1, A.a, _, dx, fs, rfl, ha, (Rows.ok _ hc).cl, hn, by rw [hf.length]; exact hl, ?_⟩
        rw [e3]
        exact p1 σ G1 L' (Same.refl _) g3
      · rw [if_neg q] at p1; exact p1.elim
    | un => simp only [e] at p1; exact p1.elim
    | pl _ => simp only [e] at p1; exact p1.elim
    | ow _ => simp only [e] at p1; exact p1.elim
    | rf _ => simp only [e] at p1; exact p1.elim
    | exn _ _ => simp only [e] at p1; exact p1.elim
/-- x op= e -/
def RP (K : PySem.W.Frag) [Rows K] (A : Anc) (W : WX) (r : TIp) (g : D → D → Re D) : Prop := RR K A W r g
def mAug (g : D → D → Re D) (i : Nat) (m : M D) (ρ : Env) : Out Fl := match ρ[i]? with
  | some (.pl a) => bnd m (fun b => bnd (lift (g a b)) fun c => bnd (sto i (.pl c)) fun _ => ret .nx) ρ
  | _ => .bad
theorem rs_aug {i : Nat} {r : TIp} {g : D → D → Re D} {t : TE} {m : M D} (hr : RR K A W r g) (h : RE K A W t m) : RS K A W (tAug i t r) (mAug g i m) := by
  intro X σ ρ G L E gd p
  unfold mAug at p
  split at p
  · rename_i a e
    obtain ⟨v, e1, hv⟩ := gd.get e
    refine ⟨v, e1, h X σ ρ G L _ gd (p.seqE fun b ρ1 G1 L1 s1 g1 p1 w hw => ?_)⟩
    refine hr X σ ρ1 G1 L1 _ v w a b g1 (hv.mono s1) hw (p1.seqE fun c ρ2 G2 L2 s2 g2 p2 z hz => ?_)
    unfold bnd sto at p2
    by_cases ho : okAsg ρ2[i]? = true
    · rw [ib_pos ho] at p2
      obtain ⟨G3, L3, s3, e3, g3⟩ := g2.sto ho hz
      rw [e3]
      exact p2 _ _ _ s3 g3
    · rw [ib_neg ho] at p2
      exact p2.elim
  · exact p.elim
/-! ### raise -/
def one : List D → Re D
  | [d] => .ok d
  | _ => .bad
def mRaise (C f : Str) (m : M (List D)) : M Fl := bnd m fun ds => bnd (lift (one ds)) fun d ρ => .ex C (some (f, d)) ρ
theorem rs_raise {C f : Str} {t : TA} {m : M (List D)} (hC : C ∈ Rows.exs K) (h : RA K A W t m) : RS K A W (fun _ σ H => tMkE (He.ga K C) f t σ H fun cls d H' => W cls d σ H') (mRaise C f m) := by
  intro X σ ρ G L E g p
  refine h X σ ρ G L _ g (p.seqE fun ds ρ1 G1 L1 s1 g1 p1 vs hvs => ?_)
  match ds, vs, hvs, p1 with
  | [d], [v], .cons hv .nil, p1 =>
    refine ⟨v, rfl, fun q n => ?_⟩
    obtain ⟨n1, n2⟩ := free_of n
    rw [upds_new n2]
    have sm : Same G1 (upd G1 q (.xd [(f, v)])) := Sx.Same.updR (Same.refl _) n1
    exact p1 (some q) σ _ L1 sm (g1.mono sm (g1.fr.new n2)) ⟨hC, q, v, rfl, upd_same, hv.mono sm⟩
  | [], _, _, p1 => exact p1.elim
  | _ :: _ :: _, _, _, p1 => exact p1.elim
def mRaise0 (C : Str) (ρ : Env) : Out Fl := .ex C none ρ
theorem rs_raise0 {C : Str} (hC : C ∈ Rows.exs K) : RS K A W (fun _ σ H => (fun _ H Q => Q (.ref (He.ga K C)) none H : L2.St → Hp → XK → Prop) σ H fun cls d H' => W cls d σ H') (mRaise0 C) := by
  intro X σ ρ G L E g p
  exact p none σ G L (Same.refl _) g ⟨hC, rfl⟩
theorem rs_never : RS K A W tNever (fun _ => .bad) := fun X σ ρ G L E g p => p.elim
/-! ### try -/
def notExn : Sl → Bool
  | .exn _ _ => false
  | _ => true
theorem Rl.anc {A' : Anc} (ea : A'.a = A.a) : ∀ {σ : L2.St} {ρ : Env} {L : Cells}, Rl K G A X σ ρ L → ρ.all notExn = true → Rl K G A' X σ ρ L
  | _, _, _, .nil, _ => .nil
  | _, _, _, .cons h hs, n => by
    simp only [List.all_cons, Bool.and_eq_true] at n
    refine .cons ?_ (Rl.anc ea hs n.2)
    cases h with
    | un => exact .un
    | pl h => exact .pl h
    | ow h => exact .ow h
    | rf h => rw [← ea]; exact .rf h
    | se hc hn h => rw [← ea]; exact .se hc hn h
    | exn h => cases n.1
def mTry (Y : Str) (b : M Fl) (s : M Fl) (ρ : Env) : Out Fl := match b ρ with
  | .ex C x ρ' => ib (Sx.xsub C Y) (noEx s ρ') (.ex C x ρ')
  | o => o
theorem rs_tryO {Y : Str} {tb : WX → TS} {ts : Addr → Value → Option Addr → TS} {b s : M Fl} (hY : Y ∈ Rows.exs K) (hb : ∀ W', RS K A W' (tb W') b) (hs : ∀ a cls d, RS K A wn (ts a cls d) s) :
    RS K A W (fun E σ H => tb (wOnly K (.ref (He.ga K Y)) ts W E) E σ H) (mTry Y b s) := by
  intro X σ ρ G L E g p
  refine hb _ X σ ρ G L E g ?_
  unfold mTry at p
  cases e : b ρ with
  | ok f ρ' =>
    rw [e] at p
    cases f with
    | nx => exact p
    | bk => exact p
    | ct => exact p
    | rt r => cases r <;> exact p
  | bad => rw [e] at p; exact p
  | ex C x ρ' =>
    rw [e] at p
    dsimp only at p
    intro od σ' G' L' s' g' hx
    refine ⟨Sx.xsub C Y, Rows.xok C hx.1 Y hY, fun h => ?_, fun h => ?_⟩
    · rw [ib_pos h] at p
      intro a n
      refine hs a _ od X σ' ρ' G' L' E g' ?_
      unfold noEx at p
      cases e2 : s ρ' with
      | ok f ρ2 => rw [e2] at p; exact SO.mono s' (show SO K A X wn E G (.ok f ρ2) from by cases f <;> first | exact p | (rename_i r; cases r <;> exact p))
      | ex C2 x2 ρ2 => rw [e2] at p; exact p.elim
      | bad => rw [e2] at p; exact p.elim
    · rw [ib_neg (by rw [h]; exact Bool.false_ne_true)] at p
      exact p od σ' G' L' s' g' hx
end
end Mi

namespace Mi
open PySem PySem.Spec PyProof.Rows L2
open Sx (Tn Fx btys tCallW tMethW tMakeW Fr wx tMkE)
section
variable {K : PySem.W.Frag} [Rows K] {A : Anc} {X : Cells} {W : WX} {σ : L2.St} {ρ : Env} {G G' : Hp} {L : Cells}
/-! ### except Y as e -/
def thin : Option Sl → Bool
  | some .un => true
  | some (.pl _) => true
  | _ => false
def isExn : Option Sl → Bool
  | some (.exn _ _) => true
  | _ => false
def endX (i : Nat) : Out Fl → Out Fl
  | .ok f ρ => ib ((ρ.set i .un).all notExn && isExn ρ[i]?) (.ok f (ρ.set i .un)) .bad
  | _ => .bad
def inX (i : Nat) (C : Str) (x : Option (Str × D)) (s : M Fl) (ρ : Env) : Out Fl := ib (ρ.all notExn && thin ρ[i]?) (endX i (s (ρ.set i (.exn C x)))) .bad
def mTryAs (i : Nat) (Y : Str) (b : M Fl) (s : M Fl) (ρ : Env) : Out Fl := match b ρ with
  | .ex C x ρ' => ib (Sx.xsub C Y) (inX i C x s ρ') (.ex C x ρ')
  | o => o
theorem Good.unX {A' : Anc} {i : Nat} (ea : A'.a = A.a) (g : Good K G A' X σ ρ L) (n : (ρ.set i .un).all notExn = true) (hi : ∃ s, ρ[i]? = some s ∧ (s = .un ∨ (∃ d, s = .pl d) ∨ ∃ C x, s = .exn C x)) : Good K G A X (σ.set i none) (ρ.set i .un) L := by
  obtain ⟨s, e, hs⟩ := hi
  obtain ⟨v0, c, La, Lb, e1, sr, rfl, k⟩ := g.rl.focus e
  have hc : c = [] := by
    rcases hs with rfl | ⟨d, rfl⟩ | ⟨C, x, rfl⟩
    · cases sr; rfl
    · cases sr; rfl
    · cases sr; rfl
  subst hc
  have r := k G none .un [] (Same.refl _) .un
  exact ⟨r.anc ea.symm n, g.fr⟩
theorem rs_tryA {i : Nat} {Y : Str} {tb : WX → TS} {ts : Addr → Value → Option Addr → TS} {b s : M Fl} (hY : Y ∈ Rows.exs K) (hb : ∀ W', RS K A W' (tb W') b)
    (hs : ∀ a C d, RS K { A with b := a, od := d, c := C } wn (ts a (.ref (He.ga K C)) d) s) :
    RS K A W (fun E σ H => tb (wAs K (.ref (He.ga K Y)) i ts W E) E σ H) (mTryAs i Y b s) := by
  intro X σ ρ G L E g p
  refine hb _ X σ ρ G L E g ?_
  unfold mTryAs at p
  cases e : b ρ with
  | ok f ρ' =>
    rw [e] at p
    cases f with
    | nx => exact p
    | bk => exact p
    | ct => exact p
    | rt r => cases r <;> exact p
  | bad => rw [e] at p; exact p
  | ex C x ρ' =>
    rw [e] at p
    dsimp only at p
    intro od σ' G' L' s' g' hx
    refine ⟨Sx.xsub C Y, Rows.xok C hx.1 Y hY, fun h => ?_, fun h => ?_⟩
    · rw [ib_pos h] at p
      intro a n
      unfold inX at p
      by_cases hh : (ρ'.all notExn && thin ρ'[i]?) = true
      · rw [ib_pos hh] at p
        simp only [Bool.and_eq_true] at hh
        obtain ⟨h1, h2⟩ := hh
        -- the slot
        cases e0 : ρ'[i]? with
        | none => rw [e0] at h2; cases h2
        | some s0 =>
          rw [e0] at h2
          have g2 : Good K G' { A with b := a, od := od, c := C } X σ' ρ' L' := ⟨Rl.anc (A := A) (A' := { A with b := a, od := od, c := C }) rfl g'.rl h1, g'.fr⟩
          obtain ⟨v0, c, La, Lb, e1, sr, rfl, k⟩ := g2.rl.focus e0
          have hc : c = [] := by
            cases s0 with
            | un => cases sr; rfl
            | pl d => cases sr; rfl
            | _ => cases h2
          subst hc
          have r := k G' (some (.ref a)) (.exn C x) [] (Same.refl _) (SlR.exn (A := { A with b := a, od := od, c := C }) hx)
          have g3 : Good K G' { A with b := a, od := od, c := C } X (σ'.set i (some (.ref a))) (ρ'.set i (.exn C x)) (La ++ ([] ++ Lb)) := ⟨r, g'.fr⟩
          have hl : i < ρ'.length := (List.getElem?_eq_some_iff.mp e0).1
          refine hs a C od X _ _ G' _ _ g3 ?_
          cases e2 : s (ρ'.set i (.exn C x)) with
          | ok f ρ2 =>
            rw [e2] at p
            simp only [endX] at p
            by_cases hz2 : ((ρ2.set i .un).all notExn && isExn ρ2[i]?) = true
            · rw [ib_pos hz2] at p
              simp only [Bool.and_eq_true] at hz2
              obtain ⟨hz, hx2⟩ := hz2
              have hi : ∃ s, ρ2[i]? = some s ∧ (s = .un ∨ (∃ d, s = .pl d) ∨ ∃ C x, s = .exn C x) := by
                cases e5 : ρ2[i]? with
                | none => rw [e5] at hx2; cases hx2
                | some s5 =>
                  rw [e5] at hx2
                  cases s5 with
                  | exn C5 x5 => exact ⟨_, rfl, .inr (.inr ⟨_, _, rfl⟩)⟩
                  | _ => cases hx2
              have p := SO.mono s' p
              cases f with
              | nx => exact fun σ2 G2 L2 s2 g4 => p _ G2 L2 s2 (Good.unX (A := A) (A' := { A with b := a, od := od, c := C }) rfl g4 hz hi)
              | bk => exact fun σ2 G2 L2 s2 g4 => p _ G2 L2 s2 (Good.unX (A := A) (A' := { A with b := a, od := od, c := C }) rfl g4 hz hi)
              | ct => exact fun σ2 G2 L2 s2 g4 => p _ G2 L2 s2 (Good.unX (A := A) (A' := { A with b := a, od := od, c := C }) rfl g4 hz hi)
              | rt r =>
                cases r with
                | pl d => exact fun σ2 G2 L2 v s2 g4 hv => p _ G2 L2 v s2 (Good.unX (A := A) (A' := { A with b := a, od := od, c := C }) rfl g4 hz hi) hv
                | nw ds => exact fun σ2 G2 L2 q ys s2 g4 n1 n2 hv => p _ G2 L2 q ys s2 (Good.unX (A := A) (A' := { A with b := a, od := od, c := C }) rfl g4 hz hi) n1 n2 hv
            · rw [ib_neg hz2] at p; exact p.elim
          | ex C2 x2 ρ2 => rw [e2] at p; exact p.elim
          | bad => rw [e2] at p; exact p.elim
      · rw [ib_neg hh] at p; exact p.elim
    · rw [ib_neg (by rw [h]; exact Bool.false_ne_true)] at p
      exact p od σ' G' L' s' g' hx
/-- e.f in a suite -/
def xfld (C f : Str) : Option Sl → Re D
  | some (.exn C' (some (f', d))) => if C' = C ∧ f' = f then .ok d else .bad
  | _ => .bad
def mXf (i : Nat) (C f : Str) (ρ : Env) : Out D := lift (xfld C f ρ[i]?) ρ
theorem re_xf {i : Nat} {a : Addr} {d : Option Addr} {C C0 f : Str} : RE K { A with b := a, od := d, c := C } W (tXf a (.ref (He.ga K C)) d (He.ga K C0) f (tVar i)) (mXf i C0 f) := by
  intro X σ ρ G L Q g p
  unfold mXf xfld at p
  split at p
  · rename_i C' f' d' e
    by_cases h : C' = C0 ∧ f' = f
    · rw [if_pos h] at p
      obtain ⟨rfl, rfl⟩ := h
      obtain ⟨v0, c, La, Lb, e1, sr, rfl, k⟩ := g.rl.focus e
      cases sr with
      | exn h =>
        obtain ⟨_, q, v, hq, hx, hv⟩ := h
        refine ⟨.ref a, e1, rfl, rfl, q, [(f', v)], v, hq, g.fr.same _ _ hx, by simp [List.lookup], p.at_ g v hv⟩
    · rw [if_neg h] at p; exact p.elim
  · exact p.elim
/-- isinstance(e, Y) in a suite: by the classes of the text -/
def xisi (Y : Str) : Option Sl → Re D
  | some (.exn C _) => .ok (.bl (Sx.xsub C Y))
  | _ => .bad
end
end Mi

namespace Mi
open PySem PySem.Spec PyProof.Rows L2
open Sx (Tn Fx btys tCallW tMethW tMakeW Fr wx tMkE)
def startE (n : Nat) (ds : List D) : Env := ds.map .pl ++ List.replicate (n - ds.length) .un
def outF : Out Fl → Re Rv
  | .ok (.rt r) _ => .ok r
  | .ok .nx _ => .ok (.pl .non)
  | .ok _ _ => .bad
  | .ex C x _ => .ex C x
  | .bad => .bad
def runM (n np : Nat) (b : M Fl) : MFn := fun ds => if ds.length = np then outF (b (startE n ds)) else .bad
def outR : Out Fl → Option (Rv × List D)
  | .ok (.rt r) (.rf c :: _) => some (r, c)
  | .ok .nx (.rf c :: _) => some (.pl .non, c)
  | _ => none
def runR (n np : Nat) (b : M Fl) : MFr := fun c ds => if ds.length + 1 = np then outR (b (.rf c :: startE (n - 1) ds)) else none
def outI (C : Str) : Out Fl → Re (List (Str × D))
  | .ok (.rt (.pl .non)) (.se C' gs :: _) => if C' = C then .ok gs else .bad
  | .ok .nx (.se C' gs :: _) => if C' = C then .ok gs else .bad
  | .ex C x _ => .ex C x
  | _ => .bad
def runI (C : Str) (n np : Nat) (b : M Fl) : MFi := fun ds => if ds.length + 1 = np then outI C (b (.se C [] :: startE (n - 1) ds)) else .bad
section
variable {K : PySem.W.Frag} [Rows K] {A : Anc} {X : Cells} {σ : L2.St} {ρ : Env} {G H : Hp} {L : Cells}
theorem rl_pl (X : Cells) {σ : L2.St} {ρ : Env} (h : Rl K G A X σ ρ X) : ∀ {vs : List V} {ds : List D}, IsL K G vs ds → Rl K G A X (vs.map some ++ σ) (ds.map .pl ++ ρ) X
  | _, _, .nil => h
  | _, _, .cons hv hs => Rl.cons (c := []) (.pl hv) (rl_pl X h hs)
theorem rl_un (X : Cells) : ∀ n : Nat, Rl K G A X (List.replicate n none) (List.replicate n .un) X
  | 0 => .nil
  | n + 1 => by
    rw [List.replicate_succ, List.replicate_succ]
    exact Rl.cons (c := []) .un (rl_un X n)
theorem rl_start (X : Cells) {vs : List V} {ds : List D} (h : IsL K G vs ds) (n : Nat) : Rl K G A X (vs.map some ++ List.replicate (n - vs.length) none) (startE n ds) X := by
  unfold startE
  rw [h.length]
  exact rl_pl X (rl_un X _) h
/-- the end of a def -/
theorem end_M {Q : VK} {E : XK} {o : Out Fl} (h : PostF K H Q E (outF o)) : SO K A [] (wx E) { nx := fun _ H' => Q .non H', rt := Q } H o := by
  cases o with
  | ok f ρ' =>
    cases f with
    | nx => exact fun σ' G' L' s g => h .non _ (s.trans g.fr.same) .non
    | bk => exact h.elim
    | ct => exact h.elim
    | rt r =>
      cases r with
      | pl d => exact fun σ' G' L' v s g hv => h v _ (s.trans g.fr.same) (hv.mono g.fr.same)
      | nw ds => exact fun σ' G' L' p ys s g n1 n2 hy => h p ys _ (s.trans g.fr.same) (by rw [upds_off n2]; exact n1) (hy.mono g.fr.same)
  | ex C x ρ' => exact fun od σ' G' L' s g hx => h od _ (s.trans g.fr.same) (hx.mono g.fr.same)
  | bad => exact h
section
variable {P : Program} {w : World} {mg : Str → Option Value} {base : Heap} {x qual : Str} {params : Arguments} {body : List Stmt} {scope : Scope} {dvs : List V} {kws : List (Str × V)} {f : Addr} {fd : FuncData} {N ps : List Str} {k : Nat} {b : M Fl} {C : Str}
/-- what is printed for a def: its reading, and the mirror of the reading -/
abbrev Body (K : PySem.W.Frag) [Rows K] (P : Program) (w : World) (mg : Str → Option Value) (base : Heap) (qual : Str) (scope : Scope) (f : Addr) (N : List Str) (k : Nat) (body : List Stmt) (b : M Fl) : Prop :=
  ∀ (cdv : Value) (A : Around) (outer : List PySem.Env) (s : Shared) (H : Hp) (E : XK), Room k (A.deeper (envOfC qual scope s.heap.objs.size f cdv)) →
    ∃ t, PSs (cxOf (L2.CX P w) P w K mg base N qual scope f cdv A outer s H E) body t ∧ ∀ A : Anc, RS K A (wx E) t b
theorem fok_M (F : FunD K x qual params body scope dvs kws f fd) (S : FnScope N ps scope) (hb : Body K P w mg base qual scope f N k body b) : FnOk P w K mg base (L2.CX P w) (k + 1) f fd ps (spM K (runM N.length ps.length b)) := by
  refine F.ok S (fun vs H Q E h => ?_) (fun cdv A outer s H vs Q E hr h => ?_)
  · obtain ⟨ds, hv, h⟩ := h
    unfold runM at h
    by_cases e : ds.length = ps.length
    · rw [hv.length]; exact e
    · rw [if_neg e] at h; exact h.elim
  · obtain ⟨t, hp, hs⟩ := hb cdv A outer s H E hr
    refine ⟨t, hp, ?_⟩
    obtain ⟨ds, hv, h⟩ := h
    unfold runM at h
    by_cases e : ds.length = ps.length
    · rw [if_pos e] at h
      exact hs ⟨0, 0, none, ""⟩ [] (L2.start N vs) (startE N.length ds) H [] _ ⟨rl_start [] hv N.length, frs_nil⟩ (end_M h)
    · rw [if_neg e] at h; exact h.elim
theorem fn_M (F : ∃ fd, FunD K x qual params body scope [] kws f fd) (S : FnScope N ps scope)
    (hbi : ∀ (kV doc pm : Value) (an : Option Addr) (cdv ct : Value) (us : List Value), us.length = ps.length → bindArgs (PySem.W.fnOf x qual params body scope .none kV doc pm an cdv ct) ⟨us, []⟩ = pure (ps.zip us))
    (hb : Body K P w mg base qual scope f N k body b) : FnR P w K mg base (L2.CX P w) (k + 1) f (spM K (runM N.length ps.length b)) := by
  obtain ⟨fd, F⟩ := F
  have Gx := FnOk.raw (fok_M (P := P) (w := w) (mg := mg) (base := base) F S hb) (F.bindsN hbi) .nil
  exact Gx.imp fun vs H Q E h => by rw [List.append_nil]; exact h
theorem fn_R (F : ∃ fd, FunD K x qual params body scope [] kws f fd) (S : FnScope N ps scope) (hN : 0 < N.length)
    (hbi : ∀ (kV doc pm : Value) (an : Option Addr) (cdv ct : Value) (us : List Value), us.length = ps.length → bindArgs (PySem.W.fnOf x qual params body scope .none kV doc pm an cdv ct) ⟨us, []⟩ = pure (ps.zip us))
    (hb : Body K P w mg base qual scope f N k body b) : FnR P w K mg base (L2.CX P w) (k + 1) f (spR K (runR N.length ps.length b)) := by
  obtain ⟨fd, F⟩ := F
  have FO : FnOk P w K mg base (L2.CX P w) (k + 1) f fd ps (spR K (runR N.length ps.length b)) := by
    refine F.ok S (fun vs H Q E h => ?_) (fun cdv A outer s H vs Q E hr h => ?_)
    · obtain ⟨p, ys, c, vs', ds, G, rfl, rfl, n, hy, hv, h⟩ := h
      unfold runR at h
      by_cases e : ds.length + 1 = ps.length
      · rw [← e, ← hv.length]; rfl
      · rw [if_neg e] at h; exact h.elim
    · obtain ⟨t, hp, hs⟩ := hb cdv A outer s H E hr
      refine ⟨t, hp, ?_⟩
      obtain ⟨p, ys, c, vs', ds, G, rfl, rfl, n, hy, hv, h⟩ := h
      unfold runR at h
      by_cases e : ds.length + 1 = ps.length
      · rw [if_pos e] at h
        have f1 : Frs G [(p, .ls ys)] := Frs.ls frs_nil n (fun z => by cases z)
        have st : L2.start N (.ref p :: vs') = some (.ref p) :: (vs'.map some ++ List.replicate (N.length - 1 - vs'.length) none) := by
          unfold L2.start
          rw [List.length_cons, show N.length - (vs'.length + 1) = N.length - 1 - vs'.length from by omega]
          rfl
        rw [st]
        have gd : Good K G ⟨p, 0, none, ""⟩ [] (some (.ref p) :: (vs'.map some ++ List.replicate (N.length - 1 - vs'.length) none)) (.rf c :: startE (N.length - 1) ds) [(p, .ls ys)] :=
          ⟨Rl.cons (c := [(p, .ls ys)]) (L := []) (SlR.rf (A := ⟨p, 0, none, ""⟩) hy) (rl_start [] hv _), f1⟩
        have hup : upd G p (.lst ys) = upds K G [(p, .ls ys)] := rfl
        rw [hup]
        refine hs ⟨p, 0, none, ""⟩ [] _ _ G [(p, .ls ys)] _ gd ?_
        -- the cell at the end
        have last : ∀ {σ' : L2.St} {c' : List D} {r : Env} {G' : Hp} {L' : Cells}, Good K G' ⟨p, 0, none, ""⟩ [] σ' (.rf c' :: r) L' → ∃ ys' G2, upds K G' L' = upd G2 p (.lst ys') ∧ G2 p = none ∧ Same G' G2 ∧ IsL K G' ys' c' ∧ ∀ q, q ∉ ads L' → G' q = none → G2 q = none ∧ q ≠ p := fun {σ' c' r G' L'} g => by
          obtain ⟨q, ys', La, Lb, e1, rfl, hy', _⟩ := g.cell (i := 0) (c := c') rfl
          have hq : q = p := by
            obtain ⟨v1, c1, La1, Lb1, e2, sr, _, _⟩ := g.rl.focus (i := 0) (s := .rf c') rfl
            rw [e1] at e2
            cases e2
            cases sr
            rfl
          subst hq
          obtain ⟨q1, q2⟩ := mid_eq (K := K) g.fr
          have np : q ∉ ads (La ++ Lb) := Frs.off q2
          have gp : G' q = none := g.fr.no q (by rw [ads_app, ads_app]; simp [ads, ad1])
          refine ⟨ys', upds K G' (La ++ Lb), ?_, by rw [upds_off np]; exact gp, (Frs.un q2).same, hy', fun z hz hz2 => ?_⟩
          · rw [upds_new np]; exact q1
          · rw [ads_app, ads_app] at hz
            simp only [List.mem_append, not_or] at hz
            exact ⟨by rw [upds_off (by rw [ads_app]; simp only [List.mem_append, not_or]; exact ⟨hz.1, hz.2.2⟩)]; exact hz2, by simpa [ads, ad1] using hz.2.1⟩
        cases eo : b (.rf c :: startE (N.length - 1) ds) with
        | ok fl ρ' =>
          rw [eo] at h
          cases fl with
          | nx =>
            match ρ', h with
            | .rf c' :: r, h =>
              intro σ' G' L' s g
              obtain ⟨ys', G2, e2, n2, sm, hy', _⟩ := last g
              show Q .non _
              rw [e2]
              exact h .non G2 ys' (s.trans sm) n2 (hy'.mono sm) .non
          | bk => exact h.elim
          | ct => exact h.elim
          | rt rv =>
            match ρ', h with
            | .rf c' :: r, h =>
              cases rv with
              | pl d =>
                intro σ' G' L' v s g hv
                obtain ⟨ys', G2, e2, n2, sm, hy', _⟩ := last g
                show Q v _
                rw [e2]
                exact h v G2 ys' (s.trans sm) n2 (hy'.mono sm) (hv.mono sm)
              | nw es =>
                intro σ' G' L' q zs s g n1 nn2 hz
                obtain ⟨ys', G2, e2, n2, sm, hy', k⟩ := last g
                obtain ⟨k1, k2⟩ := k q nn2 n1
                show Q (.ref q) _
                rw [e2]
                exact h q zs G2 ys' (s.trans sm) n2 k1 k2 (hy'.mono sm) (hz.mono sm)
        | ex C x ρ' => rw [eo] at h; exact h.elim
        | bad => rw [eo] at h; exact h.elim
      · rw [if_neg e] at h; exact h.elim
  have Gx := FnOk.raw FO (F.bindsN hbi) .nil
  exact Gx.imp fun vs H Q E h => by rw [List.append_nil]; exact h
theorem fok_I (F : FunD K x qual params body scope dvs kws f fd) (S : FnScope N ps scope) (hC : C ∈ Rows.cls K) (hb : Body K P w mg base qual scope f N k body b) : FnOk P w K mg base (L2.CX P w) (k + 1) f fd ps (spI K C (runI C N.length ps.length b)) := by
  refine F.ok S (fun vs H Q E h => ?_) (fun cdv A outer s H vs Q E hr h => ?_)
  · obtain ⟨a, dx, vs', ds, G, rfl, rfl, n1, n2, ne, hv, h⟩ := h
    unfold runI at h
    by_cases e : ds.length + 1 = ps.length
    · rw [← e, ← hv.length]; rfl
    · rw [if_neg e] at h; exact h.elim
  · obtain ⟨t, hp, hs⟩ := hb cdv A outer s H E hr
    refine ⟨t, hp, ?_⟩
    obtain ⟨a, dx, vs', ds, G, rfl, rfl, n1, n2, ne, hv, h⟩ := h
    unfold runI at h
    by_cases e : ds.length + 1 = ps.length
    · rw [if_pos e] at h
      have f1 : Frs G [(a, .is C dx [])] := ⟨by simp [ads, ad1]; exact fun z => ne z.symm, fun b hb => by
        have : b = a ∨ b = dx := by simpa [ads, ad1] using hb
        rcases this with z | z
        · rw [z]; exact n1
        · rw [z]; exact n2⟩
      have st : L2.start N (.ref a :: vs') = some (.ref a) :: (vs'.map some ++ List.replicate (N.length - 1 - vs'.length) none) := by
        unfold L2.start
        rw [List.length_cons, show N.length - (vs'.length + 1) = N.length - 1 - vs'.length from by omega]
        rfl
      rw [st]
      have gd : Good K G ⟨a, 0, none, ""⟩ [] (some (.ref a) :: (vs'.map some ++ List.replicate (N.length - 1 - vs'.length) none)) (.se C [] :: startE (N.length - 1) ds) [(a, .is C dx [])] :=
        ⟨Rl.cons (c := [(a, .is C dx [])]) (L := []) (SlR.se (A := ⟨a, 0, none, ""⟩) hC (fun _ z => by cases z) .nil) (rl_start [] hv _), f1⟩
      have hup : upd (upd G dx (.own a)) a (.ins (He.ga K C) dx []) = upds K G [(a, .is C dx [])] := rfl
      rw [hup]
      refine hs ⟨a, 0, none, ""⟩ [] _ _ G [(a, .is C dx [])] _ gd ?_
      have last : ∀ {σ' : L2.St} {C' : Str} {gs : List (Str × D)} {r : Env} {G' : Hp} {L' : Cells}, Good K G' ⟨a, 0, none, ""⟩ [] σ' (.se C' gs :: r) L' → ∃ dx' fs G2, upds K G' L' = upds K G2 [(a, .is C' dx' fs)] ∧ Frs G2 [(a, .is C' dx' fs)] ∧ Same G' G2 ∧ IsF K G' fs gs ∧ ∀ p ∈ gs, NoAttr K (He.ga K C') p.1 := fun {σ' C' gs r G' L'} g => by
        obtain ⟨v0, c, La, Lb, e1, sr, rfl, _⟩ := g.rl.focus (i := 0) rfl
        cases sr with
        | @se _ dx' fs _ hc hn hf =>
          have fr2 : Frs G' ((La ++ Lb) ++ [(a, .is C' dx' fs)]) := by
            have z := g.fr.swap
            rw [List.append_assoc] at z
            have z2 := z.swap
            have z3 : Frs G' ((Lb ++ La) ++ [(a, .is C' dx' fs)]) := z2
            have z4 := z3.swap
            -- reorder
            refine ⟨?_, fun b hb => z4.no b ?_⟩
            · have nd := z3.nd
              rw [ads_app, ads_app] at nd ⊢
              exact ((List.perm_append_comm.append_right _).nodup_iff).mp nd
            · rw [ads_app, ads_app] at hb
              rw [ads_app, ads_app]
              simp only [List.mem_append] at hb ⊢
              rcases hb with (h | h) | h
              · exact .inr (.inr h)
              · exact .inr (.inl h)
              · exact .inl h
          have fr3 := fr2.swap
          obtain ⟨q1, _⟩ := mid_eq (K := K) g.fr
          have s1 : Frs (upds K G' (La ++ Lb)) [(a, .is C' dx' fs)] := fr3.sink
          have s2 : Frs (upds K G' [(a, .is C' dx' fs)]) (La ++ Lb) := fr2.sink
          refine ⟨dx', fs, upds K G' (La ++ Lb), ?_, s1, fr3.right.same, hf, hn⟩
          rw [q1, ← upds_app, upds_swap fr2, upds_app]
      cases eo : b (.se C [] :: startE (N.length - 1) ds) with
      | ok fl ρ' =>
        rw [eo] at h
        cases fl with
        | nx =>
          match ρ', h with
          | .se C' gs :: r, h =>
            simp only [outI] at h
            by_cases ec : C' = C
            · rw [if_pos ec] at h
              subst ec
              intro σ' G' L' s g
              obtain ⟨dx', fs, G2, e2, fr2, sm, hf, hn⟩ := last g
              show Q .non _
              rw [e2]
              exact h dx' fs G2 (s.trans sm) fr2 (hf.mono sm) hn
            · rw [if_neg ec] at h; exact h.elim
        | bk => exact h.elim
        | ct => exact h.elim
        | rt rv =>
          match rv, ρ', h with
          | .pl .non, .se C' gs :: r, h =>
            simp only [outI] at h
            by_cases ec : C' = C
            · rw [if_pos ec] at h
              subst ec
              intro σ' G' L' v s g hv
              obtain ⟨dx', fs, G2, e2, fr2, sm, hf, hn⟩ := last g
              show Q v _
              rw [e2, hv.non_eq]
              exact h dx' fs G2 (s.trans sm) fr2 (hf.mono sm) hn
            · rw [if_neg ec] at h; exact h.elim
      | ex C2 y ρ' =>
        rw [eo] at h
        exact fun od σ' G' L' s g hx => h od _ (s.trans g.fr.same) (hx.mono g.fr.same)
      | bad => rw [eo] at h; exact h.elim
    · rw [if_neg e] at h; exact h.elim
end
end
end Mi

namespace Mi
open PySem PySem.Spec PyProof.Rows L2
open Sx (Tn Fx btys tCallW tMethW tMakeW Fr wx tMkE tOpX kOp kNeg tNegX kEq tEqX rIpX rInt rAbs rLen CDivX)
section
variable {K : PySem.W.Frag} [Rows K] {A : Anc} {X : Cells} {W : WX} {σ : L2.St} {ρ : Env} {G G' : Hp} {L : Cells}
/-! ### ints -/
def dI (h : Int → Int → D) : D → D → Re D
  | .int i, .int j => .ok (h i j)
  | _, _ => .bad
def dIc (c : Int → Int → Bool) (h : Int → Int → D) : D → D → Re D
  | .int i, .int j => ib (c i j) (.ok (h i j)) .bad
  | _, _ => .bad
theorem rr_I0 {gv : Int → Int → V} {h : Int → Int → D} (hg : ∀ i j G, Is K G (gv i j) (h i j)) : RR K A W (rI0 gv) (dI h) := by
  intro X σ ρ G L Q x y a b g hx hy p
  cases hx <;> cases hy <;> first | exact p.elim | exact ⟨_, _, rfl, rfl, p.at_ g _ (hg _ _ _)⟩
theorem rr_I {gv : Int → Int → V} {h : Int → Int → D} {Cc : Int → Int → Prop} {c : Int → Int → Bool} (hc : ∀ i j, c i j = true → Cc i j) (hg : ∀ i j G, Is K G (gv i j) (h i j)) : RR K A W (rI Cc gv) (dIc c h) := by
  intro X σ ρ G L Q x y a b g hx hy p
  cases hx <;> cases hy <;> first | exact p.elim | skip
  rename_i i j
  simp only [lift, dIc] at p
  by_cases e : c i j = true
  · simp only [ib_pos e] at p; exact ⟨_, _, rfl, rfl, hc _ _ e, p.at_ g _ (hg _ _ _)⟩
  · simp only [ib_neg e] at p; exact p.elim
def dAdd (a b : D) : Re D := dI (fun i j => .int (i + j)) a b
def dSub (a b : D) : Re D := dI (fun i j => .int (i - j)) a b
def dLt (a b : D) : Re D := dI (fun i j => .bl (decide (i < j))) a b
def dLe (a b : D) : Re D := dI (fun i j => .bl (decide (i ≤ j))) a b
def dGt (a b : D) : Re D := dI (fun i j => .bl (decide (j < i))) a b
def dGe (a b : D) : Re D := dI (fun i j => .bl (decide (j ≤ i))) a b
def dBAnd (a b : D) : Re D := dI (fun i j => .int (Builtin.bitAnd i j)) a b
theorem rr_add : RR K A W (rI0 fun i j => .int (i + j)) dAdd := rr_I0 fun _ _ _ => .int _
theorem rr_sub : RR K A W (rI0 fun i j => .int (i - j)) dSub := rr_I0 fun _ _ _ => .int _
theorem rr_lt : RR K A W (rI0 fun i j => .bl (decide (i < j))) dLt := rr_I0 fun _ _ _ => .bl _
theorem rr_le : RR K A W (rI0 fun i j => .bl (decide (i ≤ j))) dLe := rr_I0 fun _ _ _ => .bl _
theorem rr_gt : RR K A W (rI0 fun i j => .bl (decide (j < i))) dGt := rr_I0 fun _ _ _ => .bl _
theorem rr_ge : RR K A W (rI0 fun i j => .bl (decide (j ≤ i))) dGe := rr_I0 fun _ _ _ => .bl _
theorem rr_band : RR K A W (rI0 fun i j => .int (Builtin.bitAnd i j)) dBAnd := rr_I0 fun _ _ _ => .int _
theorem mulOk_ex (i j : Int) : ∃ b : Bool, b = !(decide (Builtin.Int.intBits i > shortFactorBits) && decide (Builtin.Int.intBits j > shortFactorBits) && Builtin.Int.intTooBig (Builtin.Int.intBits i + Builtin.Int.intBits j)) := ⟨_, rfl⟩
noncomputable def mulOk (i j : Int) : Bool := (mulOk_ex i j).choose
theorem mulOk_eq (i j : Int) : mulOk i j = !(decide (Builtin.Int.intBits i > shortFactorBits) && decide (Builtin.Int.intBits j > shortFactorBits) && Builtin.Int.intTooBig (Builtin.Int.intBits i + Builtin.Int.intBits j)) := (mulOk_ex i j).choose_spec
theorem op_mulX {X : Cx} : OpR X (binaryOp .Mult) (rI IntMulOk fun i j => .int (i * j)) := opI fun _ _ _ _ _ _ _ hc q => mul_int q hc
noncomputable def dMul (a b : D) : Re D := dIc mulOk (fun i j => .int (i * j)) a b
theorem rr_mul : RR K A W (rI IntMulOk fun i j => .int (i * j)) dMul := rr_I (fun i j h => by
  rw [mulOk_eq] at h
  unfold IntMulOk
  intro q
  rw [q] at h
  cases h) fun _ _ _ => .int _
theorem iDiv_ex (i j : Int) : ∃ k, k = i.fdiv j := ⟨_, rfl⟩
theorem iMod_ex (i j : Int) : ∃ k, k = i.fmod j := ⟨_, rfl⟩
/-- // and %, that no proof unfolds -/
noncomputable def iDiv (i j : Int) : Int := (iDiv_ex i j).choose
noncomputable def iMod (i j : Int) : Int := (iMod_ex i j).choose
theorem iDiv_eq (i j : Int) : iDiv i j = i.fdiv j := (iDiv_ex i j).choose_spec
theorem iMod_eq (i j : Int) : iMod i j = i.fmod j := (iMod_ex i j).choose_spec
noncomputable def dDiv (a b : D) : Re D := dIc (fun _ j => decide (j ≠ 0)) (fun i j => .int (iDiv i j)) a b
theorem rr_div : RR K A W (rI Sx.CDivP fun i j => .int (i.fdiv j)) dDiv := rr_I (fun i j h => (of_decide_eq_true h : j ≠ 0)) fun i j _ => by rw [iDiv_eq]; exact .int _
def CModX (_ j : Int) : Prop := j ≠ 0
theorem op_modX {X : Cx} : OpR X (binaryOp .Mod) (rI CModX fun i j => .int (i.fmod j)) := opI fun i j _ _ _ _ _ hc q => mod_int hc q
noncomputable def dMod (a b : D) : Re D := dIc (fun _ j => decide (j ≠ 0)) (fun i j => .int (iMod i j)) a b
theorem rr_mod : RR K A W (rI CModX fun i j => .int (i.fmod j)) dMod := rr_I (fun i j h => (of_decide_eq_true h : j ≠ 0)) fun i j _ => by rw [iMod_eq]; exact .int _
def powOk (i j : Int) : Bool := decide (0 ≤ j) && (decide (j ≤ 1000000) && decide (i.natAbs < 2 ^ 64))
def dPow (a b : D) : Re D := dIc powOk (fun i j => .int (i ^ j.toNat)) a b
theorem rr_pow : RR K A W (rI CPow fun i j => .int (i ^ j.toNat)) dPow := rr_I (fun i j h => by
  simp only [powOk, Bool.and_eq_true, decide_eq_true_eq] at h
  exact h) fun _ _ _ => .int _
def dNeg : D → Re D
  | .int i => .ok (.int (-i))
  | _ => .bad
theorem r1_neg : R1 K A W (rU fun i => .int (-i)) dNeg := by
  intro X σ ρ G L Q x a g hx p
  cases hx <;> first | exact p.elim | exact ⟨_, rfl, p.at_ g _ (.int _)⟩
/-! ### scalars -/
def sEq : D → D → Option Bool
  | .int i, .int j => some (decide (i = j))
  | .str i, .str j => some (decide (i = j))
  | .bl i, .bl j => some (decide (i = j))
  | .non, .non => some true
  | .non, .int _ => some false
  | .int _, .non => some false
  | .non, .bl _ => some false
  | .bl _, .non => some false
  | .non, .str _ => some false
  | .str _, .non => some false
  | .int _, .str _ => some false
  | .str _, .int _ => some false
  | .bl _, .str _ => some false
  | .str _, .bl _ => some false
  | _, _ => none
def ofB (f : Bool → Bool) : Option Bool → Re D
  | some b => .ok (.bl (f b))
  | none => .bad
def dEq (a b : D) : Re D := ofB id (sEq a b)
def dNe (a b : D) : Re D := ofB (!·) (sEq a b)
theorem sEq_ok {x y : V} {a b : D} {k : Bool} (hx : Is K G x a) (hy : Is K G y b) (h : sEq a b = some k) : scal x y = true ∧ decide (x = y) = k := by
  cases hx <;> cases hy <;> simp only [sEq, Option.some.injEq, reduceCtorEq] at h <;> subst h <;> refine ⟨rfl, ?_⟩ <;> simp
theorem rr_eq : RR K A W rEq dEq := by
  intro X σ ρ G L Q x y a b g hx hy p
  unfold dEq at p
  cases e : sEq a b with
  | none => rw [e] at p; exact p.elim
  | some k =>
    rw [e] at p
    obtain ⟨h1, h2⟩ := sEq_ok hx hy e
    exact ⟨h1, by rw [h2]; exact p.at_ g _ (.bl k)⟩
theorem rr_ne : RR K A W rNe dNe := by
  intro X σ ρ G L Q x y a b g hx hy p
  unfold dNe at p
  cases e : sEq a b with
  | none => rw [e] at p; exact p.elim
  | some k =>
    rw [e] at p
    obtain ⟨h1, h2⟩ := sEq_ok hx hy e
    exact ⟨h1, by rw [h2]; exact p.at_ g _ (.bl (!k))⟩
def isNon : D → Bool
  | .non => true
  | _ => false
theorem isNon_ok {x : V} {a : D} (hx : Is K G x a) : decide (x = .non) = isNon a := by
  cases hx <;> simp [isNon]
def dIsN (a b : D) : Re D := ib (isNon b) (.ok (.bl (isNon a))) .bad
def dNotN (a b : D) : Re D := ib (isNon b) (.ok (.bl (!isNon a))) .bad
theorem rr_isN : RR K A W (fun x y H Q => y = .non ∧ Q (.bl (decide (x = .non))) H) dIsN := by
  intro X σ ρ G L Q x y a b g hx hy p
  unfold dIsN at p
  cases hy <;> simp only [isNon, ib_t, ib_f] at p <;> first | exact p.elim | skip
  exact ⟨rfl, by rw [isNon_ok hx]; exact p.at_ g _ (.bl _)⟩
theorem rr_notN : RR K A W (fun x y H Q => y = .non ∧ Q (.bl (!decide (x = .non))) H) dNotN := by
  intro X σ ρ G L Q x y a b g hx hy p
  unfold dNotN at p
  cases hy <;> simp only [isNon, ib_t, ib_f] at p <;> first | exact p.elim | skip
  exact ⟨rfl, by rw [isNon_ok hx]; exact p.at_ g _ (.bl _)⟩
/-! ### built-ins -/
def dInt : List D → Re D
  | [.int i] => .ok (.int i)
  | [.bl b] => .ok (.int (if b then 1 else 0))
  | _ => .bad
theorem rc_int : RC K A W rInt dInt := by
  intro X σ ρ G L Q xs as g hx p
  match as, xs, hx, p with
  | [.int i], [_], .cons (.int _) .nil, p => exact .inl ⟨i, rfl, p.at_ g _ (.int i)⟩
  | [.bl b], [_], .cons (.bl _) .nil, p => exact .inr ⟨b, rfl, p.at_ g _ (.int _)⟩
  | [], _, _, p => exact p.elim
  | .non :: _, _, _, p => exact p.elim
  | .str _ :: _, _, _, p => exact p.elim
  | .tup _ :: _, _, _, p => exact p.elim
  | .lst _ :: _, _, _, p => exact p.elim
  | .ins _ _ :: _, _, _, p => exact p.elim
  | .dic :: _, _, _, p => exact p.elim
  | .int _ :: _ :: _, _, _, p => exact p.elim
  | .bl _ :: _ :: _, _, _, p => exact p.elim
def dI1 (f : Int → Int) : List D → Re D
  | [.int i] => .ok (.int (f i))
  | _ => .bad
def dI2 (f : Int → Int → Int) : List D → Re D
  | [.int i, .int j] => .ok (.int (f i j))
  | _ => .bad
theorem dI1_ok {f : Int → Int} {as : List D} {d : D} (h : dI1 f as = .ok d) : ∃ i, as = [.int i] ∧ d = .int (f i) := by
  unfold dI1 at h; split at h
  · cases h; exact ⟨_, rfl, rfl⟩
  · cases h
theorem dI2_ok {f : Int → Int → Int} {as : List D} {d : D} (h : dI2 f as = .ok d) : ∃ i j, as = [.int i, .int j] ∧ d = .int (f i j) := by
  unfold dI2 at h; split at h
  · cases h; exact ⟨_, _, rfl, rfl⟩
  · cases h
theorem nx_I1 {f : Int → Int} (as : List D) : noX (dI1 f as) := fun C x => by unfold dI1; split <;> simp
theorem nx_I2 {f : Int → Int → Int} (as : List D) : noX (dI2 f as) := fun C x => by unfold dI2; split <;> simp
def dAbs (as : List D) : Re D := dI1 (fun i => (i.natAbs : Int)) as
theorem rc_abs : RC K A W rAbs dAbs := by
  intro X σ ρ G L Q xs as g hx p
  obtain ⟨d, e, p⟩ := p.lift (nx_I1 as)
  obtain ⟨i, rfl, rfl⟩ := dI1_ok e
  have := IsL.ints_eq (ns := [i]) hx
  subst this
  exact Sx.r_abs (p.at_ g _ (.int _))
def dMin (as : List D) : Re D := dI2 (fun i j => min i j) as
def dMax (as : List D) : Re D := dI2 (fun i j => max i j) as
def dGcd (as : List D) : Re D := dI2 (fun i j => (Int.gcd i j : Int)) as
theorem rc_min : RC K A W Sx.rMin dMin := by
  intro X σ ρ G L Q xs as g hx p
  obtain ⟨d, e, p⟩ := p.lift (nx_I2 as)
  obtain ⟨i, j, rfl, rfl⟩ := dI2_ok e
  have := IsL.ints_eq (ns := [i, j]) hx
  subst this
  exact Sx.r_min (p.at_ g _ (.int _))
theorem rc_max : RC K A W Sx.rMax dMax := by
  intro X σ ρ G L Q xs as g hx p
  obtain ⟨d, e, p⟩ := p.lift (nx_I2 as)
  obtain ⟨i, j, rfl, rfl⟩ := dI2_ok e
  have := IsL.ints_eq (ns := [i, j]) hx
  subst this
  exact Sx.r_max (p.at_ g _ (.int _))
theorem rc_gcd : RC K A W rGcd dGcd := by
  intro X σ ρ G L Q xs as g hx p
  obtain ⟨d, e, p⟩ := p.lift (nx_I2 as)
  obtain ⟨i, j, rfl, rfl⟩ := dI2_ok e
  have := IsL.ints_eq (ns := [i, j]) hx
  subst this
  exact Sx.r_gcd (p.at_ g _ (.int _))
/-- len -/
def dLen1 : D → Re D
  | .lst ds => .ok (.int ds.length)
  | .tup ds => .ok (.int ds.length)
  | .str x => if x.length ≤ 1000000 then .ok (.int x.length) else .bad
  | _ => .bad
def dLen : List D → Re D
  | [d] => dLen1 d
  | _ => .bad
theorem rc_len : RC K A W (Sx.rLen K) dLen := by
  intro X σ ρ G L Q xs as g hx p
  match as, xs, hx, p with
  | [], _, _, p => exact p.elim
  | _ :: _ :: _, _, _, p => exact p.elim
  | [d], [v], .cons hv .nil, p =>
    cases hv with
    | lst hs hd => exact Sx.r_lenL (Same.seq g.fr.same hs) (by rw [hd.length]; exact p.at_ g _ (.int _))
    | tup hs hd => exact Sx.r_lenT (Sx.Same.seqT g.fr.same hs) (by rw [hd.length]; exact p.at_ g _ (.int _))
    | str x =>
      simp only [lift, dLen, dLen1] at p
      by_cases e : x.length ≤ 1000000
      · simp only [if_pos e] at p
        exact Sx.r_lenS (Nat.le_trans e (by decide)) (p.at_ g _ (.int _))
      · simp only [if_neg e] at p; exact p.elim
    | _ => exact p.elim
def lenV : Option Sl → Re D
  | some (.ow ds) => .ok (.int ds.length)
  | some (.rf ds) => .ok (.int ds.length)
  | some (.pl d) => dLen1 d
  | _ => .bad
def mLenV (i : Nat) (ρ : Env) : Out D := lift (lenV ρ[i]?) ρ
theorem re_lenV {i : Nat} : RE K A W (tCB (Sx.rLen K) (tCons (tVar i) tNil)) (mLenV i) := by
  intro X σ ρ G L Q g p
  unfold mLenV lenV at p
  split at p
  · rename_i ds e
    obtain ⟨q, ys, e1, hs, hy⟩ := g.seqL (.inl e)
    exact ⟨.ref q, e1, Sx.r_lenL hs (by rw [hy.length]; exact p.at_ g _ (.int _))⟩
  · rename_i ds e
    obtain ⟨q, ys, e1, hs, hy⟩ := g.seqL (.inr (.inl e))
    exact ⟨.ref q, e1, Sx.r_lenL hs (by rw [hy.length]; exact p.at_ g _ (.int _))⟩
  · rename_i d e
    obtain ⟨v, e1, hv⟩ := g.get e
    exact ⟨v, e1, rc_len X σ ρ G L Q [v] [d] g (.cons hv .nil) p⟩
  · exact p.elim
/-- isinstance(e, C) -/
def mIsi (c : Tn) (m : M D) : M D := bnd m fun d => ret (.bl (isub d.tn c))
theorem re_isiB {n : String} {t : TE} {m : M D} (hn : n ∈ btys) (h : RE K A W t m) : RE K A W (tCB (rIsi K) (tCons t (tCons (tC (.ty n)) tNil))) (mIsi (.b n) m) := by
  intro X σ ρ G L Q g p
  refine h X σ ρ G L _ g (p.seq fun d ρ1 G1 L1 s1 g1 p1 v hv => ?_)
  have hv2 := hv.mono (g1.fr.same (K := K))
  exact ⟨v, .ty n, _, _, _, rfl, .ty n, hv2.tyx, hv2.kit (c := .b n) hn, p1.at_ g1 _ (.bl _)⟩
theorem re_isiC {C : Str} {t : TE} {m : M D} (hn : C ∈ Rows.cls K) (h : RE K A W t m) : RE K A W (tCB (rIsi K) (tCons t (tCons (tC (.ref (He.ga K C))) tNil))) (mIsi (.c C) m) := by
  intro X σ ρ G L Q g p
  refine h X σ ρ G L _ g (p.seq fun d ρ1 G1 L1 s1 g1 p1 v hv => ?_)
  have hv2 := hv.mono (g1.fr.same (K := K))
  exact ⟨v, .ref (He.ga K C), _, _, _, rfl, .own _, hv2.tyx, hv2.kit (c := .c C) hn, p1.at_ g1 _ (.bl _)⟩
/-- x[i]: lists, tuples, texts -/
def dIx : D → D → Re D
  | .lst ds, .int k => listAt ds k
  | .tup ds, .int k => listAt ds k
  | .str x, .int k => if x.length ≤ 1000000 then (match L2.atI x.cps.toList k with
    | some c => .ok (.str ⟨#[c]⟩)
    | none => .bad) else .bad
  | _, _ => .bad
theorem rr_ix : RR K A W (rIx K) dIx := by
  intro X σ ρ G L Q x y a b g hx hy p
  cases hy with
  | int k =>
    cases hx with
    | @lst q xs ds hs hd =>
      simp only [dIx, listAt] at p
      cases e : L2.atI ds k with
      | none => rw [e] at p; exact p.elim
      | some d =>
        rw [e] at p
        obtain ⟨w, e4, hw⟩ := hd.atI e
        exact .inl ⟨q, xs, k, w, rfl, rfl, Same.seq g.fr.same hs, e4, p.at_ g w hw⟩
    | @tup q xs ds hs hd =>
      simp only [dIx, listAt] at p
      cases e : L2.atI ds k with
      | none => rw [e] at p; exact p.elim
      | some d =>
        rw [e] at p
        obtain ⟨w, e4, hw⟩ := hd.atI e
        exact .inr (.inl ⟨q, xs, k, w, rfl, rfl, Sx.Same.seqT g.fr.same hs, e4, p.at_ g w hw⟩)
    | str z =>
      simp only [dIx] at p
      by_cases hl : z.length ≤ 1000000
      · rw [if_pos hl] at p
        cases e : L2.atI z.cps.toList k with
        | none => rw [e] at p; exact p.elim
        | some c =>
          rw [e] at p
          exact .inr (.inr ⟨z, k, c, rfl, rfl, Nat.le_trans hl (by decide), e, p.at_ g _ (.str _)⟩)
      · rw [if_neg hl] at p; exact p.elim
    | _ => exact p.elim
  | _ => cases hx <;> exact p.elim
/-! ### operators of an own class -/
def opC (C : Str) (g : D → D → Re D) (mL mR : MFn) : D → D → Re D
  | .int i, .int j => g (.int i) (.int j)
  | .ins C1 f1, .int j => if C1 = C then frzR (mL [.ins C1 f1, .int j]) else .bad
  | .ins C1 f1, .ins C2 f2 => if C1 = C ∧ C2 = C then frzR (mL [.ins C1 f1, .ins C2 f2]) else .bad
  | .int i, .ins C1 f1 => if C1 = C then frzR (mR [.ins C1 f1, .int i]) else .bad
  | _, _ => .bad
theorem re_opX {C : Str} {r : R2} {g : D → D → Re D} {mL mR : MFn} {ta tb : TE} {a b : M D} (hr : RR K A W r g) (ha : RE K A W ta a) (hb : RE K A W tb b) :
    RE K A W (tOpX r (He.ga K C) (Fr (spM K mL)) (Fr (spM K mR)) W ta tb) (mBin (opC C g mL mR) a b) := by
  intro X σ ρ G L Q gd p
  refine ha X σ ρ G L _ gd (p.seq fun x ρ1 G1 L1 s1 g1 p1 v hv => ?_)
  refine hb X σ ρ1 G1 L1 _ g1 (p1.seq fun y ρ2 G2 L2 s2 g2 p2 u hu => ?_)
  have hv := hv.mono s2
  cases hv with
  | int i =>
    cases hu with
    | int j => exact .inl ⟨⟨i, j, rfl, rfl⟩, hr X σ ρ2 G2 L2 Q _ _ _ _ g2 (.int i) (.int j) p2⟩
    | @ins q dx C1 fs gs hc hn h hs =>
      simp only [opC] at p2
      by_cases e : C1 = C
      · rw [if_pos e] at p2
        subst e
        exact .inr (.inr ⟨i, q, dx, fs, rfl, rfl, g2.fr.same _ _ h, fr_call g2 (.cons (.ins hc hn h hs) (.cons (.int i) .nil)) p2⟩)
      · rw [if_neg e] at p2; exact p2.elim
    | _ => exact p2.elim
  | @ins q dx C1 fs gs hc hn h hs =>
    cases hu with
    | int j =>
      simp only [opC] at p2
      by_cases e : C1 = C
      · rw [if_pos e] at p2
        subst e
        exact .inr (.inl ⟨q, dx, fs, rfl, g2.fr.same _ _ h, .inl ⟨j, rfl⟩, fr_call g2 (.cons (.ins hc hn h hs) (.cons (.int j) .nil)) p2⟩)
      · rw [if_neg e] at p2; exact p2.elim
    | @ins q2 dx2 C2 fs2 gs2 hc2 hn2 h2 hs2 =>
      simp only [opC] at p2
      by_cases e : C1 = C ∧ C2 = C
      · rw [if_pos e] at p2
        obtain ⟨rfl, rfl⟩ := e
        exact .inr (.inl ⟨q, dx, fs, rfl, g2.fr.same _ _ h, .inr ⟨q2, dx2, fs2, rfl, g2.fr.same _ _ h2⟩, fr_call g2 (.cons (.ins hc hn h hs) (.cons (.ins hc2 hn2 h2 hs2) .nil)) p2⟩)
      · rw [if_neg e] at p2; exact p2.elim
    | _ => exact p2.elim
  | _ => cases hu <;> exact p2.elim
def negC (C : Str) (m : MFn) : D → Re D
  | .int i => .ok (.int (-i))
  | .ins C1 f1 => if C1 = C then frzR (m [.ins C1 f1]) else .bad
  | _ => .bad
theorem re_negX {C : Str} {m : MFn} {ta : TE} {a : M D} (ha : RE K A W ta a) : RE K A W (tNegX (He.ga K C) (Fr (spM K m)) W ta) (mUn (negC C m) a) := by
  intro X σ ρ G L Q gd p
  refine ha X σ ρ G L _ gd (p.seq fun x ρ1 G1 L1 s1 g1 p1 v hv => ?_)
  cases hv with
  | int i => exact .inl ⟨i, rfl, p1.at_ g1 _ (.int _)⟩
  | @ins q dx C1 fs gs hc hn h hs =>
    simp only [negC] at p1
    by_cases e : C1 = C
    · rw [if_pos e] at p1
      subst e
      exact .inr ⟨q, dx, fs, rfl, g1.fr.same _ _ h, fr_call g1 (.cons (.ins hc hn h hs) .nil) p1⟩
    · rw [if_neg e] at p1; exact p1.elim
  | _ => exact p1.elim
theorem nf_bt {C : Str} : ∀ n ∈ btys, PySem.W.notFirst K (He.ga K C) (.type n) = true := by
  intro n hn
  have : n = "int" ∨ n = "bool" ∨ n = "str" ∨ n = "list" ∨ n = "tuple" ∨ n = "dict" ∨ n = "NoneType" := by simpa [btys] using hn
  rcases this with rfl | rfl | rfl | rfl | rfl | rfl | rfl
  · exact (inferInstance : Sx.NF K C (.b "int")).h
  · exact (inferInstance : Sx.NF K C (.b "bool")).h
  · exact (inferInstance : Sx.NF K C (.b "str")).h
  · exact (inferInstance : Sx.NF K C (.b "list")).h
  · exact (inferInstance : Sx.NF K C (.b "tuple")).h
  · exact (Sx.nf_b (n := "dict") (l := [.type "dict", .type "object"]) (by decide +kernel) rfl : Sx.NF K C (.b "dict")).h
  · exact (inferInstance : Sx.NF K C (.b "NoneType")).h
theorem Is.nf {C : Str} {v : V} {d : D} (hC : C ∈ Rows.cls K) (h : Is K G v d) : PySem.W.notFirst K (He.ga K C) (d.tn.val K) = true := by
  cases h with
  | ins hc _ _ _ => exact (Rows.ok C hC).nf _ hc
  | _ => exact nf_bt _ (by decide)
def eqC (C : Str) (m : MFn) (a b : D) : Re D := match a with
  | .ins C1 f1 => if C1 = C then frzR (m [.ins C1 f1, b]) else .bad
  | _ => dEq a b
theorem re_eqX {C : Str} {m : MFn} {ta tb : TE} {a b : M D} (ha : RE K A W ta a) (hb : RE K A W tb b) : RE K A W (tEqX K (He.ga K C) (Fr (spM K m)) W ta tb) (mBin (eqC C m) a b) := by
  intro X σ ρ G L Q gd p
  refine ha X σ ρ G L _ gd (p.seq fun x ρ1 G1 L1 s1 g1 p1 v hv => ?_)
  refine hb X σ ρ1 G1 L1 _ g1 (p1.seq fun y ρ2 G2 L2 s2 g2 p2 u hu => ?_)
  have hv := hv.mono s2
  have sc : ∀ {x y : D}, (lift (dEq x y) ρ2 = lift (dEq x y) ρ2) → Is K G2 v x → Is K G2 u y → PO K A X W σ G2 (fun d G' L' => ∀ v, Is K G' v d → Q v (upds K G' L')) (lift (dEq x y) ρ2) → kEq K (He.ga K C) (Fr (spM K m)) (WE W σ) Q v u (upds K G2 L2) := fun {x y} _ h1 h2 q => by
    obtain ⟨z1, z2⟩ := rr_eq X σ ρ2 G2 L2 Q v u x y g2 h1 h2 q
    exact .inl ⟨z1, z2⟩
  cases x with
  | ins C1 f1 =>
    simp only [eqC] at p2
    by_cases e : C1 = C
    · rw [if_pos e] at p2
      subst e
      cases hv with
      | @ins q dx _ fs _ hc hn h hs =>
        exact .inr ⟨q, dx, fs, _, rfl, g2.fr.same _ _ h, (hu.mono g2.fr.same).tyx, hu.nf hc, fr_call g2 (.cons (.ins hc hn h hs) (.cons hu .nil)) p2⟩
    · rw [if_neg e] at p2; exact p2.elim
  | non => exact sc rfl hv hu p2
  | bl _ => exact sc rfl hv hu p2
  | int _ => exact sc rfl hv hu p2
  | str _ => exact sc rfl hv hu p2
  | tup _ => exact sc rfl hv hu p2
  | lst _ => exact sc rfl hv hu p2
  | dic => exact sc rfl hv hu p2
/-- x op= y by the plain method -/
def ipC (C : Str) (mL : MFn) : D → D → Re D
  | .ins C1 f1, .int j => if C1 = C then frzR (mL [.ins C1 f1, .int j]) else .bad
  | .ins C1 f1, .ins C2 f2 => if C1 = C ∧ C2 = C then frzR (mL [.ins C1 f1, .ins C2 f2]) else .bad
  | _, _ => .bad
theorem rr_ip {C : Str} {mL : MFn} {E : XK} : RR K A (wx E) (rIpX (He.ga K C) (Fr (spM K mL)) E) (ipC C mL) := by
  intro X σ ρ G L Q x y a b g hx hy p
  cases hx with
  | @ins q dx C1 fs gs hc hn h hs =>
    cases hy with
    | int j =>
      simp only [ipC] at p
      by_cases e : C1 = C
      · rw [if_pos e] at p
        subst e
        exact ⟨q, dx, fs, rfl, g.fr.same _ _ h, .inl ⟨j, rfl⟩, fr_call (W := wx E) g (.cons (.ins hc hn h hs) (.cons (.int j) .nil)) p⟩
      · rw [if_neg e] at p; exact p.elim
    | @ins q2 dx2 C2 fs2 gs2 hc2 hn2 h2 hs2 =>
      simp only [ipC] at p
      by_cases e : C1 = C ∧ C2 = C
      · rw [if_pos e] at p
        obtain ⟨rfl, rfl⟩ := e
        exact ⟨q, dx, fs, rfl, g.fr.same _ _ h, .inr ⟨q2, dx2, fs2, rfl, g.fr.same _ _ h2⟩, fr_call (W := wx E) g (.cons (.ins hc hn h hs) (.cons (.ins hc2 hn2 h2 hs2) .nil)) p⟩
      · rw [if_neg e] at p; exact p.elim
    | _ => exact p.elim
  | _ => cases hy <;> exact p.elim
end
end Mi

namespace Mi
open PySem PySem.Spec PyProof.Rows L2
open Sx (Tn Fx btys tCallW tMethW tMakeW Fr wx tMkE)
section
variable {K : PySem.W.Frag} [Rows K] {A : Anc} {X : Cells} {W : WX} {σ : L2.St} {ρ : Env} {G G' : Hp} {L : Cells}
section
variable {P : Program} {w : World} {mg : Str → Option Value} {base : Heap} {x qual : Str} {params : Arguments} {body : List Stmt} {scope : Scope} {dvs : List V} {kws : List (Str × V)} {f : Addr} {fd : FuncData} {N ps : List Str} {k : Nat} {b : M Fl} {C : Str}
theorem fn_I (F : ∃ fd, FunD K x qual params body scope [] kws f fd) (S : FnScope N ps scope)
    (hbi : ∀ (kV doc pm : Value) (an : Option Addr) (cdv ct : Value) (us : List Value), us.length = ps.length → bindArgs (PySem.W.fnOf x qual params body scope .none kV doc pm an cdv ct) ⟨us, []⟩ = pure (ps.zip us))
    (hC : C ∈ Rows.cls K) (hb : Body K P w mg base qual scope f N k body b) : FnR P w K mg base (L2.CX P w) (k + 1) f (spI K C (runI C N.length ps.length b)) := by
  obtain ⟨fd, F⟩ := F
  have Gx := FnOk.raw (fok_I (P := P) (w := w) (mg := mg) (base := base) F S hC hb) (F.bindsN hbi) .nil
  exact Gx.imp fun vs H Q E h => by rw [List.append_nil]; exact h
/-- one default, an int -/
theorem fn_I1 {n : Int} (F : ∃ fd, FunD K x qual params body scope [.int n] kws f fd) (S : FnScope N ps scope) (hp : 0 < ps.length)
    (hb1 : ∀ (T : Addr) (kV doc pm : Value) (an : Option Addr) (cdv ct : Value) (us its : List Value), us.length = ps.length → its.length = 1 →
      ∃ k, bindArgs (PySem.W.fnOf x qual params body scope (.ref T) kV doc pm an cdv ct) ⟨us, []⟩ = seqItems? (.ref T) >>= k ∧ k (some its.toArray) = pure (ps.zip (us ++ its.drop 1)))
    (hb0 : ∀ (T : Addr) (kV doc pm : Value) (an : Option Addr) (cdv ct : Value) (us its : List Value), us.length = ps.length - 1 → its.length = 1 →
      ∃ k, bindArgs (PySem.W.fnOf x qual params body scope (.ref T) kV doc pm an cdv ct) ⟨us, []⟩ = seqItems? (.ref T) >>= k ∧ k (some its.toArray) = pure (ps.zip (us ++ its.drop 0)))
    (hC : C ∈ Rows.cls K) (hb : Body K P w mg base qual scope f N k body b) : FnR P w K mg base (L2.CX P w) (k + 1) f (spI K C (runI C N.length ps.length b)) ∧
      FnR P w K mg base (L2.CX P w) (k + 1) f (spI K C fun ds => runI C N.length ps.length b (ds ++ [.int n])) := by
  obtain ⟨fd, F⟩ := F
  have z := Sx.fnr1 (P := P) (w := w) (mg := mg) (base := base) F (fok_I F S hC hb) hp hb1 hb0
  refine ⟨z.1, z.2.imp fun vs H Q E h => ?_⟩
  obtain ⟨a, dx, vs', ds, G, rfl, rfl, n1, n2, ne, hv, h⟩ := h
  exact ⟨a, dx, vs' ++ [.int n], ds ++ [.int n], G, rfl, rfl, n1, n2, ne, hv.snoc (.int n), h⟩
theorem fnr_falseM {f : Addr} : FnR P w K mg base (L2.CX P w) 0 f (Fr (spM K fun _ => .bad)) := fun _ _ _ _ _ _ _ _ _ _ _ h => by
  obtain ⟨_, _, _, _, _, _, h⟩ := h
  exact h.elim
end
theorem rr_ipI {g : Int → Int → Int} : RR K A W (ipI g) (dI fun i j => .int (g i j)) := by
  intro X σ ρ G L Q x y a b g hx hy p
  cases hx <;> cases hy <;> first | exact p.elim | exact ⟨_, _, rfl, rfl, p.at_ g _ (.int _)⟩
/-! ### slices -/
def mNoP : M (Option Int) := ret none
theorem ro_none : RO K A W tNoPart mNoP := fun X σ ρ G L Q g p => p.at_ g
def asI : D → Re Int
  | .int i => .ok i
  | _ => .bad
def mPart (m : M D) : M (Option Int) := bnd m fun d => bnd (lift (asI d)) fun i => ret (some i)
theorem ro_some {t : TE} {m : M D} (h : RE K A W t m) : RO K A W (tPart t) (mPart m) := by
  intro X σ ρ G L Q g p
  refine h X σ ρ G L _ g (p.seq fun d ρ1 G1 L1 s1 g1 p1 v hv => ?_)
  cases hv with
  | int i => exact ⟨i, rfl, p1.at_ g1⟩
  | _ => exact p1.elim
def cutD (xs : List D) (lo hi : Option Int) : List D := (xs.drop (HT.sIx xs.length 0 lo)).take (HT.sIx xs.length xs.length hi - HT.sIx xs.length 0 lo)
theorem IsL.cut {vs : List V} {ds : List D} (h : IsL K G vs ds) (lo hi : Option Int) : IsL K G (cutV vs lo hi) (cutD ds lo hi) := by
  unfold cutV cutD
  rw [h.length]
  exact (h.drop _).take _
def mSlL (e : M D) (lo hi : M (Option Int)) : M (List D) := bnd e fun d => bnd lo fun l => bnd hi fun u => bnd (lift (asL d)) fun ds => ret (cutD ds l u)
theorem rn_slL {te : TE} {tl th : TO} {e : M D} {lo hi : M (Option Int)} (he : RE K A W te e) (hl : RO K A W tl lo) (hh : RO K A W th hi) : RN K A W (tSl (rSlL K) te tl th) (mSlL e lo hi) := by
  intro X σ ρ G L Q g p
  refine he X σ ρ G L _ g (p.seq fun d ρ1 G1 L1 s1 g1 p1 v hv => ?_)
  refine hl X σ ρ1 G1 L1 _ g1 (p1.seq fun l ρ2 G2 L2 s2 g2 p2 => ?_)
  refine hh X σ ρ2 G2 L2 _ g2 (p2.seq fun u ρ3 G3 L3 s3 g3 p3 => ?_)
  cases hv.mono (s2.trans s3) with
  | @lst a xs ds hs hd =>
    refine ⟨a, xs, rfl, Same.seq g3.fr.same hs, fun q n => ?_⟩
    obtain ⟨n1, n2⟩ := free_of n
    exact PO.at_ (a := cutD ds l u) p3 g3 q _ n1 n2 (hd.cut l u)
  | _ => exact p3.elim
end
end Mi

namespace Mi
open PySem
section
variable (d : D) (ds : List D) (C f : Str) (gs : List (Str × D)) (x : Option (Str × D)) (k : Int) (c : List D)
theorem mkR_ex (C' : Str) : mkR C (.ex C' x) = .ex C' x := rfl
theorem bo_pl : bound (some (.pl d)) = true := rfl
theorem bo_ow : bound (some (.ow ds)) = true := rfl
theorem bo_rf : bound (some (.rf ds)) = true := rfl
theorem bo_un : bound (some .un) = false := rfl
theorem sa_ow : seqAt (some (.ow ds)) (.int k) = listAt ds k := rfl
theorem sa_rf : seqAt (some (.rf ds)) (.int k) = listAt ds k := rfl
theorem sa_pl : seqAt (some (.pl (.lst ds))) (.int k) = listAt ds k := rfl
theorem oa_un : okAsg (some .un) = true := rfl
theorem oa_pl : okAsg (some (.pl d)) = true := rfl
theorem oa_ow : okAsg (some (.ow ds)) = true := rfl
theorem co_ow : cellOf (some (.ow ds)) = some ds := rfl
theorem co_rf : cellOf (some (.rf ds)) = some ds := rfl
theorem co_pl : cellOf (some (.pl d)) = none := rfl
theorem st_ow : setC c (some (.ow ds)) = .ow c := rfl
theorem st_rf : setC c (some (.rf ds)) = .rf c := rfl
theorem lv_ow : lenV (some (.ow ds)) = .ok (.int ds.length) := rfl
theorem lv_rf : lenV (some (.rf ds)) = .ok (.int ds.length) := rfl
theorem lv_pl : lenV (some (.pl d)) = dLen1 d := rfl
theorem ne_un : notExn .un = true := rfl
theorem ne_pl : notExn (.pl d) = true := rfl
theorem ne_ow : notExn (.ow ds) = true := rfl
theorem ne_rf : notExn (.rf ds) = true := rfl
theorem ne_se : notExn (.se C gs) = true := rfl
theorem ne_ex : notExn (.exn C x) = false := rfl
theorem th_un : thin (some .un) = true := rfl
theorem th_pl : thin (some (.pl d)) = true := rfl
theorem ie_ex : isExn (some (.exn C x)) = true := rfl
theorem xf_ex (C' f' : Str) : xfld C f (some (.exn C' (some (f', d)))) = if C' = C ∧ f' = f then .ok d else .bad := rfl
theorem cl_un (ρ : Env) (v : Nat) (h : ρ[v]? = some .un) : clr v ρ = .ok () (ρ.set v .un) := by unfold clr; rw [h]
theorem cl_pl (ρ : Env) (v : Nat) (h : ρ[v]? = some (.pl d)) : clr v ρ = .ok () (ρ.set v .un) := by unfold clr; rw [h]
end
end Mi

namespace Mi
open PySem PySem.Spec PyProof.Rows L2
open Sx (Tn Fx btys Fr wx)
/-! ### == of any data -/
/-- classes with their __eq__ -/
abbrev Tab := List (Str × MFn)
def asB : Re Rv → Option Bool
  | .ok (.pl (.bl b)) => some b
  | _ => none
def appT : Tab → Str → List D → Option Bool
  | [], _, _ => none
  | (C, m) :: T, c, ds => if C = c then asB (m ds) else appT T c ds
def eqK : D → D → Option Bool
  | .int i, .int j => some (decide (i = j))
  | .str i, .str j => some (decide (i = j))
  | .bl i, .bl j => some (decide (i = j))
  | .bl a, .int b => some (decide ((if a then 1 else 0) = b))
  | .int a, .bl b => some (decide (a = (if b then 1 else 0)))
  | .non, .non => some true
  | .tup _, .tup _ => none
  | .lst _, .lst _ => none
  | .ins _ _, _ => none
  | .dic, _ => none
  | _, .ins _ _ => none
  | _, .dic => none
  | _, _ => some false
open Classical in
noncomputable def itE (f : D → D → Option Bool) (d e : D) : Option Bool := match f d e with
  | some true => some true
  | some false => if d = e then none else some false
  | none => none
noncomputable def eqLs (f : D → D → Option Bool) : List D → List D → Option Bool
  | [], [] => some true
  | [], _ :: _ => some false
  | _ :: _, [] => some false
  | x :: xs, y :: ys => match itE f x y with
    | some true => eqLs f xs ys
    | some false => some false
    | none => none
noncomputable def eqB (T : Tab) (f : D → D → Option Bool) (d e : D) : Option Bool := match d with
  | .ins C fs => appT T C [.ins C fs, e]
  | .tup xs => (match e with
    | .tup ys => eqLs f xs ys
    | e => eqK (.tup xs) e)
  | .lst xs => (match e with
    | .lst ys => if xs.length = ys.length then eqLs f xs ys else some false
    | e => eqK (.lst xs) e)
  | d => eqK d e
noncomputable def eqN (T : Tab) : Nat → D → D → Option Bool
  | 0 => eqB T fun _ _ => none
  | n + 1 => eqB T (eqN T n)
theorem itE_of {f : D → D → Option Bool} {d e : D} {b : Bool} (h : f d e = some b) (k : d = e → b = true) : itE f d e = some b := by
  unfold itE
  rw [h]
  cases b with
  | true => rfl
  | false =>
    have : ¬ d = e := fun z => by cases k z
    simp only [if_neg this]
theorem itE_ok {f : D → D → Option Bool} {d e : D} {b : Bool} (h : itE f d e = some b) : f d e = some b ∧ (d = e → b = true) := by
  unfold itE at h
  cases q : f d e with
  | none => rw [q] at h; cases h
  | some c =>
    rw [q] at h
    cases c with
    | true => cases h; exact ⟨rfl, fun _ => rfl⟩
    | false =>
      by_cases z : d = e
      · simp only [if_pos z] at h; cases h
      · simp only [if_neg z] at h; cases h; exact ⟨rfl, fun y => absurd y z⟩
theorem appT_mem {T : Tab} {c : Str} {ds : List D} {b : Bool} (h : appT T c ds = some b) : ∃ m, (c, m) ∈ T ∧ m ds = .ok (.pl (.bl b)) := by
  induction T with
  | nil => cases h
  | cons p T ih =>
    obtain ⟨C, m⟩ := p
    unfold appT at h
    by_cases e : C = c
    · rw [if_pos e] at h
      refine ⟨m, by rw [e]; exact List.mem_cons_self, ?_⟩
      unfold asB at h
      split at h
      · rename_i e2; cases h; exact e2
      · cases h
    · rw [if_neg e] at h
      obtain ⟨m, h1, h2⟩ := ih h
      exact ⟨m, List.mem_cons_of_mem _ h1, h2⟩
section
variable {Xc : Cx} [Rows Xc.K] {pins : List (Addr × Obj)} {σ : L2.St} {H G : Hp} {L : Cells} {s : Shared}
theorem Is.cls (I : Inv Xc pins σ H s) {a : Addr} {d : D} (h : Is Xc.K H (.ref a) d) : ∃ o, s.heap.get? a = some o ∧ o.cls = d.tn.val Xc.K := by
  cases h with
  | tup h _ => obtain ⟨_, _, ⟨o, e, c, _, _⟩, _⟩ := I.tuple h; exact ⟨o, e, c⟩
  | lst h _ => obtain ⟨_, _, ⟨o, _, e, c, _, _⟩, _⟩ := I.list h; exact ⟨o, e, c⟩
  | ins hc hn h hs =>
    obtain ⟨mA, J, _⟩ := ins_get I.hok h
    obtain ⟨od, J, _⟩ := J.look
    exact ⟨_, J.at_, J.cls⟩
  | dic h =>
    obtain ⟨_, _, vs, _, o, es, ep, h1, h2, _⟩ := (show ObjOk Xc.prog Xc.w H s.heap a (.dK []) from I.hok a _ h)
    exact ⟨o, h1, h2.1⟩
mutual
theorem Is.uniq (I : Inv Xc pins σ H s) : ∀ {v : V} {d e : D}, Is Xc.K H v d → Is Xc.K H v e → d = e
  | _, _, _, .non, h => by cases h; rfl
  | _, _, _, .bl _, h => by cases h; rfl
  | _, _, _, .int _, h => by cases h; rfl
  | _, _, _, .str _, h => by cases h; rfl
  | _, _, _, .tup h1 hs, h => by
    obtain ⟨o, e1, c1⟩ := Is.cls I (.tup h1 hs)
    obtain ⟨o2, e2, c2⟩ := Is.cls I h
    rw [e1] at e2; cases e2
    rw [c1] at c2
    cases h with
    | tup h2 hs2 =>
      have := I.tuple_inj h1 h2
      subst this
      rw [IsL.uniq I hs hs2]
    | lst _ _ => simp [Tn.val] at c2
    | ins _ _ _ _ => simp [Tn.val] at c2
    | dic _ => simp [Tn.val] at c2
  | _, _, _, .lst h1 hs, h => by
    obtain ⟨o, e1, c1⟩ := Is.cls I (.lst h1 hs)
    obtain ⟨o2, e2, c2⟩ := Is.cls I h
    rw [e1] at e2; cases e2
    rw [c1] at c2
    cases h with
    | lst h2 hs2 =>
      have := I.list_inj h1 h2
      subst this
      rw [IsL.uniq I hs hs2]
    | tup _ _ => simp [Tn.val] at c2
    | ins _ _ _ _ => simp [Tn.val] at c2
    | dic _ => simp [Tn.val] at c2
  | _, _, _, .ins (C := C1) hc hn h1 hs, h => by
    obtain ⟨o, e1, c1⟩ := Is.cls I (.ins hc hn h1 hs)
    obtain ⟨o2, e2, c2⟩ := Is.cls I h
    rw [e1] at e2; cases e2
    rw [c1] at c2
    cases h with
    | @ins _ _ C2 _ _ hc2 hn2 h2 hs2 =>
      have q1 := (Rows.ok _ hc).ko _ hc2
      have q2 := (Rows.ok _ hc).ko _ hc
      have c2 : Value.ref (He.ga Xc.K C1) = .ref (He.ga Xc.K C2) := c2
      rw [← c2, q2] at q1
      have q3 : C1 = C2 := by simpa using q1
      subst q3
      rw [h1] at h2
      cases h2
      rw [IsF.uniq I hs hs2]
    | tup _ _ => simp [Tn.val] at c2
    | lst _ _ => simp [Tn.val] at c2
    | dic _ => simp [Tn.val] at c2
  | _, _, _, .dic h1, h => by
    obtain ⟨o, e1, c1⟩ := Is.cls I (.dic h1)
    obtain ⟨o2, e2, c2⟩ := Is.cls I h
    rw [e1] at e2; cases e2
    rw [c1] at c2
    cases h with
    | dic _ => rfl
    | ins _ _ _ _ => simp [Tn.val] at c2
    | tup _ _ => simp [Tn.val] at c2
    | lst _ _ => simp [Tn.val] at c2
theorem IsL.uniq (I : Inv Xc pins σ H s) : ∀ {v : List V} {d e : List D}, IsL Xc.K H v d → IsL Xc.K H v e → d = e
  | _, _, _, .nil, h => by cases h; rfl
  | _, _, _, .cons h hs, k => by
    cases k with
    | cons h2 hs2 => rw [Is.uniq I h h2, IsL.uniq I hs hs2]
theorem IsF.uniq (I : Inv Xc pins σ H s) : ∀ {v : List (Str × V)} {d e : List (Str × D)}, IsF Xc.K H v d → IsF Xc.K H v e → d = e
  | _, _, _, .nil, h => by cases h; rfl
  | _, _, _, .cons h hs, k => by
    cases k with
    | cons h2 hs2 => rw [Is.uniq I h h2, IsF.uniq I hs hs2]
end
/-! ### the comparison itself -/
def LoopS (Xc : Cx) (pins : List (Addr × Obj)) (σ : L2.St) (G : Hp) (L : Cells) (s' : Shared) : Prop := ∃ G', Inv Xc pins σ (upds Xc.K G' L) s' ∧ Same G G' ∧ Frs G' L
theorem LoopS.mono {G1 : Hp} {s' : Shared} (e : Same G G1) (h : LoopS Xc pins σ G1 L s') : LoopS Xc pins σ G L s' := by
  obtain ⟨G', a, b, c⟩ := h
  exact ⟨G', a, e.trans b, c⟩
def RcS (Xc : Cx) [Rows Xc.K] (n : Nat) (f : D → D → Option Bool) : Prop := ∀ (A : Around) (pins : List (Addr × Obj)) (s : Shared) (σ : L2.St) (G : Hp) (L : Cells) (x y : V) (u v : Value) (d e : D) (b : Bool), Sub Xc n A → Inv Xc pins σ (upds Xc.K G L) s → Frs G L →
  RelV x u → RelV y v → Is Xc.K G x d → Is Xc.K G y e → f d e = some b →
  wpAny (model Xc.prog Xc.w) A (richCompare .Eq u v) (fun r s' => r = .bool b ∧ LoopS Xc pins σ G L s') Xc.xe s ∧ wpAny (model Xc.prog Xc.w) A (richCompare .NotEq u v) (fun r s' => r = .bool (!b) ∧ LoopS Xc pins σ G L s') Xc.xe s
theorem RelV.inj1 {x y : V} {u : Value} (h : RelV x u) (k : RelV y u) : x = y := by
  have := Vals.inj (xs := [x]) (ys := [y]) (us := [u]) (.cons h .nil) (.cons k .nil)
  exact (List.cons.inj this).1
theorem RcS.item {n : Nat} {f : D → D → Option Bool} (h : RcS Xc n f) {A : Around} {x y : V} {u v : Value} {d e : D} {b : Bool} (sb : Sub Xc n A) (I : Inv Xc pins σ (upds Xc.K G L) s) (fr : Frs G L)
    (rx : RelV x u) (ry : RelV y v) (hx : Is Xc.K G x d) (hy : Is Xc.K G y e) (q : itE f d e = some b) : wpAny (model Xc.prog Xc.w) A (eqBool u v) (fun r s' => r = b ∧ LoopS Xc pins σ G L s') Xc.xe s := by
  obtain ⟨q1, q2⟩ := itE_ok q
  unfold eqBool
  refine wpAny_holding ?_
  refine wpAny_ite_split (fun hab => ?_) (fun _ => ?_)
  · have e1 := eq_of_beq hab
    subst e1
    have e2 := RelV.inj1 rx ry
    subst e2
    have e3 := q2 (Is.uniq I (hx.mono fr.same) (hy.mono fr.same))
    subst e3
    exact wpAny_bind (wpAny_rule (wpAny_pure ⟨rfl, G, I, Same.refl _, fr⟩))
  · have nf : ∀ bits tok, u ≠ .float bits tok := fun bits tok z => by
      subst z
      cases hx <;> first | (cases rx; done) | (obtain ⟨_, z⟩ := rx; cases z; done)
    dsimp only
    split
    · rename_i z; exact absurd (Prod.mk.inj z).1 (nf _ _)
    · refine wpAny_bind (wpAny_mono (h A pins s σ G L x y u v d e b sb I fr rx ry hx hy q1).1 (fun r s' z => ?_) fun _ _ z => z)
      obtain ⟨rfl, z⟩ := z
      exact wpAny_truthy_bool ⟨rfl, z⟩
theorem eqLs_step {f : D → D → Option Bool} {ds es : List D} {i : Nat} {b : Bool} (h1 : i < ds.length) (h2 : i < es.length) (h : eqLs f (ds.drop i) (es.drop i) = some b) :
    (itE f ds[i] es[i] = some true ∧ eqLs f (ds.drop (i + 1)) (es.drop (i + 1)) = some b) ∨ (itE f ds[i] es[i] = some false ∧ b = false) := by
  rw [List.drop_eq_getElem_cons h1, List.drop_eq_getElem_cons h2, eqLs] at h
  split at h
  · rename_i e; exact .inl ⟨e, h⟩
  · rename_i e; cases h; exact .inr ⟨e, rfl⟩
  · cases h
theorem eqLs_end {f : D → D → Option Bool} {ds es : List D} {b : Bool} (h : eqLs f (ds.drop (min ds.length es.length)) (es.drop (min ds.length es.length)) = some b) : b = (ds.length == es.length) := by
  rcases Nat.lt_trichotomy ds.length es.length with c | c | c
  · rw [Nat.min_eq_left (Nat.le_of_lt c), List.drop_length, List.drop_eq_getElem_cons c, eqLs] at h
    cases h
    simp; omega
  · rw [c, Nat.min_self, ← c, List.drop_length, c, List.drop_length, eqLs] at h
    cases h
    simp [c]
  · rw [Nat.min_eq_right (Nat.le_of_lt c), List.drop_length, List.drop_eq_getElem_cons c, eqLs] at h
    cases h
    simp; omega
theorem turnS {n : Nat} {f : D → D → Option Bool} (h : RcS Xc n f) {A : Around} (sb : Sub Xc (n + 1) A) {xs ys : List V} {ds es : List D} {its its2 : List Value} {b : Bool} (hx : IsL Xc.K G xs ds) (hy : IsL Xc.K G ys es)
    (r : Vals xs its) (r2 : Vals ys its2) (i : Nat) (h1 : i < its.toArray.size) (h2 : i < its2.toArray.size) (s' : Shared) (l : eqLs f (ds.drop i) (es.drop i) = some b ∧ LoopS Xc pins σ G L s') :
    wpAny (model Xc.prog Xc.w) A.in1 (eqBool its.toArray[i] its2.toArray[i]) (fun r s2 => if r = true then eqLs f (ds.drop (i + 1)) (es.drop (i + 1)) = some b ∧ LoopS Xc pins σ G L s2 else b = false ∧ LoopS Xc pins σ G L s2) Xc.xe s' := by
  obtain ⟨q, G1, I1, e1, fr1⟩ := l
  have g1 : its[i]? = some its.toArray[i] := by
    have h1' : i < its.length := by simpa using h1
    rw [List.getElem?_eq_getElem h1'] <;> simp
  have g2 : its2[i]? = some its2.toArray[i] := by
    have h2' : i < its2.length := by simpa using h2
    rw [List.getElem?_eq_getElem h2'] <;> simp
  have k1 : i < xs.length := by rw [r.length]; simpa using h1
  have k2 : i < ys.length := by rw [r2.length]; simpa using h2
  have j1 : i < ds.length := by rw [← hx.length]; exact k1
  have j2 : i < es.length := by rw [← hy.length]; exact k2
  obtain ⟨u, hu, ru⟩ := r.get (List.getElem?_eq_getElem k1)
  obtain ⟨v, hv, rv⟩ := r2.get (List.getElem?_eq_getElem k2)
  rw [g1] at hu
  rw [g2] at hv
  rw [Option.some.inj hu, Option.some.inj hv]
  obtain ⟨d, hd1, hd⟩ := hx.getV (List.getElem?_eq_getElem k1)
  obtain ⟨e, he1, he⟩ := hy.getV (List.getElem?_eq_getElem k2)
  rw [List.getElem?_eq_getElem j1] at hd1
  rw [List.getElem?_eq_getElem j2] at he1
  cases hd1
  cases he1
  rcases eqLs_step j1 j2 q with ⟨z1, z2⟩ | ⟨z1, z2⟩
  · refine wpAny_mono (h.item sb.in1 I1 fr1 ru rv (hd.mono e1) (he.mono e1) z1) (fun r s2 q => ?_) fun _ _ x => x
    obtain ⟨rfl, q⟩ := q
    exact ⟨z2, q.mono e1⟩
  · refine wpAny_mono (h.item sb.in1 I1 fr1 ru rv (hd.mono e1) (he.mono e1) z1) (fun r s2 q => ?_) fun _ _ x => x
    obtain ⟨rfl, q⟩ := q
    exact ⟨z2, q.mono e1⟩
theorem rcS_tup {n : Nat} {f : D → D → Option Bool} (h : RcS Xc n f) {A : Around} (sb : Sub Xc (n + 1) A) (I : Inv Xc pins σ (upds Xc.K G L) s) (fr : Frs G L) {x y : V} {u v : Value} {ds es : List D} {b : Bool} (rx : RelV x u) (ry : RelV y v)
    (hx : Is Xc.K G x (.tup ds)) (hy : Is Xc.K G y (.tup es)) (q : eqLs f ds es = some b) :
    wpAny (model Xc.prog Xc.w) A (richCompare .Eq u v) (fun r s' => r = .bool b ∧ LoopS Xc pins σ G L s') Xc.xe s ∧ wpAny (model Xc.prog Xc.w) A (richCompare .NotEq u v) (fun r s' => r = .bool (!b) ∧ LoopS Xc pins σ G L s') Xc.xe s := by
  cases hx with
  | @tup a xs _ ha hs =>
    cases hy with
    | @tup c ys _ hc ht =>
      cases rx
      cases ry
      obtain ⟨its, r, e, z⟩ := I.tuple (Sx.Same.seqT fr.same ha)
      obtain ⟨its2, r2, e2, z2⟩ := I.tuple (Sx.Same.seqT fr.same hc)
      have l1 : its.toArray.size = ds.length := by rw [List.size_toArray, ← r.length, hs.length]
      have l2 : its2.toArray.size = es.length := by rw [List.size_toArray, ← r2.length, ht.length]
      refine ⟨Gq.rc_tup_eqT sb.room.units0 (fun i s' => eqLs f (ds.drop i) (es.drop i) = some b ∧ LoopS Xc pins σ G L s') (fun s' => b = false ∧ LoopS Xc pins σ G L s') e e2 (fun i h1 h2 s' l => turnS h sb hs ht r r2 i h1 h2 s' l) (fun s' l => ?_) (fun s' l => ?_) ⟨q, G, I, Same.refl _, fr⟩,
        Gq.rc_tup_neT sb.room.units0 (fun i s' => eqLs f (ds.drop i) (es.drop i) = some b ∧ LoopS Xc pins σ G L s') (fun s' => b = false ∧ LoopS Xc pins σ G L s') e e2 (fun i h1 h2 s' l => turnS h sb hs ht r r2 i h1 h2 s' l) (fun s' l => ?_) (fun s' l => ?_) ⟨q, G, I, Same.refl _, fr⟩⟩
      · rw [l1, l2] at l ⊢
        exact ⟨by rw [eqLs_end l.1], l.2⟩
      · exact ⟨by rw [l.1], l.2⟩
      · rw [l1, l2] at l ⊢
        exact ⟨by rw [eqLs_end l.1]; rfl, l.2⟩
      · exact ⟨by rw [l.1]; rfl, l.2⟩
theorem rcS_lst {n : Nat} {f : D → D → Option Bool} (h : RcS Xc n f) {A : Around} (sb : Sub Xc (n + 1) A) (I : Inv Xc pins σ (upds Xc.K G L) s) (fr : Frs G L) {x y : V} {u v : Value} {ds es : List D} {b : Bool} (rx : RelV x u) (ry : RelV y v)
    (hx : Is Xc.K G x (.lst ds)) (hy : Is Xc.K G y (.lst es)) (q : (if ds.length = es.length then eqLs f ds es else some false) = some b) :
    wpAny (model Xc.prog Xc.w) A (richCompare .Eq u v) (fun r s' => r = .bool b ∧ LoopS Xc pins σ G L s') Xc.xe s ∧ wpAny (model Xc.prog Xc.w) A (richCompare .NotEq u v) (fun r s' => r = .bool (!b) ∧ LoopS Xc pins σ G L s') Xc.xe s := by
  cases hx with
  | @lst a xs _ ha hs =>
    cases hy with
    | @lst c ys _ hc ht =>
      cases rx
      cases ry
      have obj : ∀ s', LoopS Xc pins σ G L s' → ∃ its its2 : List Value, Vals xs its ∧ Vals ys its2 ∧ PlainL s'.heap a its.toArray ∧ PlainL s'.heap c its2.toArray := fun s' l => by
        obtain ⟨G1, I1, e1, fr1⟩ := l
        obtain ⟨its, r, e, z⟩ := I1.list (Same.seq (e1.trans fr1.same) ha)
        obtain ⟨its2, r2, e2, z2⟩ := I1.list (Same.seq (e1.trans fr1.same) hc)
        exact ⟨its, its2, r, r2, e, e2⟩
      let J : Nat → Shared → Prop := fun i s' => (ds.length = es.length → eqLs f (ds.drop i) (es.drop i) = some b) ∧ (ds.length ≠ es.length → i = 0) ∧ LoopS Xc pins σ G L s'
      have T : ds.length = es.length → Gq.ListT Xc.prog Xc.w A Xc.xe a c ds.length es.length (fun i s' => eqLs f (ds.drop i) (es.drop i) = some b ∧ LoopS Xc pins σ G L s') (fun s' => b = false ∧ LoopS Xc pins σ G L s') := fun el => by
        refine ⟨fun i s' l => ?_, fun s' l => ?_⟩
        · obtain ⟨its, its2, r, r2, ⟨o, m, w1, w2, w3, w4⟩, ⟨o', m', w1', w2', w3', w4'⟩⟩ := obj s' l.2
          refine ⟨its.toArray, its2.toArray, m, m', none, none, o.slots, o'.slots, ?_, ?_, by rw [List.size_toArray, ← r.length, hs.length], by rw [List.size_toArray, ← r2.length, ht.length], fun h1 h2 => turnS h sb hs ht r r2 i h1 h2 s' l⟩
          · rw [w1]; obtain ⟨c1, c2, c3, c4⟩ := o; dsimp only at w2 w3 w4; rw [w2, w3, w4]
          · rw [w1']; obtain ⟨c1, c2, c3, c4⟩ := o'; dsimp only at w2' w3' w4'; rw [w2', w3', w4']
        · obtain ⟨its, its2, r, r2, ⟨o, m, w1, w2, w3, w4⟩, ⟨o', m', w1', w2', w3', w4'⟩⟩ := obj s' l.2
          refine ⟨its.toArray, its2.toArray, m, m', none, none, o.slots, o'.slots, ?_, ?_, by rw [List.size_toArray, ← r.length, hs.length], by rw [List.size_toArray, ← r2.length, ht.length]⟩
          · rw [w1]; obtain ⟨c1, c2, c3, c4⟩ := o; dsimp only at w2 w3 w4; rw [w2, w3, w4]
          · rw [w1']; obtain ⟨c1, c2, c3, c4⟩ := o'; dsimp only at w2' w3' w4'; rw [w2', w3', w4']
      have S0 : LoopS Xc pins σ G L s := ⟨G, I, Same.refl _, fr⟩
      by_cases el : ds.length = es.length
      · rw [if_pos el] at q
        have fin : ∀ s', eqLs f (ds.drop ds.length) (es.drop ds.length) = some b ∧ LoopS Xc pins σ G L s' → b = true ∧ LoopS Xc pins σ G L s' := fun s' l => by
          have l1 := l.1
          rw [List.drop_length, el, List.drop_length, eqLs] at l1
          cases l1
          exact ⟨rfl, l.2⟩
        exact ⟨Gq.rc_list_eqT sb.room.units0 _ _ (T el) (fun _ s' l => ⟨by rw [(fin s' l).1], l.2⟩) (fun s' l => ⟨by rw [l.1], l.2⟩) ⟨q, S0⟩ (fun z => absurd el z),
          Gq.rc_list_neT sb.room.units0 _ _ (T el) (fun _ s' l => ⟨by rw [(fin s' l).1]; rfl, l.2⟩) (fun s' l => ⟨by rw [l.1]; rfl, l.2⟩) ⟨q, S0⟩ (fun z => absurd el z)⟩
      · rw [if_neg el] at q
        cases q
        obtain ⟨its, its2, r, r2, ⟨o, m, w1, w2, w3, w4⟩, ⟨o', m', w1', w2', w3', w4'⟩⟩ := obj s S0
        have hl : s.heap.IsList a its.toArray := ⟨o, w1, w2, m, w4⟩
        have hr : s.heap.IsList c its2.toArray := ⟨o', w1', w2', m', w4'⟩
        have hsz : (its.toArray.size != its2.toArray.size) = true := by
          rw [List.size_toArray, List.size_toArray, ← r.length, ← r2.length, hs.length, ht.length]
          simpa using el
        exact ⟨SeqAt.RcAt.lists_lengths hl hr hsz sb.room.units0 Xc.prog Xc.w Xc.xe _ ⟨rfl, S0⟩, SeqAt.RcNeAt.lists_lengths hl hr hsz sb.room.units0 Xc.prog Xc.w Xc.xe _ ⟨rfl, S0⟩⟩
end
end Mi

namespace Mi
open PySem PySem.Spec PyProof.Rows L2
open Sx (Tn Fx btys Fr wx)
section
variable {Xc : Cx} [Rows Xc.K] {pins : List (Addr × Obj)} {σ : L2.St} {H G : Hp} {L : Cells} {s : Shared} {A : Around}
theorem beqd {α : Type} [BEq α] [LawfulBEq α] [DecidableEq α] (a b : α) : (a == b) = decide (a = b) := by rw [Bool.eq_iff_iff]; simp
theorem both {u v : Value} {b : Bool} (h1 : SeqAt.RcAt A s u v b) (h2 : SeqAt.RcNeAt A s u v (!b)) (S0 : LoopS Xc pins σ G L s) :
    wpAny (model Xc.prog Xc.w) A (richCompare .Eq u v) (fun r s' => r = .bool b ∧ LoopS Xc pins σ G L s') Xc.xe s ∧ wpAny (model Xc.prog Xc.w) A (richCompare .NotEq u v) (fun r s' => r = .bool (!b) ∧ LoopS Xc pins σ G L s') Xc.xe s :=
  ⟨h1 _ _ _ _ ⟨rfl, S0⟩, h2 _ _ _ _ ⟨rfl, S0⟩⟩
theorem tupO (I : Inv Xc pins σ (upds Xc.K G L) s) (fr : Frs G L) {a : Addr} {xs : List V} (h : SqT Xc.K G a xs) : ∃ its, s.heap.IsTuple a its := by
  obtain ⟨its, r, e, z⟩ := I.tuple (Sx.Same.seqT fr.same h)
  exact ⟨_, e⟩
theorem lstO (I : Inv Xc pins σ (upds Xc.K G L) s) (fr : Frs G L) {a : Addr} {xs : List V} (h : SqL Xc.K G a xs) : ∃ its, s.heap.IsList a its := by
  obtain ⟨its, r, ⟨o, m, w1, w2, w3, w4⟩, z⟩ := I.list (Same.seq fr.same h)
  exact ⟨_, o, w1, w2, m, w4⟩
theorem rcS_K {n : Nat} (sb : Sub Xc n A) (I : Inv Xc pins σ (upds Xc.K G L) s) (fr : Frs G L) {x y : V} {u v : Value} {d e : D} {b : Bool} (r1 : RelV x u) (r2 : RelV y v) (hx : Is Xc.K G x d) (hy : Is Xc.K G y e) (q : eqK d e = some b) :
    wpAny (model Xc.prog Xc.w) A (richCompare .Eq u v) (fun r s' => r = .bool b ∧ LoopS Xc pins σ G L s') Xc.xe s ∧ wpAny (model Xc.prog Xc.w) A (richCompare .NotEq u v) (fun r s' => r = .bool (!b) ∧ LoopS Xc pins σ G L s') Xc.xe s := by
  have S0 : LoopS Xc pins σ G L s := ⟨G, I, Same.refl _, fr⟩
  have hu := sb.room.units0
  cases hx with
  | non =>
    cases r1
    cases hy with
    | non =>
      cases r2
      cases q; exact both (SeqAt.RcAt.none_none  ) (SeqAt.RcNeAt.none_none  ) S0
    | bl b2 =>
      cases r2
      cases q; exact both (SeqAt.RcAt.none_bool  b2) (SeqAt.RcNeAt.none_bool  b2) S0
    | int i2 =>
      obtain ⟨t2, rfl⟩ := r2
      cases q; exact both (SeqAt.RcAt.none_int  i2 _) (SeqAt.RcNeAt.none_int  i2 _) S0
    | str x2 =>
      obtain ⟨t2, rfl⟩ := r2
      cases q; exact both (SeqAt.RcAt.none_str  x2 _) (SeqAt.RcNeAt.none_str  x2 _) S0
    | tup h2 hs2 =>
      cases r2
      obtain ⟨its, e2⟩ := tupO I fr h2
      cases q; exact both (SeqAt.RcAt.none_tuple e2 hu) (SeqAt.RcNeAt.none_tuple e2 hu) S0
    | lst h2 hs2 =>
      cases r2
      obtain ⟨its, e2⟩ := lstO I fr h2
      cases q; exact both (SeqAt.RcAt.none_list e2 hu) (SeqAt.RcNeAt.none_list e2 hu) S0
    | ins _ _ _ _ => cases q
    | dic _ => cases q
  | bl b1 =>
    cases r1
    cases hy with
    | non =>
      cases r2
      cases q; exact both (SeqAt.RcAt.bool_none b1 ) (SeqAt.RcNeAt.bool_none b1 ) S0
    | bl b2 =>
      cases r2
      simp only [eqK, Option.some.injEq] at q; subst q
      exact both (by rw [← beqd]; exact SeqAt.RcAt.bool_bool b1 b2) (by rw [← beqd]; exact SeqAt.RcNeAt.bool_bool b1 b2) S0
    | int i2 =>
      obtain ⟨t2, rfl⟩ := r2
      simp only [eqK, Option.some.injEq] at q; subst q
      exact both (by rw [← beqd]; exact SeqAt.RcAt.bool_int b1 i2 _) (by rw [← beqd]; exact SeqAt.RcNeAt.bool_int b1 i2 _) S0
    | str x2 =>
      obtain ⟨t2, rfl⟩ := r2
      cases q; exact both (SeqAt.RcAt.bool_str b1 x2 _) (SeqAt.RcNeAt.bool_str b1 x2 _) S0
    | tup h2 hs2 =>
      cases r2
      obtain ⟨its, e2⟩ := tupO I fr h2
      cases q; exact both (SeqAt.RcAt.bool_tuple b1 e2 hu) (SeqAt.RcNeAt.bool_tuple b1 e2 hu) S0
    | lst h2 hs2 =>
      cases r2
      obtain ⟨its, e2⟩ := lstO I fr h2
      cases q; exact both (SeqAt.RcAt.bool_list b1 e2 hu) (SeqAt.RcNeAt.bool_list b1 e2 hu) S0
    | ins _ _ _ _ => cases q
    | dic _ => cases q
  | int i1 =>
    obtain ⟨t1, rfl⟩ := r1
    cases hy with
    | non =>
      cases r2
      cases q; exact both (SeqAt.RcAt.int_none i1 _ ) (SeqAt.RcNeAt.int_none i1 _ ) S0
    | bl b2 =>
      cases r2
      simp only [eqK, Option.some.injEq] at q; subst q
      exact both (by rw [← beqd]; exact SeqAt.RcAt.int_bool i1 _ b2) (by rw [← beqd]; exact SeqAt.RcNeAt.int_bool i1 _ b2) S0
    | int i2 =>
      obtain ⟨t2, rfl⟩ := r2
      simp only [eqK, Option.some.injEq] at q; subst q
      exact both (by rw [← beqd]; exact SeqAt.RcAt.int_int i1 _ i2 _) (by rw [← beqd]; exact SeqAt.RcNeAt.int_int i1 _ i2 _) S0
    | str x2 =>
      obtain ⟨t2, rfl⟩ := r2
      cases q; exact both (SeqAt.RcAt.int_str i1 _ x2 _) (SeqAt.RcNeAt.int_str i1 _ x2 _) S0
    | tup h2 hs2 =>
      cases r2
      obtain ⟨its, e2⟩ := tupO I fr h2
      cases q; exact both (SeqAt.RcAt.int_tuple i1 _ e2 hu) (SeqAt.RcNeAt.int_tuple i1 _ e2 hu) S0
    | lst h2 hs2 =>
      cases r2
      obtain ⟨its, e2⟩ := lstO I fr h2
      cases q; exact both (SeqAt.RcAt.int_list i1 _ e2 hu) (SeqAt.RcNeAt.int_list i1 _ e2 hu) S0
    | ins _ _ _ _ => cases q
    | dic _ => cases q
  | str x1 =>
    obtain ⟨t1, rfl⟩ := r1
    cases hy with
    | non =>
      cases r2
      cases q; exact both (SeqAt.RcAt.str_none x1 _ ) (SeqAt.RcNeAt.str_none x1 _ ) S0
    | bl b2 =>
      cases r2
      cases q; exact both (SeqAt.RcAt.str_bool x1 _ b2) (SeqAt.RcNeAt.str_bool x1 _ b2) S0
    | int i2 =>
      obtain ⟨t2, rfl⟩ := r2
      cases q; exact both (SeqAt.RcAt.str_int x1 _ i2 _) (SeqAt.RcNeAt.str_int x1 _ i2 _) S0
    | str x2 =>
      obtain ⟨t2, rfl⟩ := r2
      simp only [eqK, Option.some.injEq] at q; subst q
      exact both (by rw [← beqd]; exact SeqAt.RcAt.str_str x1 _ x2 _) (by rw [← beqd]; exact SeqAt.RcNeAt.str_str x1 _ x2 _) S0
    | tup h2 hs2 =>
      cases r2
      obtain ⟨its, e2⟩ := tupO I fr h2
      cases q; exact both (SeqAt.RcAt.str_tuple x1 _ e2 hu) (SeqAt.RcNeAt.str_tuple x1 _ e2 hu) S0
    | lst h2 hs2 =>
      cases r2
      obtain ⟨its, e2⟩ := lstO I fr h2
      cases q; exact both (SeqAt.RcAt.str_list x1 _ e2 hu) (SeqAt.RcNeAt.str_list x1 _ e2 hu) S0
    | ins _ _ _ _ => cases q
    | dic _ => cases q
  | tup h1 hs1 =>
    cases r1
    obtain ⟨its1, e1⟩ := tupO I fr h1
    cases hy with
    | non =>
      cases r2
      cases q; exact both (SeqAt.RcAt.tuple_none e1 hu) (SeqAt.RcNeAt.tuple_none e1 hu) S0
    | bl b2 =>
      cases r2
      cases q; exact both (SeqAt.RcAt.tuple_bool b2 e1 hu) (SeqAt.RcNeAt.tuple_bool b2 e1 hu) S0
    | int i2 =>
      obtain ⟨t2, rfl⟩ := r2
      cases q; exact both (SeqAt.RcAt.tuple_int i2 _ e1 hu) (SeqAt.RcNeAt.tuple_int i2 _ e1 hu) S0
    | str x2 =>
      obtain ⟨t2, rfl⟩ := r2
      cases q; exact both (SeqAt.RcAt.tuple_str x2 _ e1 hu) (SeqAt.RcNeAt.tuple_str x2 _ e1 hu) S0
    | tup h2 hs2 =>
      cases q
    | lst h2 hs2 =>
      cases r2
      obtain ⟨its, e2⟩ := lstO I fr h2
      cases q; exact both (SeqAt.RcAt.tuple_list e1 e2 hu) (SeqAt.RcNeAt.tuple_list e1 e2 hu) S0
    | ins _ _ _ _ => cases q
    | dic _ => cases q
  | lst h1 hs1 =>
    cases r1
    obtain ⟨its1, e1⟩ := lstO I fr h1
    cases hy with
    | non =>
      cases r2
      cases q; exact both (SeqAt.RcAt.list_none e1 hu) (SeqAt.RcNeAt.list_none e1 hu) S0
    | bl b2 =>
      cases r2
      cases q; exact both (SeqAt.RcAt.list_bool b2 e1 hu) (SeqAt.RcNeAt.list_bool b2 e1 hu) S0
    | int i2 =>
      obtain ⟨t2, rfl⟩ := r2
      cases q; exact both (SeqAt.RcAt.list_int i2 _ e1 hu) (SeqAt.RcNeAt.list_int i2 _ e1 hu) S0
    | str x2 =>
      obtain ⟨t2, rfl⟩ := r2
      cases q; exact both (SeqAt.RcAt.list_str x2 _ e1 hu) (SeqAt.RcNeAt.list_str x2 _ e1 hu) S0
    | tup h2 hs2 =>
      cases r2
      obtain ⟨its, e2⟩ := tupO I fr h2
      cases q; exact both (SeqAt.RcAt.list_tuple e1 e2 hu) (SeqAt.RcNeAt.list_tuple e1 e2 hu) S0
    | lst h2 hs2 =>
      cases q
    | ins _ _ _ _ => cases q
    | dic _ => cases q
  | ins _ _ _ _ => cases q
  | dic _ => cases hy <;> cases q
/-- the classes of a table -/
structure EqT (P : Program) (w : World) (K : PySem.W.Frag) [Rows K] (mg : Str → Option Value) (base : Heap) (k : Nat) (T : Tab) : Prop where
  at_ : ∀ p ∈ T, ∃ f, Meth K (He.ga K p.1) "__eq__" f ∧ FnR P w K mg base (L2.CX P w) k f (Fr (spM K p.2)) ∧ PySem.W.findIn K (.ref (He.ga K p.1)) "__ne__" = some (some (.builtin "object.__ne__"))
theorem rcS_ins {k n : Nat} {T : Tab} (ET : EqT Xc.prog Xc.w Xc.K Xc.mg Xc.base k T) (sb : Sub Xc (k + 1 + n) A) (I : Inv Xc pins σ (upds Xc.K G L) s) (fr : Frs G L) {x y : V} {u v : Value} {C : Str} {fs : List (Str × D)} {e : D} {b : Bool} (r1 : RelV x u) (r2 : RelV y v)
    (hx : Is Xc.K G x (.ins C fs)) (hy : Is Xc.K G y e) (q : appT T C [.ins C fs, e] = some b) :
    wpAny (model Xc.prog Xc.w) A (richCompare .Eq u v) (fun r s' => r = .bool b ∧ LoopS Xc pins σ G L s') Xc.xe s ∧ wpAny (model Xc.prog Xc.w) A (richCompare .NotEq u v) (fun r s' => r = .bool (!b) ∧ LoopS Xc pins σ G L s') Xc.xe s := by
  obtain ⟨m, hm, em⟩ := appT_mem q
  obtain ⟨f, hM, F, hne⟩ := ET.at_ _ hm
  have run : ∀ {A' : Around}, Sub Xc k A' → wpAny (model Xc.prog Xc.w) A' (call (.ref f) [u, v]) (fun r s' => r = .bool b ∧ LoopS Xc pins σ G L s') Xc.xe s := fun {A'} sb' => by
    have e0 : Env0 Xc.prog Xc.w Xc.K Xc.mg Xc.base A' Xc.stack s (upds Xc.K G L) := by
      have e := I.env0
      exact ⟨by rw [sb'.fr]; exact e.frames, e.mod, e.bs, e.bsz, e.funs, e.frf, e.hok, e.bare⟩
    have hsp : Fr (spM Xc.K m) [x, y] (upds Xc.K G L) (fun v' H' => v' = .bl b ∧ ∃ G', H' = upds Xc.K G' L ∧ Same G G' ∧ Frs G' L) (fun _ _ _ => False) := by
      refine fr_cells fr ⟨_, .cons hx (.cons hy .nil), ?_⟩
      rw [em]
      exact fun v' H2 sm hv fr2 => ⟨hv.bl_eq, H2, rfl, sm, fr2⟩
    refine wpAny_call (codeAny_mono (F A' Xc.stack s _ [u, v] [x, y] _ _ sb'.room e0 (.cons r1 (.cons r2 .nil)) hsp) fun r s' hq => ?_)
    cases r with
    | error er =>
      obtain ⟨_, _, _, _, _, _, _, _, _, _, _, _, z⟩ := hq
      exact z.elim
    | ok fl =>
      cases fl with
      | ret w =>
        obtain ⟨z, H', I', rz, ez, G', rfl, sm, fr2⟩ := I.after hq
        subst ez
        cases rz
        exact ⟨rfl, G', I', sm, fr2⟩
      | next => exact False.elim hq
      | brk => exact False.elim hq
      | cont => exact False.elim hq
  cases hx with
  | @ins a dx _ vs _ hc hn ha hs =>
    obtain ⟨mA, J, _⟩ := ins_get I.hok (fr.same _ _ ha)
    obtain ⟨od, J, _⟩ := J.look
    obtain ⟨m0, hF⟩ := I.fr
    have hy2 := hy.mono (fr.same (K := Xc.K))
    obtain ⟨P, kx, pp, _⟩ := kit_of I r2 hy2.tyx
    obtain ⟨_, _, _, hmo⟩ := Sx.tyi_ok (Rows.ok _ hc).ty
    cases r1
    have s1 : Sub Xc k A := sb.mono (by omega)
    have s2 : Sub Xc k A.in1 := (sb.mono (by omega : k + 1 ≤ k + 1 + n)).in1
    refine ⟨PySem.W.cmp_K (op := .Eq) sb.room.units0 hF I.ok.mod.kin J (kx.ty _ _ I.kIn pp) (hy2.nf hc) hM.at_ hM.fn (wpAny_mono (run s1) (fun r s' z => ?_) fun _ _ z => z),
      Gq.ne_K (by have := sb.room.un; omega) hF I.ok.mod.kin J (kx.ty _ _ I.kIn pp) (hy2.nf hc) hne hM.at_ hM.fn hmo (wpAny_mono (run s2) (fun r s' z => ?_) fun _ _ z => z)⟩
    · obtain ⟨rfl, z⟩ := z
      exact ⟨rfl, z⟩
    · obtain ⟨rfl, z⟩ := z
      exact ⟨b, rfl, rfl, z⟩
theorem rcS_B {k n : Nat} {T : Tab} {f : D → D → Option Bool} (ET : EqT Xc.prog Xc.w Xc.K Xc.mg Xc.base k T) (hf : RcS Xc (k + 1 + n) f) : RcS Xc (k + 1 + (n + 1)) (eqB T f) := by
  intro A pins s σ G L x y u v d e b sb I fr r1 r2 hx hy q
  cases d with
  | ins C fs => exact rcS_ins ET sb I fr r1 r2 hx hy q
  | tup xs =>
    cases e with
    | tup ys => exact rcS_tup hf sb I fr r1 r2 hx hy q
    | _ => exact rcS_K sb I fr r1 r2 hx hy q
  | lst xs =>
    cases e with
    | lst ys => exact rcS_lst hf sb I fr r1 r2 hx hy q
    | _ => exact rcS_K sb I fr r1 r2 hx hy q
  | _ => exact rcS_K sb I fr r1 r2 hx hy q
theorem rcS_N {k : Nat} {T : Tab} (ET : EqT Xc.prog Xc.w Xc.K Xc.mg Xc.base k T) : ∀ n, RcS Xc (k + 1 + (n + 1)) (eqN T n)
  | 0 => rcS_B (n := 0) ET (fun _ _ _ _ _ _ _ _ _ _ _ _ _ _ _ _ _ _ _ _ q => by cases q)
  | n + 1 => rcS_B ET (rcS_N ET n)
end
/-! ### as an expression -/
def kEqA (K : PySem.W.Frag) [Rows K] (neg : Bool) (T : Tab) (n : Nat) (Q : VK) : V → V → Hp → Prop := fun x y H => ∃ G L d e b, H = upds K G L ∧ Frs G L ∧ Is K G x d ∧ Is K G y e ∧ eqN T n d e = some b ∧ ∀ G', Same G G' → Frs G' L → Q (.bl (b != neg)) (upds K G' L)
def tEqA (K : PySem.W.Frag) [Rows K] (neg : Bool) (T : Tab) (n : Nat) (ta tb : TE) : TE := fun σ H Q => ta σ H fun x H1 => tb σ H1 fun y H2 => kEqA K neg T n Q x y H2
def cop : Bool → CmpOp
  | false => .Eq
  | true => .NotEq
section
variable {X : Cx} {iR : Rows X.K} {k n : Nat} {T : Tab} {a b : Expr} {ta tb : TE} {pos : Pos}
theorem run_eqA {pins : List (Addr × Obj)} {σ : L2.St} {H : Hp} {s : Shared} {Q : VK} {x y : V} {u v : Value} (neg : Bool) (ET : EqT X.prog X.w X.K X.mg X.base k T) (hr : Room (k + 1 + (n + 1)) X.A) (I : Inv X pins σ H s) (rx : RelV x u) (ry : RelV y v) (h : kEqA X.K neg T n Q x y H) :
    wpAny (model X.prog X.w) X.A (compareOp (cop neg) u v) (EP X pins σ Q) X.xe s := by
  obtain ⟨G, L, d, e, b, rfl, fr, hx, hy, q, k2⟩ := h
  have z := rcS_N ET n X.A pins s σ G L x y u v d e b ⟨hr, rfl⟩ I fr rx ry hx hy q
  cases neg with
  | false =>
    show wpAny (model X.prog X.w) X.A (richCompare .Eq u v) _ _ _
    refine wpAny_mono z.1 (fun r s' z => ?_) fun _ _ z => z
    obtain ⟨rfl, G', I', sm, fr2⟩ := z
    exact ⟨.bl b, _, I', rfl, by have := k2 G' sm fr2; simpa using this⟩
  | true =>
    show wpAny (model X.prog X.w) X.A (richCompare .NotEq u v) _ _ _
    refine wpAny_mono z.2 (fun r s' z => ?_) fun _ _ z => z
    obtain ⟨rfl, G', I', sm, fr2⟩ := z
    exact ⟨.bl (!b), _, I', rfl, by have := k2 G' sm fr2; simpa using this⟩
theorem pe_eqA (neg : Bool) (ET : EqT X.prog X.w X.K X.mg X.base k T) (hr : Room (k + 1 + (n + 1)) X.A) (ha : PE X a ta) (hb : PE X b tb) : PE X (.Compare a [cop neg] [b] pos) (tEqA X.K neg T n ta tb) := by
  refine ⟨fun pins s σ H Q I h => ?_⟩
  exact wpAny_Compare1 (binT ha hb I h fun v u s2 x y H2 I2 rx ry q => run_eqA neg ET hr I2 rx ry q) (nomark _ (by cases neg <;> decide) (by cases neg <;> decide))
theorem pt_eqA (neg : Bool) (ET : EqT X.prog X.w X.K X.mg X.base k T) (hr : Room (k + 1 + (n + 1)) X.A) (ha : PE X a ta) (hb : PE X b tb) : PT X (.Compare a [cop neg] [b] pos) (tTest (tEqA X.K neg T n ta tb)) := by
  refine ⟨fun pins s σ H Q I h => ?_⟩
  refine wpAny_isTrue_Compare1 (thn (ha.run pins s σ H _ I h) fun v s1 ⟨x, H1, I1, r1, q1⟩ => thn (hb.run pins s1 σ H1 _ I1 q1) fun u s2 ⟨y, H2, I2, r2, q2⟩ => ?_) (nomark _ (by cases neg <;> decide) (by cases neg <;> decide))
  refine thn (run_eqA neg ET hr I2 r1 r2 q2) fun c s3 ⟨z, H3, I3, r3, m, e, q3⟩ => ?_
  subst e
  cases r3
  exact wpAny_truthy_bool ⟨H3, I3, q3⟩
theorem pe_eqE (ET : EqT X.prog X.w X.K X.mg X.base k T) (hr : Room (k + 1 + (n + 1)) X.A) (ha : PE X a ta) (hb : PE X b tb) : PE X (.Compare a [.Eq] [b] pos) (tEqA X.K false T n ta tb) := pe_eqA false ET hr ha hb
theorem pt_eqE (ET : EqT X.prog X.w X.K X.mg X.base k T) (hr : Room (k + 1 + (n + 1)) X.A) (ha : PE X a ta) (hb : PE X b tb) : PT X (.Compare a [.Eq] [b] pos) (tTest (tEqA X.K false T n ta tb)) := pt_eqA false ET hr ha hb
theorem pe_neE (ET : EqT X.prog X.w X.K X.mg X.base k T) (hr : Room (k + 1 + (n + 1)) X.A) (ha : PE X a ta) (hb : PE X b tb) : PE X (.Compare a [.NotEq] [b] pos) (tEqA X.K true T n ta tb) := pe_eqA true ET hr ha hb
theorem pt_neE (ET : EqT X.prog X.w X.K X.mg X.base k T) (hr : Room (k + 1 + (n + 1)) X.A) (ha : PE X a ta) (hb : PE X b tb) : PT X (.Compare a [.NotEq] [b] pos) (tTest (tEqA X.K true T n ta tb)) := pt_eqA true ET hr ha hb
end
section
variable {K : PySem.W.Frag} [Rows K] {A : Anc} {X : Cells} {W : WX} {σ : L2.St} {ρ : Env} {G G' : Hp} {L : Cells}
noncomputable def dEqA (neg : Bool) (T : Tab) (n : Nat) (d e : D) : Re D := match eqN T n d e with
  | some b => .ok (.bl (b != neg))
  | none => .bad
theorem re_eqA {neg : Bool} {T : Tab} {n : Nat} {ta tb : TE} {a b : M D} (ha : RE K A W ta a) (hb : RE K A W tb b) : RE K A W (tEqA K neg T n ta tb) (mBin (dEqA neg T n) a b) := by
  intro X σ ρ G L Q gd p
  refine ha X σ ρ G L _ gd (p.seq fun x ρ1 G1 L1 s1 g1 p1 v hv => ?_)
  refine hb X σ ρ1 G1 L1 _ g1 (p1.seq fun y ρ2 G2 L2 s2 g2 p2 u hu => ?_)
  unfold dEqA at p2
  cases e : eqN T n x y with
  | none => rw [e] at p2; exact p2.elim
  | some c =>
    rw [e] at p2
    exact ⟨G2, L2, x, y, c, rfl, g2.fr, hv.mono s2, hu, e, fun G' sm fr => p2 G' L2 sm (g2.mono sm fr) _ (.bl _)⟩
end
end Mi

namespace Mi
open PySem PySem.Spec PyProof.Rows L2
open Sx (Tn Fx btys Fr wx tMakeKw FnKw)
section
variable {K : PySem.W.Frag} [Rows K] {A : Anc} {X : Cells} {W : WX} {σ : L2.St} {ρ : Env} {G G' : Hp} {L : Cells}
/-- C(k = v, ..), the keywords in the order of the parameters -/
def mMakeK (C : Str) (n k : Nat) (f : MFi) (a b : M (List D)) : M D := bnd a fun ds => bnd b fun es => ib (ds.length == n && es.length == k) (lift (mkR C (f (ds ++ es)))) fail
theorem re_makeK {C : Str} {n k : Nat} {f : MFi} {t tk : TA} {a b : M (List D)} (hC : C ∈ Rows.cls K) (h : RA K A W t a) (hk : RA K A W tk b) :
    RE K A W (tMakeKw (He.ga K C) n k (Fr (spI K C f)) (fun vs zs => vs ++ zs) W t tk) (mMakeK C n k f a b) := by
  intro X σ ρ G L Q g p
  refine h X σ ρ G L _ g (p.seq fun ds ρ0 G0 L0 s0 g0 p0 us hus => ?_)
  refine hk X σ ρ0 G0 L0 _ g0 (p0.seq fun es ρ1 G1 L1 s1 g1 p1 zs hzs => ?_)
  by_cases hl : (ds.length == n && es.length == k) = true
  · rw [ib_pos hl] at p1
    have hl2 : ds.length = n ∧ es.length = k := by simpa using hl
    refine ⟨by rw [hus.length]; exact hl2.1, by rw [hzs.length]; exact hl2.2, ?_⟩
    have hvs : IsL K G1 (us ++ zs) (ds ++ es) := (hus.mono s1).append hzs
    intro x dx hx hdx hne
    obtain ⟨nx1, nx2⟩ := free_of hx
    obtain ⟨nd1, nd2⟩ := free_of hdx
    have e1 : upd (upd (upds K G1 L1) dx (.own x)) x (.ins (He.ga K C) dx []) = upds K (upd (upd G1 dx (.own x)) x (.ins (He.ga K C) dx [])) L1 := by rw [upds_new nd2, upds_new nx2]
    rw [e1]
    refine fr_cells ((g1.fr.new nd2).new nx2) ⟨x, dx, us ++ zs, ds ++ es, G1, rfl, rfl, nx1, nd1, hne, hvs, ?_⟩
    cases e : f (ds ++ es) with
    | ok gs =>
      rw [e] at p1
      intro dx' fs G' s fr hs hn fr2
      refine ⟨rfl, ?_⟩
      have sm : Same G' (upds K G' [(x, .is C dx' fs)]) := fr.same
      exact p1 _ L1 (s.trans sm) (g1.mono (s.trans sm) fr2) _ (.ins hC hn (by simp only [upds, put1]; exact upd_same) (hs.mono sm))
    | ex C' y => rw [e] at p1; exact fun od H' s hx fr => p1 od H' L1 s (g1.mono s fr) hx
    | bad => rw [e] at p1; exact p1
  · rw [ib_neg hl] at p1
    exact p1.elim
/-- {} -/
def mDic : M D := ret .dic
theorem re_dic : RE K A W tDNewK mDic := by
  intro X σ ρ G L Q g p
  intro q n
  obtain ⟨n1, n2⟩ := free_of n
  rw [upds_new n2]
  have sm : Same G (upd G q (.dK [])) := Sx.Same.updR (Same.refl _) n1
  exact p _ _ sm (g.mono sm (g.fr.new n2)) _ (.dic upd_same)
end
end Mi

namespace Mi
open PySem
/-! ### == by values -/
section
variable (T : Tab) (g f : D → D → Option Bool) (n : Nat) (i j : Int) (x y : Str) (b c : Bool) (C : Str) (fs : List (Str × D)) (d e : D) (ds es : List D)
def bO (o : Option Bool) (k : Bool → Option Bool) : Option Bool := match o with
  | some b => k b
  | none => none
def rO (neg : Bool) (o : Option Bool) : Re D := match o with
  | some b => .ok (.bl (b != neg))
  | none => .bad
theorem bO_s (k : Bool → Option Bool) : bO (some b) k = k b := rfl
theorem rO_f : rO false (some b) = .ok (.bl b) := by cases b <;> rfl
theorem rO_t : rO true (some b) = .ok (.bl (!b)) := by cases b <;> rfl
theorem dEqA_eq (neg : Bool) : dEqA neg T n d e = rO neg (eqN T n d e) := rfl
theorem eqN_0 : eqN T 0 = eqB T fun _ _ => none := rfl
theorem eqN_s : eqN T (n + 1) = eqB T (eqN T n) := rfl
theorem eqN_1 : eqN T 1 = eqB T (eqN T 0) := rfl
theorem eqN_2 : eqN T 2 = eqB T (eqN T 1) := rfl
theorem eqN_3 : eqN T 3 = eqB T (eqN T 2) := rfl
theorem eqB_ins : eqB T g (.ins C fs) e = appT T C [.ins C fs, e] := rfl
theorem eqB_tt : eqB T g (.tup ds) (.tup es) = eqLs g ds es := rfl
theorem eqB_ll : eqB T g (.lst ds) (.lst es) = if ds.length = es.length then eqLs g ds es else some false := rfl
theorem eqB_int : eqB T g (.int i) e = eqK (.int i) e := rfl
theorem eqB_str : eqB T g (.str x) e = eqK (.str x) e := rfl
theorem eqB_bl : eqB T g (.bl b) e = eqK (.bl b) e := rfl
theorem eqB_non : eqB T g .non e = eqK .non e := rfl
theorem eqK_ii : eqK (.int i) (.int j) = some (decide (i = j)) := rfl
theorem eqK_ss : eqK (.str x) (.str y) = some (decide (x = y)) := rfl
theorem eqK_bb : eqK (.bl b) (.bl c) = some (decide (b = c)) := rfl
theorem eqK_nn : eqK .non .non = some true := rfl
theorem eqK_ni : eqK .non (.int i) = some false := rfl
theorem eqK_in : eqK (.int i) .non = some false := rfl
theorem eqK_ns : eqK .non (.str x) = some false := rfl
theorem eqK_sn : eqK (.str x) .non = some false := rfl
theorem eqK_is : eqK (.int i) (.str x) = some false := rfl
theorem eqK_si : eqK (.str x) (.int i) = some false := rfl
theorem eqK_nt : eqK .non (.tup ds) = some false := rfl
theorem eqK_nl : eqK .non (.lst ds) = some false := rfl
theorem eqB_tn : eqB T g (.tup ds) .non = some false := rfl
theorem eqB_ln : eqB T g (.lst ds) .non = some false := rfl
theorem eqLs_nil : eqLs f [] [] = some true := by rw [eqLs]
theorem eqLs_nc : eqLs f [] (d :: ds) = some false := by rw [eqLs]
theorem eqLs_cn : eqLs f (d :: ds) [] = some false := by rw [eqLs]
theorem eqLs_cc : eqLs f (d :: ds) (e :: es) = bO (itE f d e) fun b => ib b (eqLs f ds es) (some false) := by
  rw [eqLs]
  cases itE f d e with
  | none => rfl
  | some b => cases b <;> rfl
theorem itE_int : itE (eqB T g) (.int i) (.int j) = some (decide (i = j)) := itE_of rfl fun h => by cases h; simp
theorem itE_str : itE (eqB T g) (.str x) (.str y) = some (decide (x = y)) := itE_of rfl fun h => by cases h; simp
theorem itE_bl : itE (eqB T g) (.bl b) (.bl c) = some (decide (b = c)) := itE_of rfl fun h => by cases h; simp
theorem itE_non : itE (eqB T g) .non .non = some true := itE_of rfl fun h => rfl
end
end Mi

namespace Sx
open PySem PySem.Spec PyProof.Rows L2
def top (i : Nat) : Stmt := PySem.Challenge.pw_seriessquares_k04_fields.main.body.getD i (.Pass ⟨0, 0, 0, 0⟩)
abbrev s_is_integer : Stmt := top 9
def d_is_integer : He.DefD := ⟨("is_integer", none), "is_integer", "is_integer", defArgs s_is_integer, defBody s_is_integer, defScope s_is_integer, [], []⟩
abbrev s_plain_digits : Stmt := top 10
def d_plain_digits : He.DefD := ⟨("plain_digits", none), "plain_digits", "plain_digits", defArgs s_plain_digits, defBody s_plain_digits, defScope s_plain_digits, [], []⟩
abbrev s_is_prime : Stmt := top 14
def d_is_prime : He.DefD := ⟨("is_prime", none), "is_prime", "is_prime", defArgs s_is_prime, defBody s_is_prime, defScope s_is_prime, [], []⟩
abbrev s_inverse : Stmt := top 15
def d_inverse : He.DefD := ⟨("inverse", none), "inverse", "inverse", defArgs s_inverse, defBody s_inverse, defScope s_inverse, [], []⟩
abbrev s__law_state : Stmt := top 18
def d__law_state : He.DefD := ⟨("_law_state", none), "_law_state", "_law_state", defArgs s__law_state, defBody s__law_state, defScope s__law_state, [], []⟩
abbrev s__law_draw : Stmt := top 19
def d__law_draw : He.DefD := ⟨("_law_draw", none), "_law_draw", "_law_draw", defArgs s__law_draw, defBody s__law_draw, defScope s__law_draw, [], []⟩
abbrev s__law_gcd : Stmt := top 20
def d__law_gcd : He.DefD := ⟨("_law_gcd", none), "_law_gcd", "_law_gcd", defArgs s__law_gcd, defBody s__law_gcd, defScope s__law_gcd, [], []⟩
abbrev s__law_is_integer : Stmt := top 21
def d__law_is_integer : He.DefD := ⟨("_law_is_integer", none), "_law_is_integer", "_law_is_integer", defArgs s__law_is_integer, defBody s__law_is_integer, defScope s__law_is_integer, [], []⟩
abbrev s__law_great : Stmt := top 22
def d__law_great : He.DefD := ⟨("_law_great", none), "_law_great", "_law_great", defArgs s__law_great, defBody s__law_great, defScope s__law_great, [], []⟩
abbrev s__law_is_prime : Stmt := top 23
def d__law_is_prime : He.DefD := ⟨("_law_is_prime", none), "_law_is_prime", "_law_is_prime", defArgs s__law_is_prime, defBody s__law_is_prime, defScope s__law_is_prime, [], []⟩
abbrev s__law_prime : Stmt := top 24
def d__law_prime : He.DefD := ⟨("_law_prime", none), "_law_prime", "_law_prime", defArgs s__law_prime, defBody s__law_prime, defScope s__law_prime, [], []⟩
abbrev s__law_field : Stmt := top 25
def d__law_field : He.DefD := ⟨("_law_field", none), "_law_field", "_law_field", defArgs s__law_field, defBody s__law_field, defScope s__law_field, [], []⟩
abbrev s__law_called : Stmt := top 26
def d__law_called : He.DefD := ⟨("_law_called", none), "_law_called", "_law_called", defArgs s__law_called, defBody s__law_called, defScope s__law_called, [], []⟩
abbrev s__law_divided : Stmt := top 27
def d__law_divided : He.DefD := ⟨("_law_divided", none), "_law_divided", "_law_divided", defArgs s__law_divided, defBody s__law_divided, defScope s__law_divided, [], []⟩
abbrev s__law_right : Stmt := top 28
def d__law_right : He.DefD := ⟨("_law_right", none), "_law_right", "_law_right", defArgs s__law_right, defBody s__law_right, defScope s__law_right, [], []⟩
abbrev s__law_strange : Stmt := top 29
def d__law_strange : He.DefD := ⟨("_law_strange", none), "_law_strange", "_law_strange", defArgs s__law_strange, defBody s__law_strange, defScope s__law_strange, [], []⟩
abbrev s_law : Stmt := top 30
def d_law : He.DefD := ⟨("law", none), "law", "law", defArgs s_law, defBody s_law, defScope s_law, [], []⟩
abbrev s_Ratio___init__ : Stmt := inClass (top 11) 0
def d_Ratio___init__ : He.DefD := ⟨("Ratio", some "__init__"), "__init__", "Ratio.__init__", defArgs s_Ratio___init__, defBody s_Ratio___init__, defScope s_Ratio___init__, [.int (1)], []⟩
abbrev s_Ratio___eq__ : Stmt := inClass (top 11) 1
def d_Ratio___eq__ : He.DefD := ⟨("Ratio", some "__eq__"), "__eq__", "Ratio.__eq__", defArgs s_Ratio___eq__, defBody s_Ratio___eq__, defScope s_Ratio___eq__, [], []⟩
abbrev s_Ratio___add__ : Stmt := inClass (top 11) 2
def d_Ratio___add__ : He.DefD := ⟨("Ratio", some "__add__"), "__add__", "Ratio.__add__", defArgs s_Ratio___add__, defBody s_Ratio___add__, defScope s_Ratio___add__, [], []⟩
abbrev s_Ratio___radd__ : Stmt := inClass (top 11) 3
def d_Ratio___radd__ : He.DefD := ⟨("Ratio", some "__radd__"), "__radd__", "Ratio.__radd__", defArgs s_Ratio___radd__, defBody s_Ratio___radd__, defScope s_Ratio___radd__, [], []⟩
abbrev s_Ratio___sub__ : Stmt := inClass (top 11) 4
def d_Ratio___sub__ : He.DefD := ⟨("Ratio", some "__sub__"), "__sub__", "Ratio.__sub__", defArgs s_Ratio___sub__, defBody s_Ratio___sub__, defScope s_Ratio___sub__, [], []⟩
abbrev s_Ratio___rsub__ : Stmt := inClass (top 11) 5
def d_Ratio___rsub__ : He.DefD := ⟨("Ratio", some "__rsub__"), "__rsub__", "Ratio.__rsub__", defArgs s_Ratio___rsub__, defBody s_Ratio___rsub__, defScope s_Ratio___rsub__, [], []⟩
abbrev s_Ratio___mul__ : Stmt := inClass (top 11) 6
def d_Ratio___mul__ : He.DefD := ⟨("Ratio", some "__mul__"), "__mul__", "Ratio.__mul__", defArgs s_Ratio___mul__, defBody s_Ratio___mul__, defScope s_Ratio___mul__, [], []⟩
abbrev s_Ratio___rmul__ : Stmt := inClass (top 11) 7
def d_Ratio___rmul__ : He.DefD := ⟨("Ratio", some "__rmul__"), "__rmul__", "Ratio.__rmul__", defArgs s_Ratio___rmul__, defBody s_Ratio___rmul__, defScope s_Ratio___rmul__, [], []⟩
abbrev s_Ratio___neg__ : Stmt := inClass (top 11) 8
def d_Ratio___neg__ : He.DefD := ⟨("Ratio", some "__neg__"), "__neg__", "Ratio.__neg__", defArgs s_Ratio___neg__, defBody s_Ratio___neg__, defScope s_Ratio___neg__, [], []⟩
abbrev s_Ratio_over : Stmt := inClass (top 11) 9
def d_Ratio_over : He.DefD := ⟨("Ratio", some "over"), "over", "Ratio.over", defArgs s_Ratio_over, defBody s_Ratio_over, defScope s_Ratio_over, [], []⟩
abbrev s_Ratio_text : Stmt := inClass (top 11) 10
def d_Ratio_text : He.DefD := ⟨("Ratio", some "text"), "text", "Ratio.text", defArgs s_Ratio_text, defBody s_Ratio_text, defScope s_Ratio_text, [], []⟩
abbrev s_Field___init__ : Stmt := inClass (top 16) 0
def d_Field___init__ : He.DefD := ⟨("Field", some "__init__"), "__init__", "Field.__init__", defArgs s_Field___init__, defBody s_Field___init__, defScope s_Field___init__, [.int (0)], []⟩
abbrev s_Field___eq__ : Stmt := inClass (top 16) 1
def d_Field___eq__ : He.DefD := ⟨("Field", some "__eq__"), "__eq__", "Field.__eq__", defArgs s_Field___eq__, defBody s_Field___eq__, defScope s_Field___eq__, [], []⟩
abbrev s_Field_number : Stmt := inClass (top 16) 2
def d_Field_number : He.DefD := ⟨("Field", some "number"), "number", "Field.number", defArgs s_Field_number, defBody s_Field_number, defScope s_Field_number, [], []⟩
abbrev s_Field_over : Stmt := inClass (top 16) 3
def d_Field_over : He.DefD := ⟨("Field", some "over"), "over", "Field.over", defArgs s_Field_over, defBody s_Field_over, defScope s_Field_over, [], []⟩
abbrev s_NoRatio___init__ : Stmt := inClass (top 4) 0
def z_NoRatio : SupD := ⟨"NoRatio", "NoRatio.__init__", defArgs s_NoRatio___init__, defBody s_NoRatio___init__, defScope s_NoRatio___init__⟩
def fa0 : List Fx := [.glo "is_integer", .glo "plain_digits", .glo "is_prime", .glo "inverse", .glo "_law_state", .glo "_law_draw", .glo "_law_gcd", .glo "_law_is_integer", .glo "_law_great", .glo "_law_is_prime", .glo "_law_prime", .glo "_law_field", .glo "_law_called", .glo "_law_divided", .glo "_law_right", .glo "_law_strange", .glo "law", .glo "SeriesError", .glo "NoRatio", .glo "NoField"]
def fa1 : List Fx := [.glo "NoNumber", .glo "Ratio", .glo "Field", .free "ValueError", .free "staticmethod", .free "abs", .free "range", .free "isinstance", .free "int", .free "NotImplemented", .free "bool", .free "str", .free "len", .blt "gcd" "math.gcd", .int "READ_DIGITS" 60, .int "MOST_PRIME" 9973, .cls "Ratio", .tyi "Ratio", .self "Ratio", .noat "Ratio" "top"]
def fa2 : List Fx := [.noat "Ratio" "bottom", .mkr "Ratio", .cls "Field", .tyi "Field", .self "Field", .noat "Field" "prime", .mkr "Field", .meth "Ratio" "__init__", .meth "Ratio" "__eq__", .meth "Ratio" "__add__", .meth "Ratio" "__radd__", .meth "Ratio" "__sub__", .meth "Ratio" "__rsub__", .meth "Ratio" "__mul__", .meth "Ratio" "__rmul__", .meth "Ratio" "__neg__", .meth "Ratio" "over", .meth "Ratio" "text", .meth "Field" "__init__", .meth "Field" "__eq__"]
def fa3 : List Fx := [.meth "Field" "number", .meth "Field" "over", .nee "Ratio", .nee "Field", .oex "SeriesError", .xf "SeriesError", .xis "SeriesError", .oex "NoRatio", .xf "NoRatio", .xis "NoRatio", .sup "NoRatio" "word", .oex "NoField", .noi "NoField", .xf "NoField", .xis "NoField", .oex "NoNumber", .noi "NoNumber", .xf "NoNumber", .xis "NoNumber", .rows ["Ratio", "Field"]]
def fa4 : List Fx := [.rowsX ["SeriesError", "NoRatio", "NoField", "NoNumber"], .seer]
def fa : List Fx := fa0 ++ fa1 ++ fa2 ++ fa3 ++ fa4
def fn0 : List He.DefD := [d_is_integer, d_plain_digits, d_is_prime, d_inverse, d__law_state, d__law_draw, d__law_gcd, d__law_is_integer, d__law_great, d__law_is_prime, d__law_prime, d__law_field, d__law_called, d__law_divided, d__law_right, d__law_strange, d_law, d_Ratio___init__, d_Ratio___eq__, d_Ratio___add__]
def fn1 : List He.DefD := [d_Ratio___radd__, d_Ratio___sub__, d_Ratio___rsub__, d_Ratio___mul__, d_Ratio___rmul__, d_Ratio___neg__, d_Ratio_over, d_Ratio_text, d_Field___init__, d_Field___eq__, d_Field_number, d_Field_over]
def fn : List He.DefD := fn0 ++ fn1
def fz0 : List SupD := [z_NoRatio]
def fz : List SupD := fz0
def loose0 : List Str := ["gcd", "_wall", "SeriesError", "NoRatio", "NoField", "NoNumber", "READ_DIGITS", "is_integer", "plain_digits", "Ratio", "MOST_PRIME", "is_prime", "inverse", "Field", "_law_state", "_law_draw", "_law_gcd", "_law_is_integer", "_law_great", "_law_is_prime"]
def loose1 : List Str := ["_law_prime", "_law_field", "_law_called", "_law_divided", "_law_right", "_law_strange"]
def loose : List Str := loose0 ++ loose1
class Sy (K : PySem.W.Frag) : Prop where
  says : SaysM fa fn fz K
abbrev PP : Program := PySem.Challenge.pw_seriessquares_k04_fields
/-- a def of this text keeps its promise -/
abbrev Fn (w : World) (K : PySem.W.Frag) (mg : Str → Option Value) (base : Heap) (k : Nat) (f : Addr) (sp : Sp) : Prop := FnR PP w K mg base (L2.CX PP w) k f sp
theorem g_is_integer {K : PySem.W.Frag} [Sy K] {mg : Str → Option Value} (M : Mg K mg) : mg "is_integer" = some (.ref (He.ga K "is_integer")) := glo_of M ((Sy.says.fact (K := K) 0 (f := .glo "is_integer")))
theorem g_plain_digits {K : PySem.W.Frag} [Sy K] {mg : Str → Option Value} (M : Mg K mg) : mg "plain_digits" = some (.ref (He.ga K "plain_digits")) := glo_of M ((Sy.says.fact (K := K) 1 (f := .glo "plain_digits")))
theorem g_is_prime {K : PySem.W.Frag} [Sy K] {mg : Str → Option Value} (M : Mg K mg) : mg "is_prime" = some (.ref (He.ga K "is_prime")) := glo_of M ((Sy.says.fact (K := K) 2 (f := .glo "is_prime")))
theorem g_inverse {K : PySem.W.Frag} [Sy K] {mg : Str → Option Value} (M : Mg K mg) : mg "inverse" = some (.ref (He.ga K "inverse")) := glo_of M ((Sy.says.fact (K := K) 3 (f := .glo "inverse")))
theorem g__law_state {K : PySem.W.Frag} [Sy K] {mg : Str → Option Value} (M : Mg K mg) : mg "_law_state" = some (.ref (He.ga K "_law_state")) := glo_of M ((Sy.says.fact (K := K) 4 (f := .glo "_law_state")))
theorem g__law_draw {K : PySem.W.Frag} [Sy K] {mg : Str → Option Value} (M : Mg K mg) : mg "_law_draw" = some (.ref (He.ga K "_law_draw")) := glo_of M ((Sy.says.fact (K := K) 5 (f := .glo "_law_draw")))
theorem g__law_gcd {K : PySem.W.Frag} [Sy K] {mg : Str → Option Value} (M : Mg K mg) : mg "_law_gcd" = some (.ref (He.ga K "_law_gcd")) := glo_of M ((Sy.says.fact (K := K) 6 (f := .glo "_law_gcd")))
theorem g__law_is_integer {K : PySem.W.Frag} [Sy K] {mg : Str → Option Value} (M : Mg K mg) : mg "_law_is_integer" = some (.ref (He.ga K "_law_is_integer")) := glo_of M ((Sy.says.fact (K := K) 7 (f := .glo "_law_is_integer")))
theorem g__law_great {K : PySem.W.Frag} [Sy K] {mg : Str → Option Value} (M : Mg K mg) : mg "_law_great" = some (.ref (He.ga K "_law_great")) := glo_of M ((Sy.says.fact (K := K) 8 (f := .glo "_law_great")))
theorem g__law_is_prime {K : PySem.W.Frag} [Sy K] {mg : Str → Option Value} (M : Mg K mg) : mg "_law_is_prime" = some (.ref (He.ga K "_law_is_prime")) := glo_of M ((Sy.says.fact (K := K) 9 (f := .glo "_law_is_prime")))
theorem g__law_prime {K : PySem.W.Frag} [Sy K] {mg : Str → Option Value} (M : Mg K mg) : mg "_law_prime" = some (.ref (He.ga K "_law_prime")) := glo_of M ((Sy.says.fact (K := K) 10 (f := .glo "_law_prime")))
theorem g__law_field {K : PySem.W.Frag} [Sy K] {mg : Str → Option Value} (M : Mg K mg) : mg "_law_field" = some (.ref (He.ga K "_law_field")) := glo_of M ((Sy.says.fact (K := K) 11 (f := .glo "_law_field")))
theorem g__law_called {K : PySem.W.Frag} [Sy K] {mg : Str → Option Value} (M : Mg K mg) : mg "_law_called" = some (.ref (He.ga K "_law_called")) := glo_of M ((Sy.says.fact (K := K) 12 (f := .glo "_law_called")))
theorem g__law_divided {K : PySem.W.Frag} [Sy K] {mg : Str → Option Value} (M : Mg K mg) : mg "_law_divided" = some (.ref (He.ga K "_law_divided")) := glo_of M ((Sy.says.fact (K := K) 13 (f := .glo "_law_divided")))
theorem g__law_right {K : PySem.W.Frag} [Sy K] {mg : Str → Option Value} (M : Mg K mg) : mg "_law_right" = some (.ref (He.ga K "_law_right")) := glo_of M ((Sy.says.fact (K := K) 14 (f := .glo "_law_right")))
theorem g__law_strange {K : PySem.W.Frag} [Sy K] {mg : Str → Option Value} (M : Mg K mg) : mg "_law_strange" = some (.ref (He.ga K "_law_strange")) := glo_of M ((Sy.says.fact (K := K) 15 (f := .glo "_law_strange")))
theorem g_law {K : PySem.W.Frag} [Sy K] {mg : Str → Option Value} (M : Mg K mg) : mg "law" = some (.ref (He.ga K "law")) := glo_of M ((Sy.says.fact (K := K) 16 (f := .glo "law")))
theorem g_SeriesError {K : PySem.W.Frag} [Sy K] {mg : Str → Option Value} (M : Mg K mg) : mg "SeriesError" = some (.ref (He.ga K "SeriesError")) := glo_of M ((Sy.says.fact (K := K) 17 (f := .glo "SeriesError")))
theorem g_NoRatio {K : PySem.W.Frag} [Sy K] {mg : Str → Option Value} (M : Mg K mg) : mg "NoRatio" = some (.ref (He.ga K "NoRatio")) := glo_of M ((Sy.says.fact (K := K) 18 (f := .glo "NoRatio")))
theorem g_NoField {K : PySem.W.Frag} [Sy K] {mg : Str → Option Value} (M : Mg K mg) : mg "NoField" = some (.ref (He.ga K "NoField")) := glo_of M ((Sy.says.fact (K := K) 19 (f := .glo "NoField")))
theorem g_NoNumber {K : PySem.W.Frag} [Sy K] {mg : Str → Option Value} (M : Mg K mg) : mg "NoNumber" = some (.ref (He.ga K "NoNumber")) := glo_of M ((Sy.says.fact (K := K) 20 (f := .glo "NoNumber")))
theorem g_Ratio {K : PySem.W.Frag} [Sy K] {mg : Str → Option Value} (M : Mg K mg) : mg "Ratio" = some (.ref (He.ga K "Ratio")) := glo_of M ((Sy.says.fact (K := K) 21 (f := .glo "Ratio")))
theorem g_Field {K : PySem.W.Frag} [Sy K] {mg : Str → Option Value} (M : Mg K mg) : mg "Field" = some (.ref (He.ga K "Field")) := glo_of M ((Sy.says.fact (K := K) 22 (f := .glo "Field")))
theorem f_ValueError {K : PySem.W.Frag} [Sy K] {mg : Str → Option Value} (M : Mg K mg) : mg "ValueError" = none := free_of M ((Sy.says.fact (K := K) 23 (f := .free "ValueError")))
theorem f_staticmethod {K : PySem.W.Frag} [Sy K] {mg : Str → Option Value} (M : Mg K mg) : mg "staticmethod" = none := free_of M ((Sy.says.fact (K := K) 24 (f := .free "staticmethod")))
theorem f_abs {K : PySem.W.Frag} [Sy K] {mg : Str → Option Value} (M : Mg K mg) : mg "abs" = none := free_of M ((Sy.says.fact (K := K) 25 (f := .free "abs")))
theorem f_range {K : PySem.W.Frag} [Sy K] {mg : Str → Option Value} (M : Mg K mg) : mg "range" = none := free_of M ((Sy.says.fact (K := K) 26 (f := .free "range")))
theorem f_isinstance {K : PySem.W.Frag} [Sy K] {mg : Str → Option Value} (M : Mg K mg) : mg "isinstance" = none := free_of M ((Sy.says.fact (K := K) 27 (f := .free "isinstance")))
theorem f_int {K : PySem.W.Frag} [Sy K] {mg : Str → Option Value} (M : Mg K mg) : mg "int" = none := free_of M ((Sy.says.fact (K := K) 28 (f := .free "int")))
theorem f_NotImplemented {K : PySem.W.Frag} [Sy K] {mg : Str → Option Value} (M : Mg K mg) : mg "NotImplemented" = none := free_of M ((Sy.says.fact (K := K) 29 (f := .free "NotImplemented")))
theorem f_bool {K : PySem.W.Frag} [Sy K] {mg : Str → Option Value} (M : Mg K mg) : mg "bool" = none := free_of M ((Sy.says.fact (K := K) 30 (f := .free "bool")))
theorem f_str {K : PySem.W.Frag} [Sy K] {mg : Str → Option Value} (M : Mg K mg) : mg "str" = none := free_of M ((Sy.says.fact (K := K) 31 (f := .free "str")))
theorem f_len {K : PySem.W.Frag} [Sy K] {mg : Str → Option Value} (M : Mg K mg) : mg "len" = none := free_of M ((Sy.says.fact (K := K) 32 (f := .free "len")))
theorem g_gcd {K : PySem.W.Frag} [Sy K] {mg : Str → Option Value} (M : Mg K mg) : mg "gcd" = some (.builtin "math.gcd") := blt_of M ((Sy.says.fact (K := K) 33 (f := .blt "gcd" "math.gcd")))
theorem g_import_math_gcd {K : PySem.W.Frag} [Sy K] {mg : Str → Option Value} (M : Mg K mg) : mg "gcd" = some (.builtin "math.gcd") := blt_of M ((Sy.says.fact (K := K) 33 (f := .blt "gcd" "math.gcd")))
theorem g_READ_DIGITS {K : PySem.W.Frag} [Sy K] {mg : Str → Option Value} (M : Mg K mg) : ∃ t, mg "READ_DIGITS" = some (.int 60 t) := int_of M ((Sy.says.fact (K := K) 34 (f := .int "READ_DIGITS" 60)))
theorem g_MOST_PRIME {K : PySem.W.Frag} [Sy K] {mg : Str → Option Value} (M : Mg K mg) : ∃ t, mg "MOST_PRIME" = some (.int 9973 t) := int_of M ((Sy.says.fact (K := K) 35 (f := .int "MOST_PRIME" 9973)))
instance i_Ratio {K : PySem.W.Frag} [Sy K] : IsCls K "Ratio" := ⟨cls_of ((Sy.says.fact (K := K) 36 (f := .cls "Ratio"))), (Sy.says.fact (K := K) 37 (f := .tyi "Ratio"))⟩
theorem self_Ratio {K : PySem.W.Frag} [Sy K] : PySem.W.selfFirst K (He.ga K "Ratio") = true := (Sy.says.fact (K := K) 38 (f := .self "Ratio"))
instance i_Ratio_top {K : PySem.W.Frag} [Sy K] : HasFld K "Ratio" "top" := ⟨He.noat_ok ((Sy.says.fact (K := K) 39 (f := .noat "Ratio" "top")))⟩
instance i_Ratio_bottom {K : PySem.W.Frag} [Sy K] : HasFld K "Ratio" "bottom" := ⟨He.noat_ok ((Sy.says.fact (K := K) 40 (f := .noat "Ratio" "bottom")))⟩
theorem mk_Ratio {K : PySem.W.Frag} [Sy K] : Mk K (He.ga K "Ratio") (He.ma K (He.ga K "Ratio") "__init__") := mkr_of ((Sy.says.fact (K := K) 41 (f := .mkr "Ratio")))
instance i_Field {K : PySem.W.Frag} [Sy K] : IsCls K "Field" := ⟨cls_of ((Sy.says.fact (K := K) 42 (f := .cls "Field"))), (Sy.says.fact (K := K) 43 (f := .tyi "Field"))⟩
theorem self_Field {K : PySem.W.Frag} [Sy K] : PySem.W.selfFirst K (He.ga K "Field") = true := (Sy.says.fact (K := K) 44 (f := .self "Field"))
instance i_Field_prime {K : PySem.W.Frag} [Sy K] : HasFld K "Field" "prime" := ⟨He.noat_ok ((Sy.says.fact (K := K) 45 (f := .noat "Field" "prime")))⟩
theorem mk_Field {K : PySem.W.Frag} [Sy K] : Mk K (He.ga K "Field") (He.ma K (He.ga K "Field") "__init__") := mkr_of ((Sy.says.fact (K := K) 46 (f := .mkr "Field")))
theorem m_Ratio___init__ {K : PySem.W.Frag} [Sy K] : Meth K (He.ga K "Ratio") "__init__" (He.ma K (He.ga K "Ratio") "__init__") := meth_of ((Sy.says.fact (K := K) 47 (f := .meth "Ratio" "__init__")))
theorem m_Ratio___eq__ {K : PySem.W.Frag} [Sy K] : Meth K (He.ga K "Ratio") "__eq__" (He.ma K (He.ga K "Ratio") "__eq__") := meth_of ((Sy.says.fact (K := K) 48 (f := .meth "Ratio" "__eq__")))
theorem m_Ratio___add__ {K : PySem.W.Frag} [Sy K] : Meth K (He.ga K "Ratio") "__add__" (He.ma K (He.ga K "Ratio") "__add__") := meth_of ((Sy.says.fact (K := K) 49 (f := .meth "Ratio" "__add__")))
theorem m_Ratio___radd__ {K : PySem.W.Frag} [Sy K] : Meth K (He.ga K "Ratio") "__radd__" (He.ma K (He.ga K "Ratio") "__radd__") := meth_of ((Sy.says.fact (K := K) 50 (f := .meth "Ratio" "__radd__")))
theorem m_Ratio___sub__ {K : PySem.W.Frag} [Sy K] : Meth K (He.ga K "Ratio") "__sub__" (He.ma K (He.ga K "Ratio") "__sub__") := meth_of ((Sy.says.fact (K := K) 51 (f := .meth "Ratio" "__sub__")))
theorem m_Ratio___rsub__ {K : PySem.W.Frag} [Sy K] : Meth K (He.ga K "Ratio") "__rsub__" (He.ma K (He.ga K "Ratio") "__rsub__") := meth_of ((Sy.says.fact (K := K) 52 (f := .meth "Ratio" "__rsub__")))
theorem m_Ratio___mul__ {K : PySem.W.Frag} [Sy K] : Meth K (He.ga K "Ratio") "__mul__" (He.ma K (He.ga K "Ratio") "__mul__") := meth_of ((Sy.says.fact (K := K) 53 (f := .meth "Ratio" "__mul__")))
theorem m_Ratio___rmul__ {K : PySem.W.Frag} [Sy K] : Meth K (He.ga K "Ratio") "__rmul__" (He.ma K (He.ga K "Ratio") "__rmul__") := meth_of ((Sy.says.fact (K := K) 54 (f := .meth "Ratio" "__rmul__")))
theorem m_Ratio___neg__ {K : PySem.W.Frag} [Sy K] : Meth K (He.ga K "Ratio") "__neg__" (He.ma K (He.ga K "Ratio") "__neg__") := meth_of ((Sy.says.fact (K := K) 55 (f := .meth "Ratio" "__neg__")))
theorem m_Ratio_over {K : PySem.W.Frag} [Sy K] : Meth K (He.ga K "Ratio") "over" (He.ma K (He.ga K "Ratio") "over") := meth_of ((Sy.says.fact (K := K) 56 (f := .meth "Ratio" "over")))
theorem m_Ratio_text {K : PySem.W.Frag} [Sy K] : Meth K (He.ga K "Ratio") "text" (He.ma K (He.ga K "Ratio") "text") := meth_of ((Sy.says.fact (K := K) 57 (f := .meth "Ratio" "text")))
theorem m_Field___init__ {K : PySem.W.Frag} [Sy K] : Meth K (He.ga K "Field") "__init__" (He.ma K (He.ga K "Field") "__init__") := meth_of ((Sy.says.fact (K := K) 58 (f := .meth "Field" "__init__")))
theorem m_Field___eq__ {K : PySem.W.Frag} [Sy K] : Meth K (He.ga K "Field") "__eq__" (He.ma K (He.ga K "Field") "__eq__") := meth_of ((Sy.says.fact (K := K) 59 (f := .meth "Field" "__eq__")))
theorem m_Field_number {K : PySem.W.Frag} [Sy K] : Meth K (He.ga K "Field") "number" (He.ma K (He.ga K "Field") "number") := meth_of ((Sy.says.fact (K := K) 60 (f := .meth "Field" "number")))
theorem m_Field_over {K : PySem.W.Frag} [Sy K] : Meth K (He.ga K "Field") "over" (He.ma K (He.ga K "Field") "over") := meth_of ((Sy.says.fact (K := K) 61 (f := .meth "Field" "over")))
theorem nee_Ratio {K : PySem.W.Frag} [Sy K] : PySem.W.findIn K (.ref (He.ga K "Ratio")) "__ne__" = some (some (.builtin "object.__ne__")) := He.eqO_ok ((Sy.says.fact (K := K) 62 (f := .nee "Ratio")))
theorem nee_Field {K : PySem.W.Frag} [Sy K] : PySem.W.findIn K (.ref (He.ga K "Field")) "__ne__" = some (some (.builtin "object.__ne__")) := He.eqO_ok ((Sy.says.fact (K := K) 63 (f := .nee "Field")))
theorem oex_SeriesError {K : PySem.W.Frag} [Sy K] : OexC K (He.ga K "SeriesError") := oex_ok ((Sy.says.fact (K := K) 64 (f := .oex "SeriesError")))
theorem xf_SeriesError {K : PySem.W.Frag} [Sy K] : XfC K (He.ga K "SeriesError") := xfB_ok ((Sy.says.fact (K := K) 65 (f := .xf "SeriesError")))
theorem xis_SeriesError {K : PySem.W.Frag} [Sy K] : (Fx.xis "SeriesError").ok K = true := (Sy.says.fact (K := K) 66 (f := .xis "SeriesError"))
instance {K : PySem.W.Frag} [Sy K] : IsExc K "SeriesError" := ⟨excC_of xf_SeriesError xis_SeriesError⟩
theorem oex_NoRatio {K : PySem.W.Frag} [Sy K] : OexC K (He.ga K "NoRatio") := oex_ok ((Sy.says.fact (K := K) 67 (f := .oex "NoRatio")))
theorem xf_NoRatio {K : PySem.W.Frag} [Sy K] : XfC K (He.ga K "NoRatio") := xfB_ok ((Sy.says.fact (K := K) 68 (f := .xf "NoRatio")))
theorem xis_NoRatio {K : PySem.W.Frag} [Sy K] : (Fx.xis "NoRatio").ok K = true := (Sy.says.fact (K := K) 69 (f := .xis "NoRatio"))
instance {K : PySem.W.Frag} [Sy K] : IsExc K "NoRatio" := ⟨excC_of xf_NoRatio xis_NoRatio⟩
theorem sup_NoRatio {K : PySem.W.Frag} [Sy K] : SupC PySem.Challenge.pw_seriessquares_k04_fields K (He.ga K "NoRatio") (He.ma K (He.ga K "NoRatio") "__init__") "word" ∧ PySem.W.findIn K (.ref (He.ga K "NoRatio")) "__init__" = some (some (.ref (He.ma K (He.ga K "NoRatio") "__init__"))) ∧ PySem.W.typeIn K (.ref (He.ma K (He.ga K "NoRatio") "__init__")) = some (.type "function") :=
  sup_ok (P := PySem.Challenge.pw_seriessquares_k04_fields) (x := "NoRatio") (fld := "word") (d := z_NoRatio) ((Sy.says.fact (K := K) 67 (f := .oex "NoRatio"))) ((Sy.says.fact (K := K) 70 (f := .sup "NoRatio" "word"))) (Sy.says.sup_ 0) (by decide +kernel) rfl (by decide +kernel)
    ⟨_, _, _, _, _, _, _, _, _, _, _, _, rfl, rfl, by decide +kernel, by decide +kernel, by decide +kernel, by decide +kernel, by decide +kernel, rfl, rfl, rfl, by decide +kernel, fun _ _ _ _ _ _ _ _ _ => rfl, _, fun _ => rfl⟩
theorem oex_NoField {K : PySem.W.Frag} [Sy K] : OexC K (He.ga K "NoField") := oex_ok ((Sy.says.fact (K := K) 71 (f := .oex "NoField")))
theorem noini_NoField {K : PySem.W.Frag} [Sy K] : (Fx.noi "NoField").ok K = true := (Sy.says.fact (K := K) 72 (f := .noi "NoField"))
theorem xf_NoField {K : PySem.W.Frag} [Sy K] : XfC K (He.ga K "NoField") := xfB_ok ((Sy.says.fact (K := K) 73 (f := .xf "NoField")))
theorem xis_NoField {K : PySem.W.Frag} [Sy K] : (Fx.xis "NoField").ok K = true := (Sy.says.fact (K := K) 74 (f := .xis "NoField"))
instance {K : PySem.W.Frag} [Sy K] : IsExc K "NoField" := ⟨excC_of xf_NoField xis_NoField⟩
theorem oex_NoNumber {K : PySem.W.Frag} [Sy K] : OexC K (He.ga K "NoNumber") := oex_ok ((Sy.says.fact (K := K) 75 (f := .oex "NoNumber")))
theorem noini_NoNumber {K : PySem.W.Frag} [Sy K] : (Fx.noi "NoNumber").ok K = true := (Sy.says.fact (K := K) 76 (f := .noi "NoNumber"))
theorem xf_NoNumber {K : PySem.W.Frag} [Sy K] : XfC K (He.ga K "NoNumber") := xfB_ok ((Sy.says.fact (K := K) 77 (f := .xf "NoNumber")))
theorem xis_NoNumber {K : PySem.W.Frag} [Sy K] : (Fx.xis "NoNumber").ok K = true := (Sy.says.fact (K := K) 78 (f := .xis "NoNumber"))
instance {K : PySem.W.Frag} [Sy K] : IsExc K "NoNumber" := ⟨excC_of xf_NoNumber xis_NoNumber⟩
instance iRows {K : PySem.W.Frag} [Sy K] : Mi.Rows K := ⟨["Ratio", "Field"], Mi.rows_ok ((Sy.says.fact (K := K) 79 (f := .rows ["Ratio", "Field"]))), ["SeriesError", "NoRatio", "NoField", "NoNumber"], Mi.rowsX_ok ((Sy.says.fact (K := K) 80 (f := .rowsX ["SeriesError", "NoRatio", "NoField", "NoNumber"])))⟩
theorem c_Ratio {K : PySem.W.Frag} [Sy K] : ("Ratio" : Str) ∈ Mi.Rows.cls K := .head _
theorem c_Field {K : PySem.W.Frag} [Sy K] : ("Field" : Str) ∈ Mi.Rows.cls K := .tail _ (.head _)
theorem x_SeriesError {K : PySem.W.Frag} [Sy K] : ("SeriesError" : Str) ∈ Mi.Rows.exs K := .head _
theorem x_NoRatio {K : PySem.W.Frag} [Sy K] : ("NoRatio" : Str) ∈ Mi.Rows.exs K := .tail _ (.head _)
theorem x_NoField {K : PySem.W.Frag} [Sy K] : ("NoField" : Str) ∈ Mi.Rows.exs K := .tail _ (.tail _ (.head _))
theorem x_NoNumber {K : PySem.W.Frag} [Sy K] : ("NoNumber" : Str) ∈ Mi.Rows.exs K := .tail _ (.tail _ (.tail _ (.head _)))
theorem seer_K {K : PySem.W.Frag} [Sy K] : (Fx.seer).ok K = true := (Sy.says.fact (K := K) 81 (f := .seer))
theorem def_is_integer {K : PySem.W.Frag} [Sy K] : ∃ fd, FunD K d_is_integer.name d_is_integer.qual (defArgs s_is_integer) (defBody s_is_integer) (defScope s_is_integer) (d_is_integer.dvs K) [] (He.fAd K d_is_integer.at_) fd := Sy.says.def_ 0
theorem kp_is_integer {K : PySem.W.Frag} [Sy K] : PySem.W.keepIn K (.ref (He.fAd K d_is_integer.at_)) = true := let ⟨_, F⟩ := def_is_integer (K := K); F.kp
theorem def_plain_digits {K : PySem.W.Frag} [Sy K] : ∃ fd, FunD K d_plain_digits.name d_plain_digits.qual (defArgs s_plain_digits) (defBody s_plain_digits) (defScope s_plain_digits) (d_plain_digits.dvs K) [] (He.fAd K d_plain_digits.at_) fd := Sy.says.def_ 1
theorem kp_plain_digits {K : PySem.W.Frag} [Sy K] : PySem.W.keepIn K (.ref (He.fAd K d_plain_digits.at_)) = true := let ⟨_, F⟩ := def_plain_digits (K := K); F.kp
theorem def_is_prime {K : PySem.W.Frag} [Sy K] : ∃ fd, FunD K d_is_prime.name d_is_prime.qual (defArgs s_is_prime) (defBody s_is_prime) (defScope s_is_prime) (d_is_prime.dvs K) [] (He.fAd K d_is_prime.at_) fd := Sy.says.def_ 2
theorem kp_is_prime {K : PySem.W.Frag} [Sy K] : PySem.W.keepIn K (.ref (He.fAd K d_is_prime.at_)) = true := let ⟨_, F⟩ := def_is_prime (K := K); F.kp
theorem def_inverse {K : PySem.W.Frag} [Sy K] : ∃ fd, FunD K d_inverse.name d_inverse.qual (defArgs s_inverse) (defBody s_inverse) (defScope s_inverse) (d_inverse.dvs K) [] (He.fAd K d_inverse.at_) fd := Sy.says.def_ 3
theorem kp_inverse {K : PySem.W.Frag} [Sy K] : PySem.W.keepIn K (.ref (He.fAd K d_inverse.at_)) = true := let ⟨_, F⟩ := def_inverse (K := K); F.kp
theorem def__law_state {K : PySem.W.Frag} [Sy K] : ∃ fd, FunD K d__law_state.name d__law_state.qual (defArgs s__law_state) (defBody s__law_state) (defScope s__law_state) (d__law_state.dvs K) [] (He.fAd K d__law_state.at_) fd := Sy.says.def_ 4
theorem kp__law_state {K : PySem.W.Frag} [Sy K] : PySem.W.keepIn K (.ref (He.fAd K d__law_state.at_)) = true := let ⟨_, F⟩ := def__law_state (K := K); F.kp
theorem def__law_draw {K : PySem.W.Frag} [Sy K] : ∃ fd, FunD K d__law_draw.name d__law_draw.qual (defArgs s__law_draw) (defBody s__law_draw) (defScope s__law_draw) (d__law_draw.dvs K) [] (He.fAd K d__law_draw.at_) fd := Sy.says.def_ 5
theorem kp__law_draw {K : PySem.W.Frag} [Sy K] : PySem.W.keepIn K (.ref (He.fAd K d__law_draw.at_)) = true := let ⟨_, F⟩ := def__law_draw (K := K); F.kp
theorem def__law_gcd {K : PySem.W.Frag} [Sy K] : ∃ fd, FunD K d__law_gcd.name d__law_gcd.qual (defArgs s__law_gcd) (defBody s__law_gcd) (defScope s__law_gcd) (d__law_gcd.dvs K) [] (He.fAd K d__law_gcd.at_) fd := Sy.says.def_ 6
theorem kp__law_gcd {K : PySem.W.Frag} [Sy K] : PySem.W.keepIn K (.ref (He.fAd K d__law_gcd.at_)) = true := let ⟨_, F⟩ := def__law_gcd (K := K); F.kp
theorem def__law_is_integer {K : PySem.W.Frag} [Sy K] : ∃ fd, FunD K d__law_is_integer.name d__law_is_integer.qual (defArgs s__law_is_integer) (defBody s__law_is_integer) (defScope s__law_is_integer) (d__law_is_integer.dvs K) [] (He.fAd K d__law_is_integer.at_) fd := Sy.says.def_ 7
theorem kp__law_is_integer {K : PySem.W.Frag} [Sy K] : PySem.W.keepIn K (.ref (He.fAd K d__law_is_integer.at_)) = true := let ⟨_, F⟩ := def__law_is_integer (K := K); F.kp
theorem def__law_great {K : PySem.W.Frag} [Sy K] : ∃ fd, FunD K d__law_great.name d__law_great.qual (defArgs s__law_great) (defBody s__law_great) (defScope s__law_great) (d__law_great.dvs K) [] (He.fAd K d__law_great.at_) fd := Sy.says.def_ 8
theorem kp__law_great {K : PySem.W.Frag} [Sy K] : PySem.W.keepIn K (.ref (He.fAd K d__law_great.at_)) = true := let ⟨_, F⟩ := def__law_great (K := K); F.kp
theorem def__law_is_prime {K : PySem.W.Frag} [Sy K] : ∃ fd, FunD K d__law_is_prime.name d__law_is_prime.qual (defArgs s__law_is_prime) (defBody s__law_is_prime) (defScope s__law_is_prime) (d__law_is_prime.dvs K) [] (He.fAd K d__law_is_prime.at_) fd := Sy.says.def_ 9
theorem kp__law_is_prime {K : PySem.W.Frag} [Sy K] : PySem.W.keepIn K (.ref (He.fAd K d__law_is_prime.at_)) = true := let ⟨_, F⟩ := def__law_is_prime (K := K); F.kp
theorem def__law_prime {K : PySem.W.Frag} [Sy K] : ∃ fd, FunD K d__law_prime.name d__law_prime.qual (defArgs s__law_prime) (defBody s__law_prime) (defScope s__law_prime) (d__law_prime.dvs K) [] (He.fAd K d__law_prime.at_) fd := Sy.says.def_ 10
theorem kp__law_prime {K : PySem.W.Frag} [Sy K] : PySem.W.keepIn K (.ref (He.fAd K d__law_prime.at_)) = true := let ⟨_, F⟩ := def__law_prime (K := K); F.kp
theorem def__law_field {K : PySem.W.Frag} [Sy K] : ∃ fd, FunD K d__law_field.name d__law_field.qual (defArgs s__law_field) (defBody s__law_field) (defScope s__law_field) (d__law_field.dvs K) [] (He.fAd K d__law_field.at_) fd := Sy.says.def_ 11
theorem kp__law_field {K : PySem.W.Frag} [Sy K] : PySem.W.keepIn K (.ref (He.fAd K d__law_field.at_)) = true := let ⟨_, F⟩ := def__law_field (K := K); F.kp
theorem def__law_called {K : PySem.W.Frag} [Sy K] : ∃ fd, FunD K d__law_called.name d__law_called.qual (defArgs s__law_called) (defBody s__law_called) (defScope s__law_called) (d__law_called.dvs K) [] (He.fAd K d__law_called.at_) fd := Sy.says.def_ 12
theorem kp__law_called {K : PySem.W.Frag} [Sy K] : PySem.W.keepIn K (.ref (He.fAd K d__law_called.at_)) = true := let ⟨_, F⟩ := def__law_called (K := K); F.kp
theorem def__law_divided {K : PySem.W.Frag} [Sy K] : ∃ fd, FunD K d__law_divided.name d__law_divided.qual (defArgs s__law_divided) (defBody s__law_divided) (defScope s__law_divided) (d__law_divided.dvs K) [] (He.fAd K d__law_divided.at_) fd := Sy.says.def_ 13
theorem kp__law_divided {K : PySem.W.Frag} [Sy K] : PySem.W.keepIn K (.ref (He.fAd K d__law_divided.at_)) = true := let ⟨_, F⟩ := def__law_divided (K := K); F.kp
theorem def__law_right {K : PySem.W.Frag} [Sy K] : ∃ fd, FunD K d__law_right.name d__law_right.qual (defArgs s__law_right) (defBody s__law_right) (defScope s__law_right) (d__law_right.dvs K) [] (He.fAd K d__law_right.at_) fd := Sy.says.def_ 14
theorem kp__law_right {K : PySem.W.Frag} [Sy K] : PySem.W.keepIn K (.ref (He.fAd K d__law_right.at_)) = true := let ⟨_, F⟩ := def__law_right (K := K); F.kp
theorem def__law_strange {K : PySem.W.Frag} [Sy K] : ∃ fd, FunD K d__law_strange.name d__law_strange.qual (defArgs s__law_strange) (defBody s__law_strange) (defScope s__law_strange) (d__law_strange.dvs K) [] (He.fAd K d__law_strange.at_) fd := Sy.says.def_ 15
theorem kp__law_strange {K : PySem.W.Frag} [Sy K] : PySem.W.keepIn K (.ref (He.fAd K d__law_strange.at_)) = true := let ⟨_, F⟩ := def__law_strange (K := K); F.kp
theorem def_law {K : PySem.W.Frag} [Sy K] : ∃ fd, FunD K d_law.name d_law.qual (defArgs s_law) (defBody s_law) (defScope s_law) (d_law.dvs K) [] (He.fAd K d_law.at_) fd := Sy.says.def_ 16
theorem kp_law {K : PySem.W.Frag} [Sy K] : PySem.W.keepIn K (.ref (He.fAd K d_law.at_)) = true := let ⟨_, F⟩ := def_law (K := K); F.kp
theorem def_Ratio___init__ {K : PySem.W.Frag} [Sy K] : ∃ fd, FunD K d_Ratio___init__.name d_Ratio___init__.qual (defArgs s_Ratio___init__) (defBody s_Ratio___init__) (defScope s_Ratio___init__) (d_Ratio___init__.dvs K) [] (He.fAd K d_Ratio___init__.at_) fd := Sy.says.def_ 17
theorem kp_Ratio___init__ {K : PySem.W.Frag} [Sy K] : PySem.W.keepIn K (.ref (He.fAd K d_Ratio___init__.at_)) = true := let ⟨_, F⟩ := def_Ratio___init__ (K := K); F.kp
theorem def_Ratio___eq__ {K : PySem.W.Frag} [Sy K] : ∃ fd, FunD K d_Ratio___eq__.name d_Ratio___eq__.qual (defArgs s_Ratio___eq__) (defBody s_Ratio___eq__) (defScope s_Ratio___eq__) (d_Ratio___eq__.dvs K) [] (He.fAd K d_Ratio___eq__.at_) fd := Sy.says.def_ 18
theorem kp_Ratio___eq__ {K : PySem.W.Frag} [Sy K] : PySem.W.keepIn K (.ref (He.fAd K d_Ratio___eq__.at_)) = true := let ⟨_, F⟩ := def_Ratio___eq__ (K := K); F.kp
theorem def_Ratio___add__ {K : PySem.W.Frag} [Sy K] : ∃ fd, FunD K d_Ratio___add__.name d_Ratio___add__.qual (defArgs s_Ratio___add__) (defBody s_Ratio___add__) (defScope s_Ratio___add__) (d_Ratio___add__.dvs K) [] (He.fAd K d_Ratio___add__.at_) fd := Sy.says.def_ 19
theorem kp_Ratio___add__ {K : PySem.W.Frag} [Sy K] : PySem.W.keepIn K (.ref (He.fAd K d_Ratio___add__.at_)) = true := let ⟨_, F⟩ := def_Ratio___add__ (K := K); F.kp
theorem def_Ratio___radd__ {K : PySem.W.Frag} [Sy K] : ∃ fd, FunD K d_Ratio___radd__.name d_Ratio___radd__.qual (defArgs s_Ratio___radd__) (defBody s_Ratio___radd__) (defScope s_Ratio___radd__) (d_Ratio___radd__.dvs K) [] (He.fAd K d_Ratio___radd__.at_) fd := Sy.says.def_ 20
theorem kp_Ratio___radd__ {K : PySem.W.Frag} [Sy K] : PySem.W.keepIn K (.ref (He.fAd K d_Ratio___radd__.at_)) = true := let ⟨_, F⟩ := def_Ratio___radd__ (K := K); F.kp
theorem def_Ratio___sub__ {K : PySem.W.Frag} [Sy K] : ∃ fd, FunD K d_Ratio___sub__.name d_Ratio___sub__.qual (defArgs s_Ratio___sub__) (defBody s_Ratio___sub__) (defScope s_Ratio___sub__) (d_Ratio___sub__.dvs K) [] (He.fAd K d_Ratio___sub__.at_) fd := Sy.says.def_ 21
theorem kp_Ratio___sub__ {K : PySem.W.Frag} [Sy K] : PySem.W.keepIn K (.ref (He.fAd K d_Ratio___sub__.at_)) = true := let ⟨_, F⟩ := def_Ratio___sub__ (K := K); F.kp
theorem def_Ratio___rsub__ {K : PySem.W.Frag} [Sy K] : ∃ fd, FunD K d_Ratio___rsub__.name d_Ratio___rsub__.qual (defArgs s_Ratio___rsub__) (defBody s_Ratio___rsub__) (defScope s_Ratio___rsub__) (d_Ratio___rsub__.dvs K) [] (He.fAd K d_Ratio___rsub__.at_) fd := Sy.says.def_ 22
theorem kp_Ratio___rsub__ {K : PySem.W.Frag} [Sy K] : PySem.W.keepIn K (.ref (He.fAd K d_Ratio___rsub__.at_)) = true := let ⟨_, F⟩ := def_Ratio___rsub__ (K := K); F.kp
theorem def_Ratio___mul__ {K : PySem.W.Frag} [Sy K] : ∃ fd, FunD K d_Ratio___mul__.name d_Ratio___mul__.qual (defArgs s_Ratio___mul__) (defBody s_Ratio___mul__) (defScope s_Ratio___mul__) (d_Ratio___mul__.dvs K) [] (He.fAd K d_Ratio___mul__.at_) fd := Sy.says.def_ 23
theorem kp_Ratio___mul__ {K : PySem.W.Frag} [Sy K] : PySem.W.keepIn K (.ref (He.fAd K d_Ratio___mul__.at_)) = true := let ⟨_, F⟩ := def_Ratio___mul__ (K := K); F.kp
theorem def_Ratio___rmul__ {K : PySem.W.Frag} [Sy K] : ∃ fd, FunD K d_Ratio___rmul__.name d_Ratio___rmul__.qual (defArgs s_Ratio___rmul__) (defBody s_Ratio___rmul__) (defScope s_Ratio___rmul__) (d_Ratio___rmul__.dvs K) [] (He.fAd K d_Ratio___rmul__.at_) fd := Sy.says.def_ 24
theorem kp_Ratio___rmul__ {K : PySem.W.Frag} [Sy K] : PySem.W.keepIn K (.ref (He.fAd K d_Ratio___rmul__.at_)) = true := let ⟨_, F⟩ := def_Ratio___rmul__ (K := K); F.kp
theorem def_Ratio___neg__ {K : PySem.W.Frag} [Sy K] : ∃ fd, FunD K d_Ratio___neg__.name d_Ratio___neg__.qual (defArgs s_Ratio___neg__) (defBody s_Ratio___neg__) (defScope s_Ratio___neg__) (d_Ratio___neg__.dvs K) [] (He.fAd K d_Ratio___neg__.at_) fd := Sy.says.def_ 25
theorem kp_Ratio___neg__ {K : PySem.W.Frag} [Sy K] : PySem.W.keepIn K (.ref (He.fAd K d_Ratio___neg__.at_)) = true := let ⟨_, F⟩ := def_Ratio___neg__ (K := K); F.kp
theorem def_Ratio_over {K : PySem.W.Frag} [Sy K] : ∃ fd, FunD K d_Ratio_over.name d_Ratio_over.qual (defArgs s_Ratio_over) (defBody s_Ratio_over) (defScope s_Ratio_over) (d_Ratio_over.dvs K) [] (He.fAd K d_Ratio_over.at_) fd := Sy.says.def_ 26
theorem kp_Ratio_over {K : PySem.W.Frag} [Sy K] : PySem.W.keepIn K (.ref (He.fAd K d_Ratio_over.at_)) = true := let ⟨_, F⟩ := def_Ratio_over (K := K); F.kp
theorem def_Ratio_text {K : PySem.W.Frag} [Sy K] : ∃ fd, FunD K d_Ratio_text.name d_Ratio_text.qual (defArgs s_Ratio_text) (defBody s_Ratio_text) (defScope s_Ratio_text) (d_Ratio_text.dvs K) [] (He.fAd K d_Ratio_text.at_) fd := Sy.says.def_ 27
theorem kp_Ratio_text {K : PySem.W.Frag} [Sy K] : PySem.W.keepIn K (.ref (He.fAd K d_Ratio_text.at_)) = true := let ⟨_, F⟩ := def_Ratio_text (K := K); F.kp
theorem def_Field___init__ {K : PySem.W.Frag} [Sy K] : ∃ fd, FunD K d_Field___init__.name d_Field___init__.qual (defArgs s_Field___init__) (defBody s_Field___init__) (defScope s_Field___init__) (d_Field___init__.dvs K) [] (He.fAd K d_Field___init__.at_) fd := Sy.says.def_ 28
theorem kp_Field___init__ {K : PySem.W.Frag} [Sy K] : PySem.W.keepIn K (.ref (He.fAd K d_Field___init__.at_)) = true := let ⟨_, F⟩ := def_Field___init__ (K := K); F.kp
theorem def_Field___eq__ {K : PySem.W.Frag} [Sy K] : ∃ fd, FunD K d_Field___eq__.name d_Field___eq__.qual (defArgs s_Field___eq__) (defBody s_Field___eq__) (defScope s_Field___eq__) (d_Field___eq__.dvs K) [] (He.fAd K d_Field___eq__.at_) fd := Sy.says.def_ 29
theorem kp_Field___eq__ {K : PySem.W.Frag} [Sy K] : PySem.W.keepIn K (.ref (He.fAd K d_Field___eq__.at_)) = true := let ⟨_, F⟩ := def_Field___eq__ (K := K); F.kp
theorem def_Field_number {K : PySem.W.Frag} [Sy K] : ∃ fd, FunD K d_Field_number.name d_Field_number.qual (defArgs s_Field_number) (defBody s_Field_number) (defScope s_Field_number) (d_Field_number.dvs K) [] (He.fAd K d_Field_number.at_) fd := Sy.says.def_ 30
theorem kp_Field_number {K : PySem.W.Frag} [Sy K] : PySem.W.keepIn K (.ref (He.fAd K d_Field_number.at_)) = true := let ⟨_, F⟩ := def_Field_number (K := K); F.kp
theorem def_Field_over {K : PySem.W.Frag} [Sy K] : ∃ fd, FunD K d_Field_over.name d_Field_over.qual (defArgs s_Field_over) (defBody s_Field_over) (defScope s_Field_over) (d_Field_over.dvs K) [] (He.fAd K d_Field_over.at_) fd := Sy.says.def_ 31
theorem kp_Field_over {K : PySem.W.Frag} [Sy K] : PySem.W.keepIn K (.ref (He.fAd K d_Field_over.at_)) = true := let ⟨_, F⟩ := def_Field_over (K := K); F.kp
end Sx

namespace Mi
open PySem PySem.Spec PyProof.Rows L2 Sx
noncomputable section
variable {w : World} {K : PySem.W.Frag} [Sy K] {mg : Str → Option Value} {base : Heap}

def b_Field___eq__ : M Fl := (mRet (mAndV (mIsi (.c "Field") (mVar 1)) (mBin dEq (mFld "prime" (mVar 0)) (mFld "prime" (mVar 1)))))
theorem sc_Field___eq__ : FnScope ["self", "other"] ["self", "other"] (defScope s_Field___eq__) := ⟨rfl, rfl, rfl, by decide +kernel, rfl, by decide +kernel, by decide +kernel⟩
def m_Field___eq__ : MFn := runM 2 2 b_Field___eq__
theorem bd_Field___eq__ (M : Mg K mg) : Body K PP w mg base d_Field___eq__.qual (defScope s_Field___eq__) (He.fAd K d_Field___eq__.at_) ["self", "other"] 3 (defBody s_Field___eq__) b_Field___eq__ := fun cdv A outer s H E hr => ⟨_, (pss_one (ps_ret (pe_and (pe_callB call_isi (by rfl) (f_isinstance (K := K) M) (by decide +kernel) (pa_cons (pv 1) (pa_cons (pe_glob (v := .ref (He.ga _ "Field")) rfl (g_Field (K := K) M) rfl) pa_nil))) (pe_one (pe_cmpR op_eq (pe_fld (pv 0) rfl) (pe_fld (pv 1) rfl) (nomark _)))))), fun A => (rs_ret (re_and (re_isiC c_Field re_var) (re_op rr_eq (re_fld re_var) (re_fld re_var))))⟩
theorem ok_Field___eq__ (M : Mg K mg) : Fn w K mg base 4 (He.ma K (He.ga K "Field") "__eq__") (spM K m_Field___eq__) := fn_M def_Field___eq__ sc_Field___eq__ (fun _ _ _ _ _ _ us hl => match us, hl with | [_, _], _ => rfl) (bd_Field___eq__ M)
def lc_is_prime_0 : M Bool := (mB (mBin dLe (mBin dMul (mVar 1) (mVar 1)) (mVar 0)))
def lb_is_prime_1 : M Fl := (mSeq (mIfS (mB (mBin dEq (mBin dMod (mVar 0) (mVar 1)) (mC (.int 0)))) (mRet (mC (.bl false))) mSkip) (mAug dAdd 1 (mC (.int 1))))
def b_is_prime : M Fl := (mSeq (mIfS (mB (mBin dLt (mVar 0) (mC (.int 2)))) (mRet (mC (.bl false))) mSkip) (mSeq (mAsg 1 (mC (.int 2))) (mSeq (mWhile lc_is_prime_0 lb_is_prime_1) (mRet (mC (.bl true))))))
theorem sc_is_prime : FnScope ["value", "divisor"] ["value"] (defScope s_is_prime) := ⟨rfl, rfl, rfl, by decide +kernel, rfl, by decide +kernel, by decide +kernel⟩
def m_is_prime : MFn := runM 2 1 b_is_prime
theorem bd_is_prime (M : Mg K mg) : Body K PP w mg base d_is_prime.qual (defScope s_is_prime) (He.fAd K d_is_prime.at_) ["value", "divisor"] 3 (defBody s_is_prime) b_is_prime := fun cdv A outer s H E hr => ⟨_, (pss_cons (ps_if (pt_cmpR op_lt (pv 0) pe_int (nomark _)) (pss_one (ps_ret pe_bl)) pss_nil) (pss_cons (ps_set (i := 1) sc_is_prime.nd rfl (by first | exact Or.inl rfl | exact Or.inr rfl) pe_int) (pss_cons (ps_while (passes_of rfl) (pt_cmpR op_le (pe_op op_mulX (pv 1) (pv 1)) (pv 0) (nomark _)) (pss_cons (ps_if (pt_cmpR op_eq (pe_op op_modX (pv 0) (pv 1)) pe_int (nomark _)) (pss_one (ps_ret pe_bl)) pss_nil) (pss_one (ps_aug (i := 1) sc_is_prime.nd rfl (by first | exact Or.inl rfl | exact Or.inr rfl) pe_int ip_add)))) (pss_one (ps_ret pe_bl))))), fun A => (rs_seq (rs_if (rt_test (re_op rr_lt re_var re_int)) (rs_ret re_bl) rs_skip) (rs_seq (rs_asg re_int) (rs_seq (rs_while (rt_test (re_op rr_le (re_op rr_mul re_var re_var) re_var)) (rs_seq (rs_if (rt_test (re_op rr_eq (re_op rr_mod re_var re_var) re_int)) (rs_ret re_bl) rs_skip) (rs_aug rr_ipI re_int))) (rs_ret re_bl))))⟩
theorem ok_is_prime (M : Mg K mg) : Fn w K mg base 4 (He.ga K "is_prime") (spM K m_is_prime) := fn_M def_is_prime sc_is_prime (fun _ _ _ _ _ _ us hl => match us, hl with | [_], _ => rfl) (bd_is_prime M)
def b_is_integer : M Fl := (mRet (mAndV (mIsi (.b "int") (mVar 0)) (mNotV (mIsi (.b "bool") (mVar 0)))))
theorem sc_is_integer : FnScope ["value"] ["value"] (defScope s_is_integer) := ⟨rfl, rfl, rfl, by decide +kernel, rfl, by decide +kernel, by decide +kernel⟩
def m_is_integer : MFn := runM 1 1 b_is_integer
theorem bd_is_integer (M : Mg K mg) : Body K PP w mg base d_is_integer.qual (defScope s_is_integer) (He.fAd K d_is_integer.at_) ["value"] 3 (defBody s_is_integer) b_is_integer := fun cdv A outer s H E hr => ⟨_, (pss_one (ps_ret (pe_and (pe_callB call_isi (by rfl) (f_isinstance (K := K) M) (by decide +kernel) (pa_cons (pv 0) (pa_cons (pe_bltn (v := .ty "int") (by rfl) (f_int (K := K) M) (by decide +kernel) rfl) pa_nil))) (pe_one (pe_not (pe_callB call_isi (by rfl) (f_isinstance (K := K) M) (by decide +kernel) (pa_cons (pv 0) (pa_cons (pe_bltn (v := .ty "bool") (by rfl) (f_bool (K := K) M) (by decide +kernel) rfl) pa_nil)))))))), fun A => (rs_ret (re_and (re_isiB (by decide) re_var) (re_not (re_isiB (by decide) re_var))))⟩
theorem ok_is_integer (M : Mg K mg) : Fn w K mg base 4 (He.ga K "is_integer") (spM K m_is_integer) := fn_M def_is_integer sc_is_integer (fun _ _ _ _ _ _ us hl => match us, hl with | [_], _ => rfl) (bd_is_integer M)
def b_Field___init__ : M Fl := (mSeq (mIfS (mNot (mB (mCall m_is_integer (mCons (mVar 1) mNil)))) (mRaise0 "NoField") mSkip) (mSeq (mIfS (mAnd (mB (mBin dNe (mVar 1) (mC (.int 0)))) (mOr (mB (mBin dGt (mVar 1) (mC (.int 9973)))) (mNot (mB (mCall m_is_prime (mCons (mVar 1) mNil)))))) (mRaise0 "NoField") mSkip) (mSetF "Field" 0 "prime" (mVar 1))))
theorem sc_Field___init__ : FnScope ["self", "prime"] ["self", "prime"] (defScope s_Field___init__) := ⟨rfl, rfl, rfl, by decide +kernel, rfl, by decide +kernel, by decide +kernel⟩
def m_Field___init__ : MFi := runI "Field" 2 2 b_Field___init__
theorem bd_Field___init__ (M : Mg K mg) : Body K PP w mg base d_Field___init__.qual (defScope s_Field___init__) (He.fAd K d_Field___init__.at_) ["self", "prime"] 4 (defBody s_Field___init__) b_Field___init__ := fun cdv A outer s H E hr => ⟨_, (pss_cons (ps_if (pt_not (pt_val (pe_fnW (Sx.FnR.frame (ok_is_integer (K := K) M)) (hr.mono (by decide)) rfl (g_is_integer (K := K) M) (kp_is_integer (K := K)) (takes_of rfl rfl rfl rfl) (pa_cons (pv 1) pa_nil)))) (pss_one (ps_raise rfl (takes_of rfl rfl rfl rfl) (pmk_none (oex_NoField (K := K)) (noini_NoField (K := K)) rfl (g_NoField (K := K) M)))) pss_nil) (pss_cons (ps_if (PW.pt (pw_and (pt_cmpR op_ne (pv 1) pe_int (nomark _)) (pw_and1 (PW.pt (pw_or (pt_cmpR op_gt (pv 1) (pe_glob (v := .int 9973) rfl (g_MOST_PRIME (K := K) M).choose_spec ⟨_, rfl⟩) (nomark _)) (pw_or1 (pt_not (pt_val (pe_fnW (Sx.FnR.frame (ok_is_prime (K := K) M)) (hr.mono (by decide)) rfl (g_is_prime (K := K) M) (kp_is_prime (K := K)) (takes_of rfl rfl rfl rfl) (pa_cons (pv 1) pa_nil)))))))))) (pss_one (ps_raise rfl (takes_of rfl rfl rfl rfl) (pmk_none (oex_NoField (K := K)) (noini_NoField (K := K)) rfl (g_NoField (K := K) M)))) pss_nil) (pss_one (ps_fld (pv 0) (pv 1) rfl)))), fun A => (rs_seq (rs_if (rt_not (rt_B (re_call (ra_cons re_var ra_nil)))) (rs_raise0 x_NoField) rs_skip) (rs_seq (rs_if (rt_and (rt_test (re_op rr_ne re_var re_int)) (rt_or (rt_test (re_op rr_gt re_var re_int)) (rt_not (rt_B (re_call (ra_cons re_var ra_nil)))))) (rs_raise0 x_NoField) rs_skip) (rs_setF (C := "Field") (i_Field_prime (K := K)).no re_var)))⟩
def m_Field___init___1 : MFi := fun ds => m_Field___init__ (ds ++ [.int 0])
theorem oks_Field___init__ (M : Mg K mg) : Fn w K mg base 5 (He.ma K (He.ga K "Field") "__init__") (spI K "Field" m_Field___init__) ∧ Fn w K mg base 5 (He.ma K (He.ga K "Field") "__init__") (spI K "Field" m_Field___init___1) := fn_I1 def_Field___init__ sc_Field___init__ (by decide) (fun _ _ _ _ _ _ _ us its hl hi => match us, its, hl, hi with | [_, _], [_], _, _ => ⟨_, rfl, rfl⟩) (fun _ _ _ _ _ _ _ us its hl hi => match us, its, hl, hi with | [_], [_], _, _ => ⟨_, rfl, rfl⟩) c_Field (bd_Field___init__ M)
theorem ok_Field___init__ (M : Mg K mg) : Fn w K mg base 5 (He.ma K (He.ga K "Field") "__init__") (spI K "Field" m_Field___init__) := (oks_Field___init__ M).1
theorem okk_Field___init__ (M : Mg K mg) : FnKw PP w K mg base 5 (He.ma K (He.ga K "Field") "__init__") 1 ["prime"] (fun vs zs => vs ++ zs) (spI K "Field" m_Field___init__) := by
  obtain ⟨fd, F⟩ := def_Field___init__ (K := K)
  obtain ⟨its, kb⟩ : ∃ its : List Value, KBn K fd ["self", "prime"] 1 ["prime"] (fun us ws => us ++ ws) (fun vs zs => vs ++ zs) := F.kbindsD 1 ["prime"] (fun us _ ws => us ++ ws) (by show [V.int 0] ≠ []; simp) (fun r1 _ r3 => L2.Vals.append r1 r3) (fun _ _ _ _ _ _ _ us its ws h1 h2 h3 => match us, its, ws, h1, h2, h3 with | [_], [_], [_], _, _, _ => ⟨_, rfl, rfl⟩)
  exact FnKw.of (fok_I F sc_Field___init__ c_Field (bd_Field___init__ M)) kb
theorem ok_Field___init___1 (M : Mg K mg) : Fn w K mg base 5 (He.ma K (He.ga K "Field") "__init__") (spI K "Field" m_Field___init___1) := (oks_Field___init__ M).2
def b_Ratio___eq__ : M Fl := (mSeq (mIfS (mB (mIsi (.c "Ratio") (mVar 1))) (mRet (mAndV (mBin dEq (mFld "top" (mVar 0)) (mFld "top" (mVar 1))) (mBin dEq (mFld "bottom" (mVar 0)) (mFld "bottom" (mVar 1))))) mSkip) (mRet (mAndV (mCall m_is_integer (mCons (mVar 1) mNil)) (mAndV (mBin dEq (mFld "bottom" (mVar 0)) (mC (.int 1))) (mBin dEq (mFld "top" (mVar 0)) (mVar 1))))))
theorem sc_Ratio___eq__ : FnScope ["self", "other"] ["self", "other"] (defScope s_Ratio___eq__) := ⟨rfl, rfl, rfl, by decide +kernel, rfl, by decide +kernel, by decide +kernel⟩
def m_Ratio___eq__ : MFn := runM 2 2 b_Ratio___eq__
theorem bd_Ratio___eq__ (M : Mg K mg) : Body K PP w mg base d_Ratio___eq__.qual (defScope s_Ratio___eq__) (He.fAd K d_Ratio___eq__.at_) ["self", "other"] 4 (defBody s_Ratio___eq__) b_Ratio___eq__ := fun cdv A outer s H E hr => ⟨_, (pss_cons (ps_if (pt_val (pe_callB call_isi (by rfl) (f_isinstance (K := K) M) (by decide +kernel) (pa_cons (pv 1) (pa_cons (pe_glob (v := .ref (He.ga _ "Ratio")) rfl (g_Ratio (K := K) M) rfl) pa_nil)))) (pss_one (ps_ret (pe_and (pe_cmpR op_eq (pe_fld (pv 0) rfl) (pe_fld (pv 1) rfl) (nomark _)) (pe_one (pe_cmpR op_eq (pe_fld (pv 0) rfl) (pe_fld (pv 1) rfl) (nomark _)))))) pss_nil) (pss_one (ps_ret (pe_and (pe_fnW (Sx.FnR.frame (ok_is_integer (K := K) M)) (hr.mono (by decide)) rfl (g_is_integer (K := K) M) (kp_is_integer (K := K)) (takes_of rfl rfl rfl rfl) (pa_cons (pv 1) pa_nil)) (pe_and (pe_cmpR op_eq (pe_fld (pv 0) rfl) pe_int (nomark _)) (pe_one (pe_cmpR op_eq (pe_fld (pv 0) rfl) (pv 1) (nomark _)))))))), fun A => (rs_seq (rs_if (rt_B (re_isiC c_Ratio re_var)) (rs_ret (re_and (re_op rr_eq (re_fld re_var) (re_fld re_var)) (re_op rr_eq (re_fld re_var) (re_fld re_var)))) rs_skip) (rs_ret (re_and (re_call (ra_cons re_var ra_nil)) (re_and (re_op rr_eq (re_fld re_var) re_int) (re_op rr_eq (re_fld re_var) re_var)))))⟩
theorem ok_Ratio___eq__ (M : Mg K mg) : Fn w K mg base 5 (He.ma K (He.ga K "Ratio") "__eq__") (spM K m_Ratio___eq__) := fn_M def_Ratio___eq__ sc_Ratio___eq__ (fun _ _ _ _ _ _ us hl => match us, hl with | [_, _], _ => rfl) (bd_Ratio___eq__ M)
def T_Ratio : Tab := [("Ratio", m_Ratio___eq__)]
theorem et_Ratio (M : Mg K mg) : EqT PP w K mg base 5 T_Ratio := ⟨fun p h => by
  simp only [T_Ratio, List.mem_cons, List.not_mem_nil, or_false] at h
  rcases h with rfl
  · exact ⟨_, Sx.m_Ratio___eq__ (K := K), Sx.FnR.frame ((ok_Ratio___eq__ (K := K) M).mono (by decide)), nee_Ratio (K := K)⟩⟩
def T_Field : Tab := [("Field", m_Field___eq__)]
theorem et_Field (M : Mg K mg) : EqT PP w K mg base 4 T_Field := ⟨fun p h => by
  simp only [T_Field, List.mem_cons, List.not_mem_nil, or_false] at h
  rcases h with rfl
  · exact ⟨_, Sx.m_Field___eq__ (K := K), Sx.FnR.frame ((ok_Field___eq__ (K := K) M).mono (by decide)), nee_Field (K := K)⟩⟩
def lc_inverse_0 : M Bool := (mB (mBin dGt (mVar 3) (mC (.int 1))))
def lb_inverse_1 : M Fl := (mSeq (mAsg 6 (mBin dDiv (mVar 2) (mVar 3))) (mSeq (mPar 2 3 (mCons (mVar 3) (mCons (mBin dSub (mVar 2) (mBin dMul (mVar 6) (mVar 3))) mNil))) (mPar 4 5 (mCons (mVar 5) (mCons (mBin dSub (mVar 4) (mBin dMul (mVar 6) (mVar 5))) mNil)))))
def b_inverse : M Fl := (mSeq (mPar 2 3 (mCons (mVar 1) (mCons (mBin dMod (mVar 0) (mVar 1)) mNil))) (mSeq (mAsgT (gT 2 (gsC (gV 4) (gsC (gV 5) gsN))) (mTup (mCons (mC (.int 0)) (mCons (mC (.int 1)) mNil)))) (mSeq (mWhile lc_inverse_0 lb_inverse_1) (mRet (mBin dMod (mVar 5) (mVar 1))))))
theorem sc_inverse : FnScope ["value", "prime", "before", "rest", "old", "factor", "quotient"] ["value", "prime"] (defScope s_inverse) := ⟨rfl, rfl, rfl, by decide +kernel, rfl, by decide +kernel, by decide +kernel⟩
def m_inverse : MFn := runM 7 2 b_inverse
theorem bd_inverse (M : Mg K mg) : Body K PP w mg base d_inverse.qual (defScope s_inverse) (He.fAd K d_inverse.at_) ["value", "prime", "before", "rest", "old", "factor", "quotient"] 32 (defBody s_inverse) b_inverse := fun cdv A outer s H E hr => ⟨_, (pss_cons (ps_par (i := 2) (j := 3) (by rfl) sc_inverse.nd rfl rfl (by decide) rfl rfl (pa_cons (pv 1) (pa_cons (pe_op op_modX (pv 0) (pv 1)) pa_nil)) (by rfl)) (pss_cons (ps_asg (pe_tup (pa_cons pe_int (pa_cons pe_int pa_nil))) (pg_tup rfl (pgs_cons (pg_name (i := 4) sc_inverse.nd rfl (by first | exact Or.inl rfl | exact Or.inr rfl)) (pgs_cons (pg_name (i := 5) sc_inverse.nd rfl (by first | exact Or.inl rfl | exact Or.inr rfl)) pgs_nil)))) (pss_cons (ps_while (passes_of rfl) (pt_cmpR op_gt (pv 3) pe_int (nomark _)) (pss_cons (ps_set (i := 6) sc_inverse.nd rfl (by first | exact Or.inl rfl | exact Or.inr rfl) (pe_op (op_fdivP (seer_K (K := K)) (hr.mono (by decide)) rfl rfl rfl rfl rfl rfl) (pv 2) (pv 3))) (pss_cons (ps_par (i := 2) (j := 3) (by rfl) sc_inverse.nd rfl rfl (by decide) rfl rfl (pa_cons (pv 3) (pa_cons (pe_op op_sub (pv 2) (pe_op op_mulX (pv 6) (pv 3))) pa_nil)) (by rfl)) (pss_one (ps_par (i := 4) (j := 5) (by rfl) sc_inverse.nd rfl rfl (by decide) rfl rfl (pa_cons (pv 5) (pa_cons (pe_op op_sub (pv 4) (pe_op op_mulX (pv 6) (pv 5))) pa_nil)) (by rfl)))))) (pss_one (ps_ret (pe_op op_modX (pv 5) (pv 1))))))), fun A => (rs_seq (rs_par (ra_cons re_var (ra_cons (re_op rr_mod re_var re_var) ra_nil))) (rs_seq (rs_asgT (re_tup (ra_cons re_int (ra_cons re_int ra_nil))) (rg_tup (rgs_cons rg_name (rgs_cons rg_name rgs_nil)))) (rs_seq (rs_while (rt_test (re_op rr_gt re_var re_int)) (rs_seq (rs_asg (re_op rr_div re_var re_var)) (rs_seq (rs_par (ra_cons re_var (ra_cons (re_op rr_sub re_var (re_op rr_mul re_var re_var)) ra_nil))) (rs_par (ra_cons re_var (ra_cons (re_op rr_sub re_var (re_op rr_mul re_var re_var)) ra_nil)))))) (rs_ret (re_op rr_mod re_var re_var)))))⟩
theorem ok_inverse (M : Mg K mg) : Fn w K mg base 33 (He.ga K "inverse") (spM K m_inverse) := fn_M def_inverse sc_inverse (fun _ _ _ _ _ _ us hl => match us, hl with | [_, _], _ => rfl) (bd_inverse M)
def b_Ratio___init__ : M Fl := (mSeq (mIfS (mNot (mB (mCall m_is_integer (mCons (mVar 1) mNil)))) (mRaise "NoRatio" "word" (mCons (mC (.str "top")) mNil)) mSkip) (mSeq (mIfS (mNot (mB (mCall m_is_integer (mCons (mVar 2) mNil)))) (mRaise "NoRatio" "word" (mCons (mC (.str "bottom")) mNil)) mSkip) (mSeq (mIfS (mB (mBin dEq (mVar 2) (mC (.int 0)))) (mRaise "NoRatio" "word" (mCons (mC (.str "zero")) mNil)) mSkip) (mSeq (mAsg 3 (mCB dGcd (mCons (mVar 1) (mCons (mVar 2) mNil)))) (mSeq (mIfS (mB (mBin dLt (mVar 2) (mC (.int 0)))) (mAsg 3 (mUn dNeg (mVar 3))) mSkip) (mSeq (mSetF "Ratio" 0 "top" (mBin dDiv (mVar 1) (mVar 3))) (mSetF "Ratio" 0 "bottom" (mBin dDiv (mVar 2) (mVar 3)))))))))
theorem sc_Ratio___init__ : FnScope ["self", "top", "bottom", "shared"] ["self", "top", "bottom"] (defScope s_Ratio___init__) := ⟨rfl, rfl, rfl, by decide +kernel, rfl, by decide +kernel, by decide +kernel⟩
def m_Ratio___init__ : MFi := runI "Ratio" 4 3 b_Ratio___init__
theorem bd_Ratio___init__ (M : Mg K mg) : Body K PP w mg base d_Ratio___init__.qual (defScope s_Ratio___init__) (He.fAd K d_Ratio___init__.at_) ["self", "top", "bottom", "shared"] 32 (defBody s_Ratio___init__) b_Ratio___init__ := fun cdv A outer s H E hr => ⟨_, (pss_cons (ps_if (pt_not (pt_val (pe_fnW (Sx.FnR.frame (ok_is_integer (K := K) M)) (hr.mono (by decide)) rfl (g_is_integer (K := K) M) (kp_is_integer (K := K)) (takes_of rfl rfl rfl rfl) (pa_cons (pv 1) pa_nil)))) (pss_one (ps_raise rfl (takes_of rfl rfl rfl rfl) (pmk_sup rfl (sup_NoRatio (K := K)).1 (sup_NoRatio (K := K)).2.1 (sup_NoRatio (K := K)).2.2 (hr.mono (by decide)) rfl (g_NoRatio (K := K) M) (pa_cons pe_str pa_nil)))) pss_nil) (pss_cons (ps_if (pt_not (pt_val (pe_fnW (Sx.FnR.frame (ok_is_integer (K := K) M)) (hr.mono (by decide)) rfl (g_is_integer (K := K) M) (kp_is_integer (K := K)) (takes_of rfl rfl rfl rfl) (pa_cons (pv 2) pa_nil)))) (pss_one (ps_raise rfl (takes_of rfl rfl rfl rfl) (pmk_sup rfl (sup_NoRatio (K := K)).1 (sup_NoRatio (K := K)).2.1 (sup_NoRatio (K := K)).2.2 (hr.mono (by decide)) rfl (g_NoRatio (K := K) M) (pa_cons pe_str pa_nil)))) pss_nil) (pss_cons (ps_if (pt_cmpR op_eq (pv 2) pe_int (nomark _)) (pss_one (ps_raise rfl (takes_of rfl rfl rfl rfl) (pmk_sup rfl (sup_NoRatio (K := K)).1 (sup_NoRatio (K := K)).2.1 (sup_NoRatio (K := K)).2.2 (hr.mono (by decide)) rfl (g_NoRatio (K := K) M) (pa_cons pe_str pa_nil)))) pss_nil) (pss_cons (ps_set (i := 3) sc_Ratio___init__.nd rfl (by first | exact Or.inl rfl | exact Or.inr rfl) (pe_callBfun cr_gcd rfl (g_gcd (K := K) M) (pa_cons (pv 1) (pa_cons (pv 2) pa_nil)))) (pss_cons (ps_if (pt_cmpR op_lt (pv 2) pe_int (nomark _)) (pss_one (ps_set (i := 3) sc_Ratio___init__.nd rfl (by first | exact Or.inl rfl | exact Or.inr rfl) (pe_un un_neg (pv 3)))) pss_nil) (pss_cons (ps_fld (pv 0) (pe_op (op_fdivP (seer_K (K := K)) (hr.mono (by decide)) rfl rfl rfl rfl rfl rfl) (pv 1) (pv 3)) rfl) (pss_one (ps_fld (pv 0) (pe_op (op_fdivP (seer_K (K := K)) (hr.mono (by decide)) rfl rfl rfl rfl rfl rfl) (pv 2) (pv 3)) rfl)))))))), fun A => (rs_seq (rs_if (rt_not (rt_B (re_call (ra_cons re_var ra_nil)))) (rs_raise x_NoRatio (ra_cons re_str ra_nil)) rs_skip) (rs_seq (rs_if (rt_not (rt_B (re_call (ra_cons re_var ra_nil)))) (rs_raise x_NoRatio (ra_cons re_str ra_nil)) rs_skip) (rs_seq (rs_if (rt_test (re_op rr_eq re_var re_int)) (rs_raise x_NoRatio (ra_cons re_str ra_nil)) rs_skip) (rs_seq (rs_asg (re_CB rc_gcd (ra_cons re_var (ra_cons re_var ra_nil)))) (rs_seq (rs_if (rt_test (re_op rr_lt re_var re_int)) (rs_asg (re_un r1_neg re_var)) rs_skip) (rs_seq (rs_setF (C := "Ratio") (i_Ratio_top (K := K)).no (re_op rr_div re_var re_var)) (rs_setF (C := "Ratio") (i_Ratio_bottom (K := K)).no (re_op rr_div re_var re_var))))))))⟩
def m_Ratio___init___1 : MFi := fun ds => m_Ratio___init__ (ds ++ [.int 1])
theorem oks_Ratio___init__ (M : Mg K mg) : Fn w K mg base 33 (He.ma K (He.ga K "Ratio") "__init__") (spI K "Ratio" m_Ratio___init__) ∧ Fn w K mg base 33 (He.ma K (He.ga K "Ratio") "__init__") (spI K "Ratio" m_Ratio___init___1) := fn_I1 def_Ratio___init__ sc_Ratio___init__ (by decide) (fun _ _ _ _ _ _ _ us its hl hi => match us, its, hl, hi with | [_, _, _], [_], _, _ => ⟨_, rfl, rfl⟩) (fun _ _ _ _ _ _ _ us its hl hi => match us, its, hl, hi with | [_, _], [_], _, _ => ⟨_, rfl, rfl⟩) c_Ratio (bd_Ratio___init__ M)
theorem ok_Ratio___init__ (M : Mg K mg) : Fn w K mg base 33 (He.ma K (He.ga K "Ratio") "__init__") (spI K "Ratio" m_Ratio___init__) := (oks_Ratio___init__ M).1
theorem ok_Ratio___init___1 (M : Mg K mg) : Fn w K mg base 33 (He.ma K (He.ga K "Ratio") "__init__") (spI K "Ratio" m_Ratio___init___1) := (oks_Ratio___init__ M).2
def b_Field_number : M Fl := (mSeq (mIfS (mB (mCall m_is_integer (mCons (mVar 1) mNil))) (mSeq (mIfS (mB (mBin dEq (mFld "prime" (mVar 0)) (mC (.int 0)))) (mRet (mMake "Ratio" m_Ratio___init___1 (mCons (mVar 1) mNil))) mSkip) (mRet (mBin dMod (mVar 1) (mFld "prime" (mVar 0))))) mSkip) (mSeq (mIfS (mNot (mB (mIsi (.c "Ratio") (mVar 1)))) (mRaise0 "NoNumber") mSkip) (mSeq (mIfS (mB (mBin dEq (mFld "prime" (mVar 0)) (mC (.int 0)))) (mRet (mVar 1)) mSkip) (mSeq (mIfS (mB (mBin dEq (mBin dMod (mFld "bottom" (mVar 1)) (mFld "prime" (mVar 0))) (mC (.int 0)))) (mRaise0 "NoNumber") mSkip) (mRet (mBin dMod (mBin dMul (mFld "top" (mVar 1)) (mCall m_inverse (mCons (mFld "bottom" (mVar 1)) (mCons (mFld "prime" (mVar 0)) mNil)))) (mFld "prime" (mVar 0))))))))
theorem sc_Field_number : FnScope ["self", "value"] ["self", "value"] (defScope s_Field_number) := ⟨rfl, rfl, rfl, by decide +kernel, rfl, by decide +kernel, by decide +kernel⟩
def m_Field_number : MFn := runM 2 2 b_Field_number
theorem bd_Field_number (M : Mg K mg) : Body K PP w mg base d_Field_number.qual (defScope s_Field_number) (He.fAd K d_Field_number.at_) ["self", "value"] 34 (defBody s_Field_number) b_Field_number := fun cdv A outer s H E hr => ⟨_, (pss_cons (ps_if (pt_val (pe_fnW (Sx.FnR.frame (ok_is_integer (K := K) M)) (hr.mono (by decide)) rfl (g_is_integer (K := K) M) (kp_is_integer (K := K)) (takes_of rfl rfl rfl rfl) (pa_cons (pv 1) pa_nil))) (pss_cons (ps_if (pt_cmpR op_eq (pe_fld (pv 0) rfl) pe_int (nomark _)) (pss_one (ps_ret (pe_mkW (mk_Ratio (K := K)) (Sx.FnR.frame (ok_Ratio___init___1 (K := K) M)) (hr.mono (by decide)) rfl (g_Ratio (K := K) M) (takes_of rfl rfl rfl rfl) (pa_cons (pv 1) pa_nil)))) pss_nil) (pss_one (ps_ret (pe_op op_modX (pv 1) (pe_fld (pv 0) rfl))))) pss_nil) (pss_cons (ps_if (pt_not (pt_val (pe_callB call_isi (by rfl) (f_isinstance (K := K) M) (by decide +kernel) (pa_cons (pv 1) (pa_cons (pe_glob (v := .ref (He.ga _ "Ratio")) rfl (g_Ratio (K := K) M) rfl) pa_nil))))) (pss_one (ps_raise rfl (takes_of rfl rfl rfl rfl) (pmk_none (oex_NoNumber (K := K)) (noini_NoNumber (K := K)) rfl (g_NoNumber (K := K) M)))) pss_nil) (pss_cons (ps_if (pt_cmpR op_eq (pe_fld (pv 0) rfl) pe_int (nomark _)) (pss_one (ps_ret (pv 1))) pss_nil) (pss_cons (ps_if (pt_cmpR op_eq (pe_op op_modX (pe_fld (pv 1) rfl) (pe_fld (pv 0) rfl)) pe_int (nomark _)) (pss_one (ps_raise rfl (takes_of rfl rfl rfl rfl) (pmk_none (oex_NoNumber (K := K)) (noini_NoNumber (K := K)) rfl (g_NoNumber (K := K) M)))) pss_nil) (pss_one (ps_ret (pe_op op_modX (pe_op op_mulX (pe_fld (pv 1) rfl) (pe_fnW (Sx.FnR.frame (ok_inverse (K := K) M)) (hr.mono (by decide)) rfl (g_inverse (K := K) M) (kp_inverse (K := K)) (takes_of rfl rfl rfl rfl) (pa_cons (pe_fld (pv 1) rfl) (pa_cons (pe_fld (pv 0) rfl) pa_nil)))) (pe_fld (pv 0) rfl)))))))), fun A => (rs_seq (rs_if (rt_B (re_call (ra_cons re_var ra_nil))) (rs_seq (rs_if (rt_test (re_op rr_eq (re_fld re_var) re_int)) (rs_ret (re_make c_Ratio (ra_cons re_var ra_nil))) rs_skip) (rs_ret (re_op rr_mod re_var (re_fld re_var)))) rs_skip) (rs_seq (rs_if (rt_not (rt_B (re_isiC c_Ratio re_var))) (rs_raise0 x_NoNumber) rs_skip) (rs_seq (rs_if (rt_test (re_op rr_eq (re_fld re_var) re_int)) (rs_ret re_var) rs_skip) (rs_seq (rs_if (rt_test (re_op rr_eq (re_op rr_mod (re_fld re_var) (re_fld re_var)) re_int)) (rs_raise0 x_NoNumber) rs_skip) (rs_ret (re_op rr_mod (re_op rr_mul (re_fld re_var) (re_call (ra_cons (re_fld re_var) (ra_cons (re_fld re_var) ra_nil)))) (re_fld re_var)))))))⟩
theorem ok_Field_number (M : Mg K mg) : Fn w K mg base 35 (He.ma K (He.ga K "Field") "number") (spM K m_Field_number) := fn_M def_Field_number sc_Field_number (fun _ _ _ _ _ _ us hl => match us, hl with | [_, _], _ => rfl) (bd_Field_number M)
def b_Ratio___mul__ : M Fl := (mSeq (mIfS (mB (mCall m_is_integer (mCons (mVar 1) mNil))) (mRet (mMake "Ratio" m_Ratio___init__ (mCons (mBin dMul (mFld "top" (mVar 0)) (mVar 1)) (mCons (mFld "bottom" (mVar 0)) mNil)))) mSkip) (mSeq (mIfS (mNot (mB (mIsi (.c "Ratio") (mVar 1)))) (fun _ => .bad) mSkip) (mRet (mMake "Ratio" m_Ratio___init__ (mCons (mBin dMul (mFld "top" (mVar 0)) (mFld "top" (mVar 1))) (mCons (mBin dMul (mFld "bottom" (mVar 0)) (mFld "bottom" (mVar 1))) mNil))))))
theorem sc_Ratio___mul__ : FnScope ["self", "other"] ["self", "other"] (defScope s_Ratio___mul__) := ⟨rfl, rfl, rfl, by decide +kernel, rfl, by decide +kernel, by decide +kernel⟩
def m_Ratio___mul__ : MFn := runM 2 2 b_Ratio___mul__
theorem bd_Ratio___mul__ (M : Mg K mg) : Body K PP w mg base d_Ratio___mul__.qual (defScope s_Ratio___mul__) (He.fAd K d_Ratio___mul__.at_) ["self", "other"] 34 (defBody s_Ratio___mul__) b_Ratio___mul__ := fun cdv A outer s H E hr => ⟨_, (pss_cons (ps_if (pt_val (pe_fnW (Sx.FnR.frame (ok_is_integer (K := K) M)) (hr.mono (by decide)) rfl (g_is_integer (K := K) M) (kp_is_integer (K := K)) (takes_of rfl rfl rfl rfl) (pa_cons (pv 1) pa_nil))) (pss_one (ps_ret (pe_mkW (mk_Ratio (K := K)) (Sx.FnR.frame (ok_Ratio___init__ (K := K) M)) (hr.mono (by decide)) rfl (g_Ratio (K := K) M) (takes_of rfl rfl rfl rfl) (pa_cons (pe_op op_mulX (pe_fld (pv 0) rfl) (pv 1)) (pa_cons (pe_fld (pv 0) rfl) pa_nil))))) pss_nil) (pss_cons (ps_if (pt_not (pt_val (pe_callB call_isi (by rfl) (f_isinstance (K := K) M) (by decide +kernel) (pa_cons (pv 1) (pa_cons (pe_glob (v := .ref (He.ga _ "Ratio")) rfl (g_Ratio (K := K) M) rfl) pa_nil))))) (pss_one ps_never) pss_nil) (pss_one (ps_ret (pe_mkW (mk_Ratio (K := K)) (Sx.FnR.frame (ok_Ratio___init__ (K := K) M)) (hr.mono (by decide)) rfl (g_Ratio (K := K) M) (takes_of rfl rfl rfl rfl) (pa_cons (pe_op op_mulX (pe_fld (pv 0) rfl) (pe_fld (pv 1) rfl)) (pa_cons (pe_op op_mulX (pe_fld (pv 0) rfl) (pe_fld (pv 1) rfl)) pa_nil))))))), fun A => (rs_seq (rs_if (rt_B (re_call (ra_cons re_var ra_nil))) (rs_ret (re_make c_Ratio (ra_cons (re_op rr_mul (re_fld re_var) re_var) (ra_cons (re_fld re_var) ra_nil)))) rs_skip) (rs_seq (rs_if (rt_not (rt_B (re_isiC c_Ratio re_var))) rs_never rs_skip) (rs_ret (re_make c_Ratio (ra_cons (re_op rr_mul (re_fld re_var) (re_fld re_var)) (ra_cons (re_op rr_mul (re_fld re_var) (re_fld re_var)) ra_nil))))))⟩
theorem ok_Ratio___mul__ (M : Mg K mg) : Fn w K mg base 35 (He.ma K (He.ga K "Ratio") "__mul__") (spM K m_Ratio___mul__) := fn_M def_Ratio___mul__ sc_Ratio___mul__ (fun _ _ _ _ _ _ us hl => match us, hl with | [_, _], _ => rfl) (bd_Ratio___mul__ M)
def b_Ratio___rmul__ : M Fl := (mRet (mBin (opC "Ratio" dMul m_Ratio___mul__ (fun _ => .bad)) (mVar 0) (mVar 1)))
theorem sc_Ratio___rmul__ : FnScope ["self", "other"] ["self", "other"] (defScope s_Ratio___rmul__) := ⟨rfl, rfl, rfl, by decide +kernel, rfl, by decide +kernel, by decide +kernel⟩
def m_Ratio___rmul__ : MFn := runM 2 2 b_Ratio___rmul__
theorem bd_Ratio___rmul__ (M : Mg K mg) : Body K PP w mg base d_Ratio___rmul__.qual (defScope s_Ratio___rmul__) (He.fAd K d_Ratio___rmul__.at_) ["self", "other"] 35 (defBody s_Ratio___rmul__) b_Ratio___rmul__ := fun cdv A outer s H E hr => ⟨_, (pss_one (ps_ret (pe_opX into_mul (self_Ratio (K := K)) ((Rows.ok _ (c_Ratio (K := K))).kb "int" (by decide)) (dn_mul ▸ Sx.m_Ratio___mul__ (K := K)) (dr_mul ▸ Sx.m_Ratio___rmul__ (K := K)) (Sx.FnR.frame (ok_Ratio___mul__ (K := K) M)) (fnr_falseM (K := K)) (hr.mono (by decide)) (hr.mono (by decide)) (takes_of rfl rfl rfl rfl) op_mulX (pv 0) (pv 1)))), fun A => (rs_ret (re_opX rr_mul re_var re_var))⟩
theorem ok_Ratio___rmul__ (M : Mg K mg) : Fn w K mg base 36 (He.ma K (He.ga K "Ratio") "__rmul__") (spM K m_Ratio___rmul__) := fn_M def_Ratio___rmul__ sc_Ratio___rmul__ (fun _ _ _ _ _ _ us hl => match us, hl with | [_, _], _ => rfl) (bd_Ratio___rmul__ M)
def b_Ratio_over : M Fl := (mSeq (mIfS (mB (mCall m_is_integer (mCons (mVar 1) mNil))) (mAsg 1 (mMake "Ratio" m_Ratio___init___1 (mCons (mVar 1) mNil))) mSkip) (mSeq (mIfS (mB (mBin dEq (mFld "top" (mVar 1)) (mC (.int 0)))) (mRaise "NoRatio" "word" (mCons (mC (.str "zero")) mNil)) mSkip) (mRet (mMake "Ratio" m_Ratio___init__ (mCons (mBin dMul (mFld "top" (mVar 0)) (mFld "bottom" (mVar 1))) (mCons (mBin dMul (mFld "bottom" (mVar 0)) (mFld "top" (mVar 1))) mNil))))))
theorem sc_Ratio_over : FnScope ["self", "other"] ["self", "other"] (defScope s_Ratio_over) := ⟨rfl, rfl, rfl, by decide +kernel, rfl, by decide +kernel, by decide +kernel⟩
def m_Ratio_over : MFn := runM 2 2 b_Ratio_over
theorem bd_Ratio_over (M : Mg K mg) : Body K PP w mg base d_Ratio_over.qual (defScope s_Ratio_over) (He.fAd K d_Ratio_over.at_) ["self", "other"] 34 (defBody s_Ratio_over) b_Ratio_over := fun cdv A outer s H E hr => ⟨_, (pss_cons (ps_if (pt_val (pe_fnW (Sx.FnR.frame (ok_is_integer (K := K) M)) (hr.mono (by decide)) rfl (g_is_integer (K := K) M) (kp_is_integer (K := K)) (takes_of rfl rfl rfl rfl) (pa_cons (pv 1) pa_nil))) (pss_one (ps_set (i := 1) sc_Ratio_over.nd rfl (by first | exact Or.inl rfl | exact Or.inr rfl) (pe_mkW (mk_Ratio (K := K)) (Sx.FnR.frame (ok_Ratio___init___1 (K := K) M)) (hr.mono (by decide)) rfl (g_Ratio (K := K) M) (takes_of rfl rfl rfl rfl) (pa_cons (pv 1) pa_nil)))) pss_nil) (pss_cons (ps_if (pt_cmpR op_eq (pe_fld (pv 1) rfl) pe_int (nomark _)) (pss_one (ps_raise rfl (takes_of rfl rfl rfl rfl) (pmk_sup rfl (sup_NoRatio (K := K)).1 (sup_NoRatio (K := K)).2.1 (sup_NoRatio (K := K)).2.2 (hr.mono (by decide)) rfl (g_NoRatio (K := K) M) (pa_cons pe_str pa_nil)))) pss_nil) (pss_one (ps_ret (pe_mkW (mk_Ratio (K := K)) (Sx.FnR.frame (ok_Ratio___init__ (K := K) M)) (hr.mono (by decide)) rfl (g_Ratio (K := K) M) (takes_of rfl rfl rfl rfl) (pa_cons (pe_op op_mulX (pe_fld (pv 0) rfl) (pe_fld (pv 1) rfl)) (pa_cons (pe_op op_mulX (pe_fld (pv 0) rfl) (pe_fld (pv 1) rfl)) pa_nil))))))), fun A => (rs_seq (rs_if (rt_B (re_call (ra_cons re_var ra_nil))) (rs_asg (re_make c_Ratio (ra_cons re_var ra_nil))) rs_skip) (rs_seq (rs_if (rt_test (re_op rr_eq (re_fld re_var) re_int)) (rs_raise x_NoRatio (ra_cons re_str ra_nil)) rs_skip) (rs_ret (re_make c_Ratio (ra_cons (re_op rr_mul (re_fld re_var) (re_fld re_var)) (ra_cons (re_op rr_mul (re_fld re_var) (re_fld re_var)) ra_nil))))))⟩
theorem ok_Ratio_over (M : Mg K mg) : Fn w K mg base 35 (He.ma K (He.ga K "Ratio") "over") (spM K m_Ratio_over) := fn_M def_Ratio_over sc_Ratio_over (fun _ _ _ _ _ _ us hl => match us, hl with | [_, _], _ => rfl) (bd_Ratio_over M)
def b_Field_over : M Fl := (mSeq (mAsg 3 (mMeth "Field" "number" m_Field_number (mVar 0) (mCons (mVar 1) mNil))) (mSeq (mAsg 4 (mMeth "Field" "number" m_Field_number (mVar 0) (mCons (mVar 2) mNil))) (mSeq (mIfS (mB (mBin (dEqA false T_Ratio 0) (mVar 4) (mC (.int 0)))) (mRaise0 "NoNumber") mSkip) (mSeq (mIfS (mB (mBin dEq (mFld "prime" (mVar 0)) (mC (.int 0)))) (mRet (mMeth "Ratio" "over" m_Ratio_over (mVar 3) (mCons (mVar 4) mNil))) mSkip) (mRet (mBin dMod (mBin dMul (mVar 3) (mCall m_inverse (mCons (mVar 4) (mCons (mFld "prime" (mVar 0)) mNil)))) (mFld "prime" (mVar 0))))))))
theorem sc_Field_over : FnScope ["self", "one", "other", "top", "bottom"] ["self", "one", "other"] (defScope s_Field_over) := ⟨rfl, rfl, rfl, by decide +kernel, rfl, by decide +kernel, by decide +kernel⟩
def m_Field_over : MFn := runM 5 3 b_Field_over
theorem bd_Field_over (M : Mg K mg) : Body K PP w mg base d_Field_over.qual (defScope s_Field_over) (He.fAd K d_Field_over.at_) ["self", "one", "other", "top", "bottom"] 35 (defBody s_Field_over) b_Field_over := fun cdv A outer s H E hr => ⟨_, (pss_cons (ps_set (i := 3) sc_Field_over.nd rfl (by first | exact Or.inl rfl | exact Or.inr rfl) (pe_meW (pv 0) (Sx.IsCls.cl (K := K) (C := "Field")) (Sx.m_Field_number (K := K)) (Sx.FnR.frame (ok_Field_number (K := K) M)) (hr.mono (by decide)) (takes_of rfl rfl rfl rfl) (pa_cons (pv 1) pa_nil))) (pss_cons (ps_set (i := 4) sc_Field_over.nd rfl (by first | exact Or.inl rfl | exact Or.inr rfl) (pe_meW (pv 0) (Sx.IsCls.cl (K := K) (C := "Field")) (Sx.m_Field_number (K := K)) (Sx.FnR.frame (ok_Field_number (K := K) M)) (hr.mono (by decide)) (takes_of rfl rfl rfl rfl) (pa_cons (pv 2) pa_nil))) (pss_cons (ps_if (pt_eqE (n := 0) (et_Ratio (K := K) M) (hr.mono (by decide)) (pv 4) pe_int) (pss_one (ps_raise rfl (takes_of rfl rfl rfl rfl) (pmk_none (oex_NoNumber (K := K)) (noini_NoNumber (K := K)) rfl (g_NoNumber (K := K) M)))) pss_nil) (pss_cons (ps_if (pt_cmpR op_eq (pe_fld (pv 0) rfl) pe_int (nomark _)) (pss_one (ps_ret (pe_meW (pv 3) (Sx.IsCls.cl (K := K) (C := "Ratio")) (Sx.m_Ratio_over (K := K)) (Sx.FnR.frame (ok_Ratio_over (K := K) M)) (hr.mono (by decide)) (takes_of rfl rfl rfl rfl) (pa_cons (pv 4) pa_nil)))) pss_nil) (pss_one (ps_ret (pe_op op_modX (pe_op op_mulX (pv 3) (pe_fnW (Sx.FnR.frame (ok_inverse (K := K) M)) (hr.mono (by decide)) rfl (g_inverse (K := K) M) (kp_inverse (K := K)) (takes_of rfl rfl rfl rfl) (pa_cons (pv 4) (pa_cons (pe_fld (pv 0) rfl) pa_nil)))) (pe_fld (pv 0) rfl)))))))), fun A => (rs_seq (rs_asg (re_meth re_var (ra_cons re_var ra_nil))) (rs_seq (rs_asg (re_meth re_var (ra_cons re_var ra_nil))) (rs_seq (rs_if (rt_test (re_eqA re_var re_int)) (rs_raise0 x_NoNumber) rs_skip) (rs_seq (rs_if (rt_test (re_op rr_eq (re_fld re_var) re_int)) (rs_ret (re_meth re_var (ra_cons re_var ra_nil))) rs_skip) (rs_ret (re_op rr_mod (re_op rr_mul re_var (re_call (ra_cons re_var (ra_cons (re_fld re_var) ra_nil)))) (re_fld re_var)))))))⟩
theorem ok_Field_over (M : Mg K mg) : Fn w K mg base 36 (He.ma K (He.ga K "Field") "over") (spM K m_Field_over) := fn_M def_Field_over sc_Field_over (fun _ _ _ _ _ _ us hl => match us, hl with | [_, _, _], _ => rfl) (bd_Field_over M)
end
end Mi

namespace Mi
open PySem PySem.Spec PyProof.Rows L2 Sx
noncomputable section
variable {w : World} {K : PySem.W.Frag} [Sy K] {mg : Str → Option Value} {base : Heap}

def b__law_divided : M Fl := (mSeq (mTry "NoNumber" (mAsg 3 (mMeth "Field" "over" m_Field_over (mVar 0) (mCons (mVar 1) (mCons (mVar 2) mNil)))) (mRet (mTup (mCons (mC (.str "refused")) (mCons (mC (.int 0)) mNil))))) (mRet (mTup (mCons (mC (.str "made")) (mCons (mVar 3) mNil)))))
theorem sc__law_divided : FnScope ["_law_field_here", "_law_one", "_law_other", "_law_found"] ["_law_field_here", "_law_one", "_law_other"] (defScope s__law_divided) := ⟨rfl, rfl, rfl, by decide +kernel, rfl, by decide +kernel, by decide +kernel⟩
def m__law_divided : MFn := runM 4 3 b__law_divided
theorem bd__law_divided (M : Mg K mg) : Body K PP w mg base d__law_divided.qual (defScope s__law_divided) (He.fAd K d__law_divided.at_) ["_law_field_here", "_law_one", "_law_other", "_law_found"] 36 (defBody s__law_divided) b__law_divided := fun cdv A outer s H E hr => ⟨_, (pss_cons (ps_try_only rfl rfl ⟨rfl, by decide, .inl (g_NoNumber (K := K) M)⟩ (takes_of rfl rfl rfl rfl) (fun W pn xe tk pown => (pss_one (ps_set (i := 3) sc__law_divided.nd rfl (by first | exact Or.inl rfl | exact Or.inr rfl) (pe_meW (pv 0) (Sx.IsCls.cl (K := K) (C := "Field")) (Sx.m_Field_over (K := K)) (Sx.FnR.frame (ok_Field_over (K := K) M)) (hr.mono (by decide)) tk (pa_cons (pv 1) (pa_cons (pv 2) pa_nil)))))) (fun a oe cls d pn hz hf => (pss_one (ps_ret (pe_tup (pa_cons pe_str (pa_cons pe_int pa_nil))))))) (pss_one (ps_ret (pe_tup (pa_cons pe_str (pa_cons (pv 3) pa_nil)))))), fun A => (rs_seq (rs_tryO x_NoNumber (fun _ => (rs_asg (re_meth re_var (ra_cons re_var (ra_cons re_var ra_nil))))) (fun _ _ _ => (rs_ret (re_tup (ra_cons re_str (ra_cons re_int ra_nil)))))) (rs_ret (re_tup (ra_cons re_str (ra_cons re_var ra_nil)))))⟩
theorem ok__law_divided (M : Mg K mg) : Fn w K mg base 37 (He.ga K "_law_divided") (spM K m__law_divided) := fn_M def__law_divided sc__law_divided (fun _ _ _ _ _ _ us hl => match us, hl with | [_, _, _], _ => rfl) (bd__law_divided M)
def b__law_called : M Fl := (mSeq (mTry "NoNumber" (mAsg 2 (mMeth "Field" "number" m_Field_number (mVar 0) (mCons (mVar 1) mNil))) (mRet (mTup (mCons (mC (.str "refused")) (mCons (mC (.int 0)) mNil))))) (mRet (mTup (mCons (mC (.str "made")) (mCons (mVar 2) mNil)))))
theorem sc__law_called : FnScope ["_law_field_here", "_law_value", "_law_found"] ["_law_field_here", "_law_value"] (defScope s__law_called) := ⟨rfl, rfl, rfl, by decide +kernel, rfl, by decide +kernel, by decide +kernel⟩
def m__law_called : MFn := runM 3 2 b__law_called
theorem bd__law_called (M : Mg K mg) : Body K PP w mg base d__law_called.qual (defScope s__law_called) (He.fAd K d__law_called.at_) ["_law_field_here", "_law_value", "_law_found"] 35 (defBody s__law_called) b__law_called := fun cdv A outer s H E hr => ⟨_, (pss_cons (ps_try_only rfl rfl ⟨rfl, by decide, .inl (g_NoNumber (K := K) M)⟩ (takes_of rfl rfl rfl rfl) (fun W pn xe tk pown => (pss_one (ps_set (i := 2) sc__law_called.nd rfl (by first | exact Or.inl rfl | exact Or.inr rfl) (pe_meW (pv 0) (Sx.IsCls.cl (K := K) (C := "Field")) (Sx.m_Field_number (K := K)) (Sx.FnR.frame (ok_Field_number (K := K) M)) (hr.mono (by decide)) tk (pa_cons (pv 1) pa_nil))))) (fun a oe cls d pn hz hf => (pss_one (ps_ret (pe_tup (pa_cons pe_str (pa_cons pe_int pa_nil))))))) (pss_one (ps_ret (pe_tup (pa_cons pe_str (pa_cons (pv 2) pa_nil)))))), fun A => (rs_seq (rs_tryO x_NoNumber (fun _ => (rs_asg (re_meth re_var (ra_cons re_var ra_nil)))) (fun _ _ _ => (rs_ret (re_tup (ra_cons re_str (ra_cons re_int ra_nil)))))) (rs_ret (re_tup (ra_cons re_str (ra_cons re_var ra_nil)))))⟩
theorem ok__law_called (M : Mg K mg) : Fn w K mg base 36 (He.ga K "_law_called") (spM K m__law_called) := fn_M def__law_called sc__law_called (fun _ _ _ _ _ _ us hl => match us, hl with | [_, _], _ => rfl) (bd__law_called M)
def lb__law_strange_0 : M Fl := (mSeq (mIfS (mOr (mB (mBin (dEqA true T_Ratio 1) (mCall m__law_called (mCons (mVar 0) (mCons (mVar 2) mNil))) (mTup (mCons (mC (.str "refused")) (mCons (mC (.int 0)) mNil))))) (mB (mBin (dEqA true T_Ratio 1) (mCall m__law_divided (mCons (mVar 0) (mCons (mVar 2) (mCons (mVar 1) mNil)))) (mTup (mCons (mC (.str "refused")) (mCons (mC (.int 0)) mNil)))))) (mRet (mC (.bl false))) mSkip) (mIfS (mB (mBin (dEqA true T_Ratio 1) (mCall m__law_divided (mCons (mVar 0) (mCons (mVar 1) (mCons (mVar 2) mNil)))) (mTup (mCons (mC (.str "refused")) (mCons (mC (.int 0)) mNil))))) (mRet (mC (.bl false))) mSkip))
def b__law_strange : M Fl := (mSeq (mFor (mItQ (mFrz (mLst (mCons (mC (.str "1")) (mCons (mC (.bl true)) (mCons (mC .non) (mCons (mFrz (mLst (mCons (mC (.int 1)) mNil))) (mCons (mTup (mCons (mC (.int 1)) (mCons (mC (.int 2)) mNil))) (mCons (mC (.str "")) (mCons (mC (.bl false)) (mCons mDic mNil))))))))))) (gV 2) lb__law_strange_0) (mRet (mBin (dEqA false T_Ratio 1) (mCall m__law_divided (mCons (mVar 0) (mCons (mVar 1) (mCons (mC (.int 0)) mNil)))) (mTup (mCons (mC (.str "refused")) (mCons (mC (.int 0)) mNil))))))
theorem sc__law_strange : FnScope ["_law_field_here", "_law_good", "_law_thing"] ["_law_field_here", "_law_good"] (defScope s__law_strange) := ⟨rfl, rfl, rfl, by decide +kernel, rfl, by decide +kernel, by decide +kernel⟩
def m__law_strange : MFn := runM 3 2 b__law_strange
theorem bd__law_strange (M : Mg K mg) : Body K PP w mg base d__law_strange.qual (defScope s__law_strange) (He.fAd K d__law_strange.at_) ["_law_field_here", "_law_good", "_law_thing"] 37 (defBody s__law_strange) b__law_strange := fun cdv A outer s H E hr => ⟨_, (pss_cons (ps_for (passes_of rfl) rfl (pi_seq (pe_lst (pa_cons pe_str (pa_cons pe_bl (pa_cons pe_non (pa_cons (pe_lst (pa_cons pe_int pa_nil)) (pa_cons (pe_tup (pa_cons pe_int (pa_cons pe_int pa_nil))) (pa_cons pe_str (pa_cons pe_bl (pa_cons pe_dnewK pa_nil)))))))))) (pg_name (i := 2) sc__law_strange.nd rfl (by first | exact Or.inl rfl | exact Or.inr rfl)) (pss_cons (ps_if (PW.pt (pw_or (pt_neE (n := 1) (et_Ratio (K := K) M) (hr.mono (by decide)) (pe_fnW (Sx.FnR.frame (ok__law_called (K := K) M)) (hr.mono (by decide)) rfl (g__law_called (K := K) M) (kp__law_called (K := K)) (takes_of rfl rfl rfl rfl) (pa_cons (pv 0) (pa_cons (pv 2) pa_nil))) (pe_tup (pa_cons pe_str (pa_cons pe_int pa_nil)))) (pw_or1 (pt_neE (n := 1) (et_Ratio (K := K) M) (hr.mono (by decide)) (pe_fnW (Sx.FnR.frame (ok__law_divided (K := K) M)) (hr.mono (by decide)) rfl (g__law_divided (K := K) M) (kp__law_divided (K := K)) (takes_of rfl rfl rfl rfl) (pa_cons (pv 0) (pa_cons (pv 2) (pa_cons (pv 1) pa_nil)))) (pe_tup (pa_cons pe_str (pa_cons pe_int pa_nil))))))) (pss_one (ps_ret pe_bl)) pss_nil) (pss_one (ps_if (pt_neE (n := 1) (et_Ratio (K := K) M) (hr.mono (by decide)) (pe_fnW (Sx.FnR.frame (ok__law_divided (K := K) M)) (hr.mono (by decide)) rfl (g__law_divided (K := K) M) (kp__law_divided (K := K)) (takes_of rfl rfl rfl rfl) (pa_cons (pv 0) (pa_cons (pv 1) (pa_cons (pv 2) pa_nil)))) (pe_tup (pa_cons pe_str (pa_cons pe_int pa_nil)))) (pss_one (ps_ret pe_bl)) pss_nil)))) (pss_one (ps_ret (pe_eqE (n := 1) (et_Ratio (K := K) M) (hr.mono (by decide)) (pe_fnW (Sx.FnR.frame (ok__law_divided (K := K) M)) (hr.mono (by decide)) rfl (g__law_divided (K := K) M) (kp__law_divided (K := K)) (takes_of rfl rfl rfl rfl) (pa_cons (pv 0) (pa_cons (pv 1) (pa_cons pe_int pa_nil)))) (pe_tup (pa_cons pe_str (pa_cons pe_int pa_nil))))))), fun A => (rs_seq (rs_for (ri_seq (re_frz (rn_lst (ra_cons re_str (ra_cons re_bl (ra_cons re_non (ra_cons (re_frz (rn_lst (ra_cons re_int ra_nil))) (ra_cons (re_tup (ra_cons re_int (ra_cons re_int ra_nil))) (ra_cons re_str (ra_cons re_bl (ra_cons re_dic ra_nil))))))))))) rg_name (rs_seq (rs_if (rt_or (rt_test (re_eqA (re_call (ra_cons re_var (ra_cons re_var ra_nil))) (re_tup (ra_cons re_str (ra_cons re_int ra_nil))))) (rt_test (re_eqA (re_call (ra_cons re_var (ra_cons re_var (ra_cons re_var ra_nil)))) (re_tup (ra_cons re_str (ra_cons re_int ra_nil)))))) (rs_ret re_bl) rs_skip) (rs_if (rt_test (re_eqA (re_call (ra_cons re_var (ra_cons re_var (ra_cons re_var ra_nil)))) (re_tup (ra_cons re_str (ra_cons re_int ra_nil))))) (rs_ret re_bl) rs_skip))) (rs_ret (re_eqA (re_call (ra_cons re_var (ra_cons re_var (ra_cons re_int ra_nil)))) (re_tup (ra_cons re_str (ra_cons re_int ra_nil))))))⟩
theorem ok__law_strange (M : Mg K mg) : Fn w K mg base 38 (He.ga K "_law_strange") (spM K m__law_strange) := fn_M def__law_strange sc__law_strange (fun _ _ _ _ _ _ us hl => match us, hl with | [_, _], _ => rfl) (bd__law_strange M)
def b__law_is_integer : M Fl := (mRet (mAndV (mIsi (.b "int") (mVar 0)) (mNotV (mIsi (.b "bool") (mVar 0)))))
theorem sc__law_is_integer : FnScope ["_law_told"] ["_law_told"] (defScope s__law_is_integer) := ⟨rfl, rfl, rfl, by decide +kernel, rfl, by decide +kernel, by decide +kernel⟩
def m__law_is_integer : MFn := runM 1 1 b__law_is_integer
theorem bd__law_is_integer (M : Mg K mg) : Body K PP w mg base d__law_is_integer.qual (defScope s__law_is_integer) (He.fAd K d__law_is_integer.at_) ["_law_told"] 3 (defBody s__law_is_integer) b__law_is_integer := fun cdv A outer s H E hr => ⟨_, (pss_one (ps_ret (pe_and (pe_callB call_isi (by rfl) (f_isinstance (K := K) M) (by decide +kernel) (pa_cons (pv 0) (pa_cons (pe_bltn (v := .ty "int") (by rfl) (f_int (K := K) M) (by decide +kernel) rfl) pa_nil))) (pe_one (pe_not (pe_callB call_isi (by rfl) (f_isinstance (K := K) M) (by decide +kernel) (pa_cons (pv 0) (pa_cons (pe_bltn (v := .ty "bool") (by rfl) (f_bool (K := K) M) (by decide +kernel) rfl) pa_nil)))))))), fun A => (rs_ret (re_and (re_isiB (by decide) re_var) (re_not (re_isiB (by decide) re_var))))⟩
theorem ok__law_is_integer (M : Mg K mg) : Fn w K mg base 4 (He.ga K "_law_is_integer") (spM K m__law_is_integer) := fn_M def__law_is_integer sc__law_is_integer (fun _ _ _ _ _ _ us hl => match us, hl with | [_], _ => rfl) (bd__law_is_integer M)
def lc__law_gcd_0 : M Bool := (mB (mBin dNe (mVar 1) (mC (.int 0))))
def lb__law_gcd_1 : M Fl := (mPar 0 1 (mCons (mVar 1) (mCons (mBin dMod (mCB dInt (mCons (mVar 0) mNil)) (mVar 1)) mNil)))
def b__law_gcd : M Fl := (mSeq (mWhile lc__law_gcd_0 lb__law_gcd_1) (mRet (mCB dAbs (mCons (mVar 0) mNil))))
theorem sc__law_gcd : FnScope ["_law_one", "_law_other"] ["_law_one", "_law_other"] (defScope s__law_gcd) := ⟨rfl, rfl, rfl, by decide +kernel, rfl, by decide +kernel, by decide +kernel⟩
def m__law_gcd : MFn := runM 2 2 b__law_gcd
theorem bd__law_gcd (M : Mg K mg) : Body K PP w mg base d__law_gcd.qual (defScope s__law_gcd) (He.fAd K d__law_gcd.at_) ["_law_one", "_law_other"] 3 (defBody s__law_gcd) b__law_gcd := fun cdv A outer s H E hr => ⟨_, (pss_cons (ps_while (passes_of rfl) (pt_cmpR op_ne (pv 1) pe_int (nomark _)) (pss_one (ps_par (i := 0) (j := 1) (by rfl) sc__law_gcd.nd rfl rfl (by decide) rfl rfl (pa_cons (pv 1) (pa_cons (pe_op op_modX (pe_callTy Sx.call_intN (by rfl) (f_int (K := K) M) (by decide +kernel) (pa_cons (pv 0) pa_nil)) (pv 1)) pa_nil)) (by rfl)))) (pss_one (ps_ret (pe_callB Sx.call_absN (by rfl) (f_abs (K := K) M) (by decide +kernel) (pa_cons (pv 0) pa_nil))))), fun A => (rs_seq (rs_while (rt_test (re_op rr_ne re_var re_int)) (rs_par (ra_cons re_var (ra_cons (re_op rr_mod (re_CB rc_int (ra_cons re_var ra_nil)) re_var) ra_nil)))) (rs_ret (re_CB rc_abs (ra_cons re_var ra_nil))))⟩
theorem ok__law_gcd (M : Mg K mg) : Fn w K mg base 4 (He.ga K "_law_gcd") (spM K m__law_gcd) := fn_M def__law_gcd sc__law_gcd (fun _ _ _ _ _ _ us hl => match us, hl with | [_, _], _ => rfl) (bd__law_gcd M)
def b__law_right : M Fl := (mSeq (mIfS (mB (mBin dEq (mVar 0) (mC (.int 0)))) (mSeq (mIfS (mOr (mB (mBin dNe (mBin dIx (mVar 3) (mC (.int 0))) (mC (.str "made")))) (mNot (mB (mIsi (.c "Ratio") (mBin dIx (mVar 3) (mC (.int 1))))))) (mRet (mC (.bl false))) mSkip) (mRet (mAndV (mBin dGe (mFld "bottom" (mBin dIx (mVar 3) (mC (.int 1)))) (mC (.int 1))) (mBin dEq (mBin dMul (mFld "top" (mBin dIx (mVar 3) (mC (.int 1)))) (mVar 2)) (mBin dMul (mVar 1) (mFld "bottom" (mBin dIx (mVar 3) (mC (.int 1))))))))) mSkip) (mSeq (mAsg 4 (mCall m__law_gcd (mCons (mVar 1) (mCons (mVar 2) mNil)))) (mSeq (mPar 1 2 (mCons (mBin dDiv (mVar 1) (mVar 4)) (mCons (mBin dDiv (mVar 2) (mVar 4)) mNil))) (mSeq (mIfS (mB (mBin dEq (mBin dMod (mCB dInt (mCons (mVar 2) mNil)) (mVar 0)) (mC (.int 0)))) (mRet (mBin (dEqA false T_Ratio 1) (mVar 3) (mTup (mCons (mC (.str "refused")) (mCons (mC (.int 0)) mNil))))) mSkip) (mSeq (mIfS (mOr (mB (mBin dNe (mBin dIx (mVar 3) (mC (.int 0))) (mC (.str "made")))) (mOr (mNot (mB (mCall m__law_is_integer (mCons (mBin dIx (mVar 3) (mC (.int 1))) mNil)))) (mNot (mB (mChain dLe dLt (mC (.int 0)) (mBin dIx (mVar 3) (mC (.int 1))) (mVar 0)))))) (mRet (mC (.bl false))) mSkip) (mRet (mBin dEq (mBin dMod (mCB dInt (mCons (mBin dSub (mBin dMul (mBin dIx (mVar 3) (mC (.int 1))) (mVar 2)) (mVar 1)) mNil)) (mVar 0)) (mC (.int 0)))))))))
theorem sc__law_right : FnScope ["_law_modulus", "_law_top", "_law_bottom", "_law_told", "_law_shared"] ["_law_modulus", "_law_top", "_law_bottom", "_law_told"] (defScope s__law_right) := ⟨rfl, rfl, rfl, by decide +kernel, rfl, by decide +kernel, by decide +kernel⟩
def m__law_right : MFn := runM 5 4 b__law_right
theorem bd__law_right (M : Mg K mg) : Body K PP w mg base d__law_right.qual (defScope s__law_right) (He.fAd K d__law_right.at_) ["_law_modulus", "_law_top", "_law_bottom", "_law_told", "_law_shared"] 32 (defBody s__law_right) b__law_right := fun cdv A outer s H E hr => ⟨_, (pss_cons (ps_if (pt_cmpR op_eq (pv 0) pe_int (nomark _)) (pss_cons (ps_if (PW.pt (pw_or (pt_cmpR op_ne (pe_ix ix_seq (pv 3) pe_int (fun _ _ => rfl)) pe_str (nomark _)) (pw_or1 (pt_not (pt_val (pe_callB call_isi (by rfl) (f_isinstance (K := K) M) (by decide +kernel) (pa_cons (pe_ix ix_seq (pv 3) pe_int (fun _ _ => rfl)) (pa_cons (pe_glob (v := .ref (He.ga _ "Ratio")) rfl (g_Ratio (K := K) M) rfl) pa_nil)))))))) (pss_one (ps_ret pe_bl)) pss_nil) (pss_one (ps_ret (pe_and (pe_cmpR op_ge (pe_fld (pe_ix ix_seq (pv 3) pe_int (fun _ _ => rfl)) rfl) pe_int (nomark _)) (pe_one (pe_cmpR op_eq (pe_op op_mulX (pe_fld (pe_ix ix_seq (pv 3) pe_int (fun _ _ => rfl)) rfl) (pv 2)) (pe_op op_mulX (pv 1) (pe_fld (pe_ix ix_seq (pv 3) pe_int (fun _ _ => rfl)) rfl)) (nomark _))))))) pss_nil) (pss_cons (ps_set (i := 4) sc__law_right.nd rfl (by first | exact Or.inl rfl | exact Or.inr rfl) (pe_fnW (Sx.FnR.frame (ok__law_gcd (K := K) M)) (hr.mono (by decide)) rfl (g__law_gcd (K := K) M) (kp__law_gcd (K := K)) (takes_of rfl rfl rfl rfl) (pa_cons (pv 1) (pa_cons (pv 2) pa_nil)))) (pss_cons (ps_par (i := 1) (j := 2) (by rfl) sc__law_right.nd rfl rfl (by decide) rfl rfl (pa_cons (pe_op (op_fdivP (seer_K (K := K)) (hr.mono (by decide)) rfl rfl rfl rfl rfl rfl) (pv 1) (pv 4)) (pa_cons (pe_op (op_fdivP (seer_K (K := K)) (hr.mono (by decide)) rfl rfl rfl rfl rfl rfl) (pv 2) (pv 4)) pa_nil)) (by rfl)) (pss_cons (ps_if (pt_cmpR op_eq (pe_op op_modX (pe_callTy Sx.call_intN (by rfl) (f_int (K := K) M) (by decide +kernel) (pa_cons (pv 2) pa_nil)) (pv 0)) pe_int (nomark _)) (pss_one (ps_ret (pe_eqE (n := 1) (et_Ratio (K := K) M) (hr.mono (by decide)) (pv 3) (pe_tup (pa_cons pe_str (pa_cons pe_int pa_nil)))))) pss_nil) (pss_cons (ps_if (PW.pt (pw_or (pt_cmpR op_ne (pe_ix ix_seq (pv 3) pe_int (fun _ _ => rfl)) pe_str (nomark _)) (pw_or (pt_not (pt_val (pe_fnW (Sx.FnR.frame (ok__law_is_integer (K := K) M)) (hr.mono (by decide)) rfl (g__law_is_integer (K := K) M) (kp__law_is_integer (K := K)) (takes_of rfl rfl rfl rfl) (pa_cons (pe_ix ix_seq (pv 3) pe_int (fun _ _ => rfl)) pa_nil)))) (pw_or1 (pt_not (pt_chain op_le op_lt pe_int (pe_ix ix_seq (pv 3) pe_int (fun _ _ => rfl)) (pv 0))))))) (pss_one (ps_ret pe_bl)) pss_nil) (pss_one (ps_ret (pe_cmpR op_eq (pe_op op_modX (pe_callTy Sx.call_intN (by rfl) (f_int (K := K) M) (by decide +kernel) (pa_cons (pe_op op_sub (pe_op op_mulX (pe_ix ix_seq (pv 3) pe_int (fun _ _ => rfl)) (pv 2)) (pv 1)) pa_nil)) (pv 0)) pe_int (nomark _))))))))), fun A => (rs_seq (rs_if (rt_test (re_op rr_eq re_var re_int)) (rs_seq (rs_if (rt_or (rt_test (re_op rr_ne (re_op rr_ix re_var re_int) re_str)) (rt_not (rt_B (re_isiC c_Ratio (re_op rr_ix re_var re_int))))) (rs_ret re_bl) rs_skip) (rs_ret (re_and (re_op rr_ge (re_fld (re_op rr_ix re_var re_int)) re_int) (re_op rr_eq (re_op rr_mul (re_fld (re_op rr_ix re_var re_int)) re_var) (re_op rr_mul re_var (re_fld (re_op rr_ix re_var re_int))))))) rs_skip) (rs_seq (rs_asg (re_call (ra_cons re_var (ra_cons re_var ra_nil)))) (rs_seq (rs_par (ra_cons (re_op rr_div re_var re_var) (ra_cons (re_op rr_div re_var re_var) ra_nil))) (rs_seq (rs_if (rt_test (re_op rr_eq (re_op rr_mod (re_CB rc_int (ra_cons re_var ra_nil)) re_var) re_int)) (rs_ret (re_eqA re_var (re_tup (ra_cons re_str (ra_cons re_int ra_nil))))) rs_skip) (rs_seq (rs_if (rt_or (rt_test (re_op rr_ne (re_op rr_ix re_var re_int) re_str)) (rt_or (rt_not (rt_B (re_call (ra_cons (re_op rr_ix re_var re_int) ra_nil)))) (rt_not (rt_test (re_chain rr_le rr_lt re_int (re_op rr_ix re_var re_int) re_var))))) (rs_ret re_bl) rs_skip) (rs_ret (re_op rr_eq (re_op rr_mod (re_CB rc_int (ra_cons (re_op rr_sub (re_op rr_mul (re_op rr_ix re_var re_int) re_var) re_var) ra_nil)) re_var) re_int)))))))⟩
theorem ok__law_right (M : Mg K mg) : Fn w K mg base 33 (He.ga K "_law_right") (spM K m__law_right) := fn_M def__law_right sc__law_right (fun _ _ _ _ _ _ us hl => match us, hl with | [_, _, _, _], _ => rfl) (bd__law_right M)
def b__law_draw : M Fl := (mSeq (mSetV 0 (mC (.int 4)) (mBin dAdd (mIdxV 0 (mC (.int 4))) (mC (.int 1)))) (mSeq (mIfS (mAnd (mB (mBin dLe (mIdxV 0 (mC (.int 2))) (mC (.int 1)))) (mB (mBin dLt (mIdxV 0 (mC (.int 1))) (mCB dLen (mCons (mIdxV 0 (mC (.int 0))) mNil))))) (mSeq (mAsg 3 (mBin dIx (mIdxV 0 (mC (.int 0))) (mIdxV 0 (mC (.int 1))))) (mSeq (mSetV 0 (mC (.int 1)) (mBin dAdd (mIdxV 0 (mC (.int 1))) (mC (.int 1)))) (mIfS (mB (mBin dGe (mCB dAbs (mCons (mVar 3) mNil)) (mBin dPow (mC (.int 10)) (mC (.int 18))))) (mSetV 0 (mC (.int 2)) (mCB dAbs (mCons (mVar 3) mNil))) (mSeq (mSetV 0 (mC (.int 2)) (mC (.int 0))) (mSetV 0 (mC (.int 3)) (mBin dMod (mCB dInt (mCons (mBin dAdd (mBin dAdd (mBin dMul (mIdxV 0 (mC (.int 3))) (mC (.int 69621))) (mVar 3)) (mBin dMul (mC (.int 30103)) (mIdxV 0 (mC (.int 4))))) mNil)) (mC (.int 2147483629)))))))) mSkip) (mSeq (mIfS (mB (mBin dGt (mIdxV 0 (mC (.int 2))) (mC (.int 1)))) (mSeq (mAsg 4 (mBin dMod (mCB dInt (mCons (mIdxV 0 (mC (.int 2))) mNil)) (mVar 1))) (mSeq (mSetV 0 (mC (.int 2)) (mBin dDiv (mIdxV 0 (mC (.int 2))) (mVar 1))) (mRet (mVar 4)))) mSkip) (mSeq (mSetV 0 (mC (.int 3)) (mBin dMod (mCB dInt (mCons (mBin dAdd (mBin dAdd (mBin dMul (mIdxV 0 (mC (.int 3))) (mC (.int 48271))) (mBin dMul (mC (.int 7919)) (mIdxV 0 (mC (.int 4))))) (mC (.int 1))) mNil)) (mC (.int 2147483647)))) (mSeq (mAsg 2 (mBin dMod (mCB dInt (mCons (mBin dMul (mIdxV 0 (mC (.int 3))) (mBin dAdd (mBin dDiv (mIdxV 0 (mC (.int 3))) (mC (.int 1009))) (mC (.int 69621)))) mNil)) (mC (.int 2147483399)))) (mRet (mBin dMod (mBin dDiv (mVar 2) (mC (.int 16))) (mVar 1))))))))
theorem sc__law_draw : FnScope ["_law_state_here", "_law_many", "_law_twice", "_law_item", "_law_found"] ["_law_state_here", "_law_many"] (defScope s__law_draw) := ⟨rfl, rfl, rfl, by decide +kernel, rfl, by decide +kernel, by decide +kernel⟩
def m__law_draw : MFr := runR 5 2 b__law_draw
theorem bd__law_draw (M : Mg K mg) : Body K PP w mg base d__law_draw.qual (defScope s__law_draw) (He.fAd K d__law_draw.at_) ["_law_state_here", "_law_many", "_law_twice", "_law_item", "_law_found"] 32 (defBody s__law_draw) b__law_draw := fun cdv A outer s H E hr => ⟨_, (pss_cons (ps_asg (pe_op op_add (pe_ix ix_list (pv 0) pe_int (fun _ _ => rfl)) pe_int) (pg_sub (pv 0) pe_int set_list)) (pss_cons (ps_if (PW.pt (pw_and (pt_cmpR op_le (pe_ix ix_list (pv 0) pe_int (fun _ _ => rfl)) pe_int (nomark _)) (pw_and1 (pt_cmpR op_lt (pe_ix ix_list (pv 0) pe_int (fun _ _ => rfl)) (pe_callB Sx.call_lenN (by rfl) (f_len (K := K) M) (by decide +kernel) (pa_cons (pe_ix ix_list (pv 0) pe_int (fun _ _ => rfl)) pa_nil)) (nomark _))))) (pss_cons (ps_set (i := 3) sc__law_draw.nd rfl (by first | exact Or.inl rfl | exact Or.inr rfl) (pe_ix ix_seq (pe_ix ix_list (pv 0) pe_int (fun _ _ => rfl)) (pe_ix ix_list (pv 0) pe_int (fun _ _ => rfl)) (fun _ _ => rfl))) (pss_cons (ps_asg (pe_op op_add (pe_ix ix_list (pv 0) pe_int (fun _ _ => rfl)) pe_int) (pg_sub (pv 0) pe_int set_list)) (pss_one (ps_if (pt_cmpR op_ge (pe_callB Sx.call_absN (by rfl) (f_abs (K := K) M) (by decide +kernel) (pa_cons (pv 3) pa_nil)) (pe_op op_pow pe_int pe_int) (nomark _)) (pss_one (ps_asg (pe_callB Sx.call_absN (by rfl) (f_abs (K := K) M) (by decide +kernel) (pa_cons (pv 3) pa_nil)) (pg_sub (pv 0) pe_int set_list))) (pss_cons (ps_asg pe_int (pg_sub (pv 0) pe_int set_list)) (pss_one (ps_asg (pe_op op_modX (pe_callTy Sx.call_intN (by rfl) (f_int (K := K) M) (by decide +kernel) (pa_cons (pe_op op_add (pe_op op_add (pe_op op_mulX (pe_ix ix_list (pv 0) pe_int (fun _ _ => rfl)) pe_int) (pv 3)) (pe_op op_mulX pe_int (pe_ix ix_list (pv 0) pe_int (fun _ _ => rfl)))) pa_nil)) pe_int) (pg_sub (pv 0) pe_int set_list)))))))) pss_nil) (pss_cons (ps_if (pt_cmpR op_gt (pe_ix ix_list (pv 0) pe_int (fun _ _ => rfl)) pe_int (nomark _)) (pss_cons (ps_set (i := 4) sc__law_draw.nd rfl (by first | exact Or.inl rfl | exact Or.inr rfl) (pe_op op_modX (pe_callTy Sx.call_intN (by rfl) (f_int (K := K) M) (by decide +kernel) (pa_cons (pe_ix ix_list (pv 0) pe_int (fun _ _ => rfl)) pa_nil)) (pv 1))) (pss_cons (ps_asg (pe_op (op_fdivP (seer_K (K := K)) (hr.mono (by decide)) rfl rfl rfl rfl rfl rfl) (pe_ix ix_list (pv 0) pe_int (fun _ _ => rfl)) (pv 1)) (pg_sub (pv 0) pe_int set_list)) (pss_one (ps_ret (pv 4))))) pss_nil) (pss_cons (ps_asg (pe_op op_modX (pe_callTy Sx.call_intN (by rfl) (f_int (K := K) M) (by decide +kernel) (pa_cons (pe_op op_add (pe_op op_add (pe_op op_mulX (pe_ix ix_list (pv 0) pe_int (fun _ _ => rfl)) pe_int) (pe_op op_mulX pe_int (pe_ix ix_list (pv 0) pe_int (fun _ _ => rfl)))) pe_int) pa_nil)) pe_int) (pg_sub (pv 0) pe_int set_list)) (pss_cons (ps_set (i := 2) sc__law_draw.nd rfl (by first | exact Or.inl rfl | exact Or.inr rfl) (pe_op op_modX (pe_callTy Sx.call_intN (by rfl) (f_int (K := K) M) (by decide +kernel) (pa_cons (pe_op op_mulX (pe_ix ix_list (pv 0) pe_int (fun _ _ => rfl)) (pe_op op_add (pe_op (op_fdivP (seer_K (K := K)) (hr.mono (by decide)) rfl rfl rfl rfl rfl rfl) (pe_ix ix_list (pv 0) pe_int (fun _ _ => rfl)) pe_int) pe_int)) pa_nil)) pe_int)) (pss_one (ps_ret (pe_op op_modX (pe_op (op_fdivP (seer_K (K := K)) (hr.mono (by decide)) rfl rfl rfl rfl rfl rfl) (pv 2) pe_int) (pv 1))))))))), fun A => (rs_seq (rs_setV re_int (re_op rr_add (re_idxV re_int) re_int)) (rs_seq (rs_if (rt_and (rt_test (re_op rr_le (re_idxV re_int) re_int)) (rt_test (re_op rr_lt (re_idxV re_int) (re_CB rc_len (ra_cons (re_idxV re_int) ra_nil))))) (rs_seq (rs_asg (re_op rr_ix (re_idxV re_int) (re_idxV re_int))) (rs_seq (rs_setV re_int (re_op rr_add (re_idxV re_int) re_int)) (rs_if (rt_test (re_op rr_ge (re_CB rc_abs (ra_cons re_var ra_nil)) (re_op rr_pow re_int re_int))) (rs_setV re_int (re_CB rc_abs (ra_cons re_var ra_nil))) (rs_seq (rs_setV re_int re_int) (rs_setV re_int (re_op rr_mod (re_CB rc_int (ra_cons (re_op rr_add (re_op rr_add (re_op rr_mul (re_idxV re_int) re_int) re_var) (re_op rr_mul re_int (re_idxV re_int))) ra_nil)) re_int)))))) rs_skip) (rs_seq (rs_if (rt_test (re_op rr_gt (re_idxV re_int) re_int)) (rs_seq (rs_asg (re_op rr_mod (re_CB rc_int (ra_cons (re_idxV re_int) ra_nil)) re_var)) (rs_seq (rs_setV re_int (re_op rr_div (re_idxV re_int) re_var)) (rs_ret re_var))) rs_skip) (rs_seq (rs_setV re_int (re_op rr_mod (re_CB rc_int (ra_cons (re_op rr_add (re_op rr_add (re_op rr_mul (re_idxV re_int) re_int) (re_op rr_mul re_int (re_idxV re_int))) re_int) ra_nil)) re_int)) (rs_seq (rs_asg (re_op rr_mod (re_CB rc_int (ra_cons (re_op rr_mul (re_idxV re_int) (re_op rr_add (re_op rr_div (re_idxV re_int) re_int) re_int)) ra_nil)) re_int)) (rs_ret (re_op rr_mod (re_op rr_div re_var re_int) re_var)))))))⟩
theorem ok__law_draw (M : Mg K mg) : Fn w K mg base 33 (He.ga K "_law_draw") (spR K m__law_draw) := fn_R def__law_draw sc__law_draw (by decide) (fun _ _ _ _ _ _ us hl => match us, hl with | [_, _], _ => rfl) (bd__law_draw M)
def lb__law_great_0 : M Fl := (mAsg 1 (mBin dAdd (mBin dMul (mVar 1) (mBin dPow (mC (.int 10)) (mC (.int 9)))) (mCallR 0 m__law_draw (mCons (mBin dPow (mC (.int 10)) (mC (.int 9))) mNil))))
def b__law_great : M Fl := (mSeq (mAsg 1 (mC (.int 0))) (mSeq (mFor (mItA rng1 (mCons (mCallR 0 m__law_draw (mCons (mC (.int 5)) mNil)) mNil)) (gV 2) lb__law_great_0) (mSeq (mAsg 1 (mBin dAdd (mVar 1) (mCallR 0 m__law_draw (mCons (mC (.int 10)) mNil)))) (mSeq (mIfS (mB (mBin dEq (mCallR 0 m__law_draw (mCons (mC (.int 2)) mNil)) (mC (.int 1)))) (mRet (mUn dNeg (mVar 1))) mSkip) (mRet (mVar 1))))))
theorem sc__law_great : FnScope ["_law_state_here", "_law_found", "_law_k"] ["_law_state_here"] (defScope s__law_great) := ⟨rfl, rfl, rfl, by decide +kernel, rfl, by decide +kernel, by decide +kernel⟩
def m__law_great : MFr := runR 3 1 b__law_great
theorem bd__law_great (M : Mg K mg) : Body K PP w mg base d__law_great.qual (defScope s__law_great) (He.fAd K d__law_great.at_) ["_law_state_here", "_law_found", "_law_k"] 33 (defBody s__law_great) b__law_great := fun cdv A outer s H E hr => ⟨_, (pss_cons (ps_set (i := 1) sc__law_great.nd rfl (by first | exact Or.inl rfl | exact Or.inr rfl) pe_int) (pss_cons (ps_for (passes_of rfl) rfl (pi_range1 rfl (f_range (K := K) M) (pa_cons (pe_fnW (Sx.FnR.frame (ok__law_draw (K := K) M)) (hr.mono (by decide)) rfl (g__law_draw (K := K) M) (kp__law_draw (K := K)) (takes_of rfl rfl rfl rfl) (pa_cons (pv 0) (pa_cons pe_int pa_nil))) pa_nil)) (pg_name (i := 2) sc__law_great.nd rfl (by first | exact Or.inl rfl | exact Or.inr rfl)) (pss_one (ps_set (i := 1) sc__law_great.nd rfl (by first | exact Or.inl rfl | exact Or.inr rfl) (pe_op op_add (pe_op op_mulX (pv 1) (pe_op op_pow pe_int pe_int)) (pe_fnW (Sx.FnR.frame (ok__law_draw (K := K) M)) (hr.mono (by decide)) rfl (g__law_draw (K := K) M) (kp__law_draw (K := K)) (takes_of rfl rfl rfl rfl) (pa_cons (pv 0) (pa_cons (pe_op op_pow pe_int pe_int) pa_nil))))))) (pss_cons (ps_set (i := 1) sc__law_great.nd rfl (by first | exact Or.inl rfl | exact Or.inr rfl) (pe_op op_add (pv 1) (pe_fnW (Sx.FnR.frame (ok__law_draw (K := K) M)) (hr.mono (by decide)) rfl (g__law_draw (K := K) M) (kp__law_draw (K := K)) (takes_of rfl rfl rfl rfl) (pa_cons (pv 0) (pa_cons pe_int pa_nil))))) (pss_cons (ps_if (pt_cmpR op_eq (pe_fnW (Sx.FnR.frame (ok__law_draw (K := K) M)) (hr.mono (by decide)) rfl (g__law_draw (K := K) M) (kp__law_draw (K := K)) (takes_of rfl rfl rfl rfl) (pa_cons (pv 0) (pa_cons pe_int pa_nil))) pe_int (nomark _)) (pss_one (ps_ret (pe_un un_neg (pv 1)))) pss_nil) (pss_one (ps_ret (pv 1))))))), fun A => (rs_seq (rs_asg re_int) (rs_seq (rs_for (ri_rng1 (ra_cons (re_callR (ra_cons re_int ra_nil)) ra_nil)) rg_name (rs_asg (re_op rr_add (re_op rr_mul re_var (re_op rr_pow re_int re_int)) (re_callR (ra_cons (re_op rr_pow re_int re_int) ra_nil))))) (rs_seq (rs_asg (re_op rr_add re_var (re_callR (ra_cons re_int ra_nil)))) (rs_seq (rs_if (rt_test (re_op rr_eq (re_callR (ra_cons re_int ra_nil)) re_int)) (rs_ret (re_un r1_neg re_var)) rs_skip) (rs_ret re_var)))))⟩
theorem ok__law_great (M : Mg K mg) : Fn w K mg base 34 (He.ga K "_law_great") (spR K m__law_great) := fn_R def__law_great sc__law_great (by decide) (fun _ _ _ _ _ _ us hl => match us, hl with | [_], _ => rfl) (bd__law_great M)
def lb__law_is_prime_0 : M Fl := (mIfS (mAnd (mB (mBin dLe (mBin dMul (mVar 1) (mVar 1)) (mVar 0))) (mB (mBin dEq (mBin dMod (mCB dInt (mCons (mVar 0) mNil)) (mVar 1)) (mC (.int 0))))) (mRet (mC (.bl false))) mSkip)
def b__law_is_prime : M Fl := (mSeq (mFor (mItA rng2 (mCons (mC (.int 2)) (mCons (mC (.int 100)) mNil))) (gV 1) lb__law_is_prime_0) (mRet (mBin dGt (mVar 0) (mC (.int 1)))))
theorem sc__law_is_prime : FnScope ["_law_value", "_law_divisor"] ["_law_value"] (defScope s__law_is_prime) := ⟨rfl, rfl, rfl, by decide +kernel, rfl, by decide +kernel, by decide +kernel⟩
def m__law_is_prime : MFn := runM 2 1 b__law_is_prime
theorem bd__law_is_prime (M : Mg K mg) : Body K PP w mg base d__law_is_prime.qual (defScope s__law_is_prime) (He.fAd K d__law_is_prime.at_) ["_law_value", "_law_divisor"] 3 (defBody s__law_is_prime) b__law_is_prime := fun cdv A outer s H E hr => ⟨_, (pss_cons (ps_for (passes_of rfl) rfl (pi_range2 rfl (f_range (K := K) M) (pa_cons pe_int (pa_cons pe_int pa_nil))) (pg_name (i := 1) sc__law_is_prime.nd rfl (by first | exact Or.inl rfl | exact Or.inr rfl)) (pss_one (ps_if (PW.pt (pw_and (pt_cmpR op_le (pe_op op_mulX (pv 1) (pv 1)) (pv 0) (nomark _)) (pw_and1 (pt_cmpR op_eq (pe_op op_modX (pe_callTy Sx.call_intN (by rfl) (f_int (K := K) M) (by decide +kernel) (pa_cons (pv 0) pa_nil)) (pv 1)) pe_int (nomark _))))) (pss_one (ps_ret pe_bl)) pss_nil))) (pss_one (ps_ret (pe_cmpR op_gt (pv 0) pe_int (nomark _))))), fun A => (rs_seq (rs_for (ri_rng2 (ra_cons re_int (ra_cons re_int ra_nil))) rg_name (rs_if (rt_and (rt_test (re_op rr_le (re_op rr_mul re_var re_var) re_var)) (rt_test (re_op rr_eq (re_op rr_mod (re_CB rc_int (ra_cons re_var ra_nil)) re_var) re_int))) (rs_ret re_bl) rs_skip)) (rs_ret (re_op rr_gt re_var re_int)))⟩
theorem ok__law_is_prime (M : Mg K mg) : Fn w K mg base 4 (He.ga K "_law_is_prime") (spM K m__law_is_prime) := fn_M def__law_is_prime sc__law_is_prime (fun _ _ _ _ _ _ us hl => match us, hl with | [_], _ => rfl) (bd__law_is_prime M)
def lb__law_prime_0 : M Fl := (mSeq (mIfS (mB (mCall m__law_is_prime (mCons (mVar 2) mNil))) (mRet (mVar 2)) mSkip) (mAsg 2 (mBin dSub (mVar 2) (mC (.int 1)))))
def b__law_prime : M Fl := (mSeq (mAsg 1 (mCallR 0 m__law_draw (mCons (mC (.int 6)) mNil))) (mSeq (mIfS (mB (mBin dLt (mVar 1) (mC (.int 2)))) (mRet (mC (.int 0))) mSkip) (mSeq (mIfS (mB (mBin dLt (mVar 1) (mC (.int 5)))) (mRet (mBin dIx (mFrz (mLst (mCons (mC (.int 2)) (mCons (mC (.int 3)) (mCons (mC (.int 5)) (mCons (mC (.int 7)) (mCons (mC (.int 11)) (mCons (mC (.int 13)) mNil)))))))) (mCallR 0 m__law_draw (mCons (mC (.int 6)) mNil)))) mSkip) (mSeq (mAsg 2 (mBin dAdd (mC (.int 2)) (mCallR 0 m__law_draw (mCons (mC (.int 9972)) mNil)))) (mSeq (mFor (mItA rng1 (mCons (mC (.int 40)) mNil)) (gV 3) lb__law_prime_0) (mRet (mC (.int 2))))))))
theorem sc__law_prime : FnScope ["_law_state_here", "_law_kind", "_law_value", "_law_step"] ["_law_state_here"] (defScope s__law_prime) := ⟨rfl, rfl, rfl, by decide +kernel, rfl, by decide +kernel, by decide +kernel⟩
def m__law_prime : MFr := runR 4 1 b__law_prime
theorem bd__law_prime (M : Mg K mg) : Body K PP w mg base d__law_prime.qual (defScope s__law_prime) (He.fAd K d__law_prime.at_) ["_law_state_here", "_law_kind", "_law_value", "_law_step"] 33 (defBody s__law_prime) b__law_prime := fun cdv A outer s H E hr => ⟨_, (pss_cons (ps_set (i := 1) sc__law_prime.nd rfl (by first | exact Or.inl rfl | exact Or.inr rfl) (pe_fnW (Sx.FnR.frame (ok__law_draw (K := K) M)) (hr.mono (by decide)) rfl (g__law_draw (K := K) M) (kp__law_draw (K := K)) (takes_of rfl rfl rfl rfl) (pa_cons (pv 0) (pa_cons pe_int pa_nil)))) (pss_cons (ps_if (pt_cmpR op_lt (pv 1) pe_int (nomark _)) (pss_one (ps_ret pe_int)) pss_nil) (pss_cons (ps_if (pt_cmpR op_lt (pv 1) pe_int (nomark _)) (pss_one (ps_ret (pe_ix ix_seq (pe_lst (pa_cons pe_int (pa_cons pe_int (pa_cons pe_int (pa_cons pe_int (pa_cons pe_int (pa_cons pe_int pa_nil))))))) (pe_fnW (Sx.FnR.frame (ok__law_draw (K := K) M)) (hr.mono (by decide)) rfl (g__law_draw (K := K) M) (kp__law_draw (K := K)) (takes_of rfl rfl rfl rfl) (pa_cons (pv 0) (pa_cons pe_int pa_nil))) (fun _ _ => rfl)))) pss_nil) (pss_cons (ps_set (i := 2) sc__law_prime.nd rfl (by first | exact Or.inl rfl | exact Or.inr rfl) (pe_op op_add pe_int (pe_fnW (Sx.FnR.frame (ok__law_draw (K := K) M)) (hr.mono (by decide)) rfl (g__law_draw (K := K) M) (kp__law_draw (K := K)) (takes_of rfl rfl rfl rfl) (pa_cons (pv 0) (pa_cons pe_int pa_nil))))) (pss_cons (ps_for (passes_of rfl) rfl (pi_range1 rfl (f_range (K := K) M) (pa_cons pe_int pa_nil)) (pg_name (i := 3) sc__law_prime.nd rfl (by first | exact Or.inl rfl | exact Or.inr rfl)) (pss_cons (ps_if (pt_val (pe_fnW (Sx.FnR.frame (ok__law_is_prime (K := K) M)) (hr.mono (by decide)) rfl (g__law_is_prime (K := K) M) (kp__law_is_prime (K := K)) (takes_of rfl rfl rfl rfl) (pa_cons (pv 2) pa_nil))) (pss_one (ps_ret (pv 2))) pss_nil) (pss_one (ps_set (i := 2) sc__law_prime.nd rfl (by first | exact Or.inl rfl | exact Or.inr rfl) (pe_op op_sub (pv 2) pe_int))))) (pss_one (ps_ret pe_int))))))), fun A => (rs_seq (rs_asg (re_callR (ra_cons re_int ra_nil))) (rs_seq (rs_if (rt_test (re_op rr_lt re_var re_int)) (rs_ret re_int) rs_skip) (rs_seq (rs_if (rt_test (re_op rr_lt re_var re_int)) (rs_ret (re_op rr_ix (re_frz (rn_lst (ra_cons re_int (ra_cons re_int (ra_cons re_int (ra_cons re_int (ra_cons re_int (ra_cons re_int ra_nil)))))))) (re_callR (ra_cons re_int ra_nil)))) rs_skip) (rs_seq (rs_asg (re_op rr_add re_int (re_callR (ra_cons re_int ra_nil)))) (rs_seq (rs_for (ri_rng1 (ra_cons re_int ra_nil)) rg_name (rs_seq (rs_if (rt_B (re_call (ra_cons re_var ra_nil))) (rs_ret re_var) rs_skip) (rs_asg (re_op rr_sub re_var re_int)))) (rs_ret re_int))))))⟩
theorem ok__law_prime (M : Mg K mg) : Fn w K mg base 34 (He.ga K "_law_prime") (spR K m__law_prime) := fn_R def__law_prime sc__law_prime (by decide) (fun _ _ _ _ _ _ us hl => match us, hl with | [_], _ => rfl) (bd__law_prime M)
def b__law_field : M Fl := (mSeq (mTry "NoField" (mAsg 1 (mMake "Field" m_Field___init__ (mCons (mVar 0) mNil))) (mRet (mC .non))) (mRet (mVar 1)))
theorem sc__law_field : FnScope ["_law_value", "_law_made"] ["_law_value"] (defScope s__law_field) := ⟨rfl, rfl, rfl, by decide +kernel, rfl, by decide +kernel, by decide +kernel⟩
def m__law_field : MFn := runM 2 1 b__law_field
theorem bd__law_field (M : Mg K mg) : Body K PP w mg base d__law_field.qual (defScope s__law_field) (He.fAd K d__law_field.at_) ["_law_value", "_law_made"] 6 (defBody s__law_field) b__law_field := fun cdv A outer s H E hr => ⟨_, (pss_cons (ps_try_only rfl rfl ⟨rfl, by decide, .inl (g_NoField (K := K) M)⟩ (takes_of rfl rfl rfl rfl) (fun W pn xe tk pown => (pss_one (ps_set (i := 1) sc__law_field.nd rfl (by first | exact Or.inl rfl | exact Or.inr rfl) (pe_mkW (mk_Field (K := K)) (Sx.FnR.frame (ok_Field___init__ (K := K) M)) (hr.mono (by decide)) rfl (g_Field (K := K) M) tk (pa_cons (pv 0) pa_nil))))) (fun a oe cls d pn hz hf => (pss_one (ps_ret pe_non)))) (pss_one (ps_ret (pv 1)))), fun A => (rs_seq (rs_tryO x_NoField (fun _ => (rs_asg (re_make c_Field (ra_cons re_var ra_nil)))) (fun _ _ _ => (rs_ret re_non))) (rs_ret re_var))⟩
theorem ok__law_field (M : Mg K mg) : Fn w K mg base 7 (He.ga K "_law_field") (spM K m__law_field) := fn_M def__law_field sc__law_field (fun _ _ _ _ _ _ us hl => match us, hl with | [_], _ => rfl) (bd__law_field M)
def le__law_state_0 : M D := (mCB dInt (mCons (mVar 2) mNil))
def b__law_state : M Fl := (mSeq (mAsg 1 (mFrz (mLc 2 (mItQ (mFrz (mSlL (mVar 0) mNoP (mPart (mC (.int 63)))))) (ret true) le__law_state_0))) (mRetN (mLst (mCons (mVar 1) (mCons (mC (.int 0)) (mCons (mC (.int 0)) (mCons (mBin dAdd (mC (.int 1)) (mCB dLen (mCons (mVar 1) mNil))) (mCons (mC (.int 0)) mNil))))))))
theorem sc__law_state : FnScope ["_law_script", "_law_items", "_law_item"] ["_law_script"] (defScope s__law_state) := ⟨rfl, rfl, rfl, by decide +kernel, rfl, by decide +kernel, by decide +kernel⟩
def m__law_state : MFn := runM 3 1 b__law_state
theorem bd__law_state (M : Mg K mg) : Body K PP w mg base d__law_state.qual (defScope s__law_state) (He.fAd K d__law_state.at_) ["_law_script", "_law_items", "_law_item"] 3 (defBody s__law_state) b__law_state := fun cdv A outer s H E hr => ⟨_, (pss_cons (ps_setLc (i := 1) (own := [("_law_item", 2)]) (g := gName 2) rfl sc__law_state.nd rfl rfl (sw_true rfl rfl rfl (by decide +kernel)) (pi_seq (pe_slice sl_list (pv 0) po_none (po_some pe_int))) (blkOk_by (own := [("_law_item", 2)]) (N := ["_law_script", "_law_items", "_law_item"]) (sc := defScope s__law_state) (by decide +kernel)) (fun _ _ _ _ _ => (pg_name (i := 2) sc__law_state.nd rfl (by first | exact Or.inl rfl | exact Or.inr rfl))) (fun _ _ _ _ _ => pts_nil) (fun _ _ _ _ _ => (pe_callTy Sx.call_intN (by rfl) (f_int (K := K) M) (by decide +kernel) (pa_cons (pv 2) pa_nil)))) (pss_one (ps_ret (pe_lst (pa_cons (pv 1) (pa_cons pe_int (pa_cons pe_int (pa_cons (pe_op op_add pe_int (pe_callB Sx.call_lenN (by rfl) (f_len (K := K) M) (by decide +kernel) (pa_cons (pv 1) pa_nil))) (pa_cons pe_int pa_nil))))))))), fun A => (rs_seq (rs_asg (re_frz (rn_lc (ri_seq (re_frz (rn_slL re_var ro_none (ro_some re_int)))) rt_yes (re_CB rc_int (ra_cons re_var ra_nil))))) (rs_retN (rn_lst (ra_cons re_var (ra_cons re_int (ra_cons re_int (ra_cons (re_op rr_add re_int (re_CB rc_len (ra_cons re_var ra_nil))) (ra_cons re_int ra_nil))))))))⟩
theorem ok__law_state (M : Mg K mg) : Fn w K mg base 4 (He.ga K "_law_state") (spM K m__law_state) := fn_M def__law_state sc__law_state (fun _ _ _ _ _ _ us hl => match us, hl with | [_], _ => rfl) (bd__law_state M)
end
end Mi

namespace Mi
open PySem PySem.Spec PyProof.Rows L2 Sx
noncomputable section
variable {w : World} {K : PySem.W.Frag} [Sy K] {mg : Str → Option Value} {base : Heap}

def lr_law_17 : M Fl := (mRet (mAndV (mBin dEq (mBin (dEqA false T_Field 0) (mMake "Field" m_Field___init__ (mCons (mC (.int 7)) mNil)) (mVar 6)) (mBin dEq (mVar 5) (mC (.int 7)))) (mAndV (mBin dEq (mBin (dEqA false T_Field 0) (mVar 6) (mMake "Field" m_Field___init__ (mCons (mC (.int 0)) mNil))) (mBin dEq (mVar 5) (mC (.int 0)))) (mNotV (mBin (dEqA false T_Field 0) (mVar 6) (mVar 5))))))
def lr_law_16 : M Fl := (mSeq (mIfS (mOr (mB (mBin dNe (mFld "prime" (mMake "Field" m_Field___init___1 mNil)) (mC (.int 0)))) (mOr (mNot (mB (mBin (dEqA false T_Field 0) (mMake "Field" m_Field___init___1 mNil) (mMake "Field" m_Field___init__ (mCons (mC (.int 0)) mNil))))) (mNot (mB (mBin (dEqA false T_Field 0) (mMakeK "Field" 0 1 m_Field___init__ mNil (mCons (mVar 5) mNil)) (mVar 6)))))) (mRet (mC (.bl false))) mSkip) lr_law_17)
def lr_law_15 : M Fl := (mSeq (mIfS (mAnd (mB (mBin dEq (mBin dIx (mVar 7) (mC (.int 0))) (mC (.str "made")))) (mAnd (mB (mBin dEq (mBin dIx (mVar 8) (mC (.int 0))) (mC (.str "made")))) (mB (mBin (dEqA true T_Ratio 0) (mBin dIx (mVar 8) (mC (.int 1))) (mC (.int 0)))))) (mSeq (mAsg 13 (mMeth "Field" "over" m_Field_over (mVar 6) (mCons (mMake "Ratio" m_Ratio___init__ (mCons (mVar 9) (mCons (mVar 10) mNil))) (mCons (mMake "Ratio" m_Ratio___init__ (mCons (mVar 11) (mCons (mVar 12) mNil))) mNil)))) (mIfS (mOr (mB (mBin (dEqA true T_Ratio 0) (mMeth "Field" "number" m_Field_number (mVar 6) (mCons (mBin (opC "Ratio" dMul m_Ratio___mul__ m_Ratio___rmul__) (mVar 13) (mBin dIx (mVar 8) (mC (.int 1)))) mNil)) (mBin dIx (mVar 7) (mC (.int 1))))) (mB (mBin (dEqA true T_Ratio 0) (mMeth "Field" "number" m_Field_number (mVar 6) (mCons (mVar 13) mNil)) (mVar 13)))) (mRet (mC (.bl false))) mSkip)) (mIfS (mB (mBin (dEqA true T_Ratio 1) (mCall m__law_divided (mCons (mVar 6) (mCons (mMake "Ratio" m_Ratio___init__ (mCons (mVar 9) (mCons (mVar 10) mNil))) (mCons (mMake "Ratio" m_Ratio___init__ (mCons (mVar 11) (mCons (mVar 12) mNil))) mNil)))) (mTup (mCons (mC (.str "refused")) (mCons (mC (.int 0)) mNil))))) (mRet (mC (.bl false))) mSkip)) lr_law_16)
def lr_law_14 : M Fl := (mSeq (mIfS (mOr (mNot (mB (mCall m__law_right (mCons (mVar 5) (mCons (mVar 9) (mCons (mC (.int 1)) (mCons (mCall m__law_called (mCons (mVar 6) (mCons (mVar 9) mNil))) mNil))))))) (mNot (mB (mCall m__law_strange (mCons (mVar 6) (mCons (mVar 9) mNil)))))) (mRet (mC (.bl false))) mSkip) lr_law_15)
def lr_law_13 : M Fl := (mSeq (mIfS (mOr (mNot (mB (mCall m__law_right (mCons (mVar 5) (mCons (mVar 9) (mCons (mVar 10) (mCons (mVar 7) mNil))))))) (mNot (mB (mCall m__law_right (mCons (mVar 5) (mCons (mVar 11) (mCons (mVar 12) (mCons (mVar 8) mNil)))))))) (mRet (mC (.bl false))) mSkip) lr_law_14)
def lr_law_12 : M Fl := (mSeq (mAsg 8 (mCall m__law_called (mCons (mVar 6) (mCons (mMake "Ratio" m_Ratio___init__ (mCons (mVar 11) (mCons (mVar 12) mNil))) mNil)))) lr_law_13)
def lr_law_11 : M Fl := (mSeq (mAsg 7 (mCall m__law_called (mCons (mVar 6) (mCons (mMake "Ratio" m_Ratio___init__ (mCons (mVar 9) (mCons (mVar 10) mNil))) mNil)))) lr_law_12)
def lr_law_10 : M Fl := (mSeq (mIfS (mB (mBin dEq (mVar 12) (mC (.int 0)))) (mAsg 12 (mC (.int 1))) mSkip) lr_law_11)
def lr_law_9 : M Fl := (mSeq (mIfS (mB (mBin dEq (mVar 10) (mC (.int 0)))) (mAsg 10 (mC (.int 1))) mSkip) lr_law_10)
def lr_law_8 : M Fl := (mSeq (mPar 11 12 (mCons (mCallR 1 m__law_great mNil) (mCons (mCallR 1 m__law_great mNil) mNil))) lr_law_9)
def lr_law_7 : M Fl := (mSeq (mPar 9 10 (mCons (mCallR 1 m__law_great mNil) (mCons (mCallR 1 m__law_great mNil) mNil))) lr_law_8)
def lr_law_6 : M Fl := (mSeq (mAsg 6 (mMake "Field" m_Field___init__ (mCons (mVar 5) mNil))) lr_law_7)
def lr_law_5 : M Fl := (mSeq (mAsg 5 (mCallR 1 m__law_prime mNil)) lr_law_6)
def lb_law_13 : M Fl := (mIfS (mB (mBin dNotN (mCall m__law_field (mCons (mVar 4) mNil)) (mC .non))) (mRet (mC (.bl false))) mSkip)
def lr_law_4 : M Fl := (mSeq (mFor (mItQ (mFrz (mLst (mCons (mC (.str "2")) (mCons (mC (.bl true)) (mCons (mC (.bl false)) (mCons (mC .non) (mCons (mFrz (mLst (mCons (mC (.int 3)) mNil))) (mCons (mMake "Ratio" m_Ratio___init___1 (mCons (mC (.int 3)) mNil)) mNil))))))))) (gV 4) lb_law_13) lr_law_5)
def lr_law_3 : M Fl := (mSeq (mIfS (mOr (mB (mBin dEq (mVar 2) (mC (.int 0)))) (mAnd (mB (mChain dLe dLe (mC (.int 2)) (mVar 2) (mC (.int 9973)))) (mB (mCall m__law_is_prime (mCons (mVar 2) mNil))))) (mIfS (mOr (mB (mBin dIsN (mVar 3) (mC .non))) (mOr (mB (mBin dNe (mFld "prime" (mVar 3)) (mVar 2))) (mNot (mB (mBin (dEqA false T_Field 0) (mVar 3) (mMake "Field" m_Field___init__ (mCons (mVar 2) mNil))))))) (mRet (mC (.bl false))) mSkip) (mIfS (mB (mBin dNotN (mVar 3) (mC .non))) (mRet (mC (.bl false))) mSkip)) lr_law_4)
def lr_law_2 : M Fl := (mSeq (mAsg 3 (mCall m__law_field (mCons (mVar 2) mNil))) lr_law_3)
def lr_law_1 : M Fl := (mSeq (mAsg 2 (mBin dSub (mCallR 1 m__law_draw (mCons (mC (.int 10230)) mNil)) (mC (.int 30)))) lr_law_2)
def b_law : M Fl := (mSeq (mAsgN 1 (mCallN m__law_state (mCons (mVar 0) mNil))) lr_law_1)
theorem sc_law : FnScope ["_law_script", "_law_state_here", "_law_tried", "_law_made", "_law_thing", "_law_modulus", "_law_field_here", "_law_first", "_law_second", "_law_a", "_law_b", "_law_c", "_law_d", "_law_ratio"] ["_law_script"] (defScope s_law) := ⟨rfl, rfl, rfl, by decide +kernel, rfl, by decide +kernel, by decide +kernel⟩
def m_law : MFn := runM 14 1 b_law
theorem bd_law (M : Mg K mg) : Body K PP w mg base d_law.qual (defScope s_law) (He.fAd K d_law.at_) ["_law_script", "_law_state_here", "_law_tried", "_law_made", "_law_thing", "_law_modulus", "_law_field_here", "_law_first", "_law_second", "_law_a", "_law_b", "_law_c", "_law_d", "_law_ratio"] 38 (defBody s_law) b_law := fun cdv A outer s H E hr => ⟨_, (pss_cons (ps_set (i := 1) sc_law.nd rfl (by first | exact Or.inl rfl | exact Or.inr rfl) (pe_fnW (Sx.FnR.frame (ok__law_state (K := K) M)) (hr.mono (by decide)) rfl (g__law_state (K := K) M) (kp__law_state (K := K)) (takes_of rfl rfl rfl rfl) (pa_cons (pv 0) pa_nil))) (pss_cons (ps_set (i := 2) sc_law.nd rfl (by first | exact Or.inl rfl | exact Or.inr rfl) (pe_op op_sub (pe_fnW (Sx.FnR.frame (ok__law_draw (K := K) M)) (hr.mono (by decide)) rfl (g__law_draw (K := K) M) (kp__law_draw (K := K)) (takes_of rfl rfl rfl rfl) (pa_cons (pv 1) (pa_cons pe_int pa_nil))) pe_int)) (pss_cons (ps_set (i := 3) sc_law.nd rfl (by first | exact Or.inl rfl | exact Or.inr rfl) (pe_fnW (Sx.FnR.frame (ok__law_field (K := K) M)) (hr.mono (by decide)) rfl (g__law_field (K := K) M) (kp__law_field (K := K)) (takes_of rfl rfl rfl rfl) (pa_cons (pv 2) pa_nil))) (pss_cons (ps_if (PW.pt (pw_or (pt_cmpR op_eq (pv 2) pe_int (nomark _)) (pw_or1 (PW.pt (pw_and (pt_chain op_le op_le pe_int (pv 2) pe_int) (pw_and1 (pt_val (pe_fnW (Sx.FnR.frame (ok__law_is_prime (K := K) M)) (hr.mono (by decide)) rfl (g__law_is_prime (K := K) M) (kp__law_is_prime (K := K)) (takes_of rfl rfl rfl rfl) (pa_cons (pv 2) pa_nil))))))))) (pss_one (ps_if (PW.pt (pw_or (pt_cmpR op_isN (pv 3) pe_non (nomark _)) (pw_or (pt_cmpR op_ne (pe_fld (pv 3) rfl) (pv 2) (nomark _)) (pw_or1 (pt_not (pt_eqE (n := 0) (et_Field (K := K) M) (hr.mono (by decide)) (pv 3) (pe_mkW (mk_Field (K := K)) (Sx.FnR.frame (ok_Field___init__ (K := K) M)) (hr.mono (by decide)) rfl (g_Field (K := K) M) (takes_of rfl rfl rfl rfl) (pa_cons (pv 2) pa_nil)))))))) (pss_one (ps_ret pe_bl)) pss_nil)) (pss_one (ps_if (pt_cmpR op_notN (pv 3) pe_non (nomark _)) (pss_one (ps_ret pe_bl)) pss_nil))) (pss_cons (ps_for (passes_of rfl) rfl (pi_seq (pe_lst (pa_cons pe_str (pa_cons pe_bl (pa_cons pe_bl (pa_cons pe_non (pa_cons (pe_lst (pa_cons pe_int pa_nil)) (pa_cons (pe_mkW (mk_Ratio (K := K)) (Sx.FnR.frame (ok_Ratio___init___1 (K := K) M)) (hr.mono (by decide)) rfl (g_Ratio (K := K) M) (takes_of rfl rfl rfl rfl) (pa_cons pe_int pa_nil)) pa_nil)))))))) (pg_name (i := 4) sc_law.nd rfl (by first | exact Or.inl rfl | exact Or.inr rfl)) (pss_one (ps_if (pt_cmpR op_notN (pe_fnW (Sx.FnR.frame (ok__law_field (K := K) M)) (hr.mono (by decide)) rfl (g__law_field (K := K) M) (kp__law_field (K := K)) (takes_of rfl rfl rfl rfl) (pa_cons (pv 4) pa_nil)) pe_non (nomark _)) (pss_one (ps_ret pe_bl)) pss_nil))) (pss_cons (ps_set (i := 5) sc_law.nd rfl (by first | exact Or.inl rfl | exact Or.inr rfl) (pe_fnW (Sx.FnR.frame (ok__law_prime (K := K) M)) (hr.mono (by decide)) rfl (g__law_prime (K := K) M) (kp__law_prime (K := K)) (takes_of rfl rfl rfl rfl) (pa_cons (pv 1) pa_nil))) (pss_cons (ps_set (i := 6) sc_law.nd rfl (by first | exact Or.inl rfl | exact Or.inr rfl) (pe_mkW (mk_Field (K := K)) (Sx.FnR.frame (ok_Field___init__ (K := K) M)) (hr.mono (by decide)) rfl (g_Field (K := K) M) (takes_of rfl rfl rfl rfl) (pa_cons (pv 5) pa_nil))) (pss_cons (ps_par (i := 9) (j := 10) (by rfl) sc_law.nd rfl rfl (by decide) rfl rfl (pa_cons (pe_fnW (Sx.FnR.frame (ok__law_great (K := K) M)) (hr.mono (by decide)) rfl (g__law_great (K := K) M) (kp__law_great (K := K)) (takes_of rfl rfl rfl rfl) (pa_cons (pv 1) pa_nil)) (pa_cons (pe_fnW (Sx.FnR.frame (ok__law_great (K := K) M)) (hr.mono (by decide)) rfl (g__law_great (K := K) M) (kp__law_great (K := K)) (takes_of rfl rfl rfl rfl) (pa_cons (pv 1) pa_nil)) pa_nil)) (by rfl)) (pss_cons (ps_par (i := 11) (j := 12) (by rfl) sc_law.nd rfl rfl (by decide) rfl rfl (pa_cons (pe_fnW (Sx.FnR.frame (ok__law_great (K := K) M)) (hr.mono (by decide)) rfl (g__law_great (K := K) M) (kp__law_great (K := K)) (takes_of rfl rfl rfl rfl) (pa_cons (pv 1) pa_nil)) (pa_cons (pe_fnW (Sx.FnR.frame (ok__law_great (K := K) M)) (hr.mono (by decide)) rfl (g__law_great (K := K) M) (kp__law_great (K := K)) (takes_of rfl rfl rfl rfl) (pa_cons (pv 1) pa_nil)) pa_nil)) (by rfl)) (pss_cons (ps_if (pt_cmpR op_eq (pv 10) pe_int (nomark _)) (pss_one (ps_set (i := 10) sc_law.nd rfl (by first | exact Or.inl rfl | exact Or.inr rfl) pe_int)) pss_nil) (pss_cons (ps_if (pt_cmpR op_eq (pv 12) pe_int (nomark _)) (pss_one (ps_set (i := 12) sc_law.nd rfl (by first | exact Or.inl rfl | exact Or.inr rfl) pe_int)) pss_nil) (pss_cons (ps_set (i := 7) sc_law.nd rfl (by first | exact Or.inl rfl | exact Or.inr rfl) (pe_fnW (Sx.FnR.frame (ok__law_called (K := K) M)) (hr.mono (by decide)) rfl (g__law_called (K := K) M) (kp__law_called (K := K)) (takes_of rfl rfl rfl rfl) (pa_cons (pv 6) (pa_cons (pe_mkW (mk_Ratio (K := K)) (Sx.FnR.frame (ok_Ratio___init__ (K := K) M)) (hr.mono (by decide)) rfl (g_Ratio (K := K) M) (takes_of rfl rfl rfl rfl) (pa_cons (pv 9) (pa_cons (pv 10) pa_nil))) pa_nil)))) (pss_cons (ps_set (i := 8) sc_law.nd rfl (by first | exact Or.inl rfl | exact Or.inr rfl) (pe_fnW (Sx.FnR.frame (ok__law_called (K := K) M)) (hr.mono (by decide)) rfl (g__law_called (K := K) M) (kp__law_called (K := K)) (takes_of rfl rfl rfl rfl) (pa_cons (pv 6) (pa_cons (pe_mkW (mk_Ratio (K := K)) (Sx.FnR.frame (ok_Ratio___init__ (K := K) M)) (hr.mono (by decide)) rfl (g_Ratio (K := K) M) (takes_of rfl rfl rfl rfl) (pa_cons (pv 11) (pa_cons (pv 12) pa_nil))) pa_nil)))) (pss_cons (ps_if (PW.pt (pw_or (pt_not (pt_val (pe_fnW (Sx.FnR.frame (ok__law_right (K := K) M)) (hr.mono (by decide)) rfl (g__law_right (K := K) M) (kp__law_right (K := K)) (takes_of rfl rfl rfl rfl) (pa_cons (pv 5) (pa_cons (pv 9) (pa_cons (pv 10) (pa_cons (pv 7) pa_nil))))))) (pw_or1 (pt_not (pt_val (pe_fnW (Sx.FnR.frame (ok__law_right (K := K) M)) (hr.mono (by decide)) rfl (g__law_right (K := K) M) (kp__law_right (K := K)) (takes_of rfl rfl rfl rfl) (pa_cons (pv 5) (pa_cons (pv 11) (pa_cons (pv 12) (pa_cons (pv 8) pa_nil)))))))))) (pss_one (ps_ret pe_bl)) pss_nil) (pss_cons (ps_if (PW.pt (pw_or (pt_not (pt_val (pe_fnW (Sx.FnR.frame (ok__law_right (K := K) M)) (hr.mono (by decide)) rfl (g__law_right (K := K) M) (kp__law_right (K := K)) (takes_of rfl rfl rfl rfl) (pa_cons (pv 5) (pa_cons (pv 9) (pa_cons pe_int (pa_cons (pe_fnW (Sx.FnR.frame (ok__law_called (K := K) M)) (hr.mono (by decide)) rfl (g__law_called (K := K) M) (kp__law_called (K := K)) (takes_of rfl rfl rfl rfl) (pa_cons (pv 6) (pa_cons (pv 9) pa_nil))) pa_nil))))))) (pw_or1 (pt_not (pt_val (pe_fnW (Sx.FnR.frame (ok__law_strange (K := K) M)) (hr.mono (by decide)) rfl (g__law_strange (K := K) M) (kp__law_strange (K := K)) (takes_of rfl rfl rfl rfl) (pa_cons (pv 6) (pa_cons (pv 9) pa_nil)))))))) (pss_one (ps_ret pe_bl)) pss_nil) (pss_cons (ps_if (PW.pt (pw_and (pt_cmpR op_eq (pe_ix ix_seq (pv 7) pe_int (fun _ _ => rfl)) pe_str (nomark _)) (pw_and (pt_cmpR op_eq (pe_ix ix_seq (pv 8) pe_int (fun _ _ => rfl)) pe_str (nomark _)) (pw_and1 (pt_neE (n := 0) (et_Ratio (K := K) M) (hr.mono (by decide)) (pe_ix ix_seq (pv 8) pe_int (fun _ _ => rfl)) pe_int))))) (pss_cons (ps_set (i := 13) sc_law.nd rfl (by first | exact Or.inl rfl | exact Or.inr rfl) (pe_meW (pv 6) (Sx.IsCls.cl (K := K) (C := "Field")) (Sx.m_Field_over (K := K)) (Sx.FnR.frame (ok_Field_over (K := K) M)) (hr.mono (by decide)) (takes_of rfl rfl rfl rfl) (pa_cons (pe_mkW (mk_Ratio (K := K)) (Sx.FnR.frame (ok_Ratio___init__ (K := K) M)) (hr.mono (by decide)) rfl (g_Ratio (K := K) M) (takes_of rfl rfl rfl rfl) (pa_cons (pv 9) (pa_cons (pv 10) pa_nil))) (pa_cons (pe_mkW (mk_Ratio (K := K)) (Sx.FnR.frame (ok_Ratio___init__ (K := K) M)) (hr.mono (by decide)) rfl (g_Ratio (K := K) M) (takes_of rfl rfl rfl rfl) (pa_cons (pv 11) (pa_cons (pv 12) pa_nil))) pa_nil)))) (pss_one (ps_if (PW.pt (pw_or (pt_neE (n := 0) (et_Ratio (K := K) M) (hr.mono (by decide)) (pe_meW (pv 6) (Sx.IsCls.cl (K := K) (C := "Field")) (Sx.m_Field_number (K := K)) (Sx.FnR.frame (ok_Field_number (K := K) M)) (hr.mono (by decide)) (takes_of rfl rfl rfl rfl) (pa_cons (pe_opX into_mul (self_Ratio (K := K)) ((Rows.ok _ (c_Ratio (K := K))).kb "int" (by decide)) (dn_mul ▸ Sx.m_Ratio___mul__ (K := K)) (dr_mul ▸ Sx.m_Ratio___rmul__ (K := K)) (Sx.FnR.frame (ok_Ratio___mul__ (K := K) M)) (Sx.FnR.frame (ok_Ratio___rmul__ (K := K) M)) (hr.mono (by decide)) (hr.mono (by decide)) (takes_of rfl rfl rfl rfl) op_mulX (pv 13) (pe_ix ix_seq (pv 8) pe_int (fun _ _ => rfl))) pa_nil)) (pe_ix ix_seq (pv 7) pe_int (fun _ _ => rfl))) (pw_or1 (pt_neE (n := 0) (et_Ratio (K := K) M) (hr.mono (by decide)) (pe_meW (pv 6) (Sx.IsCls.cl (K := K) (C := "Field")) (Sx.m_Field_number (K := K)) (Sx.FnR.frame (ok_Field_number (K := K) M)) (hr.mono (by decide)) (takes_of rfl rfl rfl rfl) (pa_cons (pv 13) pa_nil)) (pv 13))))) (pss_one (ps_ret pe_bl)) pss_nil))) (pss_one (ps_if (pt_neE (n := 1) (et_Ratio (K := K) M) (hr.mono (by decide)) (pe_fnW (Sx.FnR.frame (ok__law_divided (K := K) M)) (hr.mono (by decide)) rfl (g__law_divided (K := K) M) (kp__law_divided (K := K)) (takes_of rfl rfl rfl rfl) (pa_cons (pv 6) (pa_cons (pe_mkW (mk_Ratio (K := K)) (Sx.FnR.frame (ok_Ratio___init__ (K := K) M)) (hr.mono (by decide)) rfl (g_Ratio (K := K) M) (takes_of rfl rfl rfl rfl) (pa_cons (pv 9) (pa_cons (pv 10) pa_nil))) (pa_cons (pe_mkW (mk_Ratio (K := K)) (Sx.FnR.frame (ok_Ratio___init__ (K := K) M)) (hr.mono (by decide)) rfl (g_Ratio (K := K) M) (takes_of rfl rfl rfl rfl) (pa_cons (pv 11) (pa_cons (pv 12) pa_nil))) pa_nil)))) (pe_tup (pa_cons pe_str (pa_cons pe_int pa_nil)))) (pss_one (ps_ret pe_bl)) pss_nil))) (pss_cons (ps_if (PW.pt (pw_or (pt_cmpR op_ne (pe_fld (pe_mkW0 (mk_Field (K := K)) (Sx.FnR.frame (ok_Field___init___1 (K := K) M)) (hr.mono (by decide)) rfl (g_Field (K := K) M) (takes_of rfl rfl rfl rfl)) rfl) pe_int (nomark _)) (pw_or (pt_not (pt_eqE (n := 0) (et_Field (K := K) M) (hr.mono (by decide)) (pe_mkW0 (mk_Field (K := K)) (Sx.FnR.frame (ok_Field___init___1 (K := K) M)) (hr.mono (by decide)) rfl (g_Field (K := K) M) (takes_of rfl rfl rfl rfl)) (pe_mkW (mk_Field (K := K)) (Sx.FnR.frame (ok_Field___init__ (K := K) M)) (hr.mono (by decide)) rfl (g_Field (K := K) M) (takes_of rfl rfl rfl rfl) (pa_cons pe_int pa_nil)))) (pw_or1 (pt_not (pt_eqE (n := 0) (et_Field (K := K) M) (hr.mono (by decide)) (pe_mkKw0 (mk_Field (K := K)) (FnKw.frame (okk_Field___init__ (K := K) M)) (hr.mono (by decide)) rfl (g_Field (K := K) M) (takes_of rfl rfl rfl rfl) (pk_cons (pv 5) pk_nil)) (pv 6))))))) (pss_one (ps_ret pe_bl)) pss_nil) (pss_one (ps_ret (pe_and (pe_cmpR op_eq (pe_eqE (n := 0) (et_Field (K := K) M) (hr.mono (by decide)) (pe_mkW (mk_Field (K := K)) (Sx.FnR.frame (ok_Field___init__ (K := K) M)) (hr.mono (by decide)) rfl (g_Field (K := K) M) (takes_of rfl rfl rfl rfl) (pa_cons pe_int pa_nil)) (pv 6)) (pe_cmpR op_eq (pv 5) pe_int (nomark _)) (nomark _)) (pe_and (pe_cmpR op_eq (pe_eqE (n := 0) (et_Field (K := K) M) (hr.mono (by decide)) (pv 6) (pe_mkW (mk_Field (K := K)) (Sx.FnR.frame (ok_Field___init__ (K := K) M)) (hr.mono (by decide)) rfl (g_Field (K := K) M) (takes_of rfl rfl rfl rfl) (pa_cons pe_int pa_nil))) (pe_cmpR op_eq (pv 5) pe_int (nomark _)) (nomark _)) (pe_one (pe_not (pe_eqE (n := 0) (et_Field (K := K) M) (hr.mono (by decide)) (pv 6) (pv 5))))))))))))))))))))))))), fun A => (rs_seq (rs_asgN (rn_call (ra_cons re_var ra_nil))) (rs_seq (rs_asg (re_op rr_sub (re_callR (ra_cons re_int ra_nil)) re_int)) (rs_seq (rs_asg (re_call (ra_cons re_var ra_nil))) (rs_seq (rs_if (rt_or (rt_test (re_op rr_eq re_var re_int)) (rt_and (rt_test (re_chain rr_le rr_le re_int re_var re_int)) (rt_B (re_call (ra_cons re_var ra_nil))))) (rs_if (rt_or (rt_test (re_op rr_isN re_var re_non)) (rt_or (rt_test (re_op rr_ne (re_fld re_var) re_var)) (rt_not (rt_test (re_eqA re_var (re_make c_Field (ra_cons re_var ra_nil))))))) (rs_ret re_bl) rs_skip) (rs_if (rt_test (re_op rr_notN re_var re_non)) (rs_ret re_bl) rs_skip)) (rs_seq (rs_for (ri_seq (re_frz (rn_lst (ra_cons re_str (ra_cons re_bl (ra_cons re_bl (ra_cons re_non (ra_cons (re_frz (rn_lst (ra_cons re_int ra_nil))) (ra_cons (re_make c_Ratio (ra_cons re_int ra_nil)) ra_nil))))))))) rg_name (rs_if (rt_test (re_op rr_notN (re_call (ra_cons re_var ra_nil)) re_non)) (rs_ret re_bl) rs_skip)) (rs_seq (rs_asg (re_callR ra_nil)) (rs_seq (rs_asg (re_make c_Field (ra_cons re_var ra_nil))) (rs_seq (rs_par (ra_cons (re_callR ra_nil) (ra_cons (re_callR ra_nil) ra_nil))) (rs_seq (rs_par (ra_cons (re_callR ra_nil) (ra_cons (re_callR ra_nil) ra_nil))) (rs_seq (rs_if (rt_test (re_op rr_eq re_var re_int)) (rs_asg re_int) rs_skip) (rs_seq (rs_if (rt_test (re_op rr_eq re_var re_int)) (rs_asg re_int) rs_skip) (rs_seq (rs_asg (re_call (ra_cons re_var (ra_cons (re_make c_Ratio (ra_cons re_var (ra_cons re_var ra_nil))) ra_nil)))) (rs_seq (rs_asg (re_call (ra_cons re_var (ra_cons (re_make c_Ratio (ra_cons re_var (ra_cons re_var ra_nil))) ra_nil)))) (rs_seq (rs_if (rt_or (rt_not (rt_B (re_call (ra_cons re_var (ra_cons re_var (ra_cons re_var (ra_cons re_var ra_nil))))))) (rt_not (rt_B (re_call (ra_cons re_var (ra_cons re_var (ra_cons re_var (ra_cons re_var ra_nil)))))))) (rs_ret re_bl) rs_skip) (rs_seq (rs_if (rt_or (rt_not (rt_B (re_call (ra_cons re_var (ra_cons re_var (ra_cons re_int (ra_cons (re_call (ra_cons re_var (ra_cons re_var ra_nil))) ra_nil))))))) (rt_not (rt_B (re_call (ra_cons re_var (ra_cons re_var ra_nil)))))) (rs_ret re_bl) rs_skip) (rs_seq (rs_if (rt_and (rt_test (re_op rr_eq (re_op rr_ix re_var re_int) re_str)) (rt_and (rt_test (re_op rr_eq (re_op rr_ix re_var re_int) re_str)) (rt_test (re_eqA (re_op rr_ix re_var re_int) re_int)))) (rs_seq (rs_asg (re_meth re_var (ra_cons (re_make c_Ratio (ra_cons re_var (ra_cons re_var ra_nil))) (ra_cons (re_make c_Ratio (ra_cons re_var (ra_cons re_var ra_nil))) ra_nil)))) (rs_if (rt_or (rt_test (re_eqA (re_meth re_var (ra_cons (re_opX rr_mul re_var (re_op rr_ix re_var re_int)) ra_nil)) (re_op rr_ix re_var re_int))) (rt_test (re_eqA (re_meth re_var (ra_cons re_var ra_nil)) re_var))) (rs_ret re_bl) rs_skip)) (rs_if (rt_test (re_eqA (re_call (ra_cons re_var (ra_cons (re_make c_Ratio (ra_cons re_var (ra_cons re_var ra_nil))) (ra_cons (re_make c_Ratio (ra_cons re_var (ra_cons re_var ra_nil))) ra_nil)))) (re_tup (ra_cons re_str (ra_cons re_int ra_nil))))) (rs_ret re_bl) rs_skip)) (rs_seq (rs_if (rt_or (rt_test (re_op rr_ne (re_fld (re_make c_Field ra_nil)) re_int)) (rt_or (rt_not (rt_test (re_eqA (re_make c_Field ra_nil) (re_make c_Field (ra_cons re_int ra_nil))))) (rt_not (rt_test (re_eqA (re_makeK c_Field ra_nil (ra_cons re_var ra_nil)) re_var))))) (rs_ret re_bl) rs_skip) (rs_ret (re_and (re_op rr_eq (re_eqA (re_make c_Field (ra_cons re_int ra_nil)) re_var) (re_op rr_eq re_var re_int)) (re_and (re_op rr_eq (re_eqA re_var (re_make c_Field (ra_cons re_int ra_nil))) (re_op rr_eq re_var re_int)) (re_not (re_eqA re_var re_var))))))))))))))))))))))⟩
theorem fok_law (M : Mg K mg) {fd : FuncData} (F : FunD K d_law.name d_law.qual (defArgs s_law) (defBody s_law) (defScope s_law) (d_law.dvs K) [] (He.fAd K d_law.at_) fd) : FnOk PP w K mg base (L2.CX PP w) 39 (He.ga K "law") fd ["_law_script"] (spM K m_law) := fok_M F sc_law (bd_law M)
end
end Mi



namespace Mi
open PySem
/-! ### sizes -/
theorem mulOk_iff {i j : Int} : mulOk i j = true ↔ IntMulOk i j := by
  rw [mulOk_eq]
  unfold IntMulOk
  cases (decide (Builtin.Int.intBits i > shortFactorBits) && decide (Builtin.Int.intBits j > shortFactorBits) && Builtin.Int.intTooBig (Builtin.Int.intBits i + Builtin.Int.intBits j)) <;> simp
theorem mulOk_l {i j : Int} (h1 : -(2 ^ 64) < i) (h2 : i < 2 ^ 64) : mulOk i j = true := mulOk_iff.mpr (.of_left (intBits_le_64 h1 h2))
theorem mulOk_r {i j : Int} (h1 : -(2 ^ 64) < j) (h2 : j < 2 ^ 64) : mulOk i j = true := mulOk_iff.mpr (.of_right (intBits_le_64 h1 h2))
/-- below 2 ^ n in size -/
def Bd (n : Nat) (i : Int) : Prop := i.natAbs < 2 ^ n
theorem Bd.bits {n : Nat} {i : Int} (h : Bd n i) : Builtin.Int.intBits i ≤ n := by
  unfold Builtin.Int.intBits
  split
  · exact Nat.zero_le _
  · rename_i h0
    have hp : i.natAbs ≠ 0 := by
      intro z
      apply h0
      have : i = 0 := by omega
      rw [this] <;> rfl
    have := (Nat.log2_lt hp).mpr h
    omega
theorem Bd.up {n m : Nat} {i : Int} (h : Bd n i) (e : n ≤ m) : Bd m i := Nat.lt_of_lt_of_le h (Nat.pow_le_pow_right (by decide) e)
theorem Bd.mul {n m : Nat} {i j : Int} (h : Bd n i) (k : Bd m j) : Bd (n + m) (i * j) := by
  unfold Bd at *
  rw [Int.natAbs_mul, Nat.pow_add]
  exact Nat.mul_lt_mul'' h k
theorem Bd.neg {n : Nat} {i : Int} (h : Bd n i) : Bd n (-i) := by unfold Bd at *; rw [Int.natAbs_neg]; exact h
theorem Bd.add {n m : Nat} {i j : Int} (h : Bd n i) (k : Bd m j) : Bd (max n m + 1) (i + j) := by
  have h := h.up (Nat.le_max_left n m)
  have k := k.up (Nat.le_max_right n m)
  unfold Bd at *
  have := Int.natAbs_add_le i j
  rw [Nat.pow_succ]
  omega
theorem Bd.sub {n m : Nat} {i j : Int} (h : Bd n i) (k : Bd m j) : Bd (max n m + 1) (i - j) := by rw [Int.sub_eq_add_neg]; exact h.add k.neg
theorem Bd.zero {n : Nat} : Bd n 0 := Nat.two_pow_pos n
theorem Bd.of_le {n : Nat} {i j : Int} (k : Bd n j) (h : i.natAbs ≤ j.natAbs) : Bd n i := Nat.lt_of_le_of_lt h k
theorem Bd.lit {n : Nat} {i : Int} (h : i.natAbs < 2 ^ n) : Bd n i := h
theorem Bd.mulOk {n m : Nat} {i j : Int} (h : Bd n i) (k : Bd m j) (e : n + m ≤ 134217728) : mulOk i j = true := mulOk_iff.mpr (IntMulOk.of_le h.bits k.bits e)
/-! ### the script's draws -/
structure Dz where
  it : List Int
  pos : Int
  big : Int
  mix : Int
  cnt : Int
  hp : 0 ≤ pos
  m0 : 0 ≤ mix
  m1 : mix < 2147483648
def Dz.c (s : Dz) : List D := [.lst (s.it.map D.int), .int s.pos, .int s.big, .int s.mix, .int s.cnt]
theorem atI_map {ns : List Int} {i : Int} (h0 : 0 ≤ i) (h1 : i < ns.length) : ∃ n, L2.atI (ns.map D.int) i = some (.int n) := by
  obtain ⟨j, rfl⟩ : ∃ j : Nat, i = j := ⟨i.toNat, by omega⟩
  have hj : j < ns.length := by omega
  exact ⟨ns[j], L2.atI_nat (by rw [List.getElem?_map, List.getElem?_eq_getElem hj]; rfl)⟩
theorem ix5 (n : Nat) (h : n < 5) : L2.ixN 5 (n : Int) = some n := by
  match n, h with
  | 0, _ => rfl
  | 1, _ => rfl
  | 2, _ => rfl
  | 3, _ => rfl
  | 4, _ => rfl
theorem ix5_1 : L2.ixN 5 1 = some 1 := rfl
theorem ix5_2 : L2.ixN 5 2 = some 2 := rfl
theorem ix5_3 : L2.ixN 5 3 = some 3 := rfl
theorem ix5_4 : L2.ixN 5 4 = some 4 := rfl
theorem la5_0 (a b c d e : D) : listAt [a, b, c, d, e] 0 = .ok a := rfl
theorem la5_1 (a b c d e : D) : listAt [a, b, c, d, e] 1 = .ok b := rfl
theorem la5_2 (a b c d e : D) : listAt [a, b, c, d, e] 2 = .ok c := rfl
theorem la5_3 (a b c d e : D) : listAt [a, b, c, d, e] 3 = .ok d := rfl
theorem la5_4 (a b c d e : D) : listAt [a, b, c, d, e] 4 = .ok e := rfl
end Mi

namespace Mi
open PySem
section
variable {n m : Nat} {p q : Rat} {i : Int} {mR : MFn}
def isIntD : D → Bool
  | .int _ => true
  | _ => false
abbrev rF (q : Rat) : List (Str × D) := [("top", .int q.num), ("bottom", .int (q.den : Int))]
def rD (q : Rat) : D := .ins "Ratio" (rF q)
theorem dFld_top (q : Rat) : dFld "top" (rD q) = .ok (.int q.num) := rfl
theorem dFld_bottom (q : Rat) : dFld "bottom" (rD q) = .ok (.int q.den) := rfl
theorem tn_rD (q : Rat) : (rD q).tn = .c "Ratio" := rfl
theorem isIntD_rD (q : Rat) : isIntD (rD q) = false := rfl
theorem isIntD_int (i : Int) : isIntD (.int i) = true := rfl
theorem isub_RR : isub (.c "Ratio") (.c "Ratio") = true := rfl
theorem isub_iR : isub (.b "int") (.c "Ratio") = false := rfl
theorem gcd_ne {p q : Int} (hq : q ≠ 0) : (Int.gcd p q : Int) ≠ 0 := by
  have := Int.gcd_pos_of_ne_zero_right p hq
  omega
theorem s_tb : ¬ (Str.ofString "top" = Str.ofString "bottom") := by decide
theorem mkR_rF (q : Rat) : mkR "Ratio" (.ok (rF q)) = .ok (rD q) := rfl
/-- top and bottom below 2 ^ n -/
structure RB (n : Nat) (q : Rat) : Prop where
  num : Bd n q.num
  den : Bd n (q.den : Int)
theorem RB.up {n m : Nat} {q : Rat} (h : RB n q) (e : n ≤ m) : RB m q := ⟨h.num.up e, h.den.up e⟩
theorem den_ne (q : Rat) : (q.den : Int) ≠ 0 := by have := q.den_nz; omega
theorem divInt_num_le {a b : Int} (hb : b ≠ 0) : (Rat.divInt a b).num.natAbs ≤ a.natAbs ∧ (Rat.divInt a b).den ≤ b.natAbs := by
  rw [Rat.num_divInt, Rat.den_divInt, if_neg hb]
  constructor
  · have h1 : b.sign.natAbs = 1 := by rw [Int.natAbs_sign_of_ne_zero hb]
    have h2 : (b.sign * a).natAbs = a.natAbs := by rw [Int.natAbs_mul, h1, Nat.one_mul]
    rw [← h2]
    exact Int.natAbs_ediv_le_natAbs _ _
  · exact Nat.div_le_self _ _
theorem RB.divInt {n : Nat} {a b : Int} (hb : b ≠ 0) (h1 : Bd n a) (h2 : Bd n b) : RB n (Rat.divInt a b) := by
  have := divInt_num_le (a := a) hb
  exact ⟨h1.of_le this.1, h2.of_le (by simpa using this.2)⟩
theorem q_addI (p : Rat) (i : Int) : Rat.divInt (p.num + i * p.den) p.den = p + (i : Rat) := by
  rw [Rat.add_def', Rat.divInt_ofNat]
  show mkRat _ _ = mkRat (p.num * ((1 : Nat) : Int) + i * (p.den : Int)) (p.den * 1)
  rw [Nat.mul_one]
  congr 1
  omega
theorem q_subI (p : Rat) (i : Int) : Rat.divInt (p.num - i * p.den) p.den = p - (i : Rat) := by
  rw [Rat.sub_def', Rat.divInt_ofNat]
  show mkRat _ _ = mkRat (p.num * ((1 : Nat) : Int) - i * (p.den : Int)) (p.den * 1)
  rw [Nat.mul_one]
  congr 1
  omega
theorem q_mulI (p : Rat) (i : Int) : Rat.divInt (p.num * i) p.den = p * (i : Rat) := by
  rw [Rat.mul_def', Rat.divInt_ofNat]
  show mkRat _ _ = mkRat (p.num * i) (p.den * 1)
  rw [Nat.mul_one]
theorem q_add (p q : Rat) : Rat.divInt (p.num * q.den + q.num * p.den) (p.den * q.den) = p + q := by
  rw [Rat.add_def', ← Rat.divInt_ofNat, Int.natCast_mul]
theorem q_sub (p q : Rat) : Rat.divInt (p.num * q.den - q.num * p.den) (p.den * q.den) = p - q := by
  rw [Rat.sub_def', ← Rat.divInt_ofNat, Int.natCast_mul]
theorem q_mul (p q : Rat) : Rat.divInt (p.num * q.num) (p.den * q.den) = p * q := by
  rw [Rat.mul_def', ← Rat.divInt_ofNat, Int.natCast_mul]
theorem q_neg (p : Rat) : Rat.divInt (-p.num) p.den = -p := by
  rw [← Rat.neg_divInt, Rat.num_divInt_den]
theorem rat_eq_iff : p = q ↔ p.num = q.num ∧ (p.den : Int) = q.den := by
  constructor
  · rintro rfl; exact ⟨rfl, rfl⟩
  · rintro ⟨h1, h2⟩; exact Rat.ext h1 (by omega)
theorem rat_eqI_iff : p = (i : Rat) ↔ (p.den : Int) = 1 ∧ p.num = i := by
  rw [rat_eq_iff]
  show p.num = i ∧ (p.den : Int) = ((1 : Nat) : Int) ↔ _
  constructor
  · rintro ⟨h1, h2⟩; exact ⟨h2, h1⟩
  · rintro ⟨h1, h2⟩; exact ⟨h2, h1⟩
theorem q_div (hq : q ≠ 0) : Rat.divInt (p.num * q.den) (p.den * q.num) = p / q := by
  have h1 : p = Rat.divInt p.num p.den := (Rat.num_divInt_den p).symm
  have h2 : q⁻¹ = Rat.divInt q.den q.num := Rat.inv_def q
  rw [Rat.div_def, h2]
  conv => rhs; rw [h1]
  rw [Rat.divInt_mul_divInt]
theorem num_ne (hq : q ≠ 0) : q.num ≠ 0 := fun h => hq (by
  rw [← Rat.num_divInt_den q, h, Rat.zero_divInt])
theorem RB.neg (h : RB n p) : RB n (-p) := ⟨h.num.neg, h.den⟩
theorem RB.add (hp : RB n p) (hq : RB m q) : RB (n + m + 1) (p + q) := by
  rw [← q_add]
  refine RB.divInt (Int.mul_ne_zero (den_ne p) (den_ne q)) ?_ ((hp.den.mul hq.den).up (by omega))
  exact ((hp.num.mul hq.den).add (hq.num.mul hp.den)).up (by omega)
theorem RB.sub (hp : RB n p) (hq : RB m q) : RB (n + m + 1) (p - q) := by
  rw [← q_sub]
  refine RB.divInt (Int.mul_ne_zero (den_ne p) (den_ne q)) ?_ ((hp.den.mul hq.den).up (by omega))
  exact ((hp.num.mul hq.den).sub (hq.num.mul hp.den)).up (by omega)
theorem RB.mul (hp : RB n p) (hq : RB m q) : RB (n + m) (p * q) := by
  rw [← q_mul]
  exact RB.divInt (Int.mul_ne_zero (den_ne p) (den_ne q)) (hp.num.mul hq.num) (hp.den.mul hq.den)
end
end Mi

namespace Mi
open PySem
section
variable {n m : Nat} {p q : Rat} {i : Int} {mR : MFn}
theorem e_is_integer (d : D) : m_is_integer [d] = .ok (.pl (.bl (isIntD d))) := by cases d <;> rfl
theorem e_init {p q : Int} (h0 : q ≠ 0) : m_Ratio___init__ [.int p, .int q] = .ok (rF (Rat.divInt p q)) := by
  unfold m_Ratio___init__ b_Ratio___init__
  unfold rF
  have hg := gcd_ne (p := p) h0
  have hg2 : ¬ -(Int.gcd p q : Int) = 0 := by omega
  rw [← Sx.rat_num h0, ← Sx.rat_den h0]
  by_cases hn : q < 0
  · simp only [Mi.runM, Mi.runI, Mi.runR, Mi.outF, Mi.outI, Mi.outR, Mi.startE, Mi.bnd, Mi.ret, Mi.lift, Mi.fail, Mi.mVar, Mi.mC, Mi.mBin, Mi.mBinN, Mi.mUn, Mi.mFld, Mi.mFrz, Mi.mB, Mi.tru, Mi.mAnd, Mi.mOr, Mi.mNot, Mi.mAndV, Mi.mOrV, Mi.mNotV, Mi.mIf, Mi.mChain, Mi.mNil, Mi.mCons, Mi.mTup, Mi.mLst, Mi.mCB, Mi.mCBn, Mi.mIdxV, Mi.mSkip, Mi.thenF, Mi.mSeq, Mi.sto, Mi.mAsg, Mi.mAsgN, Mi.two, Mi.mPar, Mi.mDrop, Mi.mRet, Mi.mRetN, Mi.mRetV, Mi.mIfS, Mi.againF, Mi.gV, Mi.gsN, Mi.gsC, Mi.gT, Mi.mAsgT, Mi.tgt, Mi.mCall, Mi.frzR, Mi.newR, Mi.mCallN, Mi.recv, Mi.mMeth, Mi.mMethN, Mi.mMake, Mi.callR, Mi.mCallR, Mi.newM, Mi.mCallRN, Mi.mApp, Mi.mRev, Mi.setAt, Mi.mSetV, Mi.mSetF, Mi.mAug, Mi.one, Mi.mRaise, Mi.mRaise0, Mi.mTry, Mi.noEx, Mi.endX, Mi.inX, Mi.mTryAs, Mi.mXf, Mi.dI, Mi.dIc, Mi.dAdd, Mi.dSub, Mi.dLt, Mi.dLe, Mi.dGt, Mi.dGe, Mi.dMul, Mi.dDiv, Mi.dMod, Mi.dPow, Mi.dNeg, Mi.sEq, Mi.ofB, Mi.dEq, Mi.dNe, Mi.isNon, Mi.dIsN, Mi.dNotN, Mi.dInt, Mi.dI1, Mi.dI2, Mi.dAbs, Mi.dMin, Mi.dMax, Mi.dGcd, Mi.dLen1, Mi.dLen, Mi.mLenV, Mi.mIsi, Mi.isub, Mi.D.tn, Mi.dIx, Mi.opC, Mi.negC, Mi.eqC, Mi.ipC, Mi.Rv.d, Mi.mNoP, Mi.asI, Mi.mPart, Mi.mSlL, Mi.asL, Mi.asQ, Mi.mItQ, Mi.mItA, Mi.mFor, Mi.putD, List.map_cons, List.map_nil, List.length_cons, List.length_nil, List.replicate, List.cons_append, List.nil_append, List.getElem?_cons_zero, List.getElem?_cons_succ, List.set_cons_zero, List.set_cons_succ, Nat.sub_self, Nat.reduceAdd, Nat.reduceSub, Nat.reduceEqDiff, List.reverse_cons, id, Bool.not_true, Bool.not_false, if_true, if_false, Bool.false_eq_true, reduceIte, true_and, and_true, and_self, Option.toList, List.all_cons, List.all_nil, Bool.and_true, Bool.true_and, Bool.and_self, decide_true, decide_false, decide_eq_true_eq, reduceCtorEq, Mi.bo_pl, Mi.bo_ow, Mi.bo_rf, Mi.bo_un, Mi.sa_ow, Mi.sa_rf, Mi.sa_pl, Mi.oa_un, Mi.oa_pl, Mi.oa_ow, Mi.co_ow, Mi.co_rf, Mi.co_pl, Mi.st_ow, Mi.st_rf, Mi.lv_ow, Mi.lv_rf, Mi.lv_pl, Mi.ne_un, Mi.ne_pl, Mi.ne_ow, Mi.ne_rf, Mi.ne_se, Mi.ne_ex, Mi.th_un, Mi.th_pl, Mi.ie_ex, Mi.xf_ex, ne_eq, not_false_eq_true, not_true_eq_false, Mi.clr, Mi.putS, Option.isSome_some, Option.some.injEq, Int.reduceEq, Int.reduceNe, Int.reduceLT, Int.reduceLE, Nat.reduceLT, Nat.reduceLeDiff, decide_not, Bool.not_eq_true, Bool.decide_eq_true, Mi.ib_t, Mi.ib_f, Mi.mkR_ex, Mi.bO_s, Mi.rO_f, Mi.rO_t, Mi.dEqA_eq, Mi.eqN_0, Mi.eqN_1, Mi.eqN_2, Mi.eqN_3, Mi.eqB_ins, Mi.eqB_tt, Mi.eqB_ll, Mi.eqB_int, Mi.eqB_str, Mi.eqB_bl, Mi.eqB_non, Mi.eqK_ii, Mi.eqK_ss, Mi.eqK_bb, Mi.eqK_nn, Mi.eqK_ni, Mi.eqK_in, Mi.eqK_ns, Mi.eqK_sn, Mi.eqK_is, Mi.eqK_si, Mi.eqK_nt, Mi.eqK_nl, Mi.eqB_tn, Mi.eqB_ln, Mi.eqLs_nil, Mi.eqLs_nc, Mi.eqLs_cn, Mi.eqLs_cc, Mi.itE_int, Mi.itE_str, Mi.itE_bl, Mi.itE_non, Mi.appT, Mi.asB, Mi.mMakeK, Mi.mDic, Option.bind_some, e_is_integer, isIntD, h0, hn, hg, hg2, iDiv_eq, s_tb]
  · simp only [Mi.runM, Mi.runI, Mi.runR, Mi.outF, Mi.outI, Mi.outR, Mi.startE, Mi.bnd, Mi.ret, Mi.lift, Mi.fail, Mi.mVar, Mi.mC, Mi.mBin, Mi.mBinN, Mi.mUn, Mi.mFld, Mi.mFrz, Mi.mB, Mi.tru, Mi.mAnd, Mi.mOr, Mi.mNot, Mi.mAndV, Mi.mOrV, Mi.mNotV, Mi.mIf, Mi.mChain, Mi.mNil, Mi.mCons, Mi.mTup, Mi.mLst, Mi.mCB, Mi.mCBn, Mi.mIdxV, Mi.mSkip, Mi.thenF, Mi.mSeq, Mi.sto, Mi.mAsg, Mi.mAsgN, Mi.two, Mi.mPar, Mi.mDrop, Mi.mRet, Mi.mRetN, Mi.mRetV, Mi.mIfS, Mi.againF, Mi.gV, Mi.gsN, Mi.gsC, Mi.gT, Mi.mAsgT, Mi.tgt, Mi.mCall, Mi.frzR, Mi.newR, Mi.mCallN, Mi.recv, Mi.mMeth, Mi.mMethN, Mi.mMake, Mi.callR, Mi.mCallR, Mi.newM, Mi.mCallRN, Mi.mApp, Mi.mRev, Mi.setAt, Mi.mSetV, Mi.mSetF, Mi.mAug, Mi.one, Mi.mRaise, Mi.mRaise0, Mi.mTry, Mi.noEx, Mi.endX, Mi.inX, Mi.mTryAs, Mi.mXf, Mi.dI, Mi.dIc, Mi.dAdd, Mi.dSub, Mi.dLt, Mi.dLe, Mi.dGt, Mi.dGe, Mi.dMul, Mi.dDiv, Mi.dMod, Mi.dPow, Mi.dNeg, Mi.sEq, Mi.ofB, Mi.dEq, Mi.dNe, Mi.isNon, Mi.dIsN, Mi.dNotN, Mi.dInt, Mi.dI1, Mi.dI2, Mi.dAbs, Mi.dMin, Mi.dMax, Mi.dGcd, Mi.dLen1, Mi.dLen, Mi.mLenV, Mi.mIsi, Mi.isub, Mi.D.tn, Mi.dIx, Mi.opC, Mi.negC, Mi.eqC, Mi.ipC, Mi.Rv.d, Mi.mNoP, Mi.asI, Mi.mPart, Mi.mSlL, Mi.asL, Mi.asQ, Mi.mItQ, Mi.mItA, Mi.mFor, Mi.putD, List.map_cons, List.map_nil, List.length_cons, List.length_nil, List.replicate, List.cons_append, List.nil_append, List.getElem?_cons_zero, List.getElem?_cons_succ, List.set_cons_zero, List.set_cons_succ, Nat.sub_self, Nat.reduceAdd, Nat.reduceSub, Nat.reduceEqDiff, List.reverse_cons, id, Bool.not_true, Bool.not_false, if_true, if_false, Bool.false_eq_true, reduceIte, true_and, and_true, and_self, Option.toList, List.all_cons, List.all_nil, Bool.and_true, Bool.true_and, Bool.and_self, decide_true, decide_false, decide_eq_true_eq, reduceCtorEq, Mi.bo_pl, Mi.bo_ow, Mi.bo_rf, Mi.bo_un, Mi.sa_ow, Mi.sa_rf, Mi.sa_pl, Mi.oa_un, Mi.oa_pl, Mi.oa_ow, Mi.co_ow, Mi.co_rf, Mi.co_pl, Mi.st_ow, Mi.st_rf, Mi.lv_ow, Mi.lv_rf, Mi.lv_pl, Mi.ne_un, Mi.ne_pl, Mi.ne_ow, Mi.ne_rf, Mi.ne_se, Mi.ne_ex, Mi.th_un, Mi.th_pl, Mi.ie_ex, Mi.xf_ex, ne_eq, not_false_eq_true, not_true_eq_false, Mi.clr, Mi.putS, Option.isSome_some, Option.some.injEq, Int.reduceEq, Int.reduceNe, Int.reduceLT, Int.reduceLE, Nat.reduceLT, Nat.reduceLeDiff, decide_not, Bool.not_eq_true, Bool.decide_eq_true, Mi.ib_t, Mi.ib_f, Mi.mkR_ex, Mi.bO_s, Mi.rO_f, Mi.rO_t, Mi.dEqA_eq, Mi.eqN_0, Mi.eqN_1, Mi.eqN_2, Mi.eqN_3, Mi.eqB_ins, Mi.eqB_tt, Mi.eqB_ll, Mi.eqB_int, Mi.eqB_str, Mi.eqB_bl, Mi.eqB_non, Mi.eqK_ii, Mi.eqK_ss, Mi.eqK_bb, Mi.eqK_nn, Mi.eqK_ni, Mi.eqK_in, Mi.eqK_ns, Mi.eqK_sn, Mi.eqK_is, Mi.eqK_si, Mi.eqK_nt, Mi.eqK_nl, Mi.eqB_tn, Mi.eqB_ln, Mi.eqLs_nil, Mi.eqLs_nc, Mi.eqLs_cn, Mi.eqLs_cc, Mi.itE_int, Mi.itE_str, Mi.itE_bl, Mi.itE_non, Mi.appT, Mi.asB, Mi.mMakeK, Mi.mDic, Option.bind_some, e_is_integer, isIntD, h0, hn, hg, iDiv_eq, s_tb]
theorem e_init1 (p : Int) : m_Ratio___init___1 [.int p] = .ok (rF (p : Rat)) := by
  unfold m_Ratio___init___1
  have e : Rat.divInt p 1 = (p : Rat) := by rw [show (1 : Int) = ((1 : Nat) : Int) from rfl, Rat.divInt_ofNat, ← Rat.mk_eq_mkRat p 1 (by decide) (by simp)]; rfl
  rw [← e]
  exact e_init (by decide)
theorem e_mul (hp : RB n p) (hq : RB m q) (e : n + m ≤ 134217728) : m_Ratio___mul__ [rD p, rD q] = .ok (.pl (rD (p * q))) := by
  unfold m_Ratio___mul__ b_Ratio___mul__
  have hd := Int.mul_ne_zero (den_ne p) (den_ne q)
  simp only [Mi.runM, Mi.runI, Mi.runR, Mi.outF, Mi.outI, Mi.outR, Mi.startE, Mi.bnd, Mi.ret, Mi.lift, Mi.fail, Mi.mVar, Mi.mC, Mi.mBin, Mi.mBinN, Mi.mUn, Mi.mFld, Mi.mFrz, Mi.mB, Mi.tru, Mi.mAnd, Mi.mOr, Mi.mNot, Mi.mAndV, Mi.mOrV, Mi.mNotV, Mi.mIf, Mi.mChain, Mi.mNil, Mi.mCons, Mi.mTup, Mi.mLst, Mi.mCB, Mi.mCBn, Mi.mIdxV, Mi.mSkip, Mi.thenF, Mi.mSeq, Mi.sto, Mi.mAsg, Mi.mAsgN, Mi.two, Mi.mPar, Mi.mDrop, Mi.mRet, Mi.mRetN, Mi.mRetV, Mi.mIfS, Mi.againF, Mi.gV, Mi.gsN, Mi.gsC, Mi.gT, Mi.mAsgT, Mi.tgt, Mi.mCall, Mi.frzR, Mi.newR, Mi.mCallN, Mi.recv, Mi.mMeth, Mi.mMethN, Mi.mMake, Mi.callR, Mi.mCallR, Mi.newM, Mi.mCallRN, Mi.mApp, Mi.mRev, Mi.setAt, Mi.mSetV, Mi.mSetF, Mi.mAug, Mi.one, Mi.mRaise, Mi.mRaise0, Mi.mTry, Mi.noEx, Mi.endX, Mi.inX, Mi.mTryAs, Mi.mXf, Mi.dI, Mi.dIc, Mi.dAdd, Mi.dSub, Mi.dLt, Mi.dLe, Mi.dGt, Mi.dGe, Mi.dMul, Mi.dDiv, Mi.dMod, Mi.dPow, Mi.dNeg, Mi.sEq, Mi.ofB, Mi.dEq, Mi.dNe, Mi.isNon, Mi.dIsN, Mi.dNotN, Mi.dInt, Mi.dI1, Mi.dI2, Mi.dAbs, Mi.dMin, Mi.dMax, Mi.dGcd, Mi.dLen1, Mi.dLen, Mi.mLenV, Mi.mIsi, Mi.dIx, Mi.opC, Mi.negC, Mi.eqC, Mi.ipC, Mi.Rv.d, Mi.mNoP, Mi.asI, Mi.mPart, Mi.mSlL, Mi.asL, Mi.asQ, Mi.mItQ, Mi.mItA, Mi.mFor, Mi.putD, List.map_cons, List.map_nil, List.length_cons, List.length_nil, List.replicate, List.cons_append, List.nil_append, List.getElem?_cons_zero, List.getElem?_cons_succ, List.set_cons_zero, List.set_cons_succ, Nat.sub_self, Nat.reduceAdd, Nat.reduceSub, Nat.reduceEqDiff, List.reverse_cons, id, Bool.not_true, Bool.not_false, if_true, if_false, Bool.false_eq_true, reduceIte, true_and, and_true, and_self, Option.toList, List.all_cons, List.all_nil, Bool.and_true, Bool.true_and, Bool.and_self, decide_true, decide_false, decide_eq_true_eq, reduceCtorEq, Mi.bo_pl, Mi.bo_ow, Mi.bo_rf, Mi.bo_un, Mi.sa_ow, Mi.sa_rf, Mi.sa_pl, Mi.oa_un, Mi.oa_pl, Mi.oa_ow, Mi.co_ow, Mi.co_rf, Mi.co_pl, Mi.st_ow, Mi.st_rf, Mi.lv_ow, Mi.lv_rf, Mi.lv_pl, Mi.ne_un, Mi.ne_pl, Mi.ne_ow, Mi.ne_rf, Mi.ne_se, Mi.ne_ex, Mi.th_un, Mi.th_pl, Mi.ie_ex, Mi.xf_ex, ne_eq, not_false_eq_true, not_true_eq_false, Mi.clr, Mi.putS, Option.isSome_some, Option.some.injEq, Int.reduceEq, Int.reduceNe, Int.reduceLT, Int.reduceLE, Nat.reduceLT, Nat.reduceLeDiff, decide_not, Bool.not_eq_true, Bool.decide_eq_true, Mi.ib_t, Mi.ib_f, Mi.mkR_ex, Mi.bO_s, Mi.rO_f, Mi.rO_t, Mi.dEqA_eq, Mi.eqN_0, Mi.eqN_1, Mi.eqN_2, Mi.eqN_3, Mi.eqB_ins, Mi.eqB_tt, Mi.eqB_ll, Mi.eqB_int, Mi.eqB_str, Mi.eqB_bl, Mi.eqB_non, Mi.eqK_ii, Mi.eqK_ss, Mi.eqK_bb, Mi.eqK_nn, Mi.eqK_ni, Mi.eqK_in, Mi.eqK_ns, Mi.eqK_sn, Mi.eqK_is, Mi.eqK_si, Mi.eqK_nt, Mi.eqK_nl, Mi.eqB_tn, Mi.eqB_ln, Mi.eqLs_nil, Mi.eqLs_nc, Mi.eqLs_cn, Mi.eqLs_cc, Mi.itE_int, Mi.itE_str, Mi.itE_bl, Mi.itE_non, Mi.appT, Mi.asB, Mi.mMakeK, Mi.mDic, Option.bind_some, e_is_integer, isIntD_rD, tn_rD, isub_RR, dFld_top, dFld_bottom, hp.num.mulOk hq.num e, hp.den.mulOk hq.den e, e_init hd, mkR_rF, q_mul]
theorem e_mulI (hp : RB n p) (hi : Bd m i) (e : n + m ≤ 134217728) : m_Ratio___mul__ [rD p, .int i] = .ok (.pl (rD (p * (i : Rat)))) := by
  unfold m_Ratio___mul__ b_Ratio___mul__
  simp only [Mi.runM, Mi.runI, Mi.runR, Mi.outF, Mi.outI, Mi.outR, Mi.startE, Mi.bnd, Mi.ret, Mi.lift, Mi.fail, Mi.mVar, Mi.mC, Mi.mBin, Mi.mBinN, Mi.mUn, Mi.mFld, Mi.mFrz, Mi.mB, Mi.tru, Mi.mAnd, Mi.mOr, Mi.mNot, Mi.mAndV, Mi.mOrV, Mi.mNotV, Mi.mIf, Mi.mChain, Mi.mNil, Mi.mCons, Mi.mTup, Mi.mLst, Mi.mCB, Mi.mCBn, Mi.mIdxV, Mi.mSkip, Mi.thenF, Mi.mSeq, Mi.sto, Mi.mAsg, Mi.mAsgN, Mi.two, Mi.mPar, Mi.mDrop, Mi.mRet, Mi.mRetN, Mi.mRetV, Mi.mIfS, Mi.againF, Mi.gV, Mi.gsN, Mi.gsC, Mi.gT, Mi.mAsgT, Mi.tgt, Mi.mCall, Mi.frzR, Mi.newR, Mi.mCallN, Mi.recv, Mi.mMeth, Mi.mMethN, Mi.mMake, Mi.callR, Mi.mCallR, Mi.newM, Mi.mCallRN, Mi.mApp, Mi.mRev, Mi.setAt, Mi.mSetV, Mi.mSetF, Mi.mAug, Mi.one, Mi.mRaise, Mi.mRaise0, Mi.mTry, Mi.noEx, Mi.endX, Mi.inX, Mi.mTryAs, Mi.mXf, Mi.dI, Mi.dIc, Mi.dAdd, Mi.dSub, Mi.dLt, Mi.dLe, Mi.dGt, Mi.dGe, Mi.dMul, Mi.dDiv, Mi.dMod, Mi.dPow, Mi.dNeg, Mi.sEq, Mi.ofB, Mi.dEq, Mi.dNe, Mi.isNon, Mi.dIsN, Mi.dNotN, Mi.dInt, Mi.dI1, Mi.dI2, Mi.dAbs, Mi.dMin, Mi.dMax, Mi.dGcd, Mi.dLen1, Mi.dLen, Mi.mLenV, Mi.mIsi, Mi.dIx, Mi.opC, Mi.negC, Mi.eqC, Mi.ipC, Mi.Rv.d, Mi.mNoP, Mi.asI, Mi.mPart, Mi.mSlL, Mi.asL, Mi.asQ, Mi.mItQ, Mi.mItA, Mi.mFor, Mi.putD, List.map_cons, List.map_nil, List.length_cons, List.length_nil, List.replicate, List.cons_append, List.nil_append, List.getElem?_cons_zero, List.getElem?_cons_succ, List.set_cons_zero, List.set_cons_succ, Nat.sub_self, Nat.reduceAdd, Nat.reduceSub, Nat.reduceEqDiff, List.reverse_cons, id, Bool.not_true, Bool.not_false, if_true, if_false, Bool.false_eq_true, reduceIte, true_and, and_true, and_self, Option.toList, List.all_cons, List.all_nil, Bool.and_true, Bool.true_and, Bool.and_self, decide_true, decide_false, decide_eq_true_eq, reduceCtorEq, Mi.bo_pl, Mi.bo_ow, Mi.bo_rf, Mi.bo_un, Mi.sa_ow, Mi.sa_rf, Mi.sa_pl, Mi.oa_un, Mi.oa_pl, Mi.oa_ow, Mi.co_ow, Mi.co_rf, Mi.co_pl, Mi.st_ow, Mi.st_rf, Mi.lv_ow, Mi.lv_rf, Mi.lv_pl, Mi.ne_un, Mi.ne_pl, Mi.ne_ow, Mi.ne_rf, Mi.ne_se, Mi.ne_ex, Mi.th_un, Mi.th_pl, Mi.ie_ex, Mi.xf_ex, ne_eq, not_false_eq_true, not_true_eq_false, Mi.clr, Mi.putS, Option.isSome_some, Option.some.injEq, Int.reduceEq, Int.reduceNe, Int.reduceLT, Int.reduceLE, Nat.reduceLT, Nat.reduceLeDiff, decide_not, Bool.not_eq_true, Bool.decide_eq_true, Mi.ib_t, Mi.ib_f, Mi.mkR_ex, Mi.bO_s, Mi.rO_f, Mi.rO_t, Mi.dEqA_eq, Mi.eqN_0, Mi.eqN_1, Mi.eqN_2, Mi.eqN_3, Mi.eqB_ins, Mi.eqB_tt, Mi.eqB_ll, Mi.eqB_int, Mi.eqB_str, Mi.eqB_bl, Mi.eqB_non, Mi.eqK_ii, Mi.eqK_ss, Mi.eqK_bb, Mi.eqK_nn, Mi.eqK_ni, Mi.eqK_in, Mi.eqK_ns, Mi.eqK_sn, Mi.eqK_is, Mi.eqK_si, Mi.eqK_nt, Mi.eqK_nl, Mi.eqB_tn, Mi.eqB_ln, Mi.eqLs_nil, Mi.eqLs_nc, Mi.eqLs_cn, Mi.eqLs_cc, Mi.itE_int, Mi.itE_str, Mi.itE_bl, Mi.itE_non, Mi.appT, Mi.asB, Mi.mMakeK, Mi.mDic, Option.bind_some, e_is_integer, isIntD_int, dFld_top, dFld_bottom, hp.num.mulOk hi e, e_init (den_ne p), mkR_rF, q_mulI]
theorem e_eq : m_Ratio___eq__ [rD p, rD q] = .ok (.pl (.bl (decide (p = q)))) := by
  unfold m_Ratio___eq__ b_Ratio___eq__
  by_cases h1 : p.num = q.num
  · by_cases h2 : (p.den : Int) = q.den
    · have h : p = q := rat_eq_iff.mpr ⟨h1, h2⟩
      simp only [Mi.runM, Mi.runI, Mi.runR, Mi.outF, Mi.outI, Mi.outR, Mi.startE, Mi.bnd, Mi.ret, Mi.lift, Mi.fail, Mi.mVar, Mi.mC, Mi.mBin, Mi.mBinN, Mi.mUn, Mi.mFld, Mi.mFrz, Mi.mB, Mi.tru, Mi.mAnd, Mi.mOr, Mi.mNot, Mi.mAndV, Mi.mOrV, Mi.mNotV, Mi.mIf, Mi.mChain, Mi.mNil, Mi.mCons, Mi.mTup, Mi.mLst, Mi.mCB, Mi.mCBn, Mi.mIdxV, Mi.mSkip, Mi.thenF, Mi.mSeq, Mi.sto, Mi.mAsg, Mi.mAsgN, Mi.two, Mi.mPar, Mi.mDrop, Mi.mRet, Mi.mRetN, Mi.mRetV, Mi.mIfS, Mi.againF, Mi.gV, Mi.gsN, Mi.gsC, Mi.gT, Mi.mAsgT, Mi.tgt, Mi.mCall, Mi.frzR, Mi.newR, Mi.mCallN, Mi.recv, Mi.mMeth, Mi.mMethN, Mi.mMake, Mi.callR, Mi.mCallR, Mi.newM, Mi.mCallRN, Mi.mApp, Mi.mRev, Mi.setAt, Mi.mSetV, Mi.mSetF, Mi.mAug, Mi.one, Mi.mRaise, Mi.mRaise0, Mi.mTry, Mi.noEx, Mi.endX, Mi.inX, Mi.mTryAs, Mi.mXf, Mi.dI, Mi.dIc, Mi.dAdd, Mi.dSub, Mi.dLt, Mi.dLe, Mi.dGt, Mi.dGe, Mi.dMul, Mi.dDiv, Mi.dMod, Mi.dPow, Mi.dNeg, Mi.sEq, Mi.ofB, Mi.dEq, Mi.dNe, Mi.isNon, Mi.dIsN, Mi.dNotN, Mi.dInt, Mi.dI1, Mi.dI2, Mi.dAbs, Mi.dMin, Mi.dMax, Mi.dGcd, Mi.dLen1, Mi.dLen, Mi.mLenV, Mi.mIsi, Mi.dIx, Mi.opC, Mi.negC, Mi.eqC, Mi.ipC, Mi.Rv.d, Mi.mNoP, Mi.asI, Mi.mPart, Mi.mSlL, Mi.asL, Mi.asQ, Mi.mItQ, Mi.mItA, Mi.mFor, Mi.putD, List.map_cons, List.map_nil, List.length_cons, List.length_nil, List.replicate, List.cons_append, List.nil_append, List.getElem?_cons_zero, List.getElem?_cons_succ, List.set_cons_zero, List.set_cons_succ, Nat.sub_self, Nat.reduceAdd, Nat.reduceSub, Nat.reduceEqDiff, List.reverse_cons, id, Bool.not_true, Bool.not_false, if_true, if_false, Bool.false_eq_true, reduceIte, true_and, and_true, and_self, Option.toList, List.all_cons, List.all_nil, Bool.and_true, Bool.true_and, Bool.and_self, decide_true, decide_false, decide_eq_true_eq, reduceCtorEq, Mi.bo_pl, Mi.bo_ow, Mi.bo_rf, Mi.bo_un, Mi.sa_ow, Mi.sa_rf, Mi.sa_pl, Mi.oa_un, Mi.oa_pl, Mi.oa_ow, Mi.co_ow, Mi.co_rf, Mi.co_pl, Mi.st_ow, Mi.st_rf, Mi.lv_ow, Mi.lv_rf, Mi.lv_pl, Mi.ne_un, Mi.ne_pl, Mi.ne_ow, Mi.ne_rf, Mi.ne_se, Mi.ne_ex, Mi.th_un, Mi.th_pl, Mi.ie_ex, Mi.xf_ex, ne_eq, not_false_eq_true, not_true_eq_false, Mi.clr, Mi.putS, Option.isSome_some, Option.some.injEq, Int.reduceEq, Int.reduceNe, Int.reduceLT, Int.reduceLE, Nat.reduceLT, Nat.reduceLeDiff, decide_not, Bool.not_eq_true, Bool.decide_eq_true, Mi.ib_t, Mi.ib_f, Mi.mkR_ex, Mi.bO_s, Mi.rO_f, Mi.rO_t, Mi.dEqA_eq, Mi.eqN_0, Mi.eqN_1, Mi.eqN_2, Mi.eqN_3, Mi.eqB_ins, Mi.eqB_tt, Mi.eqB_ll, Mi.eqB_int, Mi.eqB_str, Mi.eqB_bl, Mi.eqB_non, Mi.eqK_ii, Mi.eqK_ss, Mi.eqK_bb, Mi.eqK_nn, Mi.eqK_ni, Mi.eqK_in, Mi.eqK_ns, Mi.eqK_sn, Mi.eqK_is, Mi.eqK_si, Mi.eqK_nt, Mi.eqK_nl, Mi.eqB_tn, Mi.eqB_ln, Mi.eqLs_nil, Mi.eqLs_nc, Mi.eqLs_cn, Mi.eqLs_cc, Mi.itE_int, Mi.itE_str, Mi.itE_bl, Mi.itE_non, Mi.appT, Mi.asB, Mi.mMakeK, Mi.mDic, Option.bind_some, tn_rD, isub_RR, dFld_top, dFld_bottom, h1, h2, h]
    · have h : ¬ p = q := fun z => h2 (rat_eq_iff.mp z).2
      simp only [Mi.runM, Mi.runI, Mi.runR, Mi.outF, Mi.outI, Mi.outR, Mi.startE, Mi.bnd, Mi.ret, Mi.lift, Mi.fail, Mi.mVar, Mi.mC, Mi.mBin, Mi.mBinN, Mi.mUn, Mi.mFld, Mi.mFrz, Mi.mB, Mi.tru, Mi.mAnd, Mi.mOr, Mi.mNot, Mi.mAndV, Mi.mOrV, Mi.mNotV, Mi.mIf, Mi.mChain, Mi.mNil, Mi.mCons, Mi.mTup, Mi.mLst, Mi.mCB, Mi.mCBn, Mi.mIdxV, Mi.mSkip, Mi.thenF, Mi.mSeq, Mi.sto, Mi.mAsg, Mi.mAsgN, Mi.two, Mi.mPar, Mi.mDrop, Mi.mRet, Mi.mRetN, Mi.mRetV, Mi.mIfS, Mi.againF, Mi.gV, Mi.gsN, Mi.gsC, Mi.gT, Mi.mAsgT, Mi.tgt, Mi.mCall, Mi.frzR, Mi.newR, Mi.mCallN, Mi.recv, Mi.mMeth, Mi.mMethN, Mi.mMake, Mi.callR, Mi.mCallR, Mi.newM, Mi.mCallRN, Mi.mApp, Mi.mRev, Mi.setAt, Mi.mSetV, Mi.mSetF, Mi.mAug, Mi.one, Mi.mRaise, Mi.mRaise0, Mi.mTry, Mi.noEx, Mi.endX, Mi.inX, Mi.mTryAs, Mi.mXf, Mi.dI, Mi.dIc, Mi.dAdd, Mi.dSub, Mi.dLt, Mi.dLe, Mi.dGt, Mi.dGe, Mi.dMul, Mi.dDiv, Mi.dMod, Mi.dPow, Mi.dNeg, Mi.sEq, Mi.ofB, Mi.dEq, Mi.dNe, Mi.isNon, Mi.dIsN, Mi.dNotN, Mi.dInt, Mi.dI1, Mi.dI2, Mi.dAbs, Mi.dMin, Mi.dMax, Mi.dGcd, Mi.dLen1, Mi.dLen, Mi.mLenV, Mi.mIsi, Mi.dIx, Mi.opC, Mi.negC, Mi.eqC, Mi.ipC, Mi.Rv.d, Mi.mNoP, Mi.asI, Mi.mPart, Mi.mSlL, Mi.asL, Mi.asQ, Mi.mItQ, Mi.mItA, Mi.mFor, Mi.putD, List.map_cons, List.map_nil, List.length_cons, List.length_nil, List.replicate, List.cons_append, List.nil_append, List.getElem?_cons_zero, List.getElem?_cons_succ, List.set_cons_zero, List.set_cons_succ, Nat.sub_self, Nat.reduceAdd, Nat.reduceSub, Nat.reduceEqDiff, List.reverse_cons, id, Bool.not_true, Bool.not_false, if_true, if_false, Bool.false_eq_true, reduceIte, true_and, and_true, and_self, Option.toList, List.all_cons, List.all_nil, Bool.and_true, Bool.true_and, Bool.and_self, decide_true, decide_false, decide_eq_true_eq, reduceCtorEq, Mi.bo_pl, Mi.bo_ow, Mi.bo_rf, Mi.bo_un, Mi.sa_ow, Mi.sa_rf, Mi.sa_pl, Mi.oa_un, Mi.oa_pl, Mi.oa_ow, Mi.co_ow, Mi.co_rf, Mi.co_pl, Mi.st_ow, Mi.st_rf, Mi.lv_ow, Mi.lv_rf, Mi.lv_pl, Mi.ne_un, Mi.ne_pl, Mi.ne_ow, Mi.ne_rf, Mi.ne_se, Mi.ne_ex, Mi.th_un, Mi.th_pl, Mi.ie_ex, Mi.xf_ex, ne_eq, not_false_eq_true, not_true_eq_false, Mi.clr, Mi.putS, Option.isSome_some, Option.some.injEq, Int.reduceEq, Int.reduceNe, Int.reduceLT, Int.reduceLE, Nat.reduceLT, Nat.reduceLeDiff, decide_not, Bool.not_eq_true, Bool.decide_eq_true, Mi.ib_t, Mi.ib_f, Mi.mkR_ex, Mi.bO_s, Mi.rO_f, Mi.rO_t, Mi.dEqA_eq, Mi.eqN_0, Mi.eqN_1, Mi.eqN_2, Mi.eqN_3, Mi.eqB_ins, Mi.eqB_tt, Mi.eqB_ll, Mi.eqB_int, Mi.eqB_str, Mi.eqB_bl, Mi.eqB_non, Mi.eqK_ii, Mi.eqK_ss, Mi.eqK_bb, Mi.eqK_nn, Mi.eqK_ni, Mi.eqK_in, Mi.eqK_ns, Mi.eqK_sn, Mi.eqK_is, Mi.eqK_si, Mi.eqK_nt, Mi.eqK_nl, Mi.eqB_tn, Mi.eqB_ln, Mi.eqLs_nil, Mi.eqLs_nc, Mi.eqLs_cn, Mi.eqLs_cc, Mi.itE_int, Mi.itE_str, Mi.itE_bl, Mi.itE_non, Mi.appT, Mi.asB, Mi.mMakeK, Mi.mDic, Option.bind_some, tn_rD, isub_RR, dFld_top, dFld_bottom, h1, h2, h]
  · have h : ¬ p = q := fun z => h1 (rat_eq_iff.mp z).1
    simp only [Mi.runM, Mi.runI, Mi.runR, Mi.outF, Mi.outI, Mi.outR, Mi.startE, Mi.bnd, Mi.ret, Mi.lift, Mi.fail, Mi.mVar, Mi.mC, Mi.mBin, Mi.mBinN, Mi.mUn, Mi.mFld, Mi.mFrz, Mi.mB, Mi.tru, Mi.mAnd, Mi.mOr, Mi.mNot, Mi.mAndV, Mi.mOrV, Mi.mNotV, Mi.mIf, Mi.mChain, Mi.mNil, Mi.mCons, Mi.mTup, Mi.mLst, Mi.mCB, Mi.mCBn, Mi.mIdxV, Mi.mSkip, Mi.thenF, Mi.mSeq, Mi.sto, Mi.mAsg, Mi.mAsgN, Mi.two, Mi.mPar, Mi.mDrop, Mi.mRet, Mi.mRetN, Mi.mRetV, Mi.mIfS, Mi.againF, Mi.gV, Mi.gsN, Mi.gsC, Mi.gT, Mi.mAsgT, Mi.tgt, Mi.mCall, Mi.frzR, Mi.newR, Mi.mCallN, Mi.recv, Mi.mMeth, Mi.mMethN, Mi.mMake, Mi.callR, Mi.mCallR, Mi.newM, Mi.mCallRN, Mi.mApp, Mi.mRev, Mi.setAt, Mi.mSetV, Mi.mSetF, Mi.mAug, Mi.one, Mi.mRaise, Mi.mRaise0, Mi.mTry, Mi.noEx, Mi.endX, Mi.inX, Mi.mTryAs, Mi.mXf, Mi.dI, Mi.dIc, Mi.dAdd, Mi.dSub, Mi.dLt, Mi.dLe, Mi.dGt, Mi.dGe, Mi.dMul, Mi.dDiv, Mi.dMod, Mi.dPow, Mi.dNeg, Mi.sEq, Mi.ofB, Mi.dEq, Mi.dNe, Mi.isNon, Mi.dIsN, Mi.dNotN, Mi.dInt, Mi.dI1, Mi.dI2, Mi.dAbs, Mi.dMin, Mi.dMax, Mi.dGcd, Mi.dLen1, Mi.dLen, Mi.mLenV, Mi.mIsi, Mi.dIx, Mi.opC, Mi.negC, Mi.eqC, Mi.ipC, Mi.Rv.d, Mi.mNoP, Mi.asI, Mi.mPart, Mi.mSlL, Mi.asL, Mi.asQ, Mi.mItQ, Mi.mItA, Mi.mFor, Mi.putD, List.map_cons, List.map_nil, List.length_cons, List.length_nil, List.replicate, List.cons_append, List.nil_append, List.getElem?_cons_zero, List.getElem?_cons_succ, List.set_cons_zero, List.set_cons_succ, Nat.sub_self, Nat.reduceAdd, Nat.reduceSub, Nat.reduceEqDiff, List.reverse_cons, id, Bool.not_true, Bool.not_false, if_true, if_false, Bool.false_eq_true, reduceIte, true_and, and_true, and_self, Option.toList, List.all_cons, List.all_nil, Bool.and_true, Bool.true_and, Bool.and_self, decide_true, decide_false, decide_eq_true_eq, reduceCtorEq, Mi.bo_pl, Mi.bo_ow, Mi.bo_rf, Mi.bo_un, Mi.sa_ow, Mi.sa_rf, Mi.sa_pl, Mi.oa_un, Mi.oa_pl, Mi.oa_ow, Mi.co_ow, Mi.co_rf, Mi.co_pl, Mi.st_ow, Mi.st_rf, Mi.lv_ow, Mi.lv_rf, Mi.lv_pl, Mi.ne_un, Mi.ne_pl, Mi.ne_ow, Mi.ne_rf, Mi.ne_se, Mi.ne_ex, Mi.th_un, Mi.th_pl, Mi.ie_ex, Mi.xf_ex, ne_eq, not_false_eq_true, not_true_eq_false, Mi.clr, Mi.putS, Option.isSome_some, Option.some.injEq, Int.reduceEq, Int.reduceNe, Int.reduceLT, Int.reduceLE, Nat.reduceLT, Nat.reduceLeDiff, decide_not, Bool.not_eq_true, Bool.decide_eq_true, Mi.ib_t, Mi.ib_f, Mi.mkR_ex, Mi.bO_s, Mi.rO_f, Mi.rO_t, Mi.dEqA_eq, Mi.eqN_0, Mi.eqN_1, Mi.eqN_2, Mi.eqN_3, Mi.eqB_ins, Mi.eqB_tt, Mi.eqB_ll, Mi.eqB_int, Mi.eqB_str, Mi.eqB_bl, Mi.eqB_non, Mi.eqK_ii, Mi.eqK_ss, Mi.eqK_bb, Mi.eqK_nn, Mi.eqK_ni, Mi.eqK_in, Mi.eqK_ns, Mi.eqK_sn, Mi.eqK_is, Mi.eqK_si, Mi.eqK_nt, Mi.eqK_nl, Mi.eqB_tn, Mi.eqB_ln, Mi.eqLs_nil, Mi.eqLs_nc, Mi.eqLs_cn, Mi.eqLs_cc, Mi.itE_int, Mi.itE_str, Mi.itE_bl, Mi.itE_non, Mi.appT, Mi.asB, Mi.mMakeK, Mi.mDic, Option.bind_some, tn_rD, isub_RR, dFld_top, dFld_bottom, h1, h]
theorem e_eqI : m_Ratio___eq__ [rD p, .int i] = .ok (.pl (.bl (decide (p = (i : Rat))))) := by
  unfold m_Ratio___eq__ b_Ratio___eq__
  by_cases h1 : (p.den : Int) = 1
  · by_cases h2 : p.num = i
    · have h : p = (i : Rat) := rat_eqI_iff.mpr ⟨h1, h2⟩
      have hd : decide (p = (i : Rat)) = true := decide_eq_true h
      simp only [Mi.runM, Mi.runI, Mi.runR, Mi.outF, Mi.outI, Mi.outR, Mi.startE, Mi.bnd, Mi.ret, Mi.lift, Mi.fail, Mi.mVar, Mi.mC, Mi.mBin, Mi.mBinN, Mi.mUn, Mi.mFld, Mi.mFrz, Mi.mB, Mi.tru, Mi.mAnd, Mi.mOr, Mi.mNot, Mi.mAndV, Mi.mOrV, Mi.mNotV, Mi.mIf, Mi.mChain, Mi.mNil, Mi.mCons, Mi.mTup, Mi.mLst, Mi.mCB, Mi.mCBn, Mi.mIdxV, Mi.mSkip, Mi.thenF, Mi.mSeq, Mi.sto, Mi.mAsg, Mi.mAsgN, Mi.two, Mi.mPar, Mi.mDrop, Mi.mRet, Mi.mRetN, Mi.mRetV, Mi.mIfS, Mi.againF, Mi.gV, Mi.gsN, Mi.gsC, Mi.gT, Mi.mAsgT, Mi.tgt, Mi.mCall, Mi.frzR, Mi.newR, Mi.mCallN, Mi.recv, Mi.mMeth, Mi.mMethN, Mi.mMake, Mi.callR, Mi.mCallR, Mi.newM, Mi.mCallRN, Mi.mApp, Mi.mRev, Mi.setAt, Mi.mSetV, Mi.mSetF, Mi.mAug, Mi.one, Mi.mRaise, Mi.mRaise0, Mi.mTry, Mi.noEx, Mi.endX, Mi.inX, Mi.mTryAs, Mi.mXf, Mi.dI, Mi.dIc, Mi.dAdd, Mi.dSub, Mi.dLt, Mi.dLe, Mi.dGt, Mi.dGe, Mi.dMul, Mi.dDiv, Mi.dMod, Mi.dPow, Mi.dNeg, Mi.sEq, Mi.ofB, Mi.dEq, Mi.dNe, Mi.isNon, Mi.dIsN, Mi.dNotN, Mi.dInt, Mi.dI1, Mi.dI2, Mi.dAbs, Mi.dMin, Mi.dMax, Mi.dGcd, Mi.dLen1, Mi.dLen, Mi.mLenV, Mi.mIsi, Mi.isub, Mi.D.tn, Mi.dIx, Mi.opC, Mi.negC, Mi.eqC, Mi.ipC, Mi.Rv.d, Mi.mNoP, Mi.asI, Mi.mPart, Mi.mSlL, Mi.asL, Mi.asQ, Mi.mItQ, Mi.mItA, Mi.mFor, Mi.putD, List.map_cons, List.map_nil, List.length_cons, List.length_nil, List.replicate, List.cons_append, List.nil_append, List.getElem?_cons_zero, List.getElem?_cons_succ, List.set_cons_zero, List.set_cons_succ, Nat.sub_self, Nat.reduceAdd, Nat.reduceSub, Nat.reduceEqDiff, List.reverse_cons, id, Bool.not_true, Bool.not_false, if_true, if_false, Bool.false_eq_true, reduceIte, true_and, and_true, and_self, Option.toList, List.all_cons, List.all_nil, Bool.and_true, Bool.true_and, Bool.and_self, decide_true, decide_false, decide_eq_true_eq, reduceCtorEq, Mi.bo_pl, Mi.bo_ow, Mi.bo_rf, Mi.bo_un, Mi.sa_ow, Mi.sa_rf, Mi.sa_pl, Mi.oa_un, Mi.oa_pl, Mi.oa_ow, Mi.co_ow, Mi.co_rf, Mi.co_pl, Mi.st_ow, Mi.st_rf, Mi.lv_ow, Mi.lv_rf, Mi.lv_pl, Mi.ne_un, Mi.ne_pl, Mi.ne_ow, Mi.ne_rf, Mi.ne_se, Mi.ne_ex, Mi.th_un, Mi.th_pl, Mi.ie_ex, Mi.xf_ex, ne_eq, not_false_eq_true, not_true_eq_false, Mi.clr, Mi.putS, Option.isSome_some, Option.some.injEq, Int.reduceEq, Int.reduceNe, Int.reduceLT, Int.reduceLE, Nat.reduceLT, Nat.reduceLeDiff, decide_not, Bool.not_eq_true, Bool.decide_eq_true, Mi.ib_t, Mi.ib_f, Mi.mkR_ex, Mi.bO_s, Mi.rO_f, Mi.rO_t, Mi.dEqA_eq, Mi.eqN_0, Mi.eqN_1, Mi.eqN_2, Mi.eqN_3, Mi.eqB_ins, Mi.eqB_tt, Mi.eqB_ll, Mi.eqB_int, Mi.eqB_str, Mi.eqB_bl, Mi.eqB_non, Mi.eqK_ii, Mi.eqK_ss, Mi.eqK_bb, Mi.eqK_nn, Mi.eqK_ni, Mi.eqK_in, Mi.eqK_ns, Mi.eqK_sn, Mi.eqK_is, Mi.eqK_si, Mi.eqK_nt, Mi.eqK_nl, Mi.eqB_tn, Mi.eqB_ln, Mi.eqLs_nil, Mi.eqLs_nc, Mi.eqLs_cn, Mi.eqLs_cc, Mi.itE_int, Mi.itE_str, Mi.itE_bl, Mi.itE_non, Mi.appT, Mi.asB, Mi.mMakeK, Mi.mDic, Option.bind_some, tn_rD, dFld_top, dFld_bottom, e_is_integer, isIntD, h1, h2, hd]
    · have h : ¬ p = (i : Rat) := fun z => h2 (rat_eqI_iff.mp z).2
      have hd : decide (p = (i : Rat)) = false := decide_eq_false h
      simp only [Mi.runM, Mi.runI, Mi.runR, Mi.outF, Mi.outI, Mi.outR, Mi.startE, Mi.bnd, Mi.ret, Mi.lift, Mi.fail, Mi.mVar, Mi.mC, Mi.mBin, Mi.mBinN, Mi.mUn, Mi.mFld, Mi.mFrz, Mi.mB, Mi.tru, Mi.mAnd, Mi.mOr, Mi.mNot, Mi.mAndV, Mi.mOrV, Mi.mNotV, Mi.mIf, Mi.mChain, Mi.mNil, Mi.mCons, Mi.mTup, Mi.mLst, Mi.mCB, Mi.mCBn, Mi.mIdxV, Mi.mSkip, Mi.thenF, Mi.mSeq, Mi.sto, Mi.mAsg, Mi.mAsgN, Mi.two, Mi.mPar, Mi.mDrop, Mi.mRet, Mi.mRetN, Mi.mRetV, Mi.mIfS, Mi.againF, Mi.gV, Mi.gsN, Mi.gsC, Mi.gT, Mi.mAsgT, Mi.tgt, Mi.mCall, Mi.frzR, Mi.newR, Mi.mCallN, Mi.recv, Mi.mMeth, Mi.mMethN, Mi.mMake, Mi.callR, Mi.mCallR, Mi.newM, Mi.mCallRN, Mi.mApp, Mi.mRev, Mi.setAt, Mi.mSetV, Mi.mSetF, Mi.mAug, Mi.one, Mi.mRaise, Mi.mRaise0, Mi.mTry, Mi.noEx, Mi.endX, Mi.inX, Mi.mTryAs, Mi.mXf, Mi.dI, Mi.dIc, Mi.dAdd, Mi.dSub, Mi.dLt, Mi.dLe, Mi.dGt, Mi.dGe, Mi.dMul, Mi.dDiv, Mi.dMod, Mi.dPow, Mi.dNeg, Mi.sEq, Mi.ofB, Mi.dEq, Mi.dNe, Mi.isNon, Mi.dIsN, Mi.dNotN, Mi.dInt, Mi.dI1, Mi.dI2, Mi.dAbs, Mi.dMin, Mi.dMax, Mi.dGcd, Mi.dLen1, Mi.dLen, Mi.mLenV, Mi.mIsi, Mi.isub, Mi.D.tn, Mi.dIx, Mi.opC, Mi.negC, Mi.eqC, Mi.ipC, Mi.Rv.d, Mi.mNoP, Mi.asI, Mi.mPart, Mi.mSlL, Mi.asL, Mi.asQ, Mi.mItQ, Mi.mItA, Mi.mFor, Mi.putD, List.map_cons, List.map_nil, List.length_cons, List.length_nil, List.replicate, List.cons_append, List.nil_append, List.getElem?_cons_zero, List.getElem?_cons_succ, List.set_cons_zero, List.set_cons_succ, Nat.sub_self, Nat.reduceAdd, Nat.reduceSub, Nat.reduceEqDiff, List.reverse_cons, id, Bool.not_true, Bool.not_false, if_true, if_false, Bool.false_eq_true, reduceIte, true_and, and_true, and_self, Option.toList, List.all_cons, List.all_nil, Bool.and_true, Bool.true_and, Bool.and_self, decide_true, decide_false, decide_eq_true_eq, reduceCtorEq, Mi.bo_pl, Mi.bo_ow, Mi.bo_rf, Mi.bo_un, Mi.sa_ow, Mi.sa_rf, Mi.sa_pl, Mi.oa_un, Mi.oa_pl, Mi.oa_ow, Mi.co_ow, Mi.co_rf, Mi.co_pl, Mi.st_ow, Mi.st_rf, Mi.lv_ow, Mi.lv_rf, Mi.lv_pl, Mi.ne_un, Mi.ne_pl, Mi.ne_ow, Mi.ne_rf, Mi.ne_se, Mi.ne_ex, Mi.th_un, Mi.th_pl, Mi.ie_ex, Mi.xf_ex, ne_eq, not_false_eq_true, not_true_eq_false, Mi.clr, Mi.putS, Option.isSome_some, Option.some.injEq, Int.reduceEq, Int.reduceNe, Int.reduceLT, Int.reduceLE, Nat.reduceLT, Nat.reduceLeDiff, decide_not, Bool.not_eq_true, Bool.decide_eq_true, Mi.ib_t, Mi.ib_f, Mi.mkR_ex, Mi.bO_s, Mi.rO_f, Mi.rO_t, Mi.dEqA_eq, Mi.eqN_0, Mi.eqN_1, Mi.eqN_2, Mi.eqN_3, Mi.eqB_ins, Mi.eqB_tt, Mi.eqB_ll, Mi.eqB_int, Mi.eqB_str, Mi.eqB_bl, Mi.eqB_non, Mi.eqK_ii, Mi.eqK_ss, Mi.eqK_bb, Mi.eqK_nn, Mi.eqK_ni, Mi.eqK_in, Mi.eqK_ns, Mi.eqK_sn, Mi.eqK_is, Mi.eqK_si, Mi.eqK_nt, Mi.eqK_nl, Mi.eqB_tn, Mi.eqB_ln, Mi.eqLs_nil, Mi.eqLs_nc, Mi.eqLs_cn, Mi.eqLs_cc, Mi.itE_int, Mi.itE_str, Mi.itE_bl, Mi.itE_non, Mi.appT, Mi.asB, Mi.mMakeK, Mi.mDic, Option.bind_some, tn_rD, dFld_top, dFld_bottom, e_is_integer, isIntD, h1, h2, hd]
  · have h : ¬ p = (i : Rat) := fun z => h1 (rat_eqI_iff.mp z).1
    have hd : decide (p = (i : Rat)) = false := decide_eq_false h
    simp only [Mi.runM, Mi.runI, Mi.runR, Mi.outF, Mi.outI, Mi.outR, Mi.startE, Mi.bnd, Mi.ret, Mi.lift, Mi.fail, Mi.mVar, Mi.mC, Mi.mBin, Mi.mBinN, Mi.mUn, Mi.mFld, Mi.mFrz, Mi.mB, Mi.tru, Mi.mAnd, Mi.mOr, Mi.mNot, Mi.mAndV, Mi.mOrV, Mi.mNotV, Mi.mIf, Mi.mChain, Mi.mNil, Mi.mCons, Mi.mTup, Mi.mLst, Mi.mCB, Mi.mCBn, Mi.mIdxV, Mi.mSkip, Mi.thenF, Mi.mSeq, Mi.sto, Mi.mAsg, Mi.mAsgN, Mi.two, Mi.mPar, Mi.mDrop, Mi.mRet, Mi.mRetN, Mi.mRetV, Mi.mIfS, Mi.againF, Mi.gV, Mi.gsN, Mi.gsC, Mi.gT, Mi.mAsgT, Mi.tgt, Mi.mCall, Mi.frzR, Mi.newR, Mi.mCallN, Mi.recv, Mi.mMeth, Mi.mMethN, Mi.mMake, Mi.callR, Mi.mCallR, Mi.newM, Mi.mCallRN, Mi.mApp, Mi.mRev, Mi.setAt, Mi.mSetV, Mi.mSetF, Mi.mAug, Mi.one, Mi.mRaise, Mi.mRaise0, Mi.mTry, Mi.noEx, Mi.endX, Mi.inX, Mi.mTryAs, Mi.mXf, Mi.dI, Mi.dIc, Mi.dAdd, Mi.dSub, Mi.dLt, Mi.dLe, Mi.dGt, Mi.dGe, Mi.dMul, Mi.dDiv, Mi.dMod, Mi.dPow, Mi.dNeg, Mi.sEq, Mi.ofB, Mi.dEq, Mi.dNe, Mi.isNon, Mi.dIsN, Mi.dNotN, Mi.dInt, Mi.dI1, Mi.dI2, Mi.dAbs, Mi.dMin, Mi.dMax, Mi.dGcd, Mi.dLen1, Mi.dLen, Mi.mLenV, Mi.mIsi, Mi.isub, Mi.D.tn, Mi.dIx, Mi.opC, Mi.negC, Mi.eqC, Mi.ipC, Mi.Rv.d, Mi.mNoP, Mi.asI, Mi.mPart, Mi.mSlL, Mi.asL, Mi.asQ, Mi.mItQ, Mi.mItA, Mi.mFor, Mi.putD, List.map_cons, List.map_nil, List.length_cons, List.length_nil, List.replicate, List.cons_append, List.nil_append, List.getElem?_cons_zero, List.getElem?_cons_succ, List.set_cons_zero, List.set_cons_succ, Nat.sub_self, Nat.reduceAdd, Nat.reduceSub, Nat.reduceEqDiff, List.reverse_cons, id, Bool.not_true, Bool.not_false, if_true, if_false, Bool.false_eq_true, reduceIte, true_and, and_true, and_self, Option.toList, List.all_cons, List.all_nil, Bool.and_true, Bool.true_and, Bool.and_self, decide_true, decide_false, decide_eq_true_eq, reduceCtorEq, Mi.bo_pl, Mi.bo_ow, Mi.bo_rf, Mi.bo_un, Mi.sa_ow, Mi.sa_rf, Mi.sa_pl, Mi.oa_un, Mi.oa_pl, Mi.oa_ow, Mi.co_ow, Mi.co_rf, Mi.co_pl, Mi.st_ow, Mi.st_rf, Mi.lv_ow, Mi.lv_rf, Mi.lv_pl, Mi.ne_un, Mi.ne_pl, Mi.ne_ow, Mi.ne_rf, Mi.ne_se, Mi.ne_ex, Mi.th_un, Mi.th_pl, Mi.ie_ex, Mi.xf_ex, ne_eq, not_false_eq_true, not_true_eq_false, Mi.clr, Mi.putS, Option.isSome_some, Option.some.injEq, Int.reduceEq, Int.reduceNe, Int.reduceLT, Int.reduceLE, Nat.reduceLT, Nat.reduceLeDiff, decide_not, Bool.not_eq_true, Bool.decide_eq_true, Mi.ib_t, Mi.ib_f, Mi.mkR_ex, Mi.bO_s, Mi.rO_f, Mi.rO_t, Mi.dEqA_eq, Mi.eqN_0, Mi.eqN_1, Mi.eqN_2, Mi.eqN_3, Mi.eqB_ins, Mi.eqB_tt, Mi.eqB_ll, Mi.eqB_int, Mi.eqB_str, Mi.eqB_bl, Mi.eqB_non, Mi.eqK_ii, Mi.eqK_ss, Mi.eqK_bb, Mi.eqK_nn, Mi.eqK_ni, Mi.eqK_in, Mi.eqK_ns, Mi.eqK_sn, Mi.eqK_is, Mi.eqK_si, Mi.eqK_nt, Mi.eqK_nl, Mi.eqB_tn, Mi.eqB_ln, Mi.eqLs_nil, Mi.eqLs_nc, Mi.eqLs_cn, Mi.eqLs_cc, Mi.itE_int, Mi.itE_str, Mi.itE_bl, Mi.itE_non, Mi.appT, Mi.asB, Mi.mMakeK, Mi.mDic, Option.bind_some, tn_rD, dFld_top, dFld_bottom, e_is_integer, isIntD, h1, hd]
theorem e_eqS (s : Str) : m_Ratio___eq__ [rD p, .str s] = .ok (.pl (.bl false)) := by
  unfold m_Ratio___eq__ b_Ratio___eq__
  simp only [Mi.runM, Mi.runI, Mi.runR, Mi.outF, Mi.outI, Mi.outR, Mi.startE, Mi.bnd, Mi.ret, Mi.lift, Mi.fail, Mi.mVar, Mi.mC, Mi.mBin, Mi.mBinN, Mi.mUn, Mi.mFld, Mi.mFrz, Mi.mB, Mi.tru, Mi.mAnd, Mi.mOr, Mi.mNot, Mi.mAndV, Mi.mOrV, Mi.mNotV, Mi.mIf, Mi.mChain, Mi.mNil, Mi.mCons, Mi.mTup, Mi.mLst, Mi.mCB, Mi.mCBn, Mi.mIdxV, Mi.mSkip, Mi.thenF, Mi.mSeq, Mi.sto, Mi.mAsg, Mi.mAsgN, Mi.two, Mi.mPar, Mi.mDrop, Mi.mRet, Mi.mRetN, Mi.mRetV, Mi.mIfS, Mi.againF, Mi.gV, Mi.gsN, Mi.gsC, Mi.gT, Mi.mAsgT, Mi.tgt, Mi.mCall, Mi.frzR, Mi.newR, Mi.mCallN, Mi.recv, Mi.mMeth, Mi.mMethN, Mi.mMake, Mi.callR, Mi.mCallR, Mi.newM, Mi.mCallRN, Mi.mApp, Mi.mRev, Mi.setAt, Mi.mSetV, Mi.mSetF, Mi.mAug, Mi.one, Mi.mRaise, Mi.mRaise0, Mi.mTry, Mi.noEx, Mi.endX, Mi.inX, Mi.mTryAs, Mi.mXf, Mi.dI, Mi.dIc, Mi.dAdd, Mi.dSub, Mi.dLt, Mi.dLe, Mi.dGt, Mi.dGe, Mi.dMul, Mi.dDiv, Mi.dMod, Mi.dPow, Mi.dNeg, Mi.sEq, Mi.ofB, Mi.dEq, Mi.dNe, Mi.isNon, Mi.dIsN, Mi.dNotN, Mi.dInt, Mi.dI1, Mi.dI2, Mi.dAbs, Mi.dMin, Mi.dMax, Mi.dGcd, Mi.dLen1, Mi.dLen, Mi.mLenV, Mi.mIsi, Mi.isub, Mi.D.tn, Mi.dIx, Mi.opC, Mi.negC, Mi.eqC, Mi.ipC, Mi.Rv.d, Mi.mNoP, Mi.asI, Mi.mPart, Mi.mSlL, Mi.asL, Mi.asQ, Mi.mItQ, Mi.mItA, Mi.mFor, Mi.putD, List.map_cons, List.map_nil, List.length_cons, List.length_nil, List.replicate, List.cons_append, List.nil_append, List.getElem?_cons_zero, List.getElem?_cons_succ, List.set_cons_zero, List.set_cons_succ, Nat.sub_self, Nat.reduceAdd, Nat.reduceSub, Nat.reduceEqDiff, List.reverse_cons, id, Bool.not_true, Bool.not_false, if_true, if_false, Bool.false_eq_true, reduceIte, true_and, and_true, and_self, Option.toList, List.all_cons, List.all_nil, Bool.and_true, Bool.true_and, Bool.and_self, decide_true, decide_false, decide_eq_true_eq, reduceCtorEq, Mi.bo_pl, Mi.bo_ow, Mi.bo_rf, Mi.bo_un, Mi.sa_ow, Mi.sa_rf, Mi.sa_pl, Mi.oa_un, Mi.oa_pl, Mi.oa_ow, Mi.co_ow, Mi.co_rf, Mi.co_pl, Mi.st_ow, Mi.st_rf, Mi.lv_ow, Mi.lv_rf, Mi.lv_pl, Mi.ne_un, Mi.ne_pl, Mi.ne_ow, Mi.ne_rf, Mi.ne_se, Mi.ne_ex, Mi.th_un, Mi.th_pl, Mi.ie_ex, Mi.xf_ex, ne_eq, not_false_eq_true, not_true_eq_false, Mi.clr, Mi.putS, Option.isSome_some, Option.some.injEq, Int.reduceEq, Int.reduceNe, Int.reduceLT, Int.reduceLE, Nat.reduceLT, Nat.reduceLeDiff, decide_not, Bool.not_eq_true, Bool.decide_eq_true, Mi.ib_t, Mi.ib_f, Mi.mkR_ex, Mi.bO_s, Mi.rO_f, Mi.rO_t, Mi.dEqA_eq, Mi.eqN_0, Mi.eqN_1, Mi.eqN_2, Mi.eqN_3, Mi.eqB_ins, Mi.eqB_tt, Mi.eqB_ll, Mi.eqB_int, Mi.eqB_str, Mi.eqB_bl, Mi.eqB_non, Mi.eqK_ii, Mi.eqK_ss, Mi.eqK_bb, Mi.eqK_nn, Mi.eqK_ni, Mi.eqK_in, Mi.eqK_ns, Mi.eqK_sn, Mi.eqK_is, Mi.eqK_si, Mi.eqK_nt, Mi.eqK_nl, Mi.eqB_tn, Mi.eqB_ln, Mi.eqLs_nil, Mi.eqLs_nc, Mi.eqLs_cn, Mi.eqLs_cc, Mi.itE_int, Mi.itE_str, Mi.itE_bl, Mi.itE_non, Mi.appT, Mi.asB, Mi.mMakeK, Mi.mDic, Option.bind_some, tn_rD, dFld_top, dFld_bottom, e_is_integer, isIntD]
theorem e_eqN : m_Ratio___eq__ [rD p, .non] = .ok (.pl (.bl false)) := by
  unfold m_Ratio___eq__ b_Ratio___eq__
  simp only [Mi.runM, Mi.runI, Mi.runR, Mi.outF, Mi.outI, Mi.outR, Mi.startE, Mi.bnd, Mi.ret, Mi.lift, Mi.fail, Mi.mVar, Mi.mC, Mi.mBin, Mi.mBinN, Mi.mUn, Mi.mFld, Mi.mFrz, Mi.mB, Mi.tru, Mi.mAnd, Mi.mOr, Mi.mNot, Mi.mAndV, Mi.mOrV, Mi.mNotV, Mi.mIf, Mi.mChain, Mi.mNil, Mi.mCons, Mi.mTup, Mi.mLst, Mi.mCB, Mi.mCBn, Mi.mIdxV, Mi.mSkip, Mi.thenF, Mi.mSeq, Mi.sto, Mi.mAsg, Mi.mAsgN, Mi.two, Mi.mPar, Mi.mDrop, Mi.mRet, Mi.mRetN, Mi.mRetV, Mi.mIfS, Mi.againF, Mi.gV, Mi.gsN, Mi.gsC, Mi.gT, Mi.mAsgT, Mi.tgt, Mi.mCall, Mi.frzR, Mi.newR, Mi.mCallN, Mi.recv, Mi.mMeth, Mi.mMethN, Mi.mMake, Mi.callR, Mi.mCallR, Mi.newM, Mi.mCallRN, Mi.mApp, Mi.mRev, Mi.setAt, Mi.mSetV, Mi.mSetF, Mi.mAug, Mi.one, Mi.mRaise, Mi.mRaise0, Mi.mTry, Mi.noEx, Mi.endX, Mi.inX, Mi.mTryAs, Mi.mXf, Mi.dI, Mi.dIc, Mi.dAdd, Mi.dSub, Mi.dLt, Mi.dLe, Mi.dGt, Mi.dGe, Mi.dMul, Mi.dDiv, Mi.dMod, Mi.dPow, Mi.dNeg, Mi.sEq, Mi.ofB, Mi.dEq, Mi.dNe, Mi.isNon, Mi.dIsN, Mi.dNotN, Mi.dInt, Mi.dI1, Mi.dI2, Mi.dAbs, Mi.dMin, Mi.dMax, Mi.dGcd, Mi.dLen1, Mi.dLen, Mi.mLenV, Mi.mIsi, Mi.isub, Mi.D.tn, Mi.dIx, Mi.opC, Mi.negC, Mi.eqC, Mi.ipC, Mi.Rv.d, Mi.mNoP, Mi.asI, Mi.mPart, Mi.mSlL, Mi.asL, Mi.asQ, Mi.mItQ, Mi.mItA, Mi.mFor, Mi.putD, List.map_cons, List.map_nil, List.length_cons, List.length_nil, List.replicate, List.cons_append, List.nil_append, List.getElem?_cons_zero, List.getElem?_cons_succ, List.set_cons_zero, List.set_cons_succ, Nat.sub_self, Nat.reduceAdd, Nat.reduceSub, Nat.reduceEqDiff, List.reverse_cons, id, Bool.not_true, Bool.not_false, if_true, if_false, Bool.false_eq_true, reduceIte, true_and, and_true, and_self, Option.toList, List.all_cons, List.all_nil, Bool.and_true, Bool.true_and, Bool.and_self, decide_true, decide_false, decide_eq_true_eq, reduceCtorEq, Mi.bo_pl, Mi.bo_ow, Mi.bo_rf, Mi.bo_un, Mi.sa_ow, Mi.sa_rf, Mi.sa_pl, Mi.oa_un, Mi.oa_pl, Mi.oa_ow, Mi.co_ow, Mi.co_rf, Mi.co_pl, Mi.st_ow, Mi.st_rf, Mi.lv_ow, Mi.lv_rf, Mi.lv_pl, Mi.ne_un, Mi.ne_pl, Mi.ne_ow, Mi.ne_rf, Mi.ne_se, Mi.ne_ex, Mi.th_un, Mi.th_pl, Mi.ie_ex, Mi.xf_ex, ne_eq, not_false_eq_true, not_true_eq_false, Mi.clr, Mi.putS, Option.isSome_some, Option.some.injEq, Int.reduceEq, Int.reduceNe, Int.reduceLT, Int.reduceLE, Nat.reduceLT, Nat.reduceLeDiff, decide_not, Bool.not_eq_true, Bool.decide_eq_true, Mi.ib_t, Mi.ib_f, Mi.mkR_ex, Mi.bO_s, Mi.rO_f, Mi.rO_t, Mi.dEqA_eq, Mi.eqN_0, Mi.eqN_1, Mi.eqN_2, Mi.eqN_3, Mi.eqB_ins, Mi.eqB_tt, Mi.eqB_ll, Mi.eqB_int, Mi.eqB_str, Mi.eqB_bl, Mi.eqB_non, Mi.eqK_ii, Mi.eqK_ss, Mi.eqK_bb, Mi.eqK_nn, Mi.eqK_ni, Mi.eqK_in, Mi.eqK_ns, Mi.eqK_sn, Mi.eqK_is, Mi.eqK_si, Mi.eqK_nt, Mi.eqK_nl, Mi.eqB_tn, Mi.eqB_ln, Mi.eqLs_nil, Mi.eqLs_nc, Mi.eqLs_cn, Mi.eqLs_cc, Mi.itE_int, Mi.itE_str, Mi.itE_bl, Mi.itE_non, Mi.appT, Mi.asB, Mi.mMakeK, Mi.mDic, Option.bind_some, tn_rD, dFld_top, dFld_bottom, e_is_integer, isIntD]
theorem e_over (hp : RB n p) (hq : RB m q) (e : n + m ≤ 134217728) (h0 : q ≠ 0) : m_Ratio_over [rD p, rD q] = .ok (.pl (rD (p / q))) := by
  unfold m_Ratio_over b_Ratio_over
  have hd := Int.mul_ne_zero (den_ne p) (num_ne h0)
  simp only [Mi.runM, Mi.runI, Mi.runR, Mi.outF, Mi.outI, Mi.outR, Mi.startE, Mi.bnd, Mi.ret, Mi.lift, Mi.fail, Mi.mVar, Mi.mC, Mi.mBin, Mi.mBinN, Mi.mUn, Mi.mFld, Mi.mFrz, Mi.mB, Mi.tru, Mi.mAnd, Mi.mOr, Mi.mNot, Mi.mAndV, Mi.mOrV, Mi.mNotV, Mi.mIf, Mi.mChain, Mi.mNil, Mi.mCons, Mi.mTup, Mi.mLst, Mi.mCB, Mi.mCBn, Mi.mIdxV, Mi.mSkip, Mi.thenF, Mi.mSeq, Mi.sto, Mi.mAsg, Mi.mAsgN, Mi.two, Mi.mPar, Mi.mDrop, Mi.mRet, Mi.mRetN, Mi.mRetV, Mi.mIfS, Mi.againF, Mi.gV, Mi.gsN, Mi.gsC, Mi.gT, Mi.mAsgT, Mi.tgt, Mi.mCall, Mi.frzR, Mi.newR, Mi.mCallN, Mi.recv, Mi.mMeth, Mi.mMethN, Mi.mMake, Mi.callR, Mi.mCallR, Mi.newM, Mi.mCallRN, Mi.mApp, Mi.mRev, Mi.setAt, Mi.mSetV, Mi.mSetF, Mi.mAug, Mi.one, Mi.mRaise, Mi.mRaise0, Mi.mTry, Mi.noEx, Mi.endX, Mi.inX, Mi.mTryAs, Mi.mXf, Mi.dI, Mi.dIc, Mi.dAdd, Mi.dSub, Mi.dLt, Mi.dLe, Mi.dGt, Mi.dGe, Mi.dMul, Mi.dDiv, Mi.dMod, Mi.dPow, Mi.dNeg, Mi.sEq, Mi.ofB, Mi.dEq, Mi.dNe, Mi.isNon, Mi.dIsN, Mi.dNotN, Mi.dInt, Mi.dI1, Mi.dI2, Mi.dAbs, Mi.dMin, Mi.dMax, Mi.dGcd, Mi.dLen1, Mi.dLen, Mi.mLenV, Mi.mIsi, Mi.dIx, Mi.opC, Mi.negC, Mi.eqC, Mi.ipC, Mi.Rv.d, Mi.mNoP, Mi.asI, Mi.mPart, Mi.mSlL, Mi.asL, Mi.asQ, Mi.mItQ, Mi.mItA, Mi.mFor, Mi.putD, List.map_cons, List.map_nil, List.length_cons, List.length_nil, List.replicate, List.cons_append, List.nil_append, List.getElem?_cons_zero, List.getElem?_cons_succ, List.set_cons_zero, List.set_cons_succ, Nat.sub_self, Nat.reduceAdd, Nat.reduceSub, Nat.reduceEqDiff, List.reverse_cons, id, Bool.not_true, Bool.not_false, if_true, if_false, Bool.false_eq_true, reduceIte, true_and, and_true, and_self, Option.toList, List.all_cons, List.all_nil, Bool.and_true, Bool.true_and, Bool.and_self, decide_true, decide_false, decide_eq_true_eq, reduceCtorEq, Mi.bo_pl, Mi.bo_ow, Mi.bo_rf, Mi.bo_un, Mi.sa_ow, Mi.sa_rf, Mi.sa_pl, Mi.oa_un, Mi.oa_pl, Mi.oa_ow, Mi.co_ow, Mi.co_rf, Mi.co_pl, Mi.st_ow, Mi.st_rf, Mi.lv_ow, Mi.lv_rf, Mi.lv_pl, Mi.ne_un, Mi.ne_pl, Mi.ne_ow, Mi.ne_rf, Mi.ne_se, Mi.ne_ex, Mi.th_un, Mi.th_pl, Mi.ie_ex, Mi.xf_ex, ne_eq, not_false_eq_true, not_true_eq_false, Mi.clr, Mi.putS, Option.isSome_some, Option.some.injEq, Int.reduceEq, Int.reduceNe, Int.reduceLT, Int.reduceLE, Nat.reduceLT, Nat.reduceLeDiff, decide_not, Bool.not_eq_true, Bool.decide_eq_true, Mi.ib_t, Mi.ib_f, Mi.mkR_ex, Mi.bO_s, Mi.rO_f, Mi.rO_t, Mi.dEqA_eq, Mi.eqN_0, Mi.eqN_1, Mi.eqN_2, Mi.eqN_3, Mi.eqB_ins, Mi.eqB_tt, Mi.eqB_ll, Mi.eqB_int, Mi.eqB_str, Mi.eqB_bl, Mi.eqB_non, Mi.eqK_ii, Mi.eqK_ss, Mi.eqK_bb, Mi.eqK_nn, Mi.eqK_ni, Mi.eqK_in, Mi.eqK_ns, Mi.eqK_sn, Mi.eqK_is, Mi.eqK_si, Mi.eqK_nt, Mi.eqK_nl, Mi.eqB_tn, Mi.eqB_ln, Mi.eqLs_nil, Mi.eqLs_nc, Mi.eqLs_cn, Mi.eqLs_cc, Mi.itE_int, Mi.itE_str, Mi.itE_bl, Mi.itE_non, Mi.appT, Mi.asB, Mi.mMakeK, Mi.mDic, Option.bind_some, e_is_integer, isIntD_rD, tn_rD, isub_RR, dFld_top, dFld_bottom, num_ne h0, hp.num.mulOk hq.den e, hp.den.mulOk hq.num e, e_init hd, mkR_rF, q_div h0]
theorem e_overI (hp : RB n p) (hq : Bd m i) (e : n + m ≤ 134217728) (h0 : i ≠ 0) : m_Ratio_over [rD p, .int i] = .ok (.pl (rD (p / (i : Rat)))) := by
  have hi : (i : Rat) ≠ 0 := fun z => h0 (by simpa using z)
  have b2 : Bd m (1 : Int) := by
    refine Bd.of_le hq ?_
    have : i.natAbs ≠ 0 := by omega
    show 1 ≤ i.natAbs
    omega
  have hq2 : RB m (i : Rat) := ⟨hq, b2⟩
  unfold m_Ratio_over b_Ratio_over
  have hd := Int.mul_ne_zero (den_ne p) (num_ne hi)
  simp only [Mi.runM, Mi.runI, Mi.runR, Mi.outF, Mi.outI, Mi.outR, Mi.startE, Mi.bnd, Mi.ret, Mi.lift, Mi.fail, Mi.mVar, Mi.mC, Mi.mBin, Mi.mBinN, Mi.mUn, Mi.mFld, Mi.mFrz, Mi.mB, Mi.tru, Mi.mAnd, Mi.mOr, Mi.mNot, Mi.mAndV, Mi.mOrV, Mi.mNotV, Mi.mIf, Mi.mChain, Mi.mNil, Mi.mCons, Mi.mTup, Mi.mLst, Mi.mCB, Mi.mCBn, Mi.mIdxV, Mi.mSkip, Mi.thenF, Mi.mSeq, Mi.sto, Mi.mAsg, Mi.mAsgN, Mi.two, Mi.mPar, Mi.mDrop, Mi.mRet, Mi.mRetN, Mi.mRetV, Mi.mIfS, Mi.againF, Mi.gV, Mi.gsN, Mi.gsC, Mi.gT, Mi.mAsgT, Mi.tgt, Mi.mCall, Mi.frzR, Mi.newR, Mi.mCallN, Mi.recv, Mi.mMeth, Mi.mMethN, Mi.mMake, Mi.callR, Mi.mCallR, Mi.newM, Mi.mCallRN, Mi.mApp, Mi.mRev, Mi.setAt, Mi.mSetV, Mi.mSetF, Mi.mAug, Mi.one, Mi.mRaise, Mi.mRaise0, Mi.mTry, Mi.noEx, Mi.endX, Mi.inX, Mi.mTryAs, Mi.mXf, Mi.dI, Mi.dIc, Mi.dAdd, Mi.dSub, Mi.dLt, Mi.dLe, Mi.dGt, Mi.dGe, Mi.dMul, Mi.dDiv, Mi.dMod, Mi.dPow, Mi.dNeg, Mi.sEq, Mi.ofB, Mi.dEq, Mi.dNe, Mi.isNon, Mi.dIsN, Mi.dNotN, Mi.dInt, Mi.dI1, Mi.dI2, Mi.dAbs, Mi.dMin, Mi.dMax, Mi.dGcd, Mi.dLen1, Mi.dLen, Mi.mLenV, Mi.mIsi, Mi.dIx, Mi.opC, Mi.negC, Mi.eqC, Mi.ipC, Mi.Rv.d, Mi.mNoP, Mi.asI, Mi.mPart, Mi.mSlL, Mi.asL, Mi.asQ, Mi.mItQ, Mi.mItA, Mi.mFor, Mi.putD, List.map_cons, List.map_nil, List.length_cons, List.length_nil, List.replicate, List.cons_append, List.nil_append, List.getElem?_cons_zero, List.getElem?_cons_succ, List.set_cons_zero, List.set_cons_succ, Nat.sub_self, Nat.reduceAdd, Nat.reduceSub, Nat.reduceEqDiff, List.reverse_cons, id, Bool.not_true, Bool.not_false, if_true, if_false, Bool.false_eq_true, reduceIte, true_and, and_true, and_self, Option.toList, List.all_cons, List.all_nil, Bool.and_true, Bool.true_and, Bool.and_self, decide_true, decide_false, decide_eq_true_eq, reduceCtorEq, Mi.bo_pl, Mi.bo_ow, Mi.bo_rf, Mi.bo_un, Mi.sa_ow, Mi.sa_rf, Mi.sa_pl, Mi.oa_un, Mi.oa_pl, Mi.oa_ow, Mi.co_ow, Mi.co_rf, Mi.co_pl, Mi.st_ow, Mi.st_rf, Mi.lv_ow, Mi.lv_rf, Mi.lv_pl, Mi.ne_un, Mi.ne_pl, Mi.ne_ow, Mi.ne_rf, Mi.ne_se, Mi.ne_ex, Mi.th_un, Mi.th_pl, Mi.ie_ex, Mi.xf_ex, ne_eq, not_false_eq_true, not_true_eq_false, Mi.clr, Mi.putS, Option.isSome_some, Option.some.injEq, Int.reduceEq, Int.reduceNe, Int.reduceLT, Int.reduceLE, Nat.reduceLT, Nat.reduceLeDiff, decide_not, Bool.not_eq_true, Bool.decide_eq_true, Mi.ib_t, Mi.ib_f, Mi.mkR_ex, Mi.bO_s, Mi.rO_f, Mi.rO_t, Mi.dEqA_eq, Mi.eqN_0, Mi.eqN_1, Mi.eqN_2, Mi.eqN_3, Mi.eqB_ins, Mi.eqB_tt, Mi.eqB_ll, Mi.eqB_int, Mi.eqB_str, Mi.eqB_bl, Mi.eqB_non, Mi.eqK_ii, Mi.eqK_ss, Mi.eqK_bb, Mi.eqK_nn, Mi.eqK_ni, Mi.eqK_in, Mi.eqK_ns, Mi.eqK_sn, Mi.eqK_is, Mi.eqK_si, Mi.eqK_nt, Mi.eqK_nl, Mi.eqB_tn, Mi.eqB_ln, Mi.eqLs_nil, Mi.eqLs_nc, Mi.eqLs_cn, Mi.eqLs_cc, Mi.itE_int, Mi.itE_str, Mi.itE_bl, Mi.itE_non, Mi.appT, Mi.asB, Mi.mMakeK, Mi.mDic, Option.bind_some, e_is_integer, isIntD_int, e_init1, mkR_rF, isIntD_rD, tn_rD, isub_RR, dFld_top, dFld_bottom, num_ne hi, hp.num.mulOk hq2.den e, hp.den.mulOk hq2.num e, e_init hd, mkR_rF, q_div hi]
theorem e_over0 : m_Ratio_over [rD p, rD 0] = .ex "NoRatio" (some ("word", .str "zero")) := by
  unfold m_Ratio_over b_Ratio_over
  simp only [Mi.runM, Mi.runI, Mi.runR, Mi.outF, Mi.outI, Mi.outR, Mi.startE, Mi.bnd, Mi.ret, Mi.lift, Mi.fail, Mi.mVar, Mi.mC, Mi.mBin, Mi.mBinN, Mi.mUn, Mi.mFld, Mi.mFrz, Mi.mB, Mi.tru, Mi.mAnd, Mi.mOr, Mi.mNot, Mi.mAndV, Mi.mOrV, Mi.mNotV, Mi.mIf, Mi.mChain, Mi.mNil, Mi.mCons, Mi.mTup, Mi.mLst, Mi.mCB, Mi.mCBn, Mi.mIdxV, Mi.mSkip, Mi.thenF, Mi.mSeq, Mi.sto, Mi.mAsg, Mi.mAsgN, Mi.two, Mi.mPar, Mi.mDrop, Mi.mRet, Mi.mRetN, Mi.mRetV, Mi.mIfS, Mi.againF, Mi.gV, Mi.gsN, Mi.gsC, Mi.gT, Mi.mAsgT, Mi.tgt, Mi.mCall, Mi.frzR, Mi.newR, Mi.mCallN, Mi.recv, Mi.mMeth, Mi.mMethN, Mi.mMake, Mi.callR, Mi.mCallR, Mi.newM, Mi.mCallRN, Mi.mApp, Mi.mRev, Mi.setAt, Mi.mSetV, Mi.mSetF, Mi.mAug, Mi.one, Mi.mRaise, Mi.mRaise0, Mi.mTry, Mi.noEx, Mi.endX, Mi.inX, Mi.mTryAs, Mi.mXf, Mi.dI, Mi.dIc, Mi.dAdd, Mi.dSub, Mi.dLt, Mi.dLe, Mi.dGt, Mi.dGe, Mi.dMul, Mi.dDiv, Mi.dMod, Mi.dPow, Mi.dNeg, Mi.sEq, Mi.ofB, Mi.dEq, Mi.dNe, Mi.isNon, Mi.dIsN, Mi.dNotN, Mi.dInt, Mi.dI1, Mi.dI2, Mi.dAbs, Mi.dMin, Mi.dMax, Mi.dGcd, Mi.dLen1, Mi.dLen, Mi.mLenV, Mi.mIsi, Mi.dIx, Mi.opC, Mi.negC, Mi.eqC, Mi.ipC, Mi.Rv.d, Mi.mNoP, Mi.asI, Mi.mPart, Mi.mSlL, Mi.asL, Mi.asQ, Mi.mItQ, Mi.mItA, Mi.mFor, Mi.putD, List.map_cons, List.map_nil, List.length_cons, List.length_nil, List.replicate, List.cons_append, List.nil_append, List.getElem?_cons_zero, List.getElem?_cons_succ, List.set_cons_zero, List.set_cons_succ, Nat.sub_self, Nat.reduceAdd, Nat.reduceSub, Nat.reduceEqDiff, List.reverse_cons, id, Bool.not_true, Bool.not_false, if_true, if_false, Bool.false_eq_true, reduceIte, true_and, and_true, and_self, Option.toList, List.all_cons, List.all_nil, Bool.and_true, Bool.true_and, Bool.and_self, decide_true, decide_false, decide_eq_true_eq, reduceCtorEq, Mi.bo_pl, Mi.bo_ow, Mi.bo_rf, Mi.bo_un, Mi.sa_ow, Mi.sa_rf, Mi.sa_pl, Mi.oa_un, Mi.oa_pl, Mi.oa_ow, Mi.co_ow, Mi.co_rf, Mi.co_pl, Mi.st_ow, Mi.st_rf, Mi.lv_ow, Mi.lv_rf, Mi.lv_pl, Mi.ne_un, Mi.ne_pl, Mi.ne_ow, Mi.ne_rf, Mi.ne_se, Mi.ne_ex, Mi.th_un, Mi.th_pl, Mi.ie_ex, Mi.xf_ex, ne_eq, not_false_eq_true, not_true_eq_false, Mi.clr, Mi.putS, Option.isSome_some, Option.some.injEq, Int.reduceEq, Int.reduceNe, Int.reduceLT, Int.reduceLE, Nat.reduceLT, Nat.reduceLeDiff, decide_not, Bool.not_eq_true, Bool.decide_eq_true, Mi.ib_t, Mi.ib_f, Mi.mkR_ex, Mi.bO_s, Mi.rO_f, Mi.rO_t, Mi.dEqA_eq, Mi.eqN_0, Mi.eqN_1, Mi.eqN_2, Mi.eqN_3, Mi.eqB_ins, Mi.eqB_tt, Mi.eqB_ll, Mi.eqB_int, Mi.eqB_str, Mi.eqB_bl, Mi.eqB_non, Mi.eqK_ii, Mi.eqK_ss, Mi.eqK_bb, Mi.eqK_nn, Mi.eqK_ni, Mi.eqK_in, Mi.eqK_ns, Mi.eqK_sn, Mi.eqK_is, Mi.eqK_si, Mi.eqK_nt, Mi.eqK_nl, Mi.eqB_tn, Mi.eqB_ln, Mi.eqLs_nil, Mi.eqLs_nc, Mi.eqLs_cn, Mi.eqLs_cc, Mi.itE_int, Mi.itE_str, Mi.itE_bl, Mi.itE_non, Mi.appT, Mi.asB, Mi.mMakeK, Mi.mDic, Option.bind_some, e_is_integer, isIntD_rD, tn_rD, isub_RR, dFld_top, dFld_bottom, show (0 : Rat).num = 0 from rfl]
theorem e_overI0 : m_Ratio_over [rD p, .int 0] = .ex "NoRatio" (some ("word", .str "zero")) := by
  unfold m_Ratio_over b_Ratio_over
  simp only [Mi.runM, Mi.runI, Mi.runR, Mi.outF, Mi.outI, Mi.outR, Mi.startE, Mi.bnd, Mi.ret, Mi.lift, Mi.fail, Mi.mVar, Mi.mC, Mi.mBin, Mi.mBinN, Mi.mUn, Mi.mFld, Mi.mFrz, Mi.mB, Mi.tru, Mi.mAnd, Mi.mOr, Mi.mNot, Mi.mAndV, Mi.mOrV, Mi.mNotV, Mi.mIf, Mi.mChain, Mi.mNil, Mi.mCons, Mi.mTup, Mi.mLst, Mi.mCB, Mi.mCBn, Mi.mIdxV, Mi.mSkip, Mi.thenF, Mi.mSeq, Mi.sto, Mi.mAsg, Mi.mAsgN, Mi.two, Mi.mPar, Mi.mDrop, Mi.mRet, Mi.mRetN, Mi.mRetV, Mi.mIfS, Mi.againF, Mi.gV, Mi.gsN, Mi.gsC, Mi.gT, Mi.mAsgT, Mi.tgt, Mi.mCall, Mi.frzR, Mi.newR, Mi.mCallN, Mi.recv, Mi.mMeth, Mi.mMethN, Mi.mMake, Mi.callR, Mi.mCallR, Mi.newM, Mi.mCallRN, Mi.mApp, Mi.mRev, Mi.setAt, Mi.mSetV, Mi.mSetF, Mi.mAug, Mi.one, Mi.mRaise, Mi.mRaise0, Mi.mTry, Mi.noEx, Mi.endX, Mi.inX, Mi.mTryAs, Mi.mXf, Mi.dI, Mi.dIc, Mi.dAdd, Mi.dSub, Mi.dLt, Mi.dLe, Mi.dGt, Mi.dGe, Mi.dMul, Mi.dDiv, Mi.dMod, Mi.dPow, Mi.dNeg, Mi.sEq, Mi.ofB, Mi.dEq, Mi.dNe, Mi.isNon, Mi.dIsN, Mi.dNotN, Mi.dInt, Mi.dI1, Mi.dI2, Mi.dAbs, Mi.dMin, Mi.dMax, Mi.dGcd, Mi.dLen1, Mi.dLen, Mi.mLenV, Mi.mIsi, Mi.dIx, Mi.opC, Mi.negC, Mi.eqC, Mi.ipC, Mi.Rv.d, Mi.mNoP, Mi.asI, Mi.mPart, Mi.mSlL, Mi.asL, Mi.asQ, Mi.mItQ, Mi.mItA, Mi.mFor, Mi.putD, List.map_cons, List.map_nil, List.length_cons, List.length_nil, List.replicate, List.cons_append, List.nil_append, List.getElem?_cons_zero, List.getElem?_cons_succ, List.set_cons_zero, List.set_cons_succ, Nat.sub_self, Nat.reduceAdd, Nat.reduceSub, Nat.reduceEqDiff, List.reverse_cons, id, Bool.not_true, Bool.not_false, if_true, if_false, Bool.false_eq_true, reduceIte, true_and, and_true, and_self, Option.toList, List.all_cons, List.all_nil, Bool.and_true, Bool.true_and, Bool.and_self, decide_true, decide_false, decide_eq_true_eq, reduceCtorEq, Mi.bo_pl, Mi.bo_ow, Mi.bo_rf, Mi.bo_un, Mi.sa_ow, Mi.sa_rf, Mi.sa_pl, Mi.oa_un, Mi.oa_pl, Mi.oa_ow, Mi.co_ow, Mi.co_rf, Mi.co_pl, Mi.st_ow, Mi.st_rf, Mi.lv_ow, Mi.lv_rf, Mi.lv_pl, Mi.ne_un, Mi.ne_pl, Mi.ne_ow, Mi.ne_rf, Mi.ne_se, Mi.ne_ex, Mi.th_un, Mi.th_pl, Mi.ie_ex, Mi.xf_ex, ne_eq, not_false_eq_true, not_true_eq_false, Mi.clr, Mi.putS, Option.isSome_some, Option.some.injEq, Int.reduceEq, Int.reduceNe, Int.reduceLT, Int.reduceLE, Nat.reduceLT, Nat.reduceLeDiff, decide_not, Bool.not_eq_true, Bool.decide_eq_true, Mi.ib_t, Mi.ib_f, Mi.mkR_ex, Mi.bO_s, Mi.rO_f, Mi.rO_t, Mi.dEqA_eq, Mi.eqN_0, Mi.eqN_1, Mi.eqN_2, Mi.eqN_3, Mi.eqB_ins, Mi.eqB_tt, Mi.eqB_ll, Mi.eqB_int, Mi.eqB_str, Mi.eqB_bl, Mi.eqB_non, Mi.eqK_ii, Mi.eqK_ss, Mi.eqK_bb, Mi.eqK_nn, Mi.eqK_ni, Mi.eqK_in, Mi.eqK_ns, Mi.eqK_sn, Mi.eqK_is, Mi.eqK_si, Mi.eqK_nt, Mi.eqK_nl, Mi.eqB_tn, Mi.eqB_ln, Mi.eqLs_nil, Mi.eqLs_nc, Mi.eqLs_cn, Mi.eqLs_cc, Mi.itE_int, Mi.itE_str, Mi.itE_bl, Mi.itE_non, Mi.appT, Mi.asB, Mi.mMakeK, Mi.mDic, Option.bind_some, e_is_integer, isIntD_int, e_init1, mkR_rF, tn_rD, isub_RR, dFld_top, dFld_bottom, show ((0 : Int) : Rat).num = 0 from rfl]
theorem e_rmul (hp : RB n p) (hi : Bd m i) (e : n + m ≤ 134217728) : m_Ratio___rmul__ [rD p, .int i] = .ok (.pl (rD ((i : Rat) * p))) := by
  unfold m_Ratio___rmul__ b_Ratio___rmul__
  have := e_mulI hp hi e
  rw [Rat.mul_comm]
  unfold rD at *
  simp only [Mi.runM, Mi.runI, Mi.runR, Mi.outF, Mi.outI, Mi.outR, Mi.startE, Mi.bnd, Mi.ret, Mi.lift, Mi.fail, Mi.mVar, Mi.mC, Mi.mBin, Mi.mBinN, Mi.mUn, Mi.mFld, Mi.mFrz, Mi.mB, Mi.tru, Mi.mAnd, Mi.mOr, Mi.mNot, Mi.mAndV, Mi.mOrV, Mi.mNotV, Mi.mIf, Mi.mChain, Mi.mNil, Mi.mCons, Mi.mTup, Mi.mLst, Mi.mCB, Mi.mCBn, Mi.mIdxV, Mi.mSkip, Mi.thenF, Mi.mSeq, Mi.sto, Mi.mAsg, Mi.mAsgN, Mi.two, Mi.mPar, Mi.mDrop, Mi.mRet, Mi.mRetN, Mi.mRetV, Mi.mIfS, Mi.againF, Mi.gV, Mi.gsN, Mi.gsC, Mi.gT, Mi.mAsgT, Mi.tgt, Mi.mCall, Mi.frzR, Mi.newR, Mi.mCallN, Mi.recv, Mi.mMeth, Mi.mMethN, Mi.mMake, Mi.callR, Mi.mCallR, Mi.newM, Mi.mCallRN, Mi.mApp, Mi.mRev, Mi.setAt, Mi.mSetV, Mi.mSetF, Mi.mAug, Mi.one, Mi.mRaise, Mi.mRaise0, Mi.mTry, Mi.noEx, Mi.endX, Mi.inX, Mi.mTryAs, Mi.mXf, Mi.dI, Mi.dIc, Mi.dAdd, Mi.dSub, Mi.dLt, Mi.dLe, Mi.dGt, Mi.dGe, Mi.dMul, Mi.dDiv, Mi.dMod, Mi.dPow, Mi.dNeg, Mi.sEq, Mi.ofB, Mi.dEq, Mi.dNe, Mi.isNon, Mi.dIsN, Mi.dNotN, Mi.dInt, Mi.dI1, Mi.dI2, Mi.dAbs, Mi.dMin, Mi.dMax, Mi.dGcd, Mi.dLen1, Mi.dLen, Mi.mLenV, Mi.mIsi, Mi.isub, Mi.D.tn, Mi.dIx, Mi.opC, Mi.negC, Mi.eqC, Mi.ipC, Mi.Rv.d, Mi.mNoP, Mi.asI, Mi.mPart, Mi.mSlL, Mi.asL, Mi.asQ, Mi.mItQ, Mi.mItA, Mi.mFor, Mi.putD, List.map_cons, List.map_nil, List.length_cons, List.length_nil, List.replicate, List.cons_append, List.nil_append, List.getElem?_cons_zero, List.getElem?_cons_succ, List.set_cons_zero, List.set_cons_succ, Nat.sub_self, Nat.reduceAdd, Nat.reduceSub, Nat.reduceEqDiff, List.reverse_cons, id, Bool.not_true, Bool.not_false, if_true, if_false, Bool.false_eq_true, reduceIte, true_and, and_true, and_self, Option.toList, List.all_cons, List.all_nil, Bool.and_true, Bool.true_and, Bool.and_self, decide_true, decide_false, decide_eq_true_eq, reduceCtorEq, Mi.bo_pl, Mi.bo_ow, Mi.bo_rf, Mi.bo_un, Mi.sa_ow, Mi.sa_rf, Mi.sa_pl, Mi.oa_un, Mi.oa_pl, Mi.oa_ow, Mi.co_ow, Mi.co_rf, Mi.co_pl, Mi.st_ow, Mi.st_rf, Mi.lv_ow, Mi.lv_rf, Mi.lv_pl, Mi.ne_un, Mi.ne_pl, Mi.ne_ow, Mi.ne_rf, Mi.ne_se, Mi.ne_ex, Mi.th_un, Mi.th_pl, Mi.ie_ex, Mi.xf_ex, ne_eq, not_false_eq_true, not_true_eq_false, Mi.clr, Mi.putS, Option.isSome_some, Option.some.injEq, Int.reduceEq, Int.reduceNe, Int.reduceLT, Int.reduceLE, Nat.reduceLT, Nat.reduceLeDiff, decide_not, Bool.not_eq_true, Bool.decide_eq_true, Mi.ib_t, Mi.ib_f, Mi.mkR_ex, Mi.bO_s, Mi.rO_f, Mi.rO_t, Mi.dEqA_eq, Mi.eqN_0, Mi.eqN_1, Mi.eqN_2, Mi.eqN_3, Mi.eqB_ins, Mi.eqB_tt, Mi.eqB_ll, Mi.eqB_int, Mi.eqB_str, Mi.eqB_bl, Mi.eqB_non, Mi.eqK_ii, Mi.eqK_ss, Mi.eqK_bb, Mi.eqK_nn, Mi.eqK_ni, Mi.eqK_in, Mi.eqK_ns, Mi.eqK_sn, Mi.eqK_is, Mi.eqK_si, Mi.eqK_nt, Mi.eqK_nl, Mi.eqB_tn, Mi.eqB_ln, Mi.eqLs_nil, Mi.eqLs_nc, Mi.eqLs_cn, Mi.eqLs_cc, Mi.itE_int, Mi.itE_str, Mi.itE_bl, Mi.itE_non, Mi.appT, Mi.asB, Mi.mMakeK, Mi.mDic, Option.bind_some, this]
theorem o_mul (hp : RB n p) (hq : RB m q) (e : n + m ≤ 134217728) : opC "Ratio" dMul m_Ratio___mul__ mR (rD p) (rD q) = .ok (rD (p * q)) := by
  have := e_mul hp hq e
  unfold rD at *
  simp only [Mi.runM, Mi.runI, Mi.runR, Mi.outF, Mi.outI, Mi.outR, Mi.startE, Mi.bnd, Mi.ret, Mi.lift, Mi.fail, Mi.mVar, Mi.mC, Mi.mBin, Mi.mBinN, Mi.mUn, Mi.mFld, Mi.mFrz, Mi.mB, Mi.tru, Mi.mAnd, Mi.mOr, Mi.mNot, Mi.mAndV, Mi.mOrV, Mi.mNotV, Mi.mIf, Mi.mChain, Mi.mNil, Mi.mCons, Mi.mTup, Mi.mLst, Mi.mCB, Mi.mCBn, Mi.mIdxV, Mi.mSkip, Mi.thenF, Mi.mSeq, Mi.sto, Mi.mAsg, Mi.mAsgN, Mi.two, Mi.mPar, Mi.mDrop, Mi.mRet, Mi.mRetN, Mi.mRetV, Mi.mIfS, Mi.againF, Mi.gV, Mi.gsN, Mi.gsC, Mi.gT, Mi.mAsgT, Mi.tgt, Mi.mCall, Mi.frzR, Mi.newR, Mi.mCallN, Mi.recv, Mi.mMeth, Mi.mMethN, Mi.mMake, Mi.callR, Mi.mCallR, Mi.newM, Mi.mCallRN, Mi.mApp, Mi.mRev, Mi.setAt, Mi.mSetV, Mi.mSetF, Mi.mAug, Mi.one, Mi.mRaise, Mi.mRaise0, Mi.mTry, Mi.noEx, Mi.endX, Mi.inX, Mi.mTryAs, Mi.mXf, Mi.dI, Mi.dIc, Mi.dAdd, Mi.dSub, Mi.dLt, Mi.dLe, Mi.dGt, Mi.dGe, Mi.dMul, Mi.dDiv, Mi.dMod, Mi.dPow, Mi.dNeg, Mi.sEq, Mi.ofB, Mi.dEq, Mi.dNe, Mi.isNon, Mi.dIsN, Mi.dNotN, Mi.dInt, Mi.dI1, Mi.dI2, Mi.dAbs, Mi.dMin, Mi.dMax, Mi.dGcd, Mi.dLen1, Mi.dLen, Mi.mLenV, Mi.mIsi, Mi.isub, Mi.D.tn, Mi.dIx, Mi.opC, Mi.negC, Mi.eqC, Mi.ipC, Mi.Rv.d, Mi.mNoP, Mi.asI, Mi.mPart, Mi.mSlL, Mi.asL, Mi.asQ, Mi.mItQ, Mi.mItA, Mi.mFor, Mi.putD, List.map_cons, List.map_nil, List.length_cons, List.length_nil, List.replicate, List.cons_append, List.nil_append, List.getElem?_cons_zero, List.getElem?_cons_succ, List.set_cons_zero, List.set_cons_succ, Nat.sub_self, Nat.reduceAdd, Nat.reduceSub, Nat.reduceEqDiff, List.reverse_cons, id, Bool.not_true, Bool.not_false, if_true, if_false, Bool.false_eq_true, reduceIte, true_and, and_true, and_self, Option.toList, List.all_cons, List.all_nil, Bool.and_true, Bool.true_and, Bool.and_self, decide_true, decide_false, decide_eq_true_eq, reduceCtorEq, Mi.bo_pl, Mi.bo_ow, Mi.bo_rf, Mi.bo_un, Mi.sa_ow, Mi.sa_rf, Mi.sa_pl, Mi.oa_un, Mi.oa_pl, Mi.oa_ow, Mi.co_ow, Mi.co_rf, Mi.co_pl, Mi.st_ow, Mi.st_rf, Mi.lv_ow, Mi.lv_rf, Mi.lv_pl, Mi.ne_un, Mi.ne_pl, Mi.ne_ow, Mi.ne_rf, Mi.ne_se, Mi.ne_ex, Mi.th_un, Mi.th_pl, Mi.ie_ex, Mi.xf_ex, ne_eq, not_false_eq_true, not_true_eq_false, Mi.clr, Mi.putS, Option.isSome_some, Option.some.injEq, Int.reduceEq, Int.reduceNe, Int.reduceLT, Int.reduceLE, Nat.reduceLT, Nat.reduceLeDiff, decide_not, Bool.not_eq_true, Bool.decide_eq_true, Mi.ib_t, Mi.ib_f, Mi.mkR_ex, Mi.bO_s, Mi.rO_f, Mi.rO_t, Mi.dEqA_eq, Mi.eqN_0, Mi.eqN_1, Mi.eqN_2, Mi.eqN_3, Mi.eqB_ins, Mi.eqB_tt, Mi.eqB_ll, Mi.eqB_int, Mi.eqB_str, Mi.eqB_bl, Mi.eqB_non, Mi.eqK_ii, Mi.eqK_ss, Mi.eqK_bb, Mi.eqK_nn, Mi.eqK_ni, Mi.eqK_in, Mi.eqK_ns, Mi.eqK_sn, Mi.eqK_is, Mi.eqK_si, Mi.eqK_nt, Mi.eqK_nl, Mi.eqB_tn, Mi.eqB_ln, Mi.eqLs_nil, Mi.eqLs_nc, Mi.eqLs_cn, Mi.eqLs_cc, Mi.itE_int, Mi.itE_str, Mi.itE_bl, Mi.itE_non, Mi.appT, Mi.asB, Mi.mMakeK, Mi.mDic, Option.bind_some, this]
theorem o_mulI (hp : RB n p) (hi : Bd m i) (e : n + m ≤ 134217728) : opC "Ratio" dMul m_Ratio___mul__ mR (rD p) (.int i) = .ok (rD (p * (i : Rat))) := by
  have := e_mulI hp hi e
  unfold rD at *
  simp only [Mi.runM, Mi.runI, Mi.runR, Mi.outF, Mi.outI, Mi.outR, Mi.startE, Mi.bnd, Mi.ret, Mi.lift, Mi.fail, Mi.mVar, Mi.mC, Mi.mBin, Mi.mBinN, Mi.mUn, Mi.mFld, Mi.mFrz, Mi.mB, Mi.tru, Mi.mAnd, Mi.mOr, Mi.mNot, Mi.mAndV, Mi.mOrV, Mi.mNotV, Mi.mIf, Mi.mChain, Mi.mNil, Mi.mCons, Mi.mTup, Mi.mLst, Mi.mCB, Mi.mCBn, Mi.mIdxV, Mi.mSkip, Mi.thenF, Mi.mSeq, Mi.sto, Mi.mAsg, Mi.mAsgN, Mi.two, Mi.mPar, Mi.mDrop, Mi.mRet, Mi.mRetN, Mi.mRetV, Mi.mIfS, Mi.againF, Mi.gV, Mi.gsN, Mi.gsC, Mi.gT, Mi.mAsgT, Mi.tgt, Mi.mCall, Mi.frzR, Mi.newR, Mi.mCallN, Mi.recv, Mi.mMeth, Mi.mMethN, Mi.mMake, Mi.callR, Mi.mCallR, Mi.newM, Mi.mCallRN, Mi.mApp, Mi.mRev, Mi.setAt, Mi.mSetV, Mi.mSetF, Mi.mAug, Mi.one, Mi.mRaise, Mi.mRaise0, Mi.mTry, Mi.noEx, Mi.endX, Mi.inX, Mi.mTryAs, Mi.mXf, Mi.dI, Mi.dIc, Mi.dAdd, Mi.dSub, Mi.dLt, Mi.dLe, Mi.dGt, Mi.dGe, Mi.dMul, Mi.dDiv, Mi.dMod, Mi.dPow, Mi.dNeg, Mi.sEq, Mi.ofB, Mi.dEq, Mi.dNe, Mi.isNon, Mi.dIsN, Mi.dNotN, Mi.dInt, Mi.dI1, Mi.dI2, Mi.dAbs, Mi.dMin, Mi.dMax, Mi.dGcd, Mi.dLen1, Mi.dLen, Mi.mLenV, Mi.mIsi, Mi.isub, Mi.D.tn, Mi.dIx, Mi.opC, Mi.negC, Mi.eqC, Mi.ipC, Mi.Rv.d, Mi.mNoP, Mi.asI, Mi.mPart, Mi.mSlL, Mi.asL, Mi.asQ, Mi.mItQ, Mi.mItA, Mi.mFor, Mi.putD, List.map_cons, List.map_nil, List.length_cons, List.length_nil, List.replicate, List.cons_append, List.nil_append, List.getElem?_cons_zero, List.getElem?_cons_succ, List.set_cons_zero, List.set_cons_succ, Nat.sub_self, Nat.reduceAdd, Nat.reduceSub, Nat.reduceEqDiff, List.reverse_cons, id, Bool.not_true, Bool.not_false, if_true, if_false, Bool.false_eq_true, reduceIte, true_and, and_true, and_self, Option.toList, List.all_cons, List.all_nil, Bool.and_true, Bool.true_and, Bool.and_self, decide_true, decide_false, decide_eq_true_eq, reduceCtorEq, Mi.bo_pl, Mi.bo_ow, Mi.bo_rf, Mi.bo_un, Mi.sa_ow, Mi.sa_rf, Mi.sa_pl, Mi.oa_un, Mi.oa_pl, Mi.oa_ow, Mi.co_ow, Mi.co_rf, Mi.co_pl, Mi.st_ow, Mi.st_rf, Mi.lv_ow, Mi.lv_rf, Mi.lv_pl, Mi.ne_un, Mi.ne_pl, Mi.ne_ow, Mi.ne_rf, Mi.ne_se, Mi.ne_ex, Mi.th_un, Mi.th_pl, Mi.ie_ex, Mi.xf_ex, ne_eq, not_false_eq_true, not_true_eq_false, Mi.clr, Mi.putS, Option.isSome_some, Option.some.injEq, Int.reduceEq, Int.reduceNe, Int.reduceLT, Int.reduceLE, Nat.reduceLT, Nat.reduceLeDiff, decide_not, Bool.not_eq_true, Bool.decide_eq_true, Mi.ib_t, Mi.ib_f, Mi.mkR_ex, Mi.bO_s, Mi.rO_f, Mi.rO_t, Mi.dEqA_eq, Mi.eqN_0, Mi.eqN_1, Mi.eqN_2, Mi.eqN_3, Mi.eqB_ins, Mi.eqB_tt, Mi.eqB_ll, Mi.eqB_int, Mi.eqB_str, Mi.eqB_bl, Mi.eqB_non, Mi.eqK_ii, Mi.eqK_ss, Mi.eqK_bb, Mi.eqK_nn, Mi.eqK_ni, Mi.eqK_in, Mi.eqK_ns, Mi.eqK_sn, Mi.eqK_is, Mi.eqK_si, Mi.eqK_nt, Mi.eqK_nl, Mi.eqB_tn, Mi.eqB_ln, Mi.eqLs_nil, Mi.eqLs_nc, Mi.eqLs_cn, Mi.eqLs_cc, Mi.itE_int, Mi.itE_str, Mi.itE_bl, Mi.itE_non, Mi.appT, Mi.asB, Mi.mMakeK, Mi.mDic, Option.bind_some, this]
theorem o_rmul (hp : RB n p) (hi : Bd m i) (e : n + m ≤ 134217728) : opC "Ratio" dMul m_Ratio___mul__ m_Ratio___rmul__ (.int i) (rD p) = .ok (rD ((i : Rat) * p)) := by
  have := e_rmul hp hi e
  unfold rD at *
  simp only [Mi.runM, Mi.runI, Mi.runR, Mi.outF, Mi.outI, Mi.outR, Mi.startE, Mi.bnd, Mi.ret, Mi.lift, Mi.fail, Mi.mVar, Mi.mC, Mi.mBin, Mi.mBinN, Mi.mUn, Mi.mFld, Mi.mFrz, Mi.mB, Mi.tru, Mi.mAnd, Mi.mOr, Mi.mNot, Mi.mAndV, Mi.mOrV, Mi.mNotV, Mi.mIf, Mi.mChain, Mi.mNil, Mi.mCons, Mi.mTup, Mi.mLst, Mi.mCB, Mi.mCBn, Mi.mIdxV, Mi.mSkip, Mi.thenF, Mi.mSeq, Mi.sto, Mi.mAsg, Mi.mAsgN, Mi.two, Mi.mPar, Mi.mDrop, Mi.mRet, Mi.mRetN, Mi.mRetV, Mi.mIfS, Mi.againF, Mi.gV, Mi.gsN, Mi.gsC, Mi.gT, Mi.mAsgT, Mi.tgt, Mi.mCall, Mi.frzR, Mi.newR, Mi.mCallN, Mi.recv, Mi.mMeth, Mi.mMethN, Mi.mMake, Mi.callR, Mi.mCallR, Mi.newM, Mi.mCallRN, Mi.mApp, Mi.mRev, Mi.setAt, Mi.mSetV, Mi.mSetF, Mi.mAug, Mi.one, Mi.mRaise, Mi.mRaise0, Mi.mTry, Mi.noEx, Mi.endX, Mi.inX, Mi.mTryAs, Mi.mXf, Mi.dI, Mi.dIc, Mi.dAdd, Mi.dSub, Mi.dLt, Mi.dLe, Mi.dGt, Mi.dGe, Mi.dMul, Mi.dDiv, Mi.dMod, Mi.dPow, Mi.dNeg, Mi.sEq, Mi.ofB, Mi.dEq, Mi.dNe, Mi.isNon, Mi.dIsN, Mi.dNotN, Mi.dInt, Mi.dI1, Mi.dI2, Mi.dAbs, Mi.dMin, Mi.dMax, Mi.dGcd, Mi.dLen1, Mi.dLen, Mi.mLenV, Mi.mIsi, Mi.isub, Mi.D.tn, Mi.dIx, Mi.opC, Mi.negC, Mi.eqC, Mi.ipC, Mi.Rv.d, Mi.mNoP, Mi.asI, Mi.mPart, Mi.mSlL, Mi.asL, Mi.asQ, Mi.mItQ, Mi.mItA, Mi.mFor, Mi.putD, List.map_cons, List.map_nil, List.length_cons, List.length_nil, List.replicate, List.cons_append, List.nil_append, List.getElem?_cons_zero, List.getElem?_cons_succ, List.set_cons_zero, List.set_cons_succ, Nat.sub_self, Nat.reduceAdd, Nat.reduceSub, Nat.reduceEqDiff, List.reverse_cons, id, Bool.not_true, Bool.not_false, if_true, if_false, Bool.false_eq_true, reduceIte, true_and, and_true, and_self, Option.toList, List.all_cons, List.all_nil, Bool.and_true, Bool.true_and, Bool.and_self, decide_true, decide_false, decide_eq_true_eq, reduceCtorEq, Mi.bo_pl, Mi.bo_ow, Mi.bo_rf, Mi.bo_un, Mi.sa_ow, Mi.sa_rf, Mi.sa_pl, Mi.oa_un, Mi.oa_pl, Mi.oa_ow, Mi.co_ow, Mi.co_rf, Mi.co_pl, Mi.st_ow, Mi.st_rf, Mi.lv_ow, Mi.lv_rf, Mi.lv_pl, Mi.ne_un, Mi.ne_pl, Mi.ne_ow, Mi.ne_rf, Mi.ne_se, Mi.ne_ex, Mi.th_un, Mi.th_pl, Mi.ie_ex, Mi.xf_ex, ne_eq, not_false_eq_true, not_true_eq_false, Mi.clr, Mi.putS, Option.isSome_some, Option.some.injEq, Int.reduceEq, Int.reduceNe, Int.reduceLT, Int.reduceLE, Nat.reduceLT, Nat.reduceLeDiff, decide_not, Bool.not_eq_true, Bool.decide_eq_true, Mi.ib_t, Mi.ib_f, Mi.mkR_ex, Mi.bO_s, Mi.rO_f, Mi.rO_t, Mi.dEqA_eq, Mi.eqN_0, Mi.eqN_1, Mi.eqN_2, Mi.eqN_3, Mi.eqB_ins, Mi.eqB_tt, Mi.eqB_ll, Mi.eqB_int, Mi.eqB_str, Mi.eqB_bl, Mi.eqB_non, Mi.eqK_ii, Mi.eqK_ss, Mi.eqK_bb, Mi.eqK_nn, Mi.eqK_ni, Mi.eqK_in, Mi.eqK_ns, Mi.eqK_sn, Mi.eqK_is, Mi.eqK_si, Mi.eqK_nt, Mi.eqK_nl, Mi.eqB_tn, Mi.eqB_ln, Mi.eqLs_nil, Mi.eqLs_nc, Mi.eqLs_cn, Mi.eqLs_cc, Mi.itE_int, Mi.itE_str, Mi.itE_bl, Mi.itE_non, Mi.appT, Mi.asB, Mi.mMakeK, Mi.mDic, Option.bind_some, this]
theorem o_eq : eqC "Ratio" m_Ratio___eq__ (rD p) (rD q) = .ok (.bl (decide (p = q))) := by
  have := e_eq (p := p) (q := q)
  unfold rD at *
  simp only [Mi.runM, Mi.runI, Mi.runR, Mi.outF, Mi.outI, Mi.outR, Mi.startE, Mi.bnd, Mi.ret, Mi.lift, Mi.fail, Mi.mVar, Mi.mC, Mi.mBin, Mi.mBinN, Mi.mUn, Mi.mFld, Mi.mFrz, Mi.mB, Mi.tru, Mi.mAnd, Mi.mOr, Mi.mNot, Mi.mAndV, Mi.mOrV, Mi.mNotV, Mi.mIf, Mi.mChain, Mi.mNil, Mi.mCons, Mi.mTup, Mi.mLst, Mi.mCB, Mi.mCBn, Mi.mIdxV, Mi.mSkip, Mi.thenF, Mi.mSeq, Mi.sto, Mi.mAsg, Mi.mAsgN, Mi.two, Mi.mPar, Mi.mDrop, Mi.mRet, Mi.mRetN, Mi.mRetV, Mi.mIfS, Mi.againF, Mi.gV, Mi.gsN, Mi.gsC, Mi.gT, Mi.mAsgT, Mi.tgt, Mi.mCall, Mi.frzR, Mi.newR, Mi.mCallN, Mi.recv, Mi.mMeth, Mi.mMethN, Mi.mMake, Mi.callR, Mi.mCallR, Mi.newM, Mi.mCallRN, Mi.mApp, Mi.mRev, Mi.setAt, Mi.mSetV, Mi.mSetF, Mi.mAug, Mi.one, Mi.mRaise, Mi.mRaise0, Mi.mTry, Mi.noEx, Mi.endX, Mi.inX, Mi.mTryAs, Mi.mXf, Mi.dI, Mi.dIc, Mi.dAdd, Mi.dSub, Mi.dLt, Mi.dLe, Mi.dGt, Mi.dGe, Mi.dMul, Mi.dDiv, Mi.dMod, Mi.dPow, Mi.dNeg, Mi.sEq, Mi.ofB, Mi.dEq, Mi.dNe, Mi.isNon, Mi.dIsN, Mi.dNotN, Mi.dInt, Mi.dI1, Mi.dI2, Mi.dAbs, Mi.dMin, Mi.dMax, Mi.dGcd, Mi.dLen1, Mi.dLen, Mi.mLenV, Mi.mIsi, Mi.isub, Mi.D.tn, Mi.dIx, Mi.opC, Mi.negC, Mi.eqC, Mi.ipC, Mi.Rv.d, Mi.mNoP, Mi.asI, Mi.mPart, Mi.mSlL, Mi.asL, Mi.asQ, Mi.mItQ, Mi.mItA, Mi.mFor, Mi.putD, List.map_cons, List.map_nil, List.length_cons, List.length_nil, List.replicate, List.cons_append, List.nil_append, List.getElem?_cons_zero, List.getElem?_cons_succ, List.set_cons_zero, List.set_cons_succ, Nat.sub_self, Nat.reduceAdd, Nat.reduceSub, Nat.reduceEqDiff, List.reverse_cons, id, Bool.not_true, Bool.not_false, if_true, if_false, Bool.false_eq_true, reduceIte, true_and, and_true, and_self, Option.toList, List.all_cons, List.all_nil, Bool.and_true, Bool.true_and, Bool.and_self, decide_true, decide_false, decide_eq_true_eq, reduceCtorEq, Mi.bo_pl, Mi.bo_ow, Mi.bo_rf, Mi.bo_un, Mi.sa_ow, Mi.sa_rf, Mi.sa_pl, Mi.oa_un, Mi.oa_pl, Mi.oa_ow, Mi.co_ow, Mi.co_rf, Mi.co_pl, Mi.st_ow, Mi.st_rf, Mi.lv_ow, Mi.lv_rf, Mi.lv_pl, Mi.ne_un, Mi.ne_pl, Mi.ne_ow, Mi.ne_rf, Mi.ne_se, Mi.ne_ex, Mi.th_un, Mi.th_pl, Mi.ie_ex, Mi.xf_ex, ne_eq, not_false_eq_true, not_true_eq_false, Mi.clr, Mi.putS, Option.isSome_some, Option.some.injEq, Int.reduceEq, Int.reduceNe, Int.reduceLT, Int.reduceLE, Nat.reduceLT, Nat.reduceLeDiff, decide_not, Bool.not_eq_true, Bool.decide_eq_true, Mi.ib_t, Mi.ib_f, Mi.mkR_ex, Mi.bO_s, Mi.rO_f, Mi.rO_t, Mi.dEqA_eq, Mi.eqN_0, Mi.eqN_1, Mi.eqN_2, Mi.eqN_3, Mi.eqB_ins, Mi.eqB_tt, Mi.eqB_ll, Mi.eqB_int, Mi.eqB_str, Mi.eqB_bl, Mi.eqB_non, Mi.eqK_ii, Mi.eqK_ss, Mi.eqK_bb, Mi.eqK_nn, Mi.eqK_ni, Mi.eqK_in, Mi.eqK_ns, Mi.eqK_sn, Mi.eqK_is, Mi.eqK_si, Mi.eqK_nt, Mi.eqK_nl, Mi.eqB_tn, Mi.eqB_ln, Mi.eqLs_nil, Mi.eqLs_nc, Mi.eqLs_cn, Mi.eqLs_cc, Mi.itE_int, Mi.itE_str, Mi.itE_bl, Mi.itE_non, Mi.appT, Mi.asB, Mi.mMakeK, Mi.mDic, Option.bind_some, this]
theorem o_eqI : eqC "Ratio" m_Ratio___eq__ (rD p) (.int i) = .ok (.bl (decide (p = (i : Rat)))) := by
  have := e_eqI (p := p) (i := i)
  unfold rD at *
  simp only [Mi.runM, Mi.runI, Mi.runR, Mi.outF, Mi.outI, Mi.outR, Mi.startE, Mi.bnd, Mi.ret, Mi.lift, Mi.fail, Mi.mVar, Mi.mC, Mi.mBin, Mi.mBinN, Mi.mUn, Mi.mFld, Mi.mFrz, Mi.mB, Mi.tru, Mi.mAnd, Mi.mOr, Mi.mNot, Mi.mAndV, Mi.mOrV, Mi.mNotV, Mi.mIf, Mi.mChain, Mi.mNil, Mi.mCons, Mi.mTup, Mi.mLst, Mi.mCB, Mi.mCBn, Mi.mIdxV, Mi.mSkip, Mi.thenF, Mi.mSeq, Mi.sto, Mi.mAsg, Mi.mAsgN, Mi.two, Mi.mPar, Mi.mDrop, Mi.mRet, Mi.mRetN, Mi.mRetV, Mi.mIfS, Mi.againF, Mi.gV, Mi.gsN, Mi.gsC, Mi.gT, Mi.mAsgT, Mi.tgt, Mi.mCall, Mi.frzR, Mi.newR, Mi.mCallN, Mi.recv, Mi.mMeth, Mi.mMethN, Mi.mMake, Mi.callR, Mi.mCallR, Mi.newM, Mi.mCallRN, Mi.mApp, Mi.mRev, Mi.setAt, Mi.mSetV, Mi.mSetF, Mi.mAug, Mi.one, Mi.mRaise, Mi.mRaise0, Mi.mTry, Mi.noEx, Mi.endX, Mi.inX, Mi.mTryAs, Mi.mXf, Mi.dI, Mi.dIc, Mi.dAdd, Mi.dSub, Mi.dLt, Mi.dLe, Mi.dGt, Mi.dGe, Mi.dMul, Mi.dDiv, Mi.dMod, Mi.dPow, Mi.dNeg, Mi.sEq, Mi.ofB, Mi.dEq, Mi.dNe, Mi.isNon, Mi.dIsN, Mi.dNotN, Mi.dInt, Mi.dI1, Mi.dI2, Mi.dAbs, Mi.dMin, Mi.dMax, Mi.dGcd, Mi.dLen1, Mi.dLen, Mi.mLenV, Mi.mIsi, Mi.isub, Mi.D.tn, Mi.dIx, Mi.opC, Mi.negC, Mi.eqC, Mi.ipC, Mi.Rv.d, Mi.mNoP, Mi.asI, Mi.mPart, Mi.mSlL, Mi.asL, Mi.asQ, Mi.mItQ, Mi.mItA, Mi.mFor, Mi.putD, List.map_cons, List.map_nil, List.length_cons, List.length_nil, List.replicate, List.cons_append, List.nil_append, List.getElem?_cons_zero, List.getElem?_cons_succ, List.set_cons_zero, List.set_cons_succ, Nat.sub_self, Nat.reduceAdd, Nat.reduceSub, Nat.reduceEqDiff, List.reverse_cons, id, Bool.not_true, Bool.not_false, if_true, if_false, Bool.false_eq_true, reduceIte, true_and, and_true, and_self, Option.toList, List.all_cons, List.all_nil, Bool.and_true, Bool.true_and, Bool.and_self, decide_true, decide_false, decide_eq_true_eq, reduceCtorEq, Mi.bo_pl, Mi.bo_ow, Mi.bo_rf, Mi.bo_un, Mi.sa_ow, Mi.sa_rf, Mi.sa_pl, Mi.oa_un, Mi.oa_pl, Mi.oa_ow, Mi.co_ow, Mi.co_rf, Mi.co_pl, Mi.st_ow, Mi.st_rf, Mi.lv_ow, Mi.lv_rf, Mi.lv_pl, Mi.ne_un, Mi.ne_pl, Mi.ne_ow, Mi.ne_rf, Mi.ne_se, Mi.ne_ex, Mi.th_un, Mi.th_pl, Mi.ie_ex, Mi.xf_ex, ne_eq, not_false_eq_true, not_true_eq_false, Mi.clr, Mi.putS, Option.isSome_some, Option.some.injEq, Int.reduceEq, Int.reduceNe, Int.reduceLT, Int.reduceLE, Nat.reduceLT, Nat.reduceLeDiff, decide_not, Bool.not_eq_true, Bool.decide_eq_true, Mi.ib_t, Mi.ib_f, Mi.mkR_ex, Mi.bO_s, Mi.rO_f, Mi.rO_t, Mi.dEqA_eq, Mi.eqN_0, Mi.eqN_1, Mi.eqN_2, Mi.eqN_3, Mi.eqB_ins, Mi.eqB_tt, Mi.eqB_ll, Mi.eqB_int, Mi.eqB_str, Mi.eqB_bl, Mi.eqB_non, Mi.eqK_ii, Mi.eqK_ss, Mi.eqK_bb, Mi.eqK_nn, Mi.eqK_ni, Mi.eqK_in, Mi.eqK_ns, Mi.eqK_sn, Mi.eqK_is, Mi.eqK_si, Mi.eqK_nt, Mi.eqK_nl, Mi.eqB_tn, Mi.eqB_ln, Mi.eqLs_nil, Mi.eqLs_nc, Mi.eqLs_cn, Mi.eqLs_cc, Mi.itE_int, Mi.itE_str, Mi.itE_bl, Mi.itE_non, Mi.appT, Mi.asB, Mi.mMakeK, Mi.mDic, Option.bind_some, this]
end
end Mi

namespace Mi
open PySem
theorem draw_ex (s : Dz) (many : Int) (hm : 0 < many) : ∃ (r : Int) (s' : Dz), 0 ≤ r ∧ r < many ∧ m__law_draw s.c [.int many] = some (.pl (.int r), s'.c) := by
  obtain ⟨it, pos, big, mix, cnt, hp, m0, m1⟩ := s
  have hmn : many ≠ 0 := by omega
  have pw : (10 : Int) ^ Int.toNat 18 = 1000000000000000000 := by decide
  have po : powOk 10 18 = true := by decide
  have last : ∀ (x : Int), 0 ≤ iMod x many ∧ iMod x many < many := fun x => by
    rw [iMod_eq, Int.fmod_eq_emod_of_nonneg x (by omega)]
    exact ⟨Int.emod_nonneg _ hmn, Int.emod_lt_of_pos _ hm⟩
  have mx : ∀ (x : Int), 0 ≤ iMod x 2147483647 ∧ iMod x 2147483647 < 2147483648 := fun x => by
    rw [iMod_eq, Int.fmod_eq_emod_of_nonneg x (by decide)]
    omega
  have mx2 : ∀ (x : Int), 0 ≤ iMod x 2147483629 ∧ iMod x 2147483629 < 2147483648 := fun x => by
    rw [iMod_eq, Int.fmod_eq_emod_of_nonneg x (by decide)]
    omega
  have ml : ∀ (a b : Int), 0 ≤ a → a < 2147483648 → mulOk a b = true := fun a b h1 h2 => mulOk_l (by omega) (by omega)
  have mc : ∀ (b : Int), mulOk 30103 b = true := fun b => mulOk_l (by decide) (by decide)
  have mc2 : ∀ (b : Int), mulOk 7919 b = true := fun b => mulOk_l (by decide) (by decide)
  have ml1 : ∀ (x b : Int), mulOk (iMod x 2147483629) b = true := fun x b => ml _ _ (mx2 x).1 (mx2 x).2
  have ml2 : ∀ (x b : Int), mulOk (iMod x 2147483647) b = true := fun x b => ml _ _ (mx x).1 (mx x).2
  have step : ∀ (pos' mix' cnt' : Int), 0 ≤ pos' → 0 ≤ mix' → mix' < 2147483648 → True := fun _ _ _ _ _ _ => trivial
  unfold Dz.c m__law_draw b__law_draw
  by_cases h1 : big ≤ 1
  · by_cases h2 : pos < it.length
    · obtain ⟨n, en⟩ := atI_map hp h2
      have ln : listAt (it.map D.int) pos = .ok (.int n) := by unfold listAt; rw [en]
      by_cases h3 : (1000000000000000000 : Int) ≤ (n.natAbs : Int)
      · have h4 : (1 : Int) < (n.natAbs : Int) := by omega
        simp only [Mi.runM, Mi.runI, Mi.runR, Mi.outF, Mi.outI, Mi.outR, Mi.startE, Mi.bnd, Mi.ret, Mi.lift, Mi.fail, Mi.mVar, Mi.mC, Mi.mBin, Mi.mBinN, Mi.mUn, Mi.mFld, Mi.mFrz, Mi.mB, Mi.tru, Mi.mAnd, Mi.mOr, Mi.mNot, Mi.mAndV, Mi.mOrV, Mi.mNotV, Mi.mIf, Mi.mChain, Mi.mNil, Mi.mCons, Mi.mTup, Mi.mLst, Mi.mCB, Mi.mCBn, Mi.mIdxV, Mi.mSkip, Mi.thenF, Mi.mSeq, Mi.sto, Mi.mAsg, Mi.mAsgN, Mi.two, Mi.mPar, Mi.mDrop, Mi.mRet, Mi.mRetN, Mi.mRetV, Mi.mIfS, Mi.againF, Mi.gV, Mi.gsN, Mi.gsC, Mi.gT, Mi.mAsgT, Mi.tgt, Mi.mCall, Mi.frzR, Mi.newR, Mi.mCallN, Mi.recv, Mi.mMeth, Mi.mMethN, Mi.mMake, Mi.callR, Mi.mCallR, Mi.newM, Mi.mCallRN, Mi.mApp, Mi.mRev, Mi.setAt, Mi.mSetV, Mi.mSetF, Mi.mAug, Mi.one, Mi.mRaise, Mi.mRaise0, Mi.mTry, Mi.noEx, Mi.endX, Mi.inX, Mi.mTryAs, Mi.mXf, Mi.dI, Mi.dIc, Mi.dAdd, Mi.dSub, Mi.dLt, Mi.dLe, Mi.dGt, Mi.dGe, Mi.dMul, Mi.dDiv, Mi.dMod, Mi.dPow, Mi.dNeg, Mi.sEq, Mi.ofB, Mi.dEq, Mi.dNe, Mi.isNon, Mi.dIsN, Mi.dNotN, Mi.dInt, Mi.dI1, Mi.dI2, Mi.dAbs, Mi.dMin, Mi.dMax, Mi.dGcd, Mi.dLen1, Mi.dLen, Mi.mLenV, Mi.mIsi, Mi.isub, Mi.D.tn, Mi.dIx, Mi.opC, Mi.negC, Mi.eqC, Mi.ipC, Mi.Rv.d, Mi.mNoP, Mi.asI, Mi.mPart, Mi.mSlL, Mi.asL, Mi.asQ, Mi.mItQ, Mi.mItA, Mi.mFor, Mi.putD, List.map_cons, List.map_nil, List.length_cons, List.length_nil, List.replicate, List.cons_append, List.nil_append, List.getElem?_cons_zero, List.getElem?_cons_succ, List.set_cons_zero, List.set_cons_succ, Nat.sub_self, Nat.reduceAdd, Nat.reduceSub, Nat.reduceEqDiff, List.reverse_cons, id, Bool.not_true, Bool.not_false, if_true, if_false, Bool.false_eq_true, reduceIte, true_and, and_true, and_self, Option.toList, List.all_cons, List.all_nil, Bool.and_true, Bool.true_and, Bool.and_self, decide_true, decide_false, decide_eq_true_eq, reduceCtorEq, Mi.bo_pl, Mi.bo_ow, Mi.bo_rf, Mi.bo_un, Mi.sa_ow, Mi.sa_rf, Mi.sa_pl, Mi.oa_un, Mi.oa_pl, Mi.oa_ow, Mi.co_ow, Mi.co_rf, Mi.co_pl, Mi.st_ow, Mi.st_rf, Mi.lv_ow, Mi.lv_rf, Mi.lv_pl, Mi.ne_un, Mi.ne_pl, Mi.ne_ow, Mi.ne_rf, Mi.ne_se, Mi.ne_ex, Mi.th_un, Mi.th_pl, Mi.ie_ex, Mi.xf_ex, ne_eq, not_false_eq_true, not_true_eq_false, Mi.clr, Mi.putS, Option.isSome_some, Option.some.injEq, Int.reduceEq, Int.reduceNe, Int.reduceLT, Int.reduceLE, Nat.reduceLT, Nat.reduceLeDiff, decide_not, Bool.not_eq_true, Bool.decide_eq_true, Mi.ib_t, Mi.ib_f, Mi.mkR_ex, Mi.bO_s, Mi.rO_f, Mi.rO_t, Mi.dEqA_eq, Mi.eqN_0, Mi.eqN_1, Mi.eqN_2, Mi.eqN_3, Mi.eqB_ins, Mi.eqB_tt, Mi.eqB_ll, Mi.eqB_int, Mi.eqB_str, Mi.eqB_bl, Mi.eqB_non, Mi.eqK_ii, Mi.eqK_ss, Mi.eqK_bb, Mi.eqK_nn, Mi.eqK_ni, Mi.eqK_in, Mi.eqK_ns, Mi.eqK_sn, Mi.eqK_is, Mi.eqK_si, Mi.eqK_nt, Mi.eqK_nl, Mi.eqB_tn, Mi.eqB_ln, Mi.eqLs_nil, Mi.eqLs_nc, Mi.eqLs_cn, Mi.eqLs_cc, Mi.itE_int, Mi.itE_str, Mi.itE_bl, Mi.itE_non, Mi.appT, Mi.asB, Mi.mMakeK, Mi.mDic, Option.bind_some, la5_0, la5_1, la5_2, la5_3, la5_4, ix5_1, ix5_2, ix5_3, ix5_4, List.length_map, h1, h2, ln, pw, po, h3, h4, hmn]
        exact ⟨_, ⟨it, pos + 1, _, mix, cnt + 1, by omega, m0, m1⟩, (last _).1, (last _).2, rfl⟩
      · have h4 : ¬ (1 : Int) < 0 := by omega
        simp only [Mi.runM, Mi.runI, Mi.runR, Mi.outF, Mi.outI, Mi.outR, Mi.startE, Mi.bnd, Mi.ret, Mi.lift, Mi.fail, Mi.mVar, Mi.mC, Mi.mBin, Mi.mBinN, Mi.mUn, Mi.mFld, Mi.mFrz, Mi.mB, Mi.tru, Mi.mAnd, Mi.mOr, Mi.mNot, Mi.mAndV, Mi.mOrV, Mi.mNotV, Mi.mIf, Mi.mChain, Mi.mNil, Mi.mCons, Mi.mTup, Mi.mLst, Mi.mCB, Mi.mCBn, Mi.mIdxV, Mi.mSkip, Mi.thenF, Mi.mSeq, Mi.sto, Mi.mAsg, Mi.mAsgN, Mi.two, Mi.mPar, Mi.mDrop, Mi.mRet, Mi.mRetN, Mi.mRetV, Mi.mIfS, Mi.againF, Mi.gV, Mi.gsN, Mi.gsC, Mi.gT, Mi.mAsgT, Mi.tgt, Mi.mCall, Mi.frzR, Mi.newR, Mi.mCallN, Mi.recv, Mi.mMeth, Mi.mMethN, Mi.mMake, Mi.callR, Mi.mCallR, Mi.newM, Mi.mCallRN, Mi.mApp, Mi.mRev, Mi.setAt, Mi.mSetV, Mi.mSetF, Mi.mAug, Mi.one, Mi.mRaise, Mi.mRaise0, Mi.mTry, Mi.noEx, Mi.endX, Mi.inX, Mi.mTryAs, Mi.mXf, Mi.dI, Mi.dIc, Mi.dAdd, Mi.dSub, Mi.dLt, Mi.dLe, Mi.dGt, Mi.dGe, Mi.dMul, Mi.dDiv, Mi.dMod, Mi.dPow, Mi.dNeg, Mi.sEq, Mi.ofB, Mi.dEq, Mi.dNe, Mi.isNon, Mi.dIsN, Mi.dNotN, Mi.dInt, Mi.dI1, Mi.dI2, Mi.dAbs, Mi.dMin, Mi.dMax, Mi.dGcd, Mi.dLen1, Mi.dLen, Mi.mLenV, Mi.mIsi, Mi.isub, Mi.D.tn, Mi.dIx, Mi.opC, Mi.negC, Mi.eqC, Mi.ipC, Mi.Rv.d, Mi.mNoP, Mi.asI, Mi.mPart, Mi.mSlL, Mi.asL, Mi.asQ, Mi.mItQ, Mi.mItA, Mi.mFor, Mi.putD, List.map_cons, List.map_nil, List.length_cons, List.length_nil, List.replicate, List.cons_append, List.nil_append, List.getElem?_cons_zero, List.getElem?_cons_succ, List.set_cons_zero, List.set_cons_succ, Nat.sub_self, Nat.reduceAdd, Nat.reduceSub, Nat.reduceEqDiff, List.reverse_cons, id, Bool.not_true, Bool.not_false, if_true, if_false, Bool.false_eq_true, reduceIte, true_and, and_true, and_self, Option.toList, List.all_cons, List.all_nil, Bool.and_true, Bool.true_and, Bool.and_self, decide_true, decide_false, decide_eq_true_eq, reduceCtorEq, Mi.bo_pl, Mi.bo_ow, Mi.bo_rf, Mi.bo_un, Mi.sa_ow, Mi.sa_rf, Mi.sa_pl, Mi.oa_un, Mi.oa_pl, Mi.oa_ow, Mi.co_ow, Mi.co_rf, Mi.co_pl, Mi.st_ow, Mi.st_rf, Mi.lv_ow, Mi.lv_rf, Mi.lv_pl, Mi.ne_un, Mi.ne_pl, Mi.ne_ow, Mi.ne_rf, Mi.ne_se, Mi.ne_ex, Mi.th_un, Mi.th_pl, Mi.ie_ex, Mi.xf_ex, ne_eq, not_false_eq_true, not_true_eq_false, Mi.clr, Mi.putS, Option.isSome_some, Option.some.injEq, Int.reduceEq, Int.reduceNe, Int.reduceLT, Int.reduceLE, Nat.reduceLT, Nat.reduceLeDiff, decide_not, Bool.not_eq_true, Bool.decide_eq_true, Mi.ib_t, Mi.ib_f, Mi.mkR_ex, Mi.bO_s, Mi.rO_f, Mi.rO_t, Mi.dEqA_eq, Mi.eqN_0, Mi.eqN_1, Mi.eqN_2, Mi.eqN_3, Mi.eqB_ins, Mi.eqB_tt, Mi.eqB_ll, Mi.eqB_int, Mi.eqB_str, Mi.eqB_bl, Mi.eqB_non, Mi.eqK_ii, Mi.eqK_ss, Mi.eqK_bb, Mi.eqK_nn, Mi.eqK_ni, Mi.eqK_in, Mi.eqK_ns, Mi.eqK_sn, Mi.eqK_is, Mi.eqK_si, Mi.eqK_nt, Mi.eqK_nl, Mi.eqB_tn, Mi.eqB_ln, Mi.eqLs_nil, Mi.eqLs_nc, Mi.eqLs_cn, Mi.eqLs_cc, Mi.itE_int, Mi.itE_str, Mi.itE_bl, Mi.itE_non, Mi.appT, Mi.asB, Mi.mMakeK, Mi.mDic, Option.bind_some, la5_0, la5_1, la5_2, la5_3, la5_4, ix5_1, ix5_2, ix5_3, ix5_4, List.length_map, h1, h2, ln, pw, po, h3, h4, hmn, ml _ _ m0 m1, mc, mc2, ml1, ml2]
        exact ⟨_, ⟨it, pos + 1, 0, _, cnt + 1, by omega, (mx _).1, (mx _).2⟩, (last _).1, (last _).2, rfl⟩
    · have h4 : ¬ (1 : Int) < big := by omega
      simp only [Mi.runM, Mi.runI, Mi.runR, Mi.outF, Mi.outI, Mi.outR, Mi.startE, Mi.bnd, Mi.ret, Mi.lift, Mi.fail, Mi.mVar, Mi.mC, Mi.mBin, Mi.mBinN, Mi.mUn, Mi.mFld, Mi.mFrz, Mi.mB, Mi.tru, Mi.mAnd, Mi.mOr, Mi.mNot, Mi.mAndV, Mi.mOrV, Mi.mNotV, Mi.mIf, Mi.mChain, Mi.mNil, Mi.mCons, Mi.mTup, Mi.mLst, Mi.mCB, Mi.mCBn, Mi.mIdxV, Mi.mSkip, Mi.thenF, Mi.mSeq, Mi.sto, Mi.mAsg, Mi.mAsgN, Mi.two, Mi.mPar, Mi.mDrop, Mi.mRet, Mi.mRetN, Mi.mRetV, Mi.mIfS, Mi.againF, Mi.gV, Mi.gsN, Mi.gsC, Mi.gT, Mi.mAsgT, Mi.tgt, Mi.mCall, Mi.frzR, Mi.newR, Mi.mCallN, Mi.recv, Mi.mMeth, Mi.mMethN, Mi.mMake, Mi.callR, Mi.mCallR, Mi.newM, Mi.mCallRN, Mi.mApp, Mi.mRev, Mi.setAt, Mi.mSetV, Mi.mSetF, Mi.mAug, Mi.one, Mi.mRaise, Mi.mRaise0, Mi.mTry, Mi.noEx, Mi.endX, Mi.inX, Mi.mTryAs, Mi.mXf, Mi.dI, Mi.dIc, Mi.dAdd, Mi.dSub, Mi.dLt, Mi.dLe, Mi.dGt, Mi.dGe, Mi.dMul, Mi.dDiv, Mi.dMod, Mi.dPow, Mi.dNeg, Mi.sEq, Mi.ofB, Mi.dEq, Mi.dNe, Mi.isNon, Mi.dIsN, Mi.dNotN, Mi.dInt, Mi.dI1, Mi.dI2, Mi.dAbs, Mi.dMin, Mi.dMax, Mi.dGcd, Mi.dLen1, Mi.dLen, Mi.mLenV, Mi.mIsi, Mi.isub, Mi.D.tn, Mi.dIx, Mi.opC, Mi.negC, Mi.eqC, Mi.ipC, Mi.Rv.d, Mi.mNoP, Mi.asI, Mi.mPart, Mi.mSlL, Mi.asL, Mi.asQ, Mi.mItQ, Mi.mItA, Mi.mFor, Mi.putD, List.map_cons, List.map_nil, List.length_cons, List.length_nil, List.replicate, List.cons_append, List.nil_append, List.getElem?_cons_zero, List.getElem?_cons_succ, List.set_cons_zero, List.set_cons_succ, Nat.sub_self, Nat.reduceAdd, Nat.reduceSub, Nat.reduceEqDiff, List.reverse_cons, id, Bool.not_true, Bool.not_false, if_true, if_false, Bool.false_eq_true, reduceIte, true_and, and_true, and_self, Option.toList, List.all_cons, List.all_nil, Bool.and_true, Bool.true_and, Bool.and_self, decide_true, decide_false, decide_eq_true_eq, reduceCtorEq, Mi.bo_pl, Mi.bo_ow, Mi.bo_rf, Mi.bo_un, Mi.sa_ow, Mi.sa_rf, Mi.sa_pl, Mi.oa_un, Mi.oa_pl, Mi.oa_ow, Mi.co_ow, Mi.co_rf, Mi.co_pl, Mi.st_ow, Mi.st_rf, Mi.lv_ow, Mi.lv_rf, Mi.lv_pl, Mi.ne_un, Mi.ne_pl, Mi.ne_ow, Mi.ne_rf, Mi.ne_se, Mi.ne_ex, Mi.th_un, Mi.th_pl, Mi.ie_ex, Mi.xf_ex, ne_eq, not_false_eq_true, not_true_eq_false, Mi.clr, Mi.putS, Option.isSome_some, Option.some.injEq, Int.reduceEq, Int.reduceNe, Int.reduceLT, Int.reduceLE, Nat.reduceLT, Nat.reduceLeDiff, decide_not, Bool.not_eq_true, Bool.decide_eq_true, Mi.ib_t, Mi.ib_f, Mi.mkR_ex, Mi.bO_s, Mi.rO_f, Mi.rO_t, Mi.dEqA_eq, Mi.eqN_0, Mi.eqN_1, Mi.eqN_2, Mi.eqN_3, Mi.eqB_ins, Mi.eqB_tt, Mi.eqB_ll, Mi.eqB_int, Mi.eqB_str, Mi.eqB_bl, Mi.eqB_non, Mi.eqK_ii, Mi.eqK_ss, Mi.eqK_bb, Mi.eqK_nn, Mi.eqK_ni, Mi.eqK_in, Mi.eqK_ns, Mi.eqK_sn, Mi.eqK_is, Mi.eqK_si, Mi.eqK_nt, Mi.eqK_nl, Mi.eqB_tn, Mi.eqB_ln, Mi.eqLs_nil, Mi.eqLs_nc, Mi.eqLs_cn, Mi.eqLs_cc, Mi.itE_int, Mi.itE_str, Mi.itE_bl, Mi.itE_non, Mi.appT, Mi.asB, Mi.mMakeK, Mi.mDic, Option.bind_some, la5_0, la5_1, la5_2, la5_3, la5_4, ix5_1, ix5_2, ix5_3, ix5_4, List.length_map, h1, h2, h4, hmn, ml _ _ m0 m1, mc, mc2, ml1, ml2]
      exact ⟨_, ⟨it, pos, big, _, cnt + 1, by omega, (mx _).1, (mx _).2⟩, (last _).1, (last _).2, rfl⟩
  · have h4 : (1 : Int) < big := by omega
    simp only [Mi.runM, Mi.runI, Mi.runR, Mi.outF, Mi.outI, Mi.outR, Mi.startE, Mi.bnd, Mi.ret, Mi.lift, Mi.fail, Mi.mVar, Mi.mC, Mi.mBin, Mi.mBinN, Mi.mUn, Mi.mFld, Mi.mFrz, Mi.mB, Mi.tru, Mi.mAnd, Mi.mOr, Mi.mNot, Mi.mAndV, Mi.mOrV, Mi.mNotV, Mi.mIf, Mi.mChain, Mi.mNil, Mi.mCons, Mi.mTup, Mi.mLst, Mi.mCB, Mi.mCBn, Mi.mIdxV, Mi.mSkip, Mi.thenF, Mi.mSeq, Mi.sto, Mi.mAsg, Mi.mAsgN, Mi.two, Mi.mPar, Mi.mDrop, Mi.mRet, Mi.mRetN, Mi.mRetV, Mi.mIfS, Mi.againF, Mi.gV, Mi.gsN, Mi.gsC, Mi.gT, Mi.mAsgT, Mi.tgt, Mi.mCall, Mi.frzR, Mi.newR, Mi.mCallN, Mi.recv, Mi.mMeth, Mi.mMethN, Mi.mMake, Mi.callR, Mi.mCallR, Mi.newM, Mi.mCallRN, Mi.mApp, Mi.mRev, Mi.setAt, Mi.mSetV, Mi.mSetF, Mi.mAug, Mi.one, Mi.mRaise, Mi.mRaise0, Mi.mTry, Mi.noEx, Mi.endX, Mi.inX, Mi.mTryAs, Mi.mXf, Mi.dI, Mi.dIc, Mi.dAdd, Mi.dSub, Mi.dLt, Mi.dLe, Mi.dGt, Mi.dGe, Mi.dMul, Mi.dDiv, Mi.dMod, Mi.dPow, Mi.dNeg, Mi.sEq, Mi.ofB, Mi.dEq, Mi.dNe, Mi.isNon, Mi.dIsN, Mi.dNotN, Mi.dInt, Mi.dI1, Mi.dI2, Mi.dAbs, Mi.dMin, Mi.dMax, Mi.dGcd, Mi.dLen1, Mi.dLen, Mi.mLenV, Mi.mIsi, Mi.isub, Mi.D.tn, Mi.dIx, Mi.opC, Mi.negC, Mi.eqC, Mi.ipC, Mi.Rv.d, Mi.mNoP, Mi.asI, Mi.mPart, Mi.mSlL, Mi.asL, Mi.asQ, Mi.mItQ, Mi.mItA, Mi.mFor, Mi.putD, List.map_cons, List.map_nil, List.length_cons, List.length_nil, List.replicate, List.cons_append, List.nil_append, List.getElem?_cons_zero, List.getElem?_cons_succ, List.set_cons_zero, List.set_cons_succ, Nat.sub_self, Nat.reduceAdd, Nat.reduceSub, Nat.reduceEqDiff, List.reverse_cons, id, Bool.not_true, Bool.not_false, if_true, if_false, Bool.false_eq_true, reduceIte, true_and, and_true, and_self, Option.toList, List.all_cons, List.all_nil, Bool.and_true, Bool.true_and, Bool.and_self, decide_true, decide_false, decide_eq_true_eq, reduceCtorEq, Mi.bo_pl, Mi.bo_ow, Mi.bo_rf, Mi.bo_un, Mi.sa_ow, Mi.sa_rf, Mi.sa_pl, Mi.oa_un, Mi.oa_pl, Mi.oa_ow, Mi.co_ow, Mi.co_rf, Mi.co_pl, Mi.st_ow, Mi.st_rf, Mi.lv_ow, Mi.lv_rf, Mi.lv_pl, Mi.ne_un, Mi.ne_pl, Mi.ne_ow, Mi.ne_rf, Mi.ne_se, Mi.ne_ex, Mi.th_un, Mi.th_pl, Mi.ie_ex, Mi.xf_ex, ne_eq, not_false_eq_true, not_true_eq_false, Mi.clr, Mi.putS, Option.isSome_some, Option.some.injEq, Int.reduceEq, Int.reduceNe, Int.reduceLT, Int.reduceLE, Nat.reduceLT, Nat.reduceLeDiff, decide_not, Bool.not_eq_true, Bool.decide_eq_true, Mi.ib_t, Mi.ib_f, Mi.mkR_ex, Mi.bO_s, Mi.rO_f, Mi.rO_t, Mi.dEqA_eq, Mi.eqN_0, Mi.eqN_1, Mi.eqN_2, Mi.eqN_3, Mi.eqB_ins, Mi.eqB_tt, Mi.eqB_ll, Mi.eqB_int, Mi.eqB_str, Mi.eqB_bl, Mi.eqB_non, Mi.eqK_ii, Mi.eqK_ss, Mi.eqK_bb, Mi.eqK_nn, Mi.eqK_ni, Mi.eqK_in, Mi.eqK_ns, Mi.eqK_sn, Mi.eqK_is, Mi.eqK_si, Mi.eqK_nt, Mi.eqK_nl, Mi.eqB_tn, Mi.eqB_ln, Mi.eqLs_nil, Mi.eqLs_nc, Mi.eqLs_cn, Mi.eqLs_cc, Mi.itE_int, Mi.itE_str, Mi.itE_bl, Mi.itE_non, Mi.appT, Mi.asB, Mi.mMakeK, Mi.mDic, Option.bind_some, la5_0, la5_1, la5_2, la5_3, la5_4, ix5_1, ix5_2, ix5_3, ix5_4, List.length_map, h1, h4, hmn]
    exact ⟨_, ⟨it, pos, _, mix, cnt + 1, by omega, m0, m1⟩, (last _).1, (last _).2, rfl⟩
open Classical in
/-- one draw -/
noncomputable def draw (s : Dz) (many : Int) : Int × Dz := if h : 0 < many then ((draw_ex s many h).choose, (draw_ex s many h).choose_spec.choose) else (0, s)
theorem e_draw (s : Dz) {many : Int} (h : 0 < many) : m__law_draw s.c [.int many] = some (.pl (.int (draw s many).1), (draw s many).2.c) := by
  have := (draw_ex s many h).choose_spec.choose_spec
  unfold draw
  rw [dif_pos h]
  exact this.2.2
theorem draw_lo (s : Dz) {many : Int} (h : 0 < many) : 0 ≤ (draw s many).1 := by
  have := (draw_ex s many h).choose_spec.choose_spec
  unfold draw
  rw [dif_pos h]
  exact this.1
theorem draw_hi (s : Dz) {many : Int} (h : 0 < many) : (draw s many).1 < many := by
  have := (draw_ex s many h).choose_spec.choose_spec
  unfold draw
  rw [dif_pos h]
  exact this.2.1
end Mi

namespace Mi
open PySem
theorem fmod_lt (a : Int) {b : Int} (hb : b ≠ 0) : (a.fmod b).natAbs < b.natAbs := by
  rcases Int.lt_or_gt_of_ne hb with h | h
  · have e := Int.neg_fmod_neg (-a) (-b)
    rw [Int.neg_neg, Int.neg_neg] at e
    have h1 := Int.fmod_nonneg_of_pos (-a) (b := -b) (by omega)
    have h2 := Int.fmod_lt_of_pos (-a) (b := -b) (by omega)
    omega
  · have h1 := Int.fmod_nonneg_of_pos a h
    have h2 := Int.fmod_lt_of_pos a h
    omega
theorem gcd_fmod (a b : Int) : Int.gcd b (a.fmod b) = Int.gcd a b := by
  rw [Int.fmod_def, Int.gcd_sub_mul_left_right, Int.gcd_comm]
theorem gcd_loop : ∀ (n : Nat) (a b : Int), b.natAbs < n → ∃ g : Int, g.natAbs = Int.gcd a b ∧ wloop lc__law_gcd_0 lb__law_gcd_1 n [.pl (.int a), .pl (.int b)] = .ok .nx [.pl (.int g), .pl (.int 0)]
  | 0, _, _, h => by omega
  | n + 1, a, b, h => by
    rw [wloop.eq_2]
    by_cases h0 : b = 0
    · subst h0
      refine ⟨a, by simp, ?_⟩
      unfold lc__law_gcd_0
      simp only [Mi.runM, Mi.runI, Mi.runR, Mi.outF, Mi.outI, Mi.outR, Mi.startE, Mi.bnd, Mi.ret, Mi.lift, Mi.fail, Mi.mVar, Mi.mC, Mi.mBin, Mi.mBinN, Mi.mUn, Mi.mFld, Mi.mFrz, Mi.mB, Mi.tru, Mi.mAnd, Mi.mOr, Mi.mNot, Mi.mAndV, Mi.mOrV, Mi.mNotV, Mi.mIf, Mi.mChain, Mi.mNil, Mi.mCons, Mi.mTup, Mi.mLst, Mi.mCB, Mi.mCBn, Mi.mIdxV, Mi.mSkip, Mi.thenF, Mi.mSeq, Mi.sto, Mi.mAsg, Mi.mAsgN, Mi.two, Mi.mPar, Mi.mDrop, Mi.mRet, Mi.mRetN, Mi.mRetV, Mi.mIfS, Mi.againF, Mi.gV, Mi.gsN, Mi.gsC, Mi.gT, Mi.mAsgT, Mi.tgt, Mi.mCall, Mi.frzR, Mi.newR, Mi.mCallN, Mi.recv, Mi.mMeth, Mi.mMethN, Mi.mMake, Mi.callR, Mi.mCallR, Mi.newM, Mi.mCallRN, Mi.mApp, Mi.mRev, Mi.setAt, Mi.mSetV, Mi.mSetF, Mi.mAug, Mi.one, Mi.mRaise, Mi.mRaise0, Mi.mTry, Mi.noEx, Mi.endX, Mi.inX, Mi.mTryAs, Mi.mXf, Mi.dI, Mi.dIc, Mi.dAdd, Mi.dSub, Mi.dLt, Mi.dLe, Mi.dGt, Mi.dGe, Mi.dMul, Mi.dDiv, Mi.dMod, Mi.dPow, Mi.dNeg, Mi.sEq, Mi.ofB, Mi.dEq, Mi.dNe, Mi.isNon, Mi.dIsN, Mi.dNotN, Mi.dInt, Mi.dI1, Mi.dI2, Mi.dAbs, Mi.dMin, Mi.dMax, Mi.dGcd, Mi.dLen1, Mi.dLen, Mi.mLenV, Mi.mIsi, Mi.isub, Mi.D.tn, Mi.dIx, Mi.opC, Mi.negC, Mi.eqC, Mi.ipC, Mi.Rv.d, Mi.mNoP, Mi.asI, Mi.mPart, Mi.mSlL, Mi.asL, Mi.asQ, Mi.mItQ, Mi.mItA, Mi.mFor, Mi.putD, List.map_cons, List.map_nil, List.length_cons, List.length_nil, List.replicate, List.cons_append, List.nil_append, List.getElem?_cons_zero, List.getElem?_cons_succ, List.set_cons_zero, List.set_cons_succ, Nat.sub_self, Nat.reduceAdd, Nat.reduceSub, Nat.reduceEqDiff, List.reverse_cons, id, Bool.not_true, Bool.not_false, if_true, if_false, Bool.false_eq_true, reduceIte, true_and, and_true, and_self, Option.toList, List.all_cons, List.all_nil, Bool.and_true, Bool.true_and, Bool.and_self, decide_true, decide_false, decide_eq_true_eq, reduceCtorEq, Mi.bo_pl, Mi.bo_ow, Mi.bo_rf, Mi.bo_un, Mi.sa_ow, Mi.sa_rf, Mi.sa_pl, Mi.oa_un, Mi.oa_pl, Mi.oa_ow, Mi.co_ow, Mi.co_rf, Mi.co_pl, Mi.st_ow, Mi.st_rf, Mi.lv_ow, Mi.lv_rf, Mi.lv_pl, Mi.ne_un, Mi.ne_pl, Mi.ne_ow, Mi.ne_rf, Mi.ne_se, Mi.ne_ex, Mi.th_un, Mi.th_pl, Mi.ie_ex, Mi.xf_ex, ne_eq, not_false_eq_true, not_true_eq_false, Mi.clr, Mi.putS, Option.isSome_some, Option.some.injEq, Int.reduceEq, Int.reduceNe, Int.reduceLT, Int.reduceLE, Nat.reduceLT, Nat.reduceLeDiff, decide_not, Bool.not_eq_true, Bool.decide_eq_true, Mi.ib_t, Mi.ib_f, Mi.mkR_ex, Mi.bO_s, Mi.rO_f, Mi.rO_t, Mi.dEqA_eq, Mi.eqN_0, Mi.eqN_1, Mi.eqN_2, Mi.eqN_3, Mi.eqB_ins, Mi.eqB_tt, Mi.eqB_ll, Mi.eqB_int, Mi.eqB_str, Mi.eqB_bl, Mi.eqB_non, Mi.eqK_ii, Mi.eqK_ss, Mi.eqK_bb, Mi.eqK_nn, Mi.eqK_ni, Mi.eqK_in, Mi.eqK_ns, Mi.eqK_sn, Mi.eqK_is, Mi.eqK_si, Mi.eqK_nt, Mi.eqK_nl, Mi.eqB_tn, Mi.eqB_ln, Mi.eqLs_nil, Mi.eqLs_nc, Mi.eqLs_cn, Mi.eqLs_cc, Mi.itE_int, Mi.itE_str, Mi.itE_bl, Mi.itE_non, Mi.appT, Mi.asB, Mi.mMakeK, Mi.mDic, Option.bind_some]
    · obtain ⟨g, hg, e⟩ := gcd_loop n b (a.fmod b) (by have := fmod_lt a h0; omega)
      refine ⟨g, by rw [hg, gcd_fmod], ?_⟩
      have e1 : lc__law_gcd_0 [.pl (.int a), .pl (.int b)] = .ok true [.pl (.int a), .pl (.int b)] := by unfold lc__law_gcd_0; simp only [Mi.runM, Mi.runI, Mi.runR, Mi.outF, Mi.outI, Mi.outR, Mi.startE, Mi.bnd, Mi.ret, Mi.lift, Mi.fail, Mi.mVar, Mi.mC, Mi.mBin, Mi.mBinN, Mi.mUn, Mi.mFld, Mi.mFrz, Mi.mB, Mi.tru, Mi.mAnd, Mi.mOr, Mi.mNot, Mi.mAndV, Mi.mOrV, Mi.mNotV, Mi.mIf, Mi.mChain, Mi.mNil, Mi.mCons, Mi.mTup, Mi.mLst, Mi.mCB, Mi.mCBn, Mi.mIdxV, Mi.mSkip, Mi.thenF, Mi.mSeq, Mi.sto, Mi.mAsg, Mi.mAsgN, Mi.two, Mi.mPar, Mi.mDrop, Mi.mRet, Mi.mRetN, Mi.mRetV, Mi.mIfS, Mi.againF, Mi.gV, Mi.gsN, Mi.gsC, Mi.gT, Mi.mAsgT, Mi.tgt, Mi.mCall, Mi.frzR, Mi.newR, Mi.mCallN, Mi.recv, Mi.mMeth, Mi.mMethN, Mi.mMake, Mi.callR, Mi.mCallR, Mi.newM, Mi.mCallRN, Mi.mApp, Mi.mRev, Mi.setAt, Mi.mSetV, Mi.mSetF, Mi.mAug, Mi.one, Mi.mRaise, Mi.mRaise0, Mi.mTry, Mi.noEx, Mi.endX, Mi.inX, Mi.mTryAs, Mi.mXf, Mi.dI, Mi.dIc, Mi.dAdd, Mi.dSub, Mi.dLt, Mi.dLe, Mi.dGt, Mi.dGe, Mi.dMul, Mi.dDiv, Mi.dMod, Mi.dPow, Mi.dNeg, Mi.sEq, Mi.ofB, Mi.dEq, Mi.dNe, Mi.isNon, Mi.dIsN, Mi.dNotN, Mi.dInt, Mi.dI1, Mi.dI2, Mi.dAbs, Mi.dMin, Mi.dMax, Mi.dGcd, Mi.dLen1, Mi.dLen, Mi.mLenV, Mi.mIsi, Mi.isub, Mi.D.tn, Mi.dIx, Mi.opC, Mi.negC, Mi.eqC, Mi.ipC, Mi.Rv.d, Mi.mNoP, Mi.asI, Mi.mPart, Mi.mSlL, Mi.asL, Mi.asQ, Mi.mItQ, Mi.mItA, Mi.mFor, Mi.putD, List.map_cons, List.map_nil, List.length_cons, List.length_nil, List.replicate, List.cons_append, List.nil_append, List.getElem?_cons_zero, List.getElem?_cons_succ, List.set_cons_zero, List.set_cons_succ, Nat.sub_self, Nat.reduceAdd, Nat.reduceSub, Nat.reduceEqDiff, List.reverse_cons, id, Bool.not_true, Bool.not_false, if_true, if_false, Bool.false_eq_true, reduceIte, true_and, and_true, and_self, Option.toList, List.all_cons, List.all_nil, Bool.and_true, Bool.true_and, Bool.and_self, decide_true, decide_false, decide_eq_true_eq, reduceCtorEq, Mi.bo_pl, Mi.bo_ow, Mi.bo_rf, Mi.bo_un, Mi.sa_ow, Mi.sa_rf, Mi.sa_pl, Mi.oa_un, Mi.oa_pl, Mi.oa_ow, Mi.co_ow, Mi.co_rf, Mi.co_pl, Mi.st_ow, Mi.st_rf, Mi.lv_ow, Mi.lv_rf, Mi.lv_pl, Mi.ne_un, Mi.ne_pl, Mi.ne_ow, Mi.ne_rf, Mi.ne_se, Mi.ne_ex, Mi.th_un, Mi.th_pl, Mi.ie_ex, Mi.xf_ex, ne_eq, not_false_eq_true, not_true_eq_false, Mi.clr, Mi.putS, Option.isSome_some, Option.some.injEq, Int.reduceEq, Int.reduceNe, Int.reduceLT, Int.reduceLE, Nat.reduceLT, Nat.reduceLeDiff, decide_not, Bool.not_eq_true, Bool.decide_eq_true, Mi.ib_t, Mi.ib_f, Mi.mkR_ex, Mi.bO_s, Mi.rO_f, Mi.rO_t, Mi.dEqA_eq, Mi.eqN_0, Mi.eqN_1, Mi.eqN_2, Mi.eqN_3, Mi.eqB_ins, Mi.eqB_tt, Mi.eqB_ll, Mi.eqB_int, Mi.eqB_str, Mi.eqB_bl, Mi.eqB_non, Mi.eqK_ii, Mi.eqK_ss, Mi.eqK_bb, Mi.eqK_nn, Mi.eqK_ni, Mi.eqK_in, Mi.eqK_ns, Mi.eqK_sn, Mi.eqK_is, Mi.eqK_si, Mi.eqK_nt, Mi.eqK_nl, Mi.eqB_tn, Mi.eqB_ln, Mi.eqLs_nil, Mi.eqLs_nc, Mi.eqLs_cn, Mi.eqLs_cc, Mi.itE_int, Mi.itE_str, Mi.itE_bl, Mi.itE_non, Mi.appT, Mi.asB, Mi.mMakeK, Mi.mDic, Option.bind_some, h0]
      have e2 : lb__law_gcd_1 [.pl (.int a), .pl (.int b)] = .ok .nx [.pl (.int b), .pl (.int (a.fmod b))] := by unfold lb__law_gcd_1; simp only [Mi.runM, Mi.runI, Mi.runR, Mi.outF, Mi.outI, Mi.outR, Mi.startE, Mi.bnd, Mi.ret, Mi.lift, Mi.fail, Mi.mVar, Mi.mC, Mi.mBin, Mi.mBinN, Mi.mUn, Mi.mFld, Mi.mFrz, Mi.mB, Mi.tru, Mi.mAnd, Mi.mOr, Mi.mNot, Mi.mAndV, Mi.mOrV, Mi.mNotV, Mi.mIf, Mi.mChain, Mi.mNil, Mi.mCons, Mi.mTup, Mi.mLst, Mi.mCB, Mi.mCBn, Mi.mIdxV, Mi.mSkip, Mi.thenF, Mi.mSeq, Mi.sto, Mi.mAsg, Mi.mAsgN, Mi.two, Mi.mPar, Mi.mDrop, Mi.mRet, Mi.mRetN, Mi.mRetV, Mi.mIfS, Mi.againF, Mi.gV, Mi.gsN, Mi.gsC, Mi.gT, Mi.mAsgT, Mi.tgt, Mi.mCall, Mi.frzR, Mi.newR, Mi.mCallN, Mi.recv, Mi.mMeth, Mi.mMethN, Mi.mMake, Mi.callR, Mi.mCallR, Mi.newM, Mi.mCallRN, Mi.mApp, Mi.mRev, Mi.setAt, Mi.mSetV, Mi.mSetF, Mi.mAug, Mi.one, Mi.mRaise, Mi.mRaise0, Mi.mTry, Mi.noEx, Mi.endX, Mi.inX, Mi.mTryAs, Mi.mXf, Mi.dI, Mi.dIc, Mi.dAdd, Mi.dSub, Mi.dLt, Mi.dLe, Mi.dGt, Mi.dGe, Mi.dMul, Mi.dDiv, Mi.dMod, Mi.dPow, Mi.dNeg, Mi.sEq, Mi.ofB, Mi.dEq, Mi.dNe, Mi.isNon, Mi.dIsN, Mi.dNotN, Mi.dInt, Mi.dI1, Mi.dI2, Mi.dAbs, Mi.dMin, Mi.dMax, Mi.dGcd, Mi.dLen1, Mi.dLen, Mi.mLenV, Mi.mIsi, Mi.isub, Mi.D.tn, Mi.dIx, Mi.opC, Mi.negC, Mi.eqC, Mi.ipC, Mi.Rv.d, Mi.mNoP, Mi.asI, Mi.mPart, Mi.mSlL, Mi.asL, Mi.asQ, Mi.mItQ, Mi.mItA, Mi.mFor, Mi.putD, List.map_cons, List.map_nil, List.length_cons, List.length_nil, List.replicate, List.cons_append, List.nil_append, List.getElem?_cons_zero, List.getElem?_cons_succ, List.set_cons_zero, List.set_cons_succ, Nat.sub_self, Nat.reduceAdd, Nat.reduceSub, Nat.reduceEqDiff, List.reverse_cons, id, Bool.not_true, Bool.not_false, if_true, if_false, Bool.false_eq_true, reduceIte, true_and, and_true, and_self, Option.toList, List.all_cons, List.all_nil, Bool.and_true, Bool.true_and, Bool.and_self, decide_true, decide_false, decide_eq_true_eq, reduceCtorEq, Mi.bo_pl, Mi.bo_ow, Mi.bo_rf, Mi.bo_un, Mi.sa_ow, Mi.sa_rf, Mi.sa_pl, Mi.oa_un, Mi.oa_pl, Mi.oa_ow, Mi.co_ow, Mi.co_rf, Mi.co_pl, Mi.st_ow, Mi.st_rf, Mi.lv_ow, Mi.lv_rf, Mi.lv_pl, Mi.ne_un, Mi.ne_pl, Mi.ne_ow, Mi.ne_rf, Mi.ne_se, Mi.ne_ex, Mi.th_un, Mi.th_pl, Mi.ie_ex, Mi.xf_ex, ne_eq, not_false_eq_true, not_true_eq_false, Mi.clr, Mi.putS, Option.isSome_some, Option.some.injEq, Int.reduceEq, Int.reduceNe, Int.reduceLT, Int.reduceLE, Nat.reduceLT, Nat.reduceLeDiff, decide_not, Bool.not_eq_true, Bool.decide_eq_true, Mi.ib_t, Mi.ib_f, Mi.mkR_ex, Mi.bO_s, Mi.rO_f, Mi.rO_t, Mi.dEqA_eq, Mi.eqN_0, Mi.eqN_1, Mi.eqN_2, Mi.eqN_3, Mi.eqB_ins, Mi.eqB_tt, Mi.eqB_ll, Mi.eqB_int, Mi.eqB_str, Mi.eqB_bl, Mi.eqB_non, Mi.eqK_ii, Mi.eqK_ss, Mi.eqK_bb, Mi.eqK_nn, Mi.eqK_ni, Mi.eqK_in, Mi.eqK_ns, Mi.eqK_sn, Mi.eqK_is, Mi.eqK_si, Mi.eqK_nt, Mi.eqK_nl, Mi.eqB_tn, Mi.eqB_ln, Mi.eqLs_nil, Mi.eqLs_nc, Mi.eqLs_cn, Mi.eqLs_cc, Mi.itE_int, Mi.itE_str, Mi.itE_bl, Mi.itE_non, Mi.appT, Mi.asB, Mi.mMakeK, Mi.mDic, Option.bind_some, h0, iMod_eq]
      simp only [Mi.runM, Mi.runI, Mi.runR, Mi.outF, Mi.outI, Mi.outR, Mi.startE, Mi.bnd, Mi.ret, Mi.lift, Mi.fail, Mi.mVar, Mi.mC, Mi.mBin, Mi.mBinN, Mi.mUn, Mi.mFld, Mi.mFrz, Mi.mB, Mi.tru, Mi.mAnd, Mi.mOr, Mi.mNot, Mi.mAndV, Mi.mOrV, Mi.mNotV, Mi.mIf, Mi.mChain, Mi.mNil, Mi.mCons, Mi.mTup, Mi.mLst, Mi.mCB, Mi.mCBn, Mi.mIdxV, Mi.mSkip, Mi.thenF, Mi.mSeq, Mi.sto, Mi.mAsg, Mi.mAsgN, Mi.two, Mi.mPar, Mi.mDrop, Mi.mRet, Mi.mRetN, Mi.mRetV, Mi.mIfS, Mi.againF, Mi.gV, Mi.gsN, Mi.gsC, Mi.gT, Mi.mAsgT, Mi.tgt, Mi.mCall, Mi.frzR, Mi.newR, Mi.mCallN, Mi.recv, Mi.mMeth, Mi.mMethN, Mi.mMake, Mi.callR, Mi.mCallR, Mi.newM, Mi.mCallRN, Mi.mApp, Mi.mRev, Mi.setAt, Mi.mSetV, Mi.mSetF, Mi.mAug, Mi.one, Mi.mRaise, Mi.mRaise0, Mi.mTry, Mi.noEx, Mi.endX, Mi.inX, Mi.mTryAs, Mi.mXf, Mi.dI, Mi.dIc, Mi.dAdd, Mi.dSub, Mi.dLt, Mi.dLe, Mi.dGt, Mi.dGe, Mi.dMul, Mi.dDiv, Mi.dMod, Mi.dPow, Mi.dNeg, Mi.sEq, Mi.ofB, Mi.dEq, Mi.dNe, Mi.isNon, Mi.dIsN, Mi.dNotN, Mi.dInt, Mi.dI1, Mi.dI2, Mi.dAbs, Mi.dMin, Mi.dMax, Mi.dGcd, Mi.dLen1, Mi.dLen, Mi.mLenV, Mi.mIsi, Mi.isub, Mi.D.tn, Mi.dIx, Mi.opC, Mi.negC, Mi.eqC, Mi.ipC, Mi.Rv.d, Mi.mNoP, Mi.asI, Mi.mPart, Mi.mSlL, Mi.asL, Mi.asQ, Mi.mItQ, Mi.mItA, Mi.mFor, Mi.putD, List.map_cons, List.map_nil, List.length_cons, List.length_nil, List.replicate, List.cons_append, List.nil_append, List.getElem?_cons_zero, List.getElem?_cons_succ, List.set_cons_zero, List.set_cons_succ, Nat.sub_self, Nat.reduceAdd, Nat.reduceSub, Nat.reduceEqDiff, List.reverse_cons, id, Bool.not_true, Bool.not_false, if_true, if_false, Bool.false_eq_true, reduceIte, true_and, and_true, and_self, Option.toList, List.all_cons, List.all_nil, Bool.and_true, Bool.true_and, Bool.and_self, decide_true, decide_false, decide_eq_true_eq, reduceCtorEq, Mi.bo_pl, Mi.bo_ow, Mi.bo_rf, Mi.bo_un, Mi.sa_ow, Mi.sa_rf, Mi.sa_pl, Mi.oa_un, Mi.oa_pl, Mi.oa_ow, Mi.co_ow, Mi.co_rf, Mi.co_pl, Mi.st_ow, Mi.st_rf, Mi.lv_ow, Mi.lv_rf, Mi.lv_pl, Mi.ne_un, Mi.ne_pl, Mi.ne_ow, Mi.ne_rf, Mi.ne_se, Mi.ne_ex, Mi.th_un, Mi.th_pl, Mi.ie_ex, Mi.xf_ex, ne_eq, not_false_eq_true, not_true_eq_false, Mi.clr, Mi.putS, Option.isSome_some, Option.some.injEq, Int.reduceEq, Int.reduceNe, Int.reduceLT, Int.reduceLE, Nat.reduceLT, Nat.reduceLeDiff, decide_not, Bool.not_eq_true, Bool.decide_eq_true, Mi.ib_t, Mi.ib_f, Mi.mkR_ex, Mi.bO_s, Mi.rO_f, Mi.rO_t, Mi.dEqA_eq, Mi.eqN_0, Mi.eqN_1, Mi.eqN_2, Mi.eqN_3, Mi.eqB_ins, Mi.eqB_tt, Mi.eqB_ll, Mi.eqB_int, Mi.eqB_str, Mi.eqB_bl, Mi.eqB_non, Mi.eqK_ii, Mi.eqK_ss, Mi.eqK_bb, Mi.eqK_nn, Mi.eqK_ni, Mi.eqK_in, Mi.eqK_ns, Mi.eqK_sn, Mi.eqK_is, Mi.eqK_si, Mi.eqK_nt, Mi.eqK_nl, Mi.eqB_tn, Mi.eqB_ln, Mi.eqLs_nil, Mi.eqLs_nc, Mi.eqLs_cn, Mi.eqLs_cc, Mi.itE_int, Mi.itE_str, Mi.itE_bl, Mi.itE_non, Mi.appT, Mi.asB, Mi.mMakeK, Mi.mDic, Option.bind_some, e1, e2, e]
theorem e_gcd (a b : Int) : m__law_gcd [.int a, .int b] = .ok (.pl (.int (Int.gcd a b : Int))) := by
  obtain ⟨g, hg, e⟩ := gcd_loop (b.natAbs + 1) a b (by omega)
  have w : mWhile lc__law_gcd_0 lb__law_gcd_1 [.pl (.int a), .pl (.int b)] = .ok .nx [.pl (.int g), .pl (.int 0)] := by rw [mWhile_eq (n := b.natAbs + 1) (by rw [e]; rfl), e]
  unfold m__law_gcd b__law_gcd
  simp only [Mi.runM, Mi.runI, Mi.runR, Mi.outF, Mi.outI, Mi.outR, Mi.startE, Mi.bnd, Mi.ret, Mi.lift, Mi.fail, Mi.mVar, Mi.mC, Mi.mBin, Mi.mBinN, Mi.mUn, Mi.mFld, Mi.mFrz, Mi.mB, Mi.tru, Mi.mAnd, Mi.mOr, Mi.mNot, Mi.mAndV, Mi.mOrV, Mi.mNotV, Mi.mIf, Mi.mChain, Mi.mNil, Mi.mCons, Mi.mTup, Mi.mLst, Mi.mCB, Mi.mCBn, Mi.mIdxV, Mi.mSkip, Mi.thenF, Mi.mSeq, Mi.sto, Mi.mAsg, Mi.mAsgN, Mi.two, Mi.mPar, Mi.mDrop, Mi.mRet, Mi.mRetN, Mi.mRetV, Mi.mIfS, Mi.againF, Mi.gV, Mi.gsN, Mi.gsC, Mi.gT, Mi.mAsgT, Mi.tgt, Mi.mCall, Mi.frzR, Mi.newR, Mi.mCallN, Mi.recv, Mi.mMeth, Mi.mMethN, Mi.mMake, Mi.callR, Mi.mCallR, Mi.newM, Mi.mCallRN, Mi.mApp, Mi.mRev, Mi.setAt, Mi.mSetV, Mi.mSetF, Mi.mAug, Mi.one, Mi.mRaise, Mi.mRaise0, Mi.mTry, Mi.noEx, Mi.endX, Mi.inX, Mi.mTryAs, Mi.mXf, Mi.dI, Mi.dIc, Mi.dAdd, Mi.dSub, Mi.dLt, Mi.dLe, Mi.dGt, Mi.dGe, Mi.dMul, Mi.dDiv, Mi.dMod, Mi.dPow, Mi.dNeg, Mi.sEq, Mi.ofB, Mi.dEq, Mi.dNe, Mi.isNon, Mi.dIsN, Mi.dNotN, Mi.dInt, Mi.dI1, Mi.dI2, Mi.dAbs, Mi.dMin, Mi.dMax, Mi.dGcd, Mi.dLen1, Mi.dLen, Mi.mLenV, Mi.mIsi, Mi.isub, Mi.D.tn, Mi.dIx, Mi.opC, Mi.negC, Mi.eqC, Mi.ipC, Mi.Rv.d, Mi.mNoP, Mi.asI, Mi.mPart, Mi.mSlL, Mi.asL, Mi.asQ, Mi.mItQ, Mi.mItA, Mi.mFor, Mi.putD, List.map_cons, List.map_nil, List.length_cons, List.length_nil, List.replicate, List.cons_append, List.nil_append, List.getElem?_cons_zero, List.getElem?_cons_succ, List.set_cons_zero, List.set_cons_succ, Nat.sub_self, Nat.reduceAdd, Nat.reduceSub, Nat.reduceEqDiff, List.reverse_cons, id, Bool.not_true, Bool.not_false, if_true, if_false, Bool.false_eq_true, reduceIte, true_and, and_true, and_self, Option.toList, List.all_cons, List.all_nil, Bool.and_true, Bool.true_and, Bool.and_self, decide_true, decide_false, decide_eq_true_eq, reduceCtorEq, Mi.bo_pl, Mi.bo_ow, Mi.bo_rf, Mi.bo_un, Mi.sa_ow, Mi.sa_rf, Mi.sa_pl, Mi.oa_un, Mi.oa_pl, Mi.oa_ow, Mi.co_ow, Mi.co_rf, Mi.co_pl, Mi.st_ow, Mi.st_rf, Mi.lv_ow, Mi.lv_rf, Mi.lv_pl, Mi.ne_un, Mi.ne_pl, Mi.ne_ow, Mi.ne_rf, Mi.ne_se, Mi.ne_ex, Mi.th_un, Mi.th_pl, Mi.ie_ex, Mi.xf_ex, ne_eq, not_false_eq_true, not_true_eq_false, Mi.clr, Mi.putS, Option.isSome_some, Option.some.injEq, Int.reduceEq, Int.reduceNe, Int.reduceLT, Int.reduceLE, Nat.reduceLT, Nat.reduceLeDiff, decide_not, Bool.not_eq_true, Bool.decide_eq_true, Mi.ib_t, Mi.ib_f, Mi.mkR_ex, Mi.bO_s, Mi.rO_f, Mi.rO_t, Mi.dEqA_eq, Mi.eqN_0, Mi.eqN_1, Mi.eqN_2, Mi.eqN_3, Mi.eqB_ins, Mi.eqB_tt, Mi.eqB_ll, Mi.eqB_int, Mi.eqB_str, Mi.eqB_bl, Mi.eqB_non, Mi.eqK_ii, Mi.eqK_ss, Mi.eqK_bb, Mi.eqK_nn, Mi.eqK_ni, Mi.eqK_in, Mi.eqK_ns, Mi.eqK_sn, Mi.eqK_is, Mi.eqK_si, Mi.eqK_nt, Mi.eqK_nl, Mi.eqB_tn, Mi.eqB_ln, Mi.eqLs_nil, Mi.eqLs_nc, Mi.eqLs_cn, Mi.eqLs_cc, Mi.itE_int, Mi.itE_str, Mi.itE_bl, Mi.itE_non, Mi.appT, Mi.asB, Mi.mMakeK, Mi.mDic, Option.bind_some, w, hg]
end Mi

namespace Mi
open PySem
theorem e_law_is_integer (d : D) : m__law_is_integer [d] = .ok (.pl (.bl (isIntD d))) := by cases d <;> rfl
theorem cross {t b : Int} (hb : b ≠ 0) : (Rat.divInt t b).num * b = t * (Rat.divInt t b).den := by
  have h := (Rat.divInt_eq_divInt_iff (n₁ := (Rat.divInt t b).num) (n₂ := t) (d₁ := ((Rat.divInt t b).den : Int)) (d₂ := b) (den_ne _) hb).mp (Rat.num_divInt_den _)
  exact h
theorem red_gcd (q : Rat) : Int.gcd q.num (q.den : Int) = 1 := q.reduced
theorem pw9 : (10 : Int) ^ Int.toNat 9 = 1000000000 := by decide
theorem po9 : powOk 10 9 = true := by decide
theorem great_loop : ∀ (l : List D) (x : Int) (s : Dz) (u : Sl), okAsg (some u) = true → 0 ≤ x → ∃ (y : Int) (s' : Dz) (u' : Sl), 0 ≤ y ∧ y < (x + 1) * 1000000000 ^ l.length ∧ okAsg (some u') = true ∧
    forL (gV 2) lb__law_great_0 l [.rf s.c, .pl (.int x), u] = .ok .nx [.rf s'.c, .pl (.int y), u']
  | [], x, s, u, hu, hx => ⟨x, s, u, hx, by simp; omega, hu, rfl⟩
  | d :: l, x, s, u, hu, hx => by
    have d0 := draw_lo s (many := 1000000000) (by decide)
    have d1 := draw_hi s (many := 1000000000) (by decide)
    have ed := e_draw s (many := 1000000000) (by decide)
    generalize (draw s 1000000000).1 = r at d0 d1 ed
    generalize (draw s 1000000000).2 = s1 at ed
    obtain ⟨y, s', u', h1, h2, h3, e⟩ := great_loop l (x * 1000000000 + r) s1 (.pl d) rfl (by omega)
    refine ⟨y, s', u', h1, Int.lt_of_lt_of_le h2 ?_, h3, ?_⟩
    · rw [List.length_cons, Int.pow_succ]
      have hp : (0 : Int) ≤ 1000000000 ^ l.length := Int.pow_nonneg (by decide)
      calc (x * 1000000000 + r + 1) * 1000000000 ^ l.length ≤ ((x + 1) * 1000000000) * 1000000000 ^ l.length := Int.mul_le_mul_of_nonneg_right (by omega) hp
        _ = (x + 1) * (1000000000 ^ l.length * 1000000000) := by rw [Int.mul_assoc, Int.mul_comm 1000000000]
    · have mr : mulOk x 1000000000 = true := mulOk_r (by decide) (by decide)
      have e1 : lb__law_great_0 [.rf s.c, .pl (.int x), .pl d] = .ok .nx [.rf s1.c, .pl (.int (x * 1000000000 + r)), .pl d] := by unfold lb__law_great_0; simp only [Mi.runM, Mi.runI, Mi.runR, Mi.outF, Mi.outI, Mi.outR, Mi.startE, Mi.bnd, Mi.ret, Mi.lift, Mi.fail, Mi.mVar, Mi.mC, Mi.mBin, Mi.mBinN, Mi.mUn, Mi.mFld, Mi.mFrz, Mi.mB, Mi.tru, Mi.mAnd, Mi.mOr, Mi.mNot, Mi.mAndV, Mi.mOrV, Mi.mNotV, Mi.mIf, Mi.mChain, Mi.mNil, Mi.mCons, Mi.mTup, Mi.mLst, Mi.mCB, Mi.mCBn, Mi.mIdxV, Mi.mSkip, Mi.thenF, Mi.mSeq, Mi.sto, Mi.mAsg, Mi.mAsgN, Mi.two, Mi.mPar, Mi.mDrop, Mi.mRet, Mi.mRetN, Mi.mRetV, Mi.mIfS, Mi.againF, Mi.gV, Mi.gsN, Mi.gsC, Mi.gT, Mi.mAsgT, Mi.tgt, Mi.mCall, Mi.frzR, Mi.newR, Mi.mCallN, Mi.recv, Mi.mMeth, Mi.mMethN, Mi.mMake, Mi.callR, Mi.mCallR, Mi.newM, Mi.mCallRN, Mi.mApp, Mi.mRev, Mi.setAt, Mi.mSetV, Mi.mSetF, Mi.mAug, Mi.one, Mi.mRaise, Mi.mRaise0, Mi.mTry, Mi.noEx, Mi.endX, Mi.inX, Mi.mTryAs, Mi.mXf, Mi.dI, Mi.dIc, Mi.dAdd, Mi.dSub, Mi.dLt, Mi.dLe, Mi.dGt, Mi.dGe, Mi.dMul, Mi.dDiv, Mi.dMod, Mi.dPow, Mi.dNeg, Mi.sEq, Mi.ofB, Mi.dEq, Mi.dNe, Mi.isNon, Mi.dIsN, Mi.dNotN, Mi.dInt, Mi.dI1, Mi.dI2, Mi.dAbs, Mi.dMin, Mi.dMax, Mi.dGcd, Mi.dLen1, Mi.dLen, Mi.mLenV, Mi.mIsi, Mi.isub, Mi.D.tn, Mi.dIx, Mi.opC, Mi.negC, Mi.eqC, Mi.ipC, Mi.Rv.d, Mi.mNoP, Mi.asI, Mi.mPart, Mi.mSlL, Mi.asL, Mi.asQ, Mi.mItQ, Mi.mItA, Mi.mFor, Mi.putD, List.map_cons, List.map_nil, List.length_cons, List.length_nil, List.replicate, List.cons_append, List.nil_append, List.getElem?_cons_zero, List.getElem?_cons_succ, List.set_cons_zero, List.set_cons_succ, Nat.sub_self, Nat.reduceAdd, Nat.reduceSub, Nat.reduceEqDiff, List.reverse_cons, id, Bool.not_true, Bool.not_false, if_true, if_false, Bool.false_eq_true, reduceIte, true_and, and_true, and_self, Option.toList, List.all_cons, List.all_nil, Bool.and_true, Bool.true_and, Bool.and_self, decide_true, decide_false, decide_eq_true_eq, reduceCtorEq, Mi.bo_pl, Mi.bo_ow, Mi.bo_rf, Mi.bo_un, Mi.sa_ow, Mi.sa_rf, Mi.sa_pl, Mi.oa_un, Mi.oa_pl, Mi.oa_ow, Mi.co_ow, Mi.co_rf, Mi.co_pl, Mi.st_ow, Mi.st_rf, Mi.lv_ow, Mi.lv_rf, Mi.lv_pl, Mi.ne_un, Mi.ne_pl, Mi.ne_ow, Mi.ne_rf, Mi.ne_se, Mi.ne_ex, Mi.th_un, Mi.th_pl, Mi.ie_ex, Mi.xf_ex, ne_eq, not_false_eq_true, not_true_eq_false, Mi.clr, Mi.putS, Option.isSome_some, Option.some.injEq, Int.reduceEq, Int.reduceNe, Int.reduceLT, Int.reduceLE, Nat.reduceLT, Nat.reduceLeDiff, decide_not, Bool.not_eq_true, Bool.decide_eq_true, Mi.ib_t, Mi.ib_f, Mi.mkR_ex, Mi.bO_s, Mi.rO_f, Mi.rO_t, Mi.dEqA_eq, Mi.eqN_0, Mi.eqN_1, Mi.eqN_2, Mi.eqN_3, Mi.eqB_ins, Mi.eqB_tt, Mi.eqB_ll, Mi.eqB_int, Mi.eqB_str, Mi.eqB_bl, Mi.eqB_non, Mi.eqK_ii, Mi.eqK_ss, Mi.eqK_bb, Mi.eqK_nn, Mi.eqK_ni, Mi.eqK_in, Mi.eqK_ns, Mi.eqK_sn, Mi.eqK_is, Mi.eqK_si, Mi.eqK_nt, Mi.eqK_nl, Mi.eqB_tn, Mi.eqB_ln, Mi.eqLs_nil, Mi.eqLs_nc, Mi.eqLs_cn, Mi.eqLs_cc, Mi.itE_int, Mi.itE_str, Mi.itE_bl, Mi.itE_non, Mi.appT, Mi.asB, Mi.mMakeK, Mi.mDic, Option.bind_some, pw9, po9, mr, ed]
      simp only [Mi.runM, Mi.runI, Mi.runR, Mi.outF, Mi.outI, Mi.outR, Mi.startE, Mi.bnd, Mi.ret, Mi.lift, Mi.fail, Mi.mVar, Mi.mC, Mi.mBin, Mi.mBinN, Mi.mUn, Mi.mFld, Mi.mFrz, Mi.mB, Mi.tru, Mi.mAnd, Mi.mOr, Mi.mNot, Mi.mAndV, Mi.mOrV, Mi.mNotV, Mi.mIf, Mi.mChain, Mi.mNil, Mi.mCons, Mi.mTup, Mi.mLst, Mi.mCB, Mi.mCBn, Mi.mIdxV, Mi.mSkip, Mi.thenF, Mi.mSeq, Mi.sto, Mi.mAsg, Mi.mAsgN, Mi.two, Mi.mPar, Mi.mDrop, Mi.mRet, Mi.mRetN, Mi.mRetV, Mi.mIfS, Mi.againF, Mi.gV, Mi.gsN, Mi.gsC, Mi.gT, Mi.mAsgT, Mi.tgt, Mi.mCall, Mi.frzR, Mi.newR, Mi.mCallN, Mi.recv, Mi.mMeth, Mi.mMethN, Mi.mMake, Mi.callR, Mi.mCallR, Mi.newM, Mi.mCallRN, Mi.mApp, Mi.mRev, Mi.setAt, Mi.mSetV, Mi.mSetF, Mi.mAug, Mi.one, Mi.mRaise, Mi.mRaise0, Mi.mTry, Mi.noEx, Mi.endX, Mi.inX, Mi.mTryAs, Mi.mXf, Mi.dI, Mi.dIc, Mi.dAdd, Mi.dSub, Mi.dLt, Mi.dLe, Mi.dGt, Mi.dGe, Mi.dMul, Mi.dDiv, Mi.dMod, Mi.dPow, Mi.dNeg, Mi.sEq, Mi.ofB, Mi.dEq, Mi.dNe, Mi.isNon, Mi.dIsN, Mi.dNotN, Mi.dInt, Mi.dI1, Mi.dI2, Mi.dAbs, Mi.dMin, Mi.dMax, Mi.dGcd, Mi.dLen1, Mi.dLen, Mi.mLenV, Mi.mIsi, Mi.isub, Mi.D.tn, Mi.dIx, Mi.opC, Mi.negC, Mi.eqC, Mi.ipC, Mi.Rv.d, Mi.mNoP, Mi.asI, Mi.mPart, Mi.mSlL, Mi.asL, Mi.asQ, Mi.mItQ, Mi.mItA, Mi.mFor, Mi.putD, List.map_cons, List.map_nil, List.length_cons, List.length_nil, List.replicate, List.cons_append, List.nil_append, List.getElem?_cons_zero, List.getElem?_cons_succ, List.set_cons_zero, List.set_cons_succ, Nat.sub_self, Nat.reduceAdd, Nat.reduceSub, Nat.reduceEqDiff, List.reverse_cons, id, Bool.not_true, Bool.not_false, if_true, if_false, Bool.false_eq_true, reduceIte, true_and, and_true, and_self, Option.toList, List.all_cons, List.all_nil, Bool.and_true, Bool.true_and, Bool.and_self, decide_true, decide_false, decide_eq_true_eq, reduceCtorEq, Mi.bo_pl, Mi.bo_ow, Mi.bo_rf, Mi.bo_un, Mi.sa_ow, Mi.sa_rf, Mi.sa_pl, Mi.oa_un, Mi.oa_pl, Mi.oa_ow, Mi.co_ow, Mi.co_rf, Mi.co_pl, Mi.st_ow, Mi.st_rf, Mi.lv_ow, Mi.lv_rf, Mi.lv_pl, Mi.ne_un, Mi.ne_pl, Mi.ne_ow, Mi.ne_rf, Mi.ne_se, Mi.ne_ex, Mi.th_un, Mi.th_pl, Mi.ie_ex, Mi.xf_ex, ne_eq, not_false_eq_true, not_true_eq_false, Mi.clr, Mi.putS, Option.isSome_some, Option.some.injEq, Int.reduceEq, Int.reduceNe, Int.reduceLT, Int.reduceLE, Nat.reduceLT, Nat.reduceLeDiff, decide_not, Bool.not_eq_true, Bool.decide_eq_true, Mi.ib_t, Mi.ib_f, Mi.mkR_ex, Mi.bO_s, Mi.rO_f, Mi.rO_t, Mi.dEqA_eq, Mi.eqN_0, Mi.eqN_1, Mi.eqN_2, Mi.eqN_3, Mi.eqB_ins, Mi.eqB_tt, Mi.eqB_ll, Mi.eqB_int, Mi.eqB_str, Mi.eqB_bl, Mi.eqB_non, Mi.eqK_ii, Mi.eqK_ss, Mi.eqK_bb, Mi.eqK_nn, Mi.eqK_ni, Mi.eqK_in, Mi.eqK_ns, Mi.eqK_sn, Mi.eqK_is, Mi.eqK_si, Mi.eqK_nt, Mi.eqK_nl, Mi.eqB_tn, Mi.eqB_ln, Mi.eqLs_nil, Mi.eqLs_nc, Mi.eqLs_cn, Mi.eqLs_cc, Mi.itE_int, Mi.itE_str, Mi.itE_bl, Mi.itE_non, Mi.appT, Mi.asB, Mi.mMakeK, Mi.mDic, Option.bind_some, Mi.forL, hu, e1, e]
theorem great_ex (s : Dz) : ∃ (g : Int) (s' : Dz), Bd 124 g ∧ m__law_great s.c [] = some (.pl (.int g), s'.c) := by
  have a0 := draw_lo s (many := 5) (by decide)
  have a1 := draw_hi s (many := 5) (by decide)
  have ea := e_draw s (many := 5) (by decide)
  generalize (draw s 5).1 = k at a0 a1 ea
  generalize (draw s 5).2 = s1 at ea
  obtain ⟨y, s2, u', h1, h2, h3, e⟩ := great_loop (rngL 0 k.toNat) 0 s1 .un rfl (by decide)
  have hl : (rngL 0 k.toNat).length ≤ 4 := by simp [rngL]; omega
  have hy : y < 1000000000000000000000000000000000000 := by
    have q0 : (1000000000 : Int) ^ 0 = 1 := by decide
    have q1 : (1000000000 : Int) ^ 1 = 1000000000 := by decide
    have q2 : (1000000000 : Int) ^ 2 = 1000000000000000000 := by decide
    have q3 : (1000000000 : Int) ^ 3 = 1000000000000000000000000000 := by decide
    have q4 : (1000000000 : Int) ^ 4 = 1000000000000000000000000000000000000 := by decide
    generalize (rngL 0 k.toNat).length = w at h2 hl
    have : w = 0 ∨ w = 1 ∨ w = 2 ∨ w = 3 ∨ w = 4 := by omega
    rcases this with rfl | rfl | rfl | rfl | rfl <;> omega
  have b0 := draw_lo s2 (many := 10) (by decide)
  have b1 := draw_hi s2 (many := 10) (by decide)
  have eb := e_draw s2 (many := 10) (by decide)
  generalize (draw s2 10).1 = r at b0 b1 eb
  generalize (draw s2 10).2 = s3 at eb
  have ec := e_draw s3 (many := 2) (by decide)
  generalize (draw s3 2).1 = f at ec
  generalize (draw s3 2).2 = s4 at ec
  have sk : small k = true := by simp [small]; omega
  have bd : Bd 124 (y + r) := by
    unfold Bd
    have : (2 : Nat) ^ 124 = 21267647932558653966460912964485513216 := by decide
    omega
  by_cases hf : f = 1
  · refine ⟨-(y + r), s4, bd.neg, ?_⟩
    unfold m__law_great b__law_great
    simp only [Mi.runM, Mi.runI, Mi.runR, Mi.outF, Mi.outI, Mi.outR, Mi.startE, Mi.bnd, Mi.ret, Mi.lift, Mi.fail, Mi.mVar, Mi.mC, Mi.mBin, Mi.mBinN, Mi.mUn, Mi.mFld, Mi.mFrz, Mi.mB, Mi.tru, Mi.mAnd, Mi.mOr, Mi.mNot, Mi.mAndV, Mi.mOrV, Mi.mNotV, Mi.mIf, Mi.mChain, Mi.mNil, Mi.mCons, Mi.mTup, Mi.mLst, Mi.mCB, Mi.mCBn, Mi.mIdxV, Mi.mSkip, Mi.thenF, Mi.mSeq, Mi.sto, Mi.mAsg, Mi.mAsgN, Mi.two, Mi.mPar, Mi.mDrop, Mi.mRet, Mi.mRetN, Mi.mRetV, Mi.mIfS, Mi.againF, Mi.gV, Mi.gsN, Mi.gsC, Mi.gT, Mi.mAsgT, Mi.tgt, Mi.mCall, Mi.frzR, Mi.newR, Mi.mCallN, Mi.recv, Mi.mMeth, Mi.mMethN, Mi.mMake, Mi.callR, Mi.mCallR, Mi.newM, Mi.mCallRN, Mi.mApp, Mi.mRev, Mi.setAt, Mi.mSetV, Mi.mSetF, Mi.mAug, Mi.one, Mi.mRaise, Mi.mRaise0, Mi.mTry, Mi.noEx, Mi.endX, Mi.inX, Mi.mTryAs, Mi.mXf, Mi.dI, Mi.dIc, Mi.dAdd, Mi.dSub, Mi.dLt, Mi.dLe, Mi.dGt, Mi.dGe, Mi.dMul, Mi.dDiv, Mi.dMod, Mi.dPow, Mi.dNeg, Mi.sEq, Mi.ofB, Mi.dEq, Mi.dNe, Mi.isNon, Mi.dIsN, Mi.dNotN, Mi.dInt, Mi.dI1, Mi.dI2, Mi.dAbs, Mi.dMin, Mi.dMax, Mi.dGcd, Mi.dLen1, Mi.dLen, Mi.mLenV, Mi.mIsi, Mi.isub, Mi.D.tn, Mi.dIx, Mi.opC, Mi.negC, Mi.eqC, Mi.ipC, Mi.Rv.d, Mi.mNoP, Mi.asI, Mi.mPart, Mi.mSlL, Mi.asL, Mi.asQ, Mi.mItQ, Mi.mItA, Mi.mFor, Mi.putD, List.map_cons, List.map_nil, List.length_cons, List.length_nil, List.replicate, List.cons_append, List.nil_append, List.getElem?_cons_zero, List.getElem?_cons_succ, List.set_cons_zero, List.set_cons_succ, Nat.sub_self, Nat.reduceAdd, Nat.reduceSub, Nat.reduceEqDiff, List.reverse_cons, id, Bool.not_true, Bool.not_false, if_true, if_false, Bool.false_eq_true, reduceIte, true_and, and_true, and_self, Option.toList, List.all_cons, List.all_nil, Bool.and_true, Bool.true_and, Bool.and_self, decide_true, decide_false, decide_eq_true_eq, reduceCtorEq, Mi.bo_pl, Mi.bo_ow, Mi.bo_rf, Mi.bo_un, Mi.sa_ow, Mi.sa_rf, Mi.sa_pl, Mi.oa_un, Mi.oa_pl, Mi.oa_ow, Mi.co_ow, Mi.co_rf, Mi.co_pl, Mi.st_ow, Mi.st_rf, Mi.lv_ow, Mi.lv_rf, Mi.lv_pl, Mi.ne_un, Mi.ne_pl, Mi.ne_ow, Mi.ne_rf, Mi.ne_se, Mi.ne_ex, Mi.th_un, Mi.th_pl, Mi.ie_ex, Mi.xf_ex, ne_eq, not_false_eq_true, not_true_eq_false, Mi.clr, Mi.putS, Option.isSome_some, Option.some.injEq, Int.reduceEq, Int.reduceNe, Int.reduceLT, Int.reduceLE, Nat.reduceLT, Nat.reduceLeDiff, decide_not, Bool.not_eq_true, Bool.decide_eq_true, Mi.ib_t, Mi.ib_f, Mi.mkR_ex, Mi.bO_s, Mi.rO_f, Mi.rO_t, Mi.dEqA_eq, Mi.eqN_0, Mi.eqN_1, Mi.eqN_2, Mi.eqN_3, Mi.eqB_ins, Mi.eqB_tt, Mi.eqB_ll, Mi.eqB_int, Mi.eqB_str, Mi.eqB_bl, Mi.eqB_non, Mi.eqK_ii, Mi.eqK_ss, Mi.eqK_bb, Mi.eqK_nn, Mi.eqK_ni, Mi.eqK_in, Mi.eqK_ns, Mi.eqK_sn, Mi.eqK_is, Mi.eqK_si, Mi.eqK_nt, Mi.eqK_nl, Mi.eqB_tn, Mi.eqB_ln, Mi.eqLs_nil, Mi.eqLs_nc, Mi.eqLs_cn, Mi.eqLs_cc, Mi.itE_int, Mi.itE_str, Mi.itE_bl, Mi.itE_non, Mi.appT, Mi.asB, Mi.mMakeK, Mi.mDic, Option.bind_some, ea, Mi.rng1, sk, e, eb, ec, hf]
  · refine ⟨y + r, s4, bd, ?_⟩
    unfold m__law_great b__law_great
    simp only [Mi.runM, Mi.runI, Mi.runR, Mi.outF, Mi.outI, Mi.outR, Mi.startE, Mi.bnd, Mi.ret, Mi.lift, Mi.fail, Mi.mVar, Mi.mC, Mi.mBin, Mi.mBinN, Mi.mUn, Mi.mFld, Mi.mFrz, Mi.mB, Mi.tru, Mi.mAnd, Mi.mOr, Mi.mNot, Mi.mAndV, Mi.mOrV, Mi.mNotV, Mi.mIf, Mi.mChain, Mi.mNil, Mi.mCons, Mi.mTup, Mi.mLst, Mi.mCB, Mi.mCBn, Mi.mIdxV, Mi.mSkip, Mi.thenF, Mi.mSeq, Mi.sto, Mi.mAsg, Mi.mAsgN, Mi.two, Mi.mPar, Mi.mDrop, Mi.mRet, Mi.mRetN, Mi.mRetV, Mi.mIfS, Mi.againF, Mi.gV, Mi.gsN, Mi.gsC, Mi.gT, Mi.mAsgT, Mi.tgt, Mi.mCall, Mi.frzR, Mi.newR, Mi.mCallN, Mi.recv, Mi.mMeth, Mi.mMethN, Mi.mMake, Mi.callR, Mi.mCallR, Mi.newM, Mi.mCallRN, Mi.mApp, Mi.mRev, Mi.setAt, Mi.mSetV, Mi.mSetF, Mi.mAug, Mi.one, Mi.mRaise, Mi.mRaise0, Mi.mTry, Mi.noEx, Mi.endX, Mi.inX, Mi.mTryAs, Mi.mXf, Mi.dI, Mi.dIc, Mi.dAdd, Mi.dSub, Mi.dLt, Mi.dLe, Mi.dGt, Mi.dGe, Mi.dMul, Mi.dDiv, Mi.dMod, Mi.dPow, Mi.dNeg, Mi.sEq, Mi.ofB, Mi.dEq, Mi.dNe, Mi.isNon, Mi.dIsN, Mi.dNotN, Mi.dInt, Mi.dI1, Mi.dI2, Mi.dAbs, Mi.dMin, Mi.dMax, Mi.dGcd, Mi.dLen1, Mi.dLen, Mi.mLenV, Mi.mIsi, Mi.isub, Mi.D.tn, Mi.dIx, Mi.opC, Mi.negC, Mi.eqC, Mi.ipC, Mi.Rv.d, Mi.mNoP, Mi.asI, Mi.mPart, Mi.mSlL, Mi.asL, Mi.asQ, Mi.mItQ, Mi.mItA, Mi.mFor, Mi.putD, List.map_cons, List.map_nil, List.length_cons, List.length_nil, List.replicate, List.cons_append, List.nil_append, List.getElem?_cons_zero, List.getElem?_cons_succ, List.set_cons_zero, List.set_cons_succ, Nat.sub_self, Nat.reduceAdd, Nat.reduceSub, Nat.reduceEqDiff, List.reverse_cons, id, Bool.not_true, Bool.not_false, if_true, if_false, Bool.false_eq_true, reduceIte, true_and, and_true, and_self, Option.toList, List.all_cons, List.all_nil, Bool.and_true, Bool.true_and, Bool.and_self, decide_true, decide_false, decide_eq_true_eq, reduceCtorEq, Mi.bo_pl, Mi.bo_ow, Mi.bo_rf, Mi.bo_un, Mi.sa_ow, Mi.sa_rf, Mi.sa_pl, Mi.oa_un, Mi.oa_pl, Mi.oa_ow, Mi.co_ow, Mi.co_rf, Mi.co_pl, Mi.st_ow, Mi.st_rf, Mi.lv_ow, Mi.lv_rf, Mi.lv_pl, Mi.ne_un, Mi.ne_pl, Mi.ne_ow, Mi.ne_rf, Mi.ne_se, Mi.ne_ex, Mi.th_un, Mi.th_pl, Mi.ie_ex, Mi.xf_ex, ne_eq, not_false_eq_true, not_true_eq_false, Mi.clr, Mi.putS, Option.isSome_some, Option.some.injEq, Int.reduceEq, Int.reduceNe, Int.reduceLT, Int.reduceLE, Nat.reduceLT, Nat.reduceLeDiff, decide_not, Bool.not_eq_true, Bool.decide_eq_true, Mi.ib_t, Mi.ib_f, Mi.mkR_ex, Mi.bO_s, Mi.rO_f, Mi.rO_t, Mi.dEqA_eq, Mi.eqN_0, Mi.eqN_1, Mi.eqN_2, Mi.eqN_3, Mi.eqB_ins, Mi.eqB_tt, Mi.eqB_ll, Mi.eqB_int, Mi.eqB_str, Mi.eqB_bl, Mi.eqB_non, Mi.eqK_ii, Mi.eqK_ss, Mi.eqK_bb, Mi.eqK_nn, Mi.eqK_ni, Mi.eqK_in, Mi.eqK_ns, Mi.eqK_sn, Mi.eqK_is, Mi.eqK_si, Mi.eqK_nt, Mi.eqK_nl, Mi.eqB_tn, Mi.eqB_ln, Mi.eqLs_nil, Mi.eqLs_nc, Mi.eqLs_cn, Mi.eqLs_cc, Mi.itE_int, Mi.itE_str, Mi.itE_bl, Mi.itE_non, Mi.appT, Mi.asB, Mi.mMakeK, Mi.mDic, Option.bind_some, ea, Mi.rng1, sk, e, eb, ec, hf]
end Mi

namespace Mi
open PySem
/-! ### the state -/
theorem lcL_state : ∀ (l : List Int) (a : D), lcL (lcTurn 2 (ret true) le__law_state_0) (l.map D.int) [.pl a, .un, .un] = .ok (l.map D.int) [.pl a, .un, .un]
  | [], a => rfl
  | n :: l, a => by
    have e1 : le__law_state_0 [.pl a, .un, .pl (.int n)] = .ok (.int n) [.pl a, .un, .pl (.int n)] := by unfold le__law_state_0; simp only [Mi.runM, Mi.runI, Mi.runR, Mi.outF, Mi.outI, Mi.outR, Mi.startE, Mi.bnd, Mi.ret, Mi.lift, Mi.fail, Mi.mVar, Mi.mC, Mi.mBin, Mi.mBinN, Mi.mUn, Mi.mFld, Mi.mFrz, Mi.mB, Mi.tru, Mi.mAnd, Mi.mOr, Mi.mNot, Mi.mAndV, Mi.mOrV, Mi.mNotV, Mi.mIf, Mi.mChain, Mi.mNil, Mi.mCons, Mi.mTup, Mi.mLst, Mi.mCB, Mi.mCBn, Mi.mIdxV, Mi.mSkip, Mi.thenF, Mi.mSeq, Mi.sto, Mi.mAsg, Mi.mAsgN, Mi.two, Mi.mPar, Mi.mDrop, Mi.mRet, Mi.mRetN, Mi.mRetV, Mi.mIfS, Mi.againF, Mi.gV, Mi.gsN, Mi.gsC, Mi.gT, Mi.mAsgT, Mi.tgt, Mi.mCall, Mi.frzR, Mi.newR, Mi.mCallN, Mi.recv, Mi.mMeth, Mi.mMethN, Mi.mMake, Mi.callR, Mi.mCallR, Mi.newM, Mi.mCallRN, Mi.mApp, Mi.mRev, Mi.setAt, Mi.mSetV, Mi.mSetF, Mi.mAug, Mi.one, Mi.mRaise, Mi.mRaise0, Mi.mTry, Mi.noEx, Mi.endX, Mi.inX, Mi.mTryAs, Mi.mXf, Mi.dI, Mi.dIc, Mi.dAdd, Mi.dSub, Mi.dLt, Mi.dLe, Mi.dGt, Mi.dGe, Mi.dMul, Mi.dDiv, Mi.dMod, Mi.dPow, Mi.dNeg, Mi.sEq, Mi.ofB, Mi.dEq, Mi.dNe, Mi.isNon, Mi.dIsN, Mi.dNotN, Mi.dInt, Mi.dI1, Mi.dI2, Mi.dAbs, Mi.dMin, Mi.dMax, Mi.dGcd, Mi.dLen1, Mi.dLen, Mi.mLenV, Mi.mIsi, Mi.isub, Mi.D.tn, Mi.dIx, Mi.opC, Mi.negC, Mi.eqC, Mi.ipC, Mi.Rv.d, Mi.mNoP, Mi.asI, Mi.mPart, Mi.mSlL, Mi.asL, Mi.asQ, Mi.mItQ, Mi.mItA, Mi.mFor, Mi.putD, List.map_cons, List.map_nil, List.length_cons, List.length_nil, List.replicate, List.cons_append, List.nil_append, List.getElem?_cons_zero, List.getElem?_cons_succ, List.set_cons_zero, List.set_cons_succ, Nat.sub_self, Nat.reduceAdd, Nat.reduceSub, Nat.reduceEqDiff, List.reverse_cons, id, Bool.not_true, Bool.not_false, if_true, if_false, Bool.false_eq_true, reduceIte, true_and, and_true, and_self, Option.toList, List.all_cons, List.all_nil, Bool.and_true, Bool.true_and, Bool.and_self, decide_true, decide_false, decide_eq_true_eq, reduceCtorEq, Mi.bo_pl, Mi.bo_ow, Mi.bo_rf, Mi.bo_un, Mi.sa_ow, Mi.sa_rf, Mi.sa_pl, Mi.oa_un, Mi.oa_pl, Mi.oa_ow, Mi.co_ow, Mi.co_rf, Mi.co_pl, Mi.st_ow, Mi.st_rf, Mi.lv_ow, Mi.lv_rf, Mi.lv_pl, Mi.ne_un, Mi.ne_pl, Mi.ne_ow, Mi.ne_rf, Mi.ne_se, Mi.ne_ex, Mi.th_un, Mi.th_pl, Mi.ie_ex, Mi.xf_ex, ne_eq, not_false_eq_true, not_true_eq_false, Mi.clr, Mi.putS, Option.isSome_some, Option.some.injEq, Int.reduceEq, Int.reduceNe, Int.reduceLT, Int.reduceLE, Nat.reduceLT, Nat.reduceLeDiff, decide_not, Bool.not_eq_true, Bool.decide_eq_true, Mi.ib_t, Mi.ib_f, Mi.mkR_ex, Mi.bO_s, Mi.rO_f, Mi.rO_t, Mi.dEqA_eq, Mi.eqN_0, Mi.eqN_1, Mi.eqN_2, Mi.eqN_3, Mi.eqB_ins, Mi.eqB_tt, Mi.eqB_ll, Mi.eqB_int, Mi.eqB_str, Mi.eqB_bl, Mi.eqB_non, Mi.eqK_ii, Mi.eqK_ss, Mi.eqK_bb, Mi.eqK_nn, Mi.eqK_ni, Mi.eqK_in, Mi.eqK_ns, Mi.eqK_sn, Mi.eqK_is, Mi.eqK_si, Mi.eqK_nt, Mi.eqK_nl, Mi.eqB_tn, Mi.eqB_ln, Mi.eqLs_nil, Mi.eqLs_nc, Mi.eqLs_cn, Mi.eqLs_cc, Mi.itE_int, Mi.itE_str, Mi.itE_bl, Mi.itE_non, Mi.appT, Mi.asB, Mi.mMakeK, Mi.mDic, Option.bind_some]
    simp only [Mi.runM, Mi.runI, Mi.runR, Mi.outF, Mi.outI, Mi.outR, Mi.startE, Mi.bnd, Mi.ret, Mi.lift, Mi.fail, Mi.mVar, Mi.mC, Mi.mBin, Mi.mBinN, Mi.mUn, Mi.mFld, Mi.mFrz, Mi.mB, Mi.tru, Mi.mAnd, Mi.mOr, Mi.mNot, Mi.mAndV, Mi.mOrV, Mi.mNotV, Mi.mIf, Mi.mChain, Mi.mNil, Mi.mCons, Mi.mTup, Mi.mLst, Mi.mCB, Mi.mCBn, Mi.mIdxV, Mi.mSkip, Mi.thenF, Mi.mSeq, Mi.sto, Mi.mAsg, Mi.mAsgN, Mi.two, Mi.mPar, Mi.mDrop, Mi.mRet, Mi.mRetN, Mi.mRetV, Mi.mIfS, Mi.againF, Mi.gV, Mi.gsN, Mi.gsC, Mi.gT, Mi.mAsgT, Mi.tgt, Mi.mCall, Mi.frzR, Mi.newR, Mi.mCallN, Mi.recv, Mi.mMeth, Mi.mMethN, Mi.mMake, Mi.callR, Mi.mCallR, Mi.newM, Mi.mCallRN, Mi.mApp, Mi.mRev, Mi.setAt, Mi.mSetV, Mi.mSetF, Mi.mAug, Mi.one, Mi.mRaise, Mi.mRaise0, Mi.mTry, Mi.noEx, Mi.endX, Mi.inX, Mi.mTryAs, Mi.mXf, Mi.dI, Mi.dIc, Mi.dAdd, Mi.dSub, Mi.dLt, Mi.dLe, Mi.dGt, Mi.dGe, Mi.dMul, Mi.dDiv, Mi.dMod, Mi.dPow, Mi.dNeg, Mi.sEq, Mi.ofB, Mi.dEq, Mi.dNe, Mi.isNon, Mi.dIsN, Mi.dNotN, Mi.dInt, Mi.dI1, Mi.dI2, Mi.dAbs, Mi.dMin, Mi.dMax, Mi.dGcd, Mi.dLen1, Mi.dLen, Mi.mLenV, Mi.mIsi, Mi.isub, Mi.D.tn, Mi.dIx, Mi.opC, Mi.negC, Mi.eqC, Mi.ipC, Mi.Rv.d, Mi.mNoP, Mi.asI, Mi.mPart, Mi.mSlL, Mi.asL, Mi.asQ, Mi.mItQ, Mi.mItA, Mi.mFor, Mi.putD, List.map_cons, List.map_nil, List.length_cons, List.length_nil, List.replicate, List.cons_append, List.nil_append, List.getElem?_cons_zero, List.getElem?_cons_succ, List.set_cons_zero, List.set_cons_succ, Nat.sub_self, Nat.reduceAdd, Nat.reduceSub, Nat.reduceEqDiff, List.reverse_cons, id, Bool.not_true, Bool.not_false, if_true, if_false, Bool.false_eq_true, reduceIte, true_and, and_true, and_self, Option.toList, List.all_cons, List.all_nil, Bool.and_true, Bool.true_and, Bool.and_self, decide_true, decide_false, decide_eq_true_eq, reduceCtorEq, Mi.bo_pl, Mi.bo_ow, Mi.bo_rf, Mi.bo_un, Mi.sa_ow, Mi.sa_rf, Mi.sa_pl, Mi.oa_un, Mi.oa_pl, Mi.oa_ow, Mi.co_ow, Mi.co_rf, Mi.co_pl, Mi.st_ow, Mi.st_rf, Mi.lv_ow, Mi.lv_rf, Mi.lv_pl, Mi.ne_un, Mi.ne_pl, Mi.ne_ow, Mi.ne_rf, Mi.ne_se, Mi.ne_ex, Mi.th_un, Mi.th_pl, Mi.ie_ex, Mi.xf_ex, ne_eq, not_false_eq_true, not_true_eq_false, Mi.clr, Mi.putS, Option.isSome_some, Option.some.injEq, Int.reduceEq, Int.reduceNe, Int.reduceLT, Int.reduceLE, Nat.reduceLT, Nat.reduceLeDiff, decide_not, Bool.not_eq_true, Bool.decide_eq_true, Mi.ib_t, Mi.ib_f, Mi.mkR_ex, Mi.bO_s, Mi.rO_f, Mi.rO_t, Mi.dEqA_eq, Mi.eqN_0, Mi.eqN_1, Mi.eqN_2, Mi.eqN_3, Mi.eqB_ins, Mi.eqB_tt, Mi.eqB_ll, Mi.eqB_int, Mi.eqB_str, Mi.eqB_bl, Mi.eqB_non, Mi.eqK_ii, Mi.eqK_ss, Mi.eqK_bb, Mi.eqK_nn, Mi.eqK_ni, Mi.eqK_in, Mi.eqK_ns, Mi.eqK_sn, Mi.eqK_is, Mi.eqK_si, Mi.eqK_nt, Mi.eqK_nl, Mi.eqB_tn, Mi.eqB_ln, Mi.eqLs_nil, Mi.eqLs_nc, Mi.eqLs_cn, Mi.eqLs_cc, Mi.itE_int, Mi.itE_str, Mi.itE_bl, Mi.itE_non, Mi.appT, Mi.asB, Mi.mMakeK, Mi.mDic, Option.bind_some, Mi.lcL, Mi.lcTurn, e1, lcL_state l a]
theorem cutD_63 (ns : List Int) : cutD (ns.map D.int) none (some 63) = (ns.take 63).map D.int := by
  unfold cutD
  rw [HT.sIx_none, show (some (63 : Int)) = some ((63 : Nat) : Int) from rfl, HT.sIx_nat, List.drop_zero, Nat.sub_zero, List.map_take]
  by_cases h : 63 ≤ (ns.map D.int).length
  · rw [Nat.min_eq_left h]
  · rw [Nat.min_eq_right (by omega), List.take_of_length_le (Nat.le_refl _), List.take_of_length_le (by omega)]
theorem e_state (ns : List Int) : ∃ s : Dz, m__law_state [.lst (ns.map D.int)] = .ok (.nw s.c) := by
  have hl : (ns.take 63).length ≤ 63 := by rw [List.length_take]; omega
  have hl2 : (ns.take 63).length < 1000000 := by omega
  refine ⟨⟨ns.take 63, 0, 0, 1 + (ns.take 63).length, 0, by omega, by omega, by omega⟩, ?_⟩
  unfold m__law_state b__law_state
  simp only [Mi.runM, Mi.runI, Mi.runR, Mi.outF, Mi.outI, Mi.outR, Mi.startE, Mi.bnd, Mi.ret, Mi.lift, Mi.fail, Mi.mVar, Mi.mC, Mi.mBin, Mi.mBinN, Mi.mUn, Mi.mFld, Mi.mFrz, Mi.mB, Mi.tru, Mi.mAnd, Mi.mOr, Mi.mNot, Mi.mAndV, Mi.mOrV, Mi.mNotV, Mi.mIf, Mi.mChain, Mi.mNil, Mi.mCons, Mi.mTup, Mi.mLst, Mi.mCB, Mi.mCBn, Mi.mIdxV, Mi.mSkip, Mi.thenF, Mi.mSeq, Mi.sto, Mi.mAsg, Mi.mAsgN, Mi.two, Mi.mPar, Mi.mDrop, Mi.mRet, Mi.mRetN, Mi.mRetV, Mi.mIfS, Mi.againF, Mi.gV, Mi.gsN, Mi.gsC, Mi.gT, Mi.mAsgT, Mi.tgt, Mi.mCall, Mi.frzR, Mi.newR, Mi.mCallN, Mi.recv, Mi.mMeth, Mi.mMethN, Mi.mMake, Mi.callR, Mi.mCallR, Mi.newM, Mi.mCallRN, Mi.mApp, Mi.mRev, Mi.setAt, Mi.mSetV, Mi.mSetF, Mi.mAug, Mi.one, Mi.mRaise, Mi.mRaise0, Mi.mTry, Mi.noEx, Mi.endX, Mi.inX, Mi.mTryAs, Mi.mXf, Mi.dI, Mi.dIc, Mi.dAdd, Mi.dSub, Mi.dLt, Mi.dLe, Mi.dGt, Mi.dGe, Mi.dMul, Mi.dDiv, Mi.dMod, Mi.dPow, Mi.dNeg, Mi.sEq, Mi.ofB, Mi.dEq, Mi.dNe, Mi.isNon, Mi.dIsN, Mi.dNotN, Mi.dInt, Mi.dI1, Mi.dI2, Mi.dAbs, Mi.dMin, Mi.dMax, Mi.dGcd, Mi.dLen1, Mi.dLen, Mi.mLenV, Mi.mIsi, Mi.isub, Mi.D.tn, Mi.dIx, Mi.opC, Mi.negC, Mi.eqC, Mi.ipC, Mi.Rv.d, Mi.mNoP, Mi.asI, Mi.mPart, Mi.mSlL, Mi.asL, Mi.asQ, Mi.mItQ, Mi.mItA, Mi.mFor, Mi.putD, List.map_cons, List.map_nil, List.length_cons, List.length_nil, List.replicate, List.cons_append, List.nil_append, List.getElem?_cons_zero, List.getElem?_cons_succ, List.set_cons_zero, List.set_cons_succ, Nat.sub_self, Nat.reduceAdd, Nat.reduceSub, Nat.reduceEqDiff, List.reverse_cons, id, Bool.not_true, Bool.not_false, if_true, if_false, Bool.false_eq_true, reduceIte, true_and, and_true, and_self, Option.toList, List.all_cons, List.all_nil, Bool.and_true, Bool.true_and, Bool.and_self, decide_true, decide_false, decide_eq_true_eq, reduceCtorEq, Mi.bo_pl, Mi.bo_ow, Mi.bo_rf, Mi.bo_un, Mi.sa_ow, Mi.sa_rf, Mi.sa_pl, Mi.oa_un, Mi.oa_pl, Mi.oa_ow, Mi.co_ow, Mi.co_rf, Mi.co_pl, Mi.st_ow, Mi.st_rf, Mi.lv_ow, Mi.lv_rf, Mi.lv_pl, Mi.ne_un, Mi.ne_pl, Mi.ne_ow, Mi.ne_rf, Mi.ne_se, Mi.ne_ex, Mi.th_un, Mi.th_pl, Mi.ie_ex, Mi.xf_ex, ne_eq, not_false_eq_true, not_true_eq_false, Mi.clr, Mi.putS, Option.isSome_some, Option.some.injEq, Int.reduceEq, Int.reduceNe, Int.reduceLT, Int.reduceLE, Nat.reduceLT, Nat.reduceLeDiff, decide_not, Bool.not_eq_true, Bool.decide_eq_true, Mi.ib_t, Mi.ib_f, Mi.mkR_ex, Mi.bO_s, Mi.rO_f, Mi.rO_t, Mi.dEqA_eq, Mi.eqN_0, Mi.eqN_1, Mi.eqN_2, Mi.eqN_3, Mi.eqB_ins, Mi.eqB_tt, Mi.eqB_ll, Mi.eqB_int, Mi.eqB_str, Mi.eqB_bl, Mi.eqB_non, Mi.eqK_ii, Mi.eqK_ss, Mi.eqK_bb, Mi.eqK_nn, Mi.eqK_ni, Mi.eqK_in, Mi.eqK_ns, Mi.eqK_sn, Mi.eqK_is, Mi.eqK_si, Mi.eqK_nt, Mi.eqK_nl, Mi.eqB_tn, Mi.eqB_ln, Mi.eqLs_nil, Mi.eqLs_nc, Mi.eqLs_cn, Mi.eqLs_cc, Mi.itE_int, Mi.itE_str, Mi.itE_bl, Mi.itE_non, Mi.appT, Mi.asB, Mi.mMakeK, Mi.mDic, Option.bind_some, cutD_63, Mi.mLc, List.length_map, hl2, lcL_state]
  rfl
end Mi

namespace Mi
open PySem
/-! ### primes -/
def Prm (p : Int) : Prop := 1 < p ∧ ∀ d : Int, 2 ≤ d → d * d ≤ p → ¬ p % d = 0
theorem Prm.div {p d : Int} (h : Prm p) (hd : d ∣ p) (h1 : 1 < d) : d = p := by
  obtain ⟨e, rfl⟩ := hd
  have hp := h.1
  have he : 0 < e := by
    rcases Int.lt_or_le 0 e with z | z
    · exact z
    · have := Int.mul_le_mul_of_nonneg_left z (by omega : 0 ≤ d)
      omega
  by_cases e1 : e = 1
  · rw [e1, Int.mul_one]
  · rcases Int.le_total d e with z | z
    · have := Int.mul_le_mul_of_nonneg_left z (by omega : 0 ≤ d)
      exact absurd (Int.mul_emod_right d e) (h.2 d (by omega) this)
    · have := Int.mul_le_mul_of_nonneg_right z (by omega : 0 ≤ e)
      exact absurd (Int.mul_emod_left d e) (h.2 e (by omega) this)
theorem Prm.gcd {p a : Int} (h : Prm p) (ha : ¬ a % p = 0) : Int.gcd a p = 1 := by
  have hp := h.1
  have g1 : (Int.gcd a p : Int) ∣ p := Int.gcd_dvd_right ..
  have g2 : (Int.gcd a p : Int) ∣ a := Int.gcd_dvd_left ..
  have g0 : 0 < Int.gcd a p := Int.gcd_pos_of_ne_zero_right a (by omega)
  by_cases e : Int.gcd a p = 1
  · exact e
  · have := h.div g1 (by omega)
    rw [this] at g2
    exact absurd (Int.emod_eq_zero_of_dvd g2) ha
open Classical in
noncomputable def isP (v : Int) : Bool := decide (Prm v)
theorem isP_t {v : Int} (h : Prm v) : isP v = true := by unfold isP; simp [h]
theorem isP_f {v : Int} (h : ¬ Prm v) : isP v = false := by unfold isP; simp [h]
theorem isP_iff {v : Int} : isP v = true ↔ Prm v := by unfold isP; simp
theorem not_prm_lt {v : Int} (h : v < 2) : ¬ Prm v := fun z => by have := z.1; omega
theorem fmod_pos {a b : Int} (h : 0 < b) : a.fmod b = a % b := Int.fmod_eq_emod_of_nonneg a (by omega)
theorem fdiv_pos {a b : Int} (h : 0 < b) : a.fdiv b = a / b := Int.fdiv_eq_ediv_of_nonneg a (by omega)
theorem prime_loop {v : Int} (hv : v < 10000) : ∀ (n : Nat) (d : Int), 2 ≤ d → (∀ c : Int, 2 ≤ c → c < d → c * c ≤ v → ¬ v % c = 0) → (v + 1 - d).toNat < n → d ≤ v + 1 → 1 < v →
    (Prm v ∧ ∃ d', wloop lc_is_prime_0 lb_is_prime_1 n [.pl (.int v), .pl (.int d)] = .ok .nx [.pl (.int v), .pl (.int d')]) ∨
    (¬ Prm v ∧ ∃ ρ, wloop lc_is_prime_0 lb_is_prime_1 n [.pl (.int v), .pl (.int d)] = .ok (.rt (.pl (.bl false))) ρ)
  | 0, d, _, _, h, _, _ => by omega
  | n + 1, d, h2, hn, hm, hdv, h1 => by
    rw [wloop.eq_2]
    by_cases h3 : d * d ≤ v
    · have h4 : d < 10000 := by
        rcases Int.lt_or_le d 10000 with z | z
        · exact z
        · have := Int.mul_le_mul_of_nonneg_left (by omega : 1 ≤ d) (by omega : 0 ≤ d)
          omega
      have hk : d ≤ v := by
        have := Int.mul_le_mul_of_nonneg_left (by omega : 1 ≤ d) (by omega : 0 ≤ d)
        omega
      have mo : mulOk d d = true := mulOk_l (by omega) (by omega)
      have hd0 : ¬ d = 0 := by omega
      have e1 : lc_is_prime_0 [.pl (.int v), .pl (.int d)] = .ok true [.pl (.int v), .pl (.int d)] := by unfold lc_is_prime_0; simp only [Mi.runM, Mi.runI, Mi.runR, Mi.outF, Mi.outI, Mi.outR, Mi.startE, Mi.bnd, Mi.ret, Mi.lift, Mi.fail, Mi.mVar, Mi.mC, Mi.mBin, Mi.mBinN, Mi.mUn, Mi.mFld, Mi.mFrz, Mi.mB, Mi.tru, Mi.mAnd, Mi.mOr, Mi.mNot, Mi.mAndV, Mi.mOrV, Mi.mNotV, Mi.mIf, Mi.mChain, Mi.mNil, Mi.mCons, Mi.mTup, Mi.mLst, Mi.mCB, Mi.mCBn, Mi.mIdxV, Mi.mSkip, Mi.thenF, Mi.mSeq, Mi.sto, Mi.mAsg, Mi.mAsgN, Mi.two, Mi.mPar, Mi.mDrop, Mi.mRet, Mi.mRetN, Mi.mRetV, Mi.mIfS, Mi.againF, Mi.gV, Mi.gsN, Mi.gsC, Mi.gT, Mi.mAsgT, Mi.tgt, Mi.mCall, Mi.frzR, Mi.newR, Mi.mCallN, Mi.recv, Mi.mMeth, Mi.mMethN, Mi.mMake, Mi.callR, Mi.mCallR, Mi.newM, Mi.mCallRN, Mi.mApp, Mi.mRev, Mi.setAt, Mi.mSetV, Mi.mSetF, Mi.mAug, Mi.one, Mi.mRaise, Mi.mRaise0, Mi.mTry, Mi.noEx, Mi.endX, Mi.inX, Mi.mTryAs, Mi.mXf, Mi.dI, Mi.dIc, Mi.dAdd, Mi.dSub, Mi.dLt, Mi.dLe, Mi.dGt, Mi.dGe, Mi.dMul, Mi.dDiv, Mi.dMod, Mi.dPow, Mi.dNeg, Mi.sEq, Mi.ofB, Mi.dEq, Mi.dNe, Mi.isNon, Mi.dIsN, Mi.dNotN, Mi.dInt, Mi.dI1, Mi.dI2, Mi.dAbs, Mi.dMin, Mi.dMax, Mi.dGcd, Mi.dLen1, Mi.dLen, Mi.mLenV, Mi.mIsi, Mi.isub, Mi.D.tn, Mi.dIx, Mi.opC, Mi.negC, Mi.eqC, Mi.ipC, Mi.Rv.d, Mi.mNoP, Mi.asI, Mi.mPart, Mi.mSlL, Mi.asL, Mi.asQ, Mi.mItQ, Mi.mItA, Mi.mFor, Mi.putD, List.map_cons, List.map_nil, List.length_cons, List.length_nil, List.replicate, List.cons_append, List.nil_append, List.getElem?_cons_zero, List.getElem?_cons_succ, List.set_cons_zero, List.set_cons_succ, Nat.sub_self, Nat.reduceAdd, Nat.reduceSub, Nat.reduceEqDiff, List.reverse_cons, id, Bool.not_true, Bool.not_false, if_true, if_false, Bool.false_eq_true, reduceIte, true_and, and_true, and_self, Option.toList, List.all_cons, List.all_nil, Bool.and_true, Bool.true_and, Bool.and_self, decide_true, decide_false, decide_eq_true_eq, reduceCtorEq, Mi.bo_pl, Mi.bo_ow, Mi.bo_rf, Mi.bo_un, Mi.sa_ow, Mi.sa_rf, Mi.sa_pl, Mi.oa_un, Mi.oa_pl, Mi.oa_ow, Mi.co_ow, Mi.co_rf, Mi.co_pl, Mi.st_ow, Mi.st_rf, Mi.lv_ow, Mi.lv_rf, Mi.lv_pl, Mi.ne_un, Mi.ne_pl, Mi.ne_ow, Mi.ne_rf, Mi.ne_se, Mi.ne_ex, Mi.th_un, Mi.th_pl, Mi.ie_ex, Mi.xf_ex, ne_eq, not_false_eq_true, not_true_eq_false, Mi.clr, Mi.putS, Option.isSome_some, Option.some.injEq, Int.reduceEq, Int.reduceNe, Int.reduceLT, Int.reduceLE, Nat.reduceLT, Nat.reduceLeDiff, decide_not, Bool.not_eq_true, Bool.decide_eq_true, Mi.ib_t, Mi.ib_f, Mi.mkR_ex, Mi.bO_s, Mi.rO_f, Mi.rO_t, Mi.dEqA_eq, Mi.eqN_0, Mi.eqN_1, Mi.eqN_2, Mi.eqN_3, Mi.eqB_ins, Mi.eqB_tt, Mi.eqB_ll, Mi.eqB_int, Mi.eqB_str, Mi.eqB_bl, Mi.eqB_non, Mi.eqK_ii, Mi.eqK_ss, Mi.eqK_bb, Mi.eqK_nn, Mi.eqK_ni, Mi.eqK_in, Mi.eqK_ns, Mi.eqK_sn, Mi.eqK_is, Mi.eqK_si, Mi.eqK_nt, Mi.eqK_nl, Mi.eqB_tn, Mi.eqB_ln, Mi.eqLs_nil, Mi.eqLs_nc, Mi.eqLs_cn, Mi.eqLs_cc, Mi.itE_int, Mi.itE_str, Mi.itE_bl, Mi.itE_non, Mi.appT, Mi.asB, Mi.mMakeK, Mi.mDic, Option.bind_some, mo, h3]
      by_cases h5 : v % d = 0
      · refine .inr ⟨fun z => z.2 d h2 h3 h5, [.pl (.int v), .pl (.int d)], ?_⟩
        have e2 : lb_is_prime_1 [.pl (.int v), .pl (.int d)] = .ok (.rt (.pl (.bl false))) [.pl (.int v), .pl (.int d)] := by unfold lb_is_prime_1; simp only [Mi.runM, Mi.runI, Mi.runR, Mi.outF, Mi.outI, Mi.outR, Mi.startE, Mi.bnd, Mi.ret, Mi.lift, Mi.fail, Mi.mVar, Mi.mC, Mi.mBin, Mi.mBinN, Mi.mUn, Mi.mFld, Mi.mFrz, Mi.mB, Mi.tru, Mi.mAnd, Mi.mOr, Mi.mNot, Mi.mAndV, Mi.mOrV, Mi.mNotV, Mi.mIf, Mi.mChain, Mi.mNil, Mi.mCons, Mi.mTup, Mi.mLst, Mi.mCB, Mi.mCBn, Mi.mIdxV, Mi.mSkip, Mi.thenF, Mi.mSeq, Mi.sto, Mi.mAsg, Mi.mAsgN, Mi.two, Mi.mPar, Mi.mDrop, Mi.mRet, Mi.mRetN, Mi.mRetV, Mi.mIfS, Mi.againF, Mi.gV, Mi.gsN, Mi.gsC, Mi.gT, Mi.mAsgT, Mi.tgt, Mi.mCall, Mi.frzR, Mi.newR, Mi.mCallN, Mi.recv, Mi.mMeth, Mi.mMethN, Mi.mMake, Mi.callR, Mi.mCallR, Mi.newM, Mi.mCallRN, Mi.mApp, Mi.mRev, Mi.setAt, Mi.mSetV, Mi.mSetF, Mi.mAug, Mi.one, Mi.mRaise, Mi.mRaise0, Mi.mTry, Mi.noEx, Mi.endX, Mi.inX, Mi.mTryAs, Mi.mXf, Mi.dI, Mi.dIc, Mi.dAdd, Mi.dSub, Mi.dLt, Mi.dLe, Mi.dGt, Mi.dGe, Mi.dMul, Mi.dDiv, Mi.dMod, Mi.dPow, Mi.dNeg, Mi.sEq, Mi.ofB, Mi.dEq, Mi.dNe, Mi.isNon, Mi.dIsN, Mi.dNotN, Mi.dInt, Mi.dI1, Mi.dI2, Mi.dAbs, Mi.dMin, Mi.dMax, Mi.dGcd, Mi.dLen1, Mi.dLen, Mi.mLenV, Mi.mIsi, Mi.isub, Mi.D.tn, Mi.dIx, Mi.opC, Mi.negC, Mi.eqC, Mi.ipC, Mi.Rv.d, Mi.mNoP, Mi.asI, Mi.mPart, Mi.mSlL, Mi.asL, Mi.asQ, Mi.mItQ, Mi.mItA, Mi.mFor, Mi.putD, List.map_cons, List.map_nil, List.length_cons, List.length_nil, List.replicate, List.cons_append, List.nil_append, List.getElem?_cons_zero, List.getElem?_cons_succ, List.set_cons_zero, List.set_cons_succ, Nat.sub_self, Nat.reduceAdd, Nat.reduceSub, Nat.reduceEqDiff, List.reverse_cons, id, Bool.not_true, Bool.not_false, if_true, if_false, Bool.false_eq_true, reduceIte, true_and, and_true, and_self, Option.toList, List.all_cons, List.all_nil, Bool.and_true, Bool.true_and, Bool.and_self, decide_true, decide_false, decide_eq_true_eq, reduceCtorEq, Mi.bo_pl, Mi.bo_ow, Mi.bo_rf, Mi.bo_un, Mi.sa_ow, Mi.sa_rf, Mi.sa_pl, Mi.oa_un, Mi.oa_pl, Mi.oa_ow, Mi.co_ow, Mi.co_rf, Mi.co_pl, Mi.st_ow, Mi.st_rf, Mi.lv_ow, Mi.lv_rf, Mi.lv_pl, Mi.ne_un, Mi.ne_pl, Mi.ne_ow, Mi.ne_rf, Mi.ne_se, Mi.ne_ex, Mi.th_un, Mi.th_pl, Mi.ie_ex, Mi.xf_ex, ne_eq, not_false_eq_true, not_true_eq_false, Mi.clr, Mi.putS, Option.isSome_some, Option.some.injEq, Int.reduceEq, Int.reduceNe, Int.reduceLT, Int.reduceLE, Nat.reduceLT, Nat.reduceLeDiff, decide_not, Bool.not_eq_true, Bool.decide_eq_true, Mi.ib_t, Mi.ib_f, Mi.mkR_ex, Mi.bO_s, Mi.rO_f, Mi.rO_t, Mi.dEqA_eq, Mi.eqN_0, Mi.eqN_1, Mi.eqN_2, Mi.eqN_3, Mi.eqB_ins, Mi.eqB_tt, Mi.eqB_ll, Mi.eqB_int, Mi.eqB_str, Mi.eqB_bl, Mi.eqB_non, Mi.eqK_ii, Mi.eqK_ss, Mi.eqK_bb, Mi.eqK_nn, Mi.eqK_ni, Mi.eqK_in, Mi.eqK_ns, Mi.eqK_sn, Mi.eqK_is, Mi.eqK_si, Mi.eqK_nt, Mi.eqK_nl, Mi.eqB_tn, Mi.eqB_ln, Mi.eqLs_nil, Mi.eqLs_nc, Mi.eqLs_cn, Mi.eqLs_cc, Mi.itE_int, Mi.itE_str, Mi.itE_bl, Mi.itE_non, Mi.appT, Mi.asB, Mi.mMakeK, Mi.mDic, Option.bind_some, iMod_eq, fmod_pos (by omega : 0 < d), h5, hd0]
        simp only [Mi.runM, Mi.runI, Mi.runR, Mi.outF, Mi.outI, Mi.outR, Mi.startE, Mi.bnd, Mi.ret, Mi.lift, Mi.fail, Mi.mVar, Mi.mC, Mi.mBin, Mi.mBinN, Mi.mUn, Mi.mFld, Mi.mFrz, Mi.mB, Mi.tru, Mi.mAnd, Mi.mOr, Mi.mNot, Mi.mAndV, Mi.mOrV, Mi.mNotV, Mi.mIf, Mi.mChain, Mi.mNil, Mi.mCons, Mi.mTup, Mi.mLst, Mi.mCB, Mi.mCBn, Mi.mIdxV, Mi.mSkip, Mi.thenF, Mi.mSeq, Mi.sto, Mi.mAsg, Mi.mAsgN, Mi.two, Mi.mPar, Mi.mDrop, Mi.mRet, Mi.mRetN, Mi.mRetV, Mi.mIfS, Mi.againF, Mi.gV, Mi.gsN, Mi.gsC, Mi.gT, Mi.mAsgT, Mi.tgt, Mi.mCall, Mi.frzR, Mi.newR, Mi.mCallN, Mi.recv, Mi.mMeth, Mi.mMethN, Mi.mMake, Mi.callR, Mi.mCallR, Mi.newM, Mi.mCallRN, Mi.mApp, Mi.mRev, Mi.setAt, Mi.mSetV, Mi.mSetF, Mi.mAug, Mi.one, Mi.mRaise, Mi.mRaise0, Mi.mTry, Mi.noEx, Mi.endX, Mi.inX, Mi.mTryAs, Mi.mXf, Mi.dI, Mi.dIc, Mi.dAdd, Mi.dSub, Mi.dLt, Mi.dLe, Mi.dGt, Mi.dGe, Mi.dMul, Mi.dDiv, Mi.dMod, Mi.dPow, Mi.dNeg, Mi.sEq, Mi.ofB, Mi.dEq, Mi.dNe, Mi.isNon, Mi.dIsN, Mi.dNotN, Mi.dInt, Mi.dI1, Mi.dI2, Mi.dAbs, Mi.dMin, Mi.dMax, Mi.dGcd, Mi.dLen1, Mi.dLen, Mi.mLenV, Mi.mIsi, Mi.isub, Mi.D.tn, Mi.dIx, Mi.opC, Mi.negC, Mi.eqC, Mi.ipC, Mi.Rv.d, Mi.mNoP, Mi.asI, Mi.mPart, Mi.mSlL, Mi.asL, Mi.asQ, Mi.mItQ, Mi.mItA, Mi.mFor, Mi.putD, List.map_cons, List.map_nil, List.length_cons, List.length_nil, List.replicate, List.cons_append, List.nil_append, List.getElem?_cons_zero, List.getElem?_cons_succ, List.set_cons_zero, List.set_cons_succ, Nat.sub_self, Nat.reduceAdd, Nat.reduceSub, Nat.reduceEqDiff, List.reverse_cons, id, Bool.not_true, Bool.not_false, if_true, if_false, Bool.false_eq_true, reduceIte, true_and, and_true, and_self, Option.toList, List.all_cons, List.all_nil, Bool.and_true, Bool.true_and, Bool.and_self, decide_true, decide_false, decide_eq_true_eq, reduceCtorEq, Mi.bo_pl, Mi.bo_ow, Mi.bo_rf, Mi.bo_un, Mi.sa_ow, Mi.sa_rf, Mi.sa_pl, Mi.oa_un, Mi.oa_pl, Mi.oa_ow, Mi.co_ow, Mi.co_rf, Mi.co_pl, Mi.st_ow, Mi.st_rf, Mi.lv_ow, Mi.lv_rf, Mi.lv_pl, Mi.ne_un, Mi.ne_pl, Mi.ne_ow, Mi.ne_rf, Mi.ne_se, Mi.ne_ex, Mi.th_un, Mi.th_pl, Mi.ie_ex, Mi.xf_ex, ne_eq, not_false_eq_true, not_true_eq_false, Mi.clr, Mi.putS, Option.isSome_some, Option.some.injEq, Int.reduceEq, Int.reduceNe, Int.reduceLT, Int.reduceLE, Nat.reduceLT, Nat.reduceLeDiff, decide_not, Bool.not_eq_true, Bool.decide_eq_true, Mi.ib_t, Mi.ib_f, Mi.mkR_ex, Mi.bO_s, Mi.rO_f, Mi.rO_t, Mi.dEqA_eq, Mi.eqN_0, Mi.eqN_1, Mi.eqN_2, Mi.eqN_3, Mi.eqB_ins, Mi.eqB_tt, Mi.eqB_ll, Mi.eqB_int, Mi.eqB_str, Mi.eqB_bl, Mi.eqB_non, Mi.eqK_ii, Mi.eqK_ss, Mi.eqK_bb, Mi.eqK_nn, Mi.eqK_ni, Mi.eqK_in, Mi.eqK_ns, Mi.eqK_sn, Mi.eqK_is, Mi.eqK_si, Mi.eqK_nt, Mi.eqK_nl, Mi.eqB_tn, Mi.eqB_ln, Mi.eqLs_nil, Mi.eqLs_nc, Mi.eqLs_cn, Mi.eqLs_cc, Mi.itE_int, Mi.itE_str, Mi.itE_bl, Mi.itE_non, Mi.appT, Mi.asB, Mi.mMakeK, Mi.mDic, Option.bind_some, e1, e2]
      · have e2 : lb_is_prime_1 [.pl (.int v), .pl (.int d)] = .ok .nx [.pl (.int v), .pl (.int (d + 1))] := by unfold lb_is_prime_1; simp only [Mi.runM, Mi.runI, Mi.runR, Mi.outF, Mi.outI, Mi.outR, Mi.startE, Mi.bnd, Mi.ret, Mi.lift, Mi.fail, Mi.mVar, Mi.mC, Mi.mBin, Mi.mBinN, Mi.mUn, Mi.mFld, Mi.mFrz, Mi.mB, Mi.tru, Mi.mAnd, Mi.mOr, Mi.mNot, Mi.mAndV, Mi.mOrV, Mi.mNotV, Mi.mIf, Mi.mChain, Mi.mNil, Mi.mCons, Mi.mTup, Mi.mLst, Mi.mCB, Mi.mCBn, Mi.mIdxV, Mi.mSkip, Mi.thenF, Mi.mSeq, Mi.sto, Mi.mAsg, Mi.mAsgN, Mi.two, Mi.mPar, Mi.mDrop, Mi.mRet, Mi.mRetN, Mi.mRetV, Mi.mIfS, Mi.againF, Mi.gV, Mi.gsN, Mi.gsC, Mi.gT, Mi.mAsgT, Mi.tgt, Mi.mCall, Mi.frzR, Mi.newR, Mi.mCallN, Mi.recv, Mi.mMeth, Mi.mMethN, Mi.mMake, Mi.callR, Mi.mCallR, Mi.newM, Mi.mCallRN, Mi.mApp, Mi.mRev, Mi.setAt, Mi.mSetV, Mi.mSetF, Mi.mAug, Mi.one, Mi.mRaise, Mi.mRaise0, Mi.mTry, Mi.noEx, Mi.endX, Mi.inX, Mi.mTryAs, Mi.mXf, Mi.dI, Mi.dIc, Mi.dAdd, Mi.dSub, Mi.dLt, Mi.dLe, Mi.dGt, Mi.dGe, Mi.dMul, Mi.dDiv, Mi.dMod, Mi.dPow, Mi.dNeg, Mi.sEq, Mi.ofB, Mi.dEq, Mi.dNe, Mi.isNon, Mi.dIsN, Mi.dNotN, Mi.dInt, Mi.dI1, Mi.dI2, Mi.dAbs, Mi.dMin, Mi.dMax, Mi.dGcd, Mi.dLen1, Mi.dLen, Mi.mLenV, Mi.mIsi, Mi.isub, Mi.D.tn, Mi.dIx, Mi.opC, Mi.negC, Mi.eqC, Mi.ipC, Mi.Rv.d, Mi.mNoP, Mi.asI, Mi.mPart, Mi.mSlL, Mi.asL, Mi.asQ, Mi.mItQ, Mi.mItA, Mi.mFor, Mi.putD, List.map_cons, List.map_nil, List.length_cons, List.length_nil, List.replicate, List.cons_append, List.nil_append, List.getElem?_cons_zero, List.getElem?_cons_succ, List.set_cons_zero, List.set_cons_succ, Nat.sub_self, Nat.reduceAdd, Nat.reduceSub, Nat.reduceEqDiff, List.reverse_cons, id, Bool.not_true, Bool.not_false, if_true, if_false, Bool.false_eq_true, reduceIte, true_and, and_true, and_self, Option.toList, List.all_cons, List.all_nil, Bool.and_true, Bool.true_and, Bool.and_self, decide_true, decide_false, decide_eq_true_eq, reduceCtorEq, Mi.bo_pl, Mi.bo_ow, Mi.bo_rf, Mi.bo_un, Mi.sa_ow, Mi.sa_rf, Mi.sa_pl, Mi.oa_un, Mi.oa_pl, Mi.oa_ow, Mi.co_ow, Mi.co_rf, Mi.co_pl, Mi.st_ow, Mi.st_rf, Mi.lv_ow, Mi.lv_rf, Mi.lv_pl, Mi.ne_un, Mi.ne_pl, Mi.ne_ow, Mi.ne_rf, Mi.ne_se, Mi.ne_ex, Mi.th_un, Mi.th_pl, Mi.ie_ex, Mi.xf_ex, ne_eq, not_false_eq_true, not_true_eq_false, Mi.clr, Mi.putS, Option.isSome_some, Option.some.injEq, Int.reduceEq, Int.reduceNe, Int.reduceLT, Int.reduceLE, Nat.reduceLT, Nat.reduceLeDiff, decide_not, Bool.not_eq_true, Bool.decide_eq_true, Mi.ib_t, Mi.ib_f, Mi.mkR_ex, Mi.bO_s, Mi.rO_f, Mi.rO_t, Mi.dEqA_eq, Mi.eqN_0, Mi.eqN_1, Mi.eqN_2, Mi.eqN_3, Mi.eqB_ins, Mi.eqB_tt, Mi.eqB_ll, Mi.eqB_int, Mi.eqB_str, Mi.eqB_bl, Mi.eqB_non, Mi.eqK_ii, Mi.eqK_ss, Mi.eqK_bb, Mi.eqK_nn, Mi.eqK_ni, Mi.eqK_in, Mi.eqK_ns, Mi.eqK_sn, Mi.eqK_is, Mi.eqK_si, Mi.eqK_nt, Mi.eqK_nl, Mi.eqB_tn, Mi.eqB_ln, Mi.eqLs_nil, Mi.eqLs_nc, Mi.eqLs_cn, Mi.eqLs_cc, Mi.itE_int, Mi.itE_str, Mi.itE_bl, Mi.itE_non, Mi.appT, Mi.asB, Mi.mMakeK, Mi.mDic, Option.bind_some, iMod_eq, fmod_pos (by omega : 0 < d), h5, hd0]
        have ih := prime_loop hv n (d + 1) (by omega) (fun c c1 c2 c3 => by
          by_cases z : c = d
          · rw [z]; exact h5
          · exact hn c c1 (by omega) c3) (by omega) (by omega) h1
        simp only [Mi.runM, Mi.runI, Mi.runR, Mi.outF, Mi.outI, Mi.outR, Mi.startE, Mi.bnd, Mi.ret, Mi.lift, Mi.fail, Mi.mVar, Mi.mC, Mi.mBin, Mi.mBinN, Mi.mUn, Mi.mFld, Mi.mFrz, Mi.mB, Mi.tru, Mi.mAnd, Mi.mOr, Mi.mNot, Mi.mAndV, Mi.mOrV, Mi.mNotV, Mi.mIf, Mi.mChain, Mi.mNil, Mi.mCons, Mi.mTup, Mi.mLst, Mi.mCB, Mi.mCBn, Mi.mIdxV, Mi.mSkip, Mi.thenF, Mi.mSeq, Mi.sto, Mi.mAsg, Mi.mAsgN, Mi.two, Mi.mPar, Mi.mDrop, Mi.mRet, Mi.mRetN, Mi.mRetV, Mi.mIfS, Mi.againF, Mi.gV, Mi.gsN, Mi.gsC, Mi.gT, Mi.mAsgT, Mi.tgt, Mi.mCall, Mi.frzR, Mi.newR, Mi.mCallN, Mi.recv, Mi.mMeth, Mi.mMethN, Mi.mMake, Mi.callR, Mi.mCallR, Mi.newM, Mi.mCallRN, Mi.mApp, Mi.mRev, Mi.setAt, Mi.mSetV, Mi.mSetF, Mi.mAug, Mi.one, Mi.mRaise, Mi.mRaise0, Mi.mTry, Mi.noEx, Mi.endX, Mi.inX, Mi.mTryAs, Mi.mXf, Mi.dI, Mi.dIc, Mi.dAdd, Mi.dSub, Mi.dLt, Mi.dLe, Mi.dGt, Mi.dGe, Mi.dMul, Mi.dDiv, Mi.dMod, Mi.dPow, Mi.dNeg, Mi.sEq, Mi.ofB, Mi.dEq, Mi.dNe, Mi.isNon, Mi.dIsN, Mi.dNotN, Mi.dInt, Mi.dI1, Mi.dI2, Mi.dAbs, Mi.dMin, Mi.dMax, Mi.dGcd, Mi.dLen1, Mi.dLen, Mi.mLenV, Mi.mIsi, Mi.isub, Mi.D.tn, Mi.dIx, Mi.opC, Mi.negC, Mi.eqC, Mi.ipC, Mi.Rv.d, Mi.mNoP, Mi.asI, Mi.mPart, Mi.mSlL, Mi.asL, Mi.asQ, Mi.mItQ, Mi.mItA, Mi.mFor, Mi.putD, List.map_cons, List.map_nil, List.length_cons, List.length_nil, List.replicate, List.cons_append, List.nil_append, List.getElem?_cons_zero, List.getElem?_cons_succ, List.set_cons_zero, List.set_cons_succ, Nat.sub_self, Nat.reduceAdd, Nat.reduceSub, Nat.reduceEqDiff, List.reverse_cons, id, Bool.not_true, Bool.not_false, if_true, if_false, Bool.false_eq_true, reduceIte, true_and, and_true, and_self, Option.toList, List.all_cons, List.all_nil, Bool.and_true, Bool.true_and, Bool.and_self, decide_true, decide_false, decide_eq_true_eq, reduceCtorEq, Mi.bo_pl, Mi.bo_ow, Mi.bo_rf, Mi.bo_un, Mi.sa_ow, Mi.sa_rf, Mi.sa_pl, Mi.oa_un, Mi.oa_pl, Mi.oa_ow, Mi.co_ow, Mi.co_rf, Mi.co_pl, Mi.st_ow, Mi.st_rf, Mi.lv_ow, Mi.lv_rf, Mi.lv_pl, Mi.ne_un, Mi.ne_pl, Mi.ne_ow, Mi.ne_rf, Mi.ne_se, Mi.ne_ex, Mi.th_un, Mi.th_pl, Mi.ie_ex, Mi.xf_ex, ne_eq, not_false_eq_true, not_true_eq_false, Mi.clr, Mi.putS, Option.isSome_some, Option.some.injEq, Int.reduceEq, Int.reduceNe, Int.reduceLT, Int.reduceLE, Nat.reduceLT, Nat.reduceLeDiff, decide_not, Bool.not_eq_true, Bool.decide_eq_true, Mi.ib_t, Mi.ib_f, Mi.mkR_ex, Mi.bO_s, Mi.rO_f, Mi.rO_t, Mi.dEqA_eq, Mi.eqN_0, Mi.eqN_1, Mi.eqN_2, Mi.eqN_3, Mi.eqB_ins, Mi.eqB_tt, Mi.eqB_ll, Mi.eqB_int, Mi.eqB_str, Mi.eqB_bl, Mi.eqB_non, Mi.eqK_ii, Mi.eqK_ss, Mi.eqK_bb, Mi.eqK_nn, Mi.eqK_ni, Mi.eqK_in, Mi.eqK_ns, Mi.eqK_sn, Mi.eqK_is, Mi.eqK_si, Mi.eqK_nt, Mi.eqK_nl, Mi.eqB_tn, Mi.eqB_ln, Mi.eqLs_nil, Mi.eqLs_nc, Mi.eqLs_cn, Mi.eqLs_cc, Mi.itE_int, Mi.itE_str, Mi.itE_bl, Mi.itE_non, Mi.appT, Mi.asB, Mi.mMakeK, Mi.mDic, Option.bind_some, e1, e2]
        exact ih
    · have hp : Prm v := ⟨h1, fun c c1 c3 => by
        rcases Int.lt_or_le c d with z | z
        · exact hn c c1 z c3
        · have := Int.mul_le_mul z z (by omega) (by omega)
          omega⟩
      refine .inl ⟨hp, d, ?_⟩
      have mo : mulOk d d = true := mulOk_l (by omega) (by omega)
      have e1 : lc_is_prime_0 [.pl (.int v), .pl (.int d)] = .ok false [.pl (.int v), .pl (.int d)] := by unfold lc_is_prime_0; simp only [Mi.runM, Mi.runI, Mi.runR, Mi.outF, Mi.outI, Mi.outR, Mi.startE, Mi.bnd, Mi.ret, Mi.lift, Mi.fail, Mi.mVar, Mi.mC, Mi.mBin, Mi.mBinN, Mi.mUn, Mi.mFld, Mi.mFrz, Mi.mB, Mi.tru, Mi.mAnd, Mi.mOr, Mi.mNot, Mi.mAndV, Mi.mOrV, Mi.mNotV, Mi.mIf, Mi.mChain, Mi.mNil, Mi.mCons, Mi.mTup, Mi.mLst, Mi.mCB, Mi.mCBn, Mi.mIdxV, Mi.mSkip, Mi.thenF, Mi.mSeq, Mi.sto, Mi.mAsg, Mi.mAsgN, Mi.two, Mi.mPar, Mi.mDrop, Mi.mRet, Mi.mRetN, Mi.mRetV, Mi.mIfS, Mi.againF, Mi.gV, Mi.gsN, Mi.gsC, Mi.gT, Mi.mAsgT, Mi.tgt, Mi.mCall, Mi.frzR, Mi.newR, Mi.mCallN, Mi.recv, Mi.mMeth, Mi.mMethN, Mi.mMake, Mi.callR, Mi.mCallR, Mi.newM, Mi.mCallRN, Mi.mApp, Mi.mRev, Mi.setAt, Mi.mSetV, Mi.mSetF, Mi.mAug, Mi.one, Mi.mRaise, Mi.mRaise0, Mi.mTry, Mi.noEx, Mi.endX, Mi.inX, Mi.mTryAs, Mi.mXf, Mi.dI, Mi.dIc, Mi.dAdd, Mi.dSub, Mi.dLt, Mi.dLe, Mi.dGt, Mi.dGe, Mi.dMul, Mi.dDiv, Mi.dMod, Mi.dPow, Mi.dNeg, Mi.sEq, Mi.ofB, Mi.dEq, Mi.dNe, Mi.isNon, Mi.dIsN, Mi.dNotN, Mi.dInt, Mi.dI1, Mi.dI2, Mi.dAbs, Mi.dMin, Mi.dMax, Mi.dGcd, Mi.dLen1, Mi.dLen, Mi.mLenV, Mi.mIsi, Mi.isub, Mi.D.tn, Mi.dIx, Mi.opC, Mi.negC, Mi.eqC, Mi.ipC, Mi.Rv.d, Mi.mNoP, Mi.asI, Mi.mPart, Mi.mSlL, Mi.asL, Mi.asQ, Mi.mItQ, Mi.mItA, Mi.mFor, Mi.putD, List.map_cons, List.map_nil, List.length_cons, List.length_nil, List.replicate, List.cons_append, List.nil_append, List.getElem?_cons_zero, List.getElem?_cons_succ, List.set_cons_zero, List.set_cons_succ, Nat.sub_self, Nat.reduceAdd, Nat.reduceSub, Nat.reduceEqDiff, List.reverse_cons, id, Bool.not_true, Bool.not_false, if_true, if_false, Bool.false_eq_true, reduceIte, true_and, and_true, and_self, Option.toList, List.all_cons, List.all_nil, Bool.and_true, Bool.true_and, Bool.and_self, decide_true, decide_false, decide_eq_true_eq, reduceCtorEq, Mi.bo_pl, Mi.bo_ow, Mi.bo_rf, Mi.bo_un, Mi.sa_ow, Mi.sa_rf, Mi.sa_pl, Mi.oa_un, Mi.oa_pl, Mi.oa_ow, Mi.co_ow, Mi.co_rf, Mi.co_pl, Mi.st_ow, Mi.st_rf, Mi.lv_ow, Mi.lv_rf, Mi.lv_pl, Mi.ne_un, Mi.ne_pl, Mi.ne_ow, Mi.ne_rf, Mi.ne_se, Mi.ne_ex, Mi.th_un, Mi.th_pl, Mi.ie_ex, Mi.xf_ex, ne_eq, not_false_eq_true, not_true_eq_false, Mi.clr, Mi.putS, Option.isSome_some, Option.some.injEq, Int.reduceEq, Int.reduceNe, Int.reduceLT, Int.reduceLE, Nat.reduceLT, Nat.reduceLeDiff, decide_not, Bool.not_eq_true, Bool.decide_eq_true, Mi.ib_t, Mi.ib_f, Mi.mkR_ex, Mi.bO_s, Mi.rO_f, Mi.rO_t, Mi.dEqA_eq, Mi.eqN_0, Mi.eqN_1, Mi.eqN_2, Mi.eqN_3, Mi.eqB_ins, Mi.eqB_tt, Mi.eqB_ll, Mi.eqB_int, Mi.eqB_str, Mi.eqB_bl, Mi.eqB_non, Mi.eqK_ii, Mi.eqK_ss, Mi.eqK_bb, Mi.eqK_nn, Mi.eqK_ni, Mi.eqK_in, Mi.eqK_ns, Mi.eqK_sn, Mi.eqK_is, Mi.eqK_si, Mi.eqK_nt, Mi.eqK_nl, Mi.eqB_tn, Mi.eqB_ln, Mi.eqLs_nil, Mi.eqLs_nc, Mi.eqLs_cn, Mi.eqLs_cc, Mi.itE_int, Mi.itE_str, Mi.itE_bl, Mi.itE_non, Mi.appT, Mi.asB, Mi.mMakeK, Mi.mDic, Option.bind_some, mo, h3]
      simp only [Mi.runM, Mi.runI, Mi.runR, Mi.outF, Mi.outI, Mi.outR, Mi.startE, Mi.bnd, Mi.ret, Mi.lift, Mi.fail, Mi.mVar, Mi.mC, Mi.mBin, Mi.mBinN, Mi.mUn, Mi.mFld, Mi.mFrz, Mi.mB, Mi.tru, Mi.mAnd, Mi.mOr, Mi.mNot, Mi.mAndV, Mi.mOrV, Mi.mNotV, Mi.mIf, Mi.mChain, Mi.mNil, Mi.mCons, Mi.mTup, Mi.mLst, Mi.mCB, Mi.mCBn, Mi.mIdxV, Mi.mSkip, Mi.thenF, Mi.mSeq, Mi.sto, Mi.mAsg, Mi.mAsgN, Mi.two, Mi.mPar, Mi.mDrop, Mi.mRet, Mi.mRetN, Mi.mRetV, Mi.mIfS, Mi.againF, Mi.gV, Mi.gsN, Mi.gsC, Mi.gT, Mi.mAsgT, Mi.tgt, Mi.mCall, Mi.frzR, Mi.newR, Mi.mCallN, Mi.recv, Mi.mMeth, Mi.mMethN, Mi.mMake, Mi.callR, Mi.mCallR, Mi.newM, Mi.mCallRN, Mi.mApp, Mi.mRev, Mi.setAt, Mi.mSetV, Mi.mSetF, Mi.mAug, Mi.one, Mi.mRaise, Mi.mRaise0, Mi.mTry, Mi.noEx, Mi.endX, Mi.inX, Mi.mTryAs, Mi.mXf, Mi.dI, Mi.dIc, Mi.dAdd, Mi.dSub, Mi.dLt, Mi.dLe, Mi.dGt, Mi.dGe, Mi.dMul, Mi.dDiv, Mi.dMod, Mi.dPow, Mi.dNeg, Mi.sEq, Mi.ofB, Mi.dEq, Mi.dNe, Mi.isNon, Mi.dIsN, Mi.dNotN, Mi.dInt, Mi.dI1, Mi.dI2, Mi.dAbs, Mi.dMin, Mi.dMax, Mi.dGcd, Mi.dLen1, Mi.dLen, Mi.mLenV, Mi.mIsi, Mi.isub, Mi.D.tn, Mi.dIx, Mi.opC, Mi.negC, Mi.eqC, Mi.ipC, Mi.Rv.d, Mi.mNoP, Mi.asI, Mi.mPart, Mi.mSlL, Mi.asL, Mi.asQ, Mi.mItQ, Mi.mItA, Mi.mFor, Mi.putD, List.map_cons, List.map_nil, List.length_cons, List.length_nil, List.replicate, List.cons_append, List.nil_append, List.getElem?_cons_zero, List.getElem?_cons_succ, List.set_cons_zero, List.set_cons_succ, Nat.sub_self, Nat.reduceAdd, Nat.reduceSub, Nat.reduceEqDiff, List.reverse_cons, id, Bool.not_true, Bool.not_false, if_true, if_false, Bool.false_eq_true, reduceIte, true_and, and_true, and_self, Option.toList, List.all_cons, List.all_nil, Bool.and_true, Bool.true_and, Bool.and_self, decide_true, decide_false, decide_eq_true_eq, reduceCtorEq, Mi.bo_pl, Mi.bo_ow, Mi.bo_rf, Mi.bo_un, Mi.sa_ow, Mi.sa_rf, Mi.sa_pl, Mi.oa_un, Mi.oa_pl, Mi.oa_ow, Mi.co_ow, Mi.co_rf, Mi.co_pl, Mi.st_ow, Mi.st_rf, Mi.lv_ow, Mi.lv_rf, Mi.lv_pl, Mi.ne_un, Mi.ne_pl, Mi.ne_ow, Mi.ne_rf, Mi.ne_se, Mi.ne_ex, Mi.th_un, Mi.th_pl, Mi.ie_ex, Mi.xf_ex, ne_eq, not_false_eq_true, not_true_eq_false, Mi.clr, Mi.putS, Option.isSome_some, Option.some.injEq, Int.reduceEq, Int.reduceNe, Int.reduceLT, Int.reduceLE, Nat.reduceLT, Nat.reduceLeDiff, decide_not, Bool.not_eq_true, Bool.decide_eq_true, Mi.ib_t, Mi.ib_f, Mi.mkR_ex, Mi.bO_s, Mi.rO_f, Mi.rO_t, Mi.dEqA_eq, Mi.eqN_0, Mi.eqN_1, Mi.eqN_2, Mi.eqN_3, Mi.eqB_ins, Mi.eqB_tt, Mi.eqB_ll, Mi.eqB_int, Mi.eqB_str, Mi.eqB_bl, Mi.eqB_non, Mi.eqK_ii, Mi.eqK_ss, Mi.eqK_bb, Mi.eqK_nn, Mi.eqK_ni, Mi.eqK_in, Mi.eqK_ns, Mi.eqK_sn, Mi.eqK_is, Mi.eqK_si, Mi.eqK_nt, Mi.eqK_nl, Mi.eqB_tn, Mi.eqB_ln, Mi.eqLs_nil, Mi.eqLs_nc, Mi.eqLs_cn, Mi.eqLs_cc, Mi.itE_int, Mi.itE_str, Mi.itE_bl, Mi.itE_non, Mi.appT, Mi.asB, Mi.mMakeK, Mi.mDic, Option.bind_some, e1]
theorem e_is_prime {v : Int} (hv : v < 10000) : m_is_prime [.int v] = .ok (.pl (.bl (isP v))) := by
  unfold m_is_prime b_is_prime
  by_cases h2 : v < 2
  · simp only [Mi.runM, Mi.runI, Mi.runR, Mi.outF, Mi.outI, Mi.outR, Mi.startE, Mi.bnd, Mi.ret, Mi.lift, Mi.fail, Mi.mVar, Mi.mC, Mi.mBin, Mi.mBinN, Mi.mUn, Mi.mFld, Mi.mFrz, Mi.mB, Mi.tru, Mi.mAnd, Mi.mOr, Mi.mNot, Mi.mAndV, Mi.mOrV, Mi.mNotV, Mi.mIf, Mi.mChain, Mi.mNil, Mi.mCons, Mi.mTup, Mi.mLst, Mi.mCB, Mi.mCBn, Mi.mIdxV, Mi.mSkip, Mi.thenF, Mi.mSeq, Mi.sto, Mi.mAsg, Mi.mAsgN, Mi.two, Mi.mPar, Mi.mDrop, Mi.mRet, Mi.mRetN, Mi.mRetV, Mi.mIfS, Mi.againF, Mi.gV, Mi.gsN, Mi.gsC, Mi.gT, Mi.mAsgT, Mi.tgt, Mi.mCall, Mi.frzR, Mi.newR, Mi.mCallN, Mi.recv, Mi.mMeth, Mi.mMethN, Mi.mMake, Mi.callR, Mi.mCallR, Mi.newM, Mi.mCallRN, Mi.mApp, Mi.mRev, Mi.setAt, Mi.mSetV, Mi.mSetF, Mi.mAug, Mi.one, Mi.mRaise, Mi.mRaise0, Mi.mTry, Mi.noEx, Mi.endX, Mi.inX, Mi.mTryAs, Mi.mXf, Mi.dI, Mi.dIc, Mi.dAdd, Mi.dSub, Mi.dLt, Mi.dLe, Mi.dGt, Mi.dGe, Mi.dMul, Mi.dDiv, Mi.dMod, Mi.dPow, Mi.dNeg, Mi.sEq, Mi.ofB, Mi.dEq, Mi.dNe, Mi.isNon, Mi.dIsN, Mi.dNotN, Mi.dInt, Mi.dI1, Mi.dI2, Mi.dAbs, Mi.dMin, Mi.dMax, Mi.dGcd, Mi.dLen1, Mi.dLen, Mi.mLenV, Mi.mIsi, Mi.isub, Mi.D.tn, Mi.dIx, Mi.opC, Mi.negC, Mi.eqC, Mi.ipC, Mi.Rv.d, Mi.mNoP, Mi.asI, Mi.mPart, Mi.mSlL, Mi.asL, Mi.asQ, Mi.mItQ, Mi.mItA, Mi.mFor, Mi.putD, List.map_cons, List.map_nil, List.length_cons, List.length_nil, List.replicate, List.cons_append, List.nil_append, List.getElem?_cons_zero, List.getElem?_cons_succ, List.set_cons_zero, List.set_cons_succ, Nat.sub_self, Nat.reduceAdd, Nat.reduceSub, Nat.reduceEqDiff, List.reverse_cons, id, Bool.not_true, Bool.not_false, if_true, if_false, Bool.false_eq_true, reduceIte, true_and, and_true, and_self, Option.toList, List.all_cons, List.all_nil, Bool.and_true, Bool.true_and, Bool.and_self, decide_true, decide_false, decide_eq_true_eq, reduceCtorEq, Mi.bo_pl, Mi.bo_ow, Mi.bo_rf, Mi.bo_un, Mi.sa_ow, Mi.sa_rf, Mi.sa_pl, Mi.oa_un, Mi.oa_pl, Mi.oa_ow, Mi.co_ow, Mi.co_rf, Mi.co_pl, Mi.st_ow, Mi.st_rf, Mi.lv_ow, Mi.lv_rf, Mi.lv_pl, Mi.ne_un, Mi.ne_pl, Mi.ne_ow, Mi.ne_rf, Mi.ne_se, Mi.ne_ex, Mi.th_un, Mi.th_pl, Mi.ie_ex, Mi.xf_ex, ne_eq, not_false_eq_true, not_true_eq_false, Mi.clr, Mi.putS, Option.isSome_some, Option.some.injEq, Int.reduceEq, Int.reduceNe, Int.reduceLT, Int.reduceLE, Nat.reduceLT, Nat.reduceLeDiff, decide_not, Bool.not_eq_true, Bool.decide_eq_true, Mi.ib_t, Mi.ib_f, Mi.mkR_ex, Mi.bO_s, Mi.rO_f, Mi.rO_t, Mi.dEqA_eq, Mi.eqN_0, Mi.eqN_1, Mi.eqN_2, Mi.eqN_3, Mi.eqB_ins, Mi.eqB_tt, Mi.eqB_ll, Mi.eqB_int, Mi.eqB_str, Mi.eqB_bl, Mi.eqB_non, Mi.eqK_ii, Mi.eqK_ss, Mi.eqK_bb, Mi.eqK_nn, Mi.eqK_ni, Mi.eqK_in, Mi.eqK_ns, Mi.eqK_sn, Mi.eqK_is, Mi.eqK_si, Mi.eqK_nt, Mi.eqK_nl, Mi.eqB_tn, Mi.eqB_ln, Mi.eqLs_nil, Mi.eqLs_nc, Mi.eqLs_cn, Mi.eqLs_cc, Mi.itE_int, Mi.itE_str, Mi.itE_bl, Mi.itE_non, Mi.appT, Mi.asB, Mi.mMakeK, Mi.mDic, Option.bind_some, h2, isP_f (not_prm_lt h2)]
  · rcases prime_loop hv (v + 1).toNat 2 (by decide) (fun c c1 c2 => by omega) (by omega) (by omega) (by omega) with ⟨hp, d', e⟩ | ⟨hp, ρ, e⟩
    · have w : mWhile lc_is_prime_0 lb_is_prime_1 [.pl (.int v), .pl (.int 2)] = .ok .nx [.pl (.int v), .pl (.int d')] := by rw [mWhile_eq (n := (v + 1).toNat) (by rw [e]; rfl), e]
      simp only [Mi.runM, Mi.runI, Mi.runR, Mi.outF, Mi.outI, Mi.outR, Mi.startE, Mi.bnd, Mi.ret, Mi.lift, Mi.fail, Mi.mVar, Mi.mC, Mi.mBin, Mi.mBinN, Mi.mUn, Mi.mFld, Mi.mFrz, Mi.mB, Mi.tru, Mi.mAnd, Mi.mOr, Mi.mNot, Mi.mAndV, Mi.mOrV, Mi.mNotV, Mi.mIf, Mi.mChain, Mi.mNil, Mi.mCons, Mi.mTup, Mi.mLst, Mi.mCB, Mi.mCBn, Mi.mIdxV, Mi.mSkip, Mi.thenF, Mi.mSeq, Mi.sto, Mi.mAsg, Mi.mAsgN, Mi.two, Mi.mPar, Mi.mDrop, Mi.mRet, Mi.mRetN, Mi.mRetV, Mi.mIfS, Mi.againF, Mi.gV, Mi.gsN, Mi.gsC, Mi.gT, Mi.mAsgT, Mi.tgt, Mi.mCall, Mi.frzR, Mi.newR, Mi.mCallN, Mi.recv, Mi.mMeth, Mi.mMethN, Mi.mMake, Mi.callR, Mi.mCallR, Mi.newM, Mi.mCallRN, Mi.mApp, Mi.mRev, Mi.setAt, Mi.mSetV, Mi.mSetF, Mi.mAug, Mi.one, Mi.mRaise, Mi.mRaise0, Mi.mTry, Mi.noEx, Mi.endX, Mi.inX, Mi.mTryAs, Mi.mXf, Mi.dI, Mi.dIc, Mi.dAdd, Mi.dSub, Mi.dLt, Mi.dLe, Mi.dGt, Mi.dGe, Mi.dMul, Mi.dDiv, Mi.dMod, Mi.dPow, Mi.dNeg, Mi.sEq, Mi.ofB, Mi.dEq, Mi.dNe, Mi.isNon, Mi.dIsN, Mi.dNotN, Mi.dInt, Mi.dI1, Mi.dI2, Mi.dAbs, Mi.dMin, Mi.dMax, Mi.dGcd, Mi.dLen1, Mi.dLen, Mi.mLenV, Mi.mIsi, Mi.isub, Mi.D.tn, Mi.dIx, Mi.opC, Mi.negC, Mi.eqC, Mi.ipC, Mi.Rv.d, Mi.mNoP, Mi.asI, Mi.mPart, Mi.mSlL, Mi.asL, Mi.asQ, Mi.mItQ, Mi.mItA, Mi.mFor, Mi.putD, List.map_cons, List.map_nil, List.length_cons, List.length_nil, List.replicate, List.cons_append, List.nil_append, List.getElem?_cons_zero, List.getElem?_cons_succ, List.set_cons_zero, List.set_cons_succ, Nat.sub_self, Nat.reduceAdd, Nat.reduceSub, Nat.reduceEqDiff, List.reverse_cons, id, Bool.not_true, Bool.not_false, if_true, if_false, Bool.false_eq_true, reduceIte, true_and, and_true, and_self, Option.toList, List.all_cons, List.all_nil, Bool.and_true, Bool.true_and, Bool.and_self, decide_true, decide_false, decide_eq_true_eq, reduceCtorEq, Mi.bo_pl, Mi.bo_ow, Mi.bo_rf, Mi.bo_un, Mi.sa_ow, Mi.sa_rf, Mi.sa_pl, Mi.oa_un, Mi.oa_pl, Mi.oa_ow, Mi.co_ow, Mi.co_rf, Mi.co_pl, Mi.st_ow, Mi.st_rf, Mi.lv_ow, Mi.lv_rf, Mi.lv_pl, Mi.ne_un, Mi.ne_pl, Mi.ne_ow, Mi.ne_rf, Mi.ne_se, Mi.ne_ex, Mi.th_un, Mi.th_pl, Mi.ie_ex, Mi.xf_ex, ne_eq, not_false_eq_true, not_true_eq_false, Mi.clr, Mi.putS, Option.isSome_some, Option.some.injEq, Int.reduceEq, Int.reduceNe, Int.reduceLT, Int.reduceLE, Nat.reduceLT, Nat.reduceLeDiff, decide_not, Bool.not_eq_true, Bool.decide_eq_true, Mi.ib_t, Mi.ib_f, Mi.mkR_ex, Mi.bO_s, Mi.rO_f, Mi.rO_t, Mi.dEqA_eq, Mi.eqN_0, Mi.eqN_1, Mi.eqN_2, Mi.eqN_3, Mi.eqB_ins, Mi.eqB_tt, Mi.eqB_ll, Mi.eqB_int, Mi.eqB_str, Mi.eqB_bl, Mi.eqB_non, Mi.eqK_ii, Mi.eqK_ss, Mi.eqK_bb, Mi.eqK_nn, Mi.eqK_ni, Mi.eqK_in, Mi.eqK_ns, Mi.eqK_sn, Mi.eqK_is, Mi.eqK_si, Mi.eqK_nt, Mi.eqK_nl, Mi.eqB_tn, Mi.eqB_ln, Mi.eqLs_nil, Mi.eqLs_nc, Mi.eqLs_cn, Mi.eqLs_cc, Mi.itE_int, Mi.itE_str, Mi.itE_bl, Mi.itE_non, Mi.appT, Mi.asB, Mi.mMakeK, Mi.mDic, Option.bind_some, h2, w, isP_t hp]
    · have w : mWhile lc_is_prime_0 lb_is_prime_1 [.pl (.int v), .pl (.int 2)] = .ok (.rt (.pl (.bl false))) ρ := by rw [mWhile_eq (n := (v + 1).toNat) (by rw [e]; rfl), e]
      simp only [Mi.runM, Mi.runI, Mi.runR, Mi.outF, Mi.outI, Mi.outR, Mi.startE, Mi.bnd, Mi.ret, Mi.lift, Mi.fail, Mi.mVar, Mi.mC, Mi.mBin, Mi.mBinN, Mi.mUn, Mi.mFld, Mi.mFrz, Mi.mB, Mi.tru, Mi.mAnd, Mi.mOr, Mi.mNot, Mi.mAndV, Mi.mOrV, Mi.mNotV, Mi.mIf, Mi.mChain, Mi.mNil, Mi.mCons, Mi.mTup, Mi.mLst, Mi.mCB, Mi.mCBn, Mi.mIdxV, Mi.mSkip, Mi.thenF, Mi.mSeq, Mi.sto, Mi.mAsg, Mi.mAsgN, Mi.two, Mi.mPar, Mi.mDrop, Mi.mRet, Mi.mRetN, Mi.mRetV, Mi.mIfS, Mi.againF, Mi.gV, Mi.gsN, Mi.gsC, Mi.gT, Mi.mAsgT, Mi.tgt, Mi.mCall, Mi.frzR, Mi.newR, Mi.mCallN, Mi.recv, Mi.mMeth, Mi.mMethN, Mi.mMake, Mi.callR, Mi.mCallR, Mi.newM, Mi.mCallRN, Mi.mApp, Mi.mRev, Mi.setAt, Mi.mSetV, Mi.mSetF, Mi.mAug, Mi.one, Mi.mRaise, Mi.mRaise0, Mi.mTry, Mi.noEx, Mi.endX, Mi.inX, Mi.mTryAs, Mi.mXf, Mi.dI, Mi.dIc, Mi.dAdd, Mi.dSub, Mi.dLt, Mi.dLe, Mi.dGt, Mi.dGe, Mi.dMul, Mi.dDiv, Mi.dMod, Mi.dPow, Mi.dNeg, Mi.sEq, Mi.ofB, Mi.dEq, Mi.dNe, Mi.isNon, Mi.dIsN, Mi.dNotN, Mi.dInt, Mi.dI1, Mi.dI2, Mi.dAbs, Mi.dMin, Mi.dMax, Mi.dGcd, Mi.dLen1, Mi.dLen, Mi.mLenV, Mi.mIsi, Mi.isub, Mi.D.tn, Mi.dIx, Mi.opC, Mi.negC, Mi.eqC, Mi.ipC, Mi.Rv.d, Mi.mNoP, Mi.asI, Mi.mPart, Mi.mSlL, Mi.asL, Mi.asQ, Mi.mItQ, Mi.mItA, Mi.mFor, Mi.putD, List.map_cons, List.map_nil, List.length_cons, List.length_nil, List.replicate, List.cons_append, List.nil_append, List.getElem?_cons_zero, List.getElem?_cons_succ, List.set_cons_zero, List.set_cons_succ, Nat.sub_self, Nat.reduceAdd, Nat.reduceSub, Nat.reduceEqDiff, List.reverse_cons, id, Bool.not_true, Bool.not_false, if_true, if_false, Bool.false_eq_true, reduceIte, true_and, and_true, and_self, Option.toList, List.all_cons, List.all_nil, Bool.and_true, Bool.true_and, Bool.and_self, decide_true, decide_false, decide_eq_true_eq, reduceCtorEq, Mi.bo_pl, Mi.bo_ow, Mi.bo_rf, Mi.bo_un, Mi.sa_ow, Mi.sa_rf, Mi.sa_pl, Mi.oa_un, Mi.oa_pl, Mi.oa_ow, Mi.co_ow, Mi.co_rf, Mi.co_pl, Mi.st_ow, Mi.st_rf, Mi.lv_ow, Mi.lv_rf, Mi.lv_pl, Mi.ne_un, Mi.ne_pl, Mi.ne_ow, Mi.ne_rf, Mi.ne_se, Mi.ne_ex, Mi.th_un, Mi.th_pl, Mi.ie_ex, Mi.xf_ex, ne_eq, not_false_eq_true, not_true_eq_false, Mi.clr, Mi.putS, Option.isSome_some, Option.some.injEq, Int.reduceEq, Int.reduceNe, Int.reduceLT, Int.reduceLE, Nat.reduceLT, Nat.reduceLeDiff, decide_not, Bool.not_eq_true, Bool.decide_eq_true, Mi.ib_t, Mi.ib_f, Mi.mkR_ex, Mi.bO_s, Mi.rO_f, Mi.rO_t, Mi.dEqA_eq, Mi.eqN_0, Mi.eqN_1, Mi.eqN_2, Mi.eqN_3, Mi.eqB_ins, Mi.eqB_tt, Mi.eqB_ll, Mi.eqB_int, Mi.eqB_str, Mi.eqB_bl, Mi.eqB_non, Mi.eqK_ii, Mi.eqK_ss, Mi.eqK_bb, Mi.eqK_nn, Mi.eqK_ni, Mi.eqK_in, Mi.eqK_ns, Mi.eqK_sn, Mi.eqK_is, Mi.eqK_si, Mi.eqK_nt, Mi.eqK_nl, Mi.eqB_tn, Mi.eqB_ln, Mi.eqLs_nil, Mi.eqLs_nc, Mi.eqLs_cn, Mi.eqLs_cc, Mi.itE_int, Mi.itE_str, Mi.itE_bl, Mi.itE_non, Mi.appT, Mi.asB, Mi.mMakeK, Mi.mDic, Option.bind_some, h2, w, isP_f hp]
theorem inv_loop {v p : Int} (hp : 0 < p) (hp2 : p < 2 ^ 32) : ∀ (n : Nat) (b r o f : Int) (u : Sl), okAsg (some u) = true → r.toNat < n → 0 < r → r < b → b ≤ p → Int.gcd b r = 1 → p ∣ f * v - r → p ∣ o * v - b →
    ∃ (b' o' f' : Int) (u' : Sl), p ∣ f' * v - 1 ∧ wloop lc_inverse_0 lb_inverse_1 n [.pl (.int v), .pl (.int p), .pl (.int b), .pl (.int r), .pl (.int o), .pl (.int f), u] = .ok .nx [.pl (.int v), .pl (.int p), .pl (.int b'), .pl (.int 1), .pl (.int o'), .pl (.int f'), u']
  | 0, b, r, o, f, u, _, h, _, _, _, _, _, _ => by omega
  | n + 1, b, r, o, f, u, hu, hn, h0, hrb, hbp, hg, hf, ho => by
    rw [wloop.eq_2]
    by_cases h1 : 1 < r
    · have hr0 : ¬ r = 0 := by omega
      have e1 : lc_inverse_0 [.pl (.int v), .pl (.int p), .pl (.int b), .pl (.int r), .pl (.int o), .pl (.int f), u] = .ok true [.pl (.int v), .pl (.int p), .pl (.int b), .pl (.int r), .pl (.int o), .pl (.int f), u] := by unfold lc_inverse_0; simp only [Mi.runM, Mi.runI, Mi.runR, Mi.outF, Mi.outI, Mi.outR, Mi.startE, Mi.bnd, Mi.ret, Mi.lift, Mi.fail, Mi.mVar, Mi.mC, Mi.mBin, Mi.mBinN, Mi.mUn, Mi.mFld, Mi.mFrz, Mi.mB, Mi.tru, Mi.mAnd, Mi.mOr, Mi.mNot, Mi.mAndV, Mi.mOrV, Mi.mNotV, Mi.mIf, Mi.mChain, Mi.mNil, Mi.mCons, Mi.mTup, Mi.mLst, Mi.mCB, Mi.mCBn, Mi.mIdxV, Mi.mSkip, Mi.thenF, Mi.mSeq, Mi.sto, Mi.mAsg, Mi.mAsgN, Mi.two, Mi.mPar, Mi.mDrop, Mi.mRet, Mi.mRetN, Mi.mRetV, Mi.mIfS, Mi.againF, Mi.gV, Mi.gsN, Mi.gsC, Mi.gT, Mi.mAsgT, Mi.tgt, Mi.mCall, Mi.frzR, Mi.newR, Mi.mCallN, Mi.recv, Mi.mMeth, Mi.mMethN, Mi.mMake, Mi.callR, Mi.mCallR, Mi.newM, Mi.mCallRN, Mi.mApp, Mi.mRev, Mi.setAt, Mi.mSetV, Mi.mSetF, Mi.mAug, Mi.one, Mi.mRaise, Mi.mRaise0, Mi.mTry, Mi.noEx, Mi.endX, Mi.inX, Mi.mTryAs, Mi.mXf, Mi.dI, Mi.dIc, Mi.dAdd, Mi.dSub, Mi.dLt, Mi.dLe, Mi.dGt, Mi.dGe, Mi.dMul, Mi.dDiv, Mi.dMod, Mi.dPow, Mi.dNeg, Mi.sEq, Mi.ofB, Mi.dEq, Mi.dNe, Mi.isNon, Mi.dIsN, Mi.dNotN, Mi.dInt, Mi.dI1, Mi.dI2, Mi.dAbs, Mi.dMin, Mi.dMax, Mi.dGcd, Mi.dLen1, Mi.dLen, Mi.mLenV, Mi.mIsi, Mi.isub, Mi.D.tn, Mi.dIx, Mi.opC, Mi.negC, Mi.eqC, Mi.ipC, Mi.Rv.d, Mi.mNoP, Mi.asI, Mi.mPart, Mi.mSlL, Mi.asL, Mi.asQ, Mi.mItQ, Mi.mItA, Mi.mFor, Mi.putD, List.map_cons, List.map_nil, List.length_cons, List.length_nil, List.replicate, List.cons_append, List.nil_append, List.getElem?_cons_zero, List.getElem?_cons_succ, List.set_cons_zero, List.set_cons_succ, Nat.sub_self, Nat.reduceAdd, Nat.reduceSub, Nat.reduceEqDiff, List.reverse_cons, id, Bool.not_true, Bool.not_false, if_true, if_false, Bool.false_eq_true, reduceIte, true_and, and_true, and_self, Option.toList, List.all_cons, List.all_nil, Bool.and_true, Bool.true_and, Bool.and_self, decide_true, decide_false, decide_eq_true_eq, reduceCtorEq, Mi.bo_pl, Mi.bo_ow, Mi.bo_rf, Mi.bo_un, Mi.sa_ow, Mi.sa_rf, Mi.sa_pl, Mi.oa_un, Mi.oa_pl, Mi.oa_ow, Mi.co_ow, Mi.co_rf, Mi.co_pl, Mi.st_ow, Mi.st_rf, Mi.lv_ow, Mi.lv_rf, Mi.lv_pl, Mi.ne_un, Mi.ne_pl, Mi.ne_ow, Mi.ne_rf, Mi.ne_se, Mi.ne_ex, Mi.th_un, Mi.th_pl, Mi.ie_ex, Mi.xf_ex, ne_eq, not_false_eq_true, not_true_eq_false, Mi.clr, Mi.putS, Option.isSome_some, Option.some.injEq, Int.reduceEq, Int.reduceNe, Int.reduceLT, Int.reduceLE, Nat.reduceLT, Nat.reduceLeDiff, decide_not, Bool.not_eq_true, Bool.decide_eq_true, Mi.ib_t, Mi.ib_f, Mi.mkR_ex, Mi.bO_s, Mi.rO_f, Mi.rO_t, Mi.dEqA_eq, Mi.eqN_0, Mi.eqN_1, Mi.eqN_2, Mi.eqN_3, Mi.eqB_ins, Mi.eqB_tt, Mi.eqB_ll, Mi.eqB_int, Mi.eqB_str, Mi.eqB_bl, Mi.eqB_non, Mi.eqK_ii, Mi.eqK_ss, Mi.eqK_bb, Mi.eqK_nn, Mi.eqK_ni, Mi.eqK_in, Mi.eqK_ns, Mi.eqK_sn, Mi.eqK_is, Mi.eqK_si, Mi.eqK_nt, Mi.eqK_nl, Mi.eqB_tn, Mi.eqB_ln, Mi.eqLs_nil, Mi.eqLs_nc, Mi.eqLs_cn, Mi.eqLs_cc, Mi.itE_int, Mi.itE_str, Mi.itE_bl, Mi.itE_non, Mi.appT, Mi.asB, Mi.mMakeK, Mi.mDic, Option.bind_some, h1]
      have q0 : 0 ≤ b / r := Int.ediv_nonneg (by omega) (by omega)
      have q1 : b / r ≤ b := Int.ediv_le_self _ (by omega)
      have mo : ∀ x, mulOk (b / r) x = true := fun x => mulOk_l (by omega) (by omega)
      have er : b - b / r * r = b % r := by rw [Int.emod_def, Int.mul_comm]
      have e2 : lb_inverse_1 [.pl (.int v), .pl (.int p), .pl (.int b), .pl (.int r), .pl (.int o), .pl (.int f), u] = .ok .nx [.pl (.int v), .pl (.int p), .pl (.int r), .pl (.int (b % r)), .pl (.int f), .pl (.int (o - b / r * f)), .pl (.int (b / r))] := by
        unfold lb_inverse_1; simp only [Mi.runM, Mi.runI, Mi.runR, Mi.outF, Mi.outI, Mi.outR, Mi.startE, Mi.bnd, Mi.ret, Mi.lift, Mi.fail, Mi.mVar, Mi.mC, Mi.mBin, Mi.mBinN, Mi.mUn, Mi.mFld, Mi.mFrz, Mi.mB, Mi.tru, Mi.mAnd, Mi.mOr, Mi.mNot, Mi.mAndV, Mi.mOrV, Mi.mNotV, Mi.mIf, Mi.mChain, Mi.mNil, Mi.mCons, Mi.mTup, Mi.mLst, Mi.mCB, Mi.mCBn, Mi.mIdxV, Mi.mSkip, Mi.thenF, Mi.mSeq, Mi.sto, Mi.mAsg, Mi.mAsgN, Mi.two, Mi.mPar, Mi.mDrop, Mi.mRet, Mi.mRetN, Mi.mRetV, Mi.mIfS, Mi.againF, Mi.gV, Mi.gsN, Mi.gsC, Mi.gT, Mi.mAsgT, Mi.tgt, Mi.mCall, Mi.frzR, Mi.newR, Mi.mCallN, Mi.recv, Mi.mMeth, Mi.mMethN, Mi.mMake, Mi.callR, Mi.mCallR, Mi.newM, Mi.mCallRN, Mi.mApp, Mi.mRev, Mi.setAt, Mi.mSetV, Mi.mSetF, Mi.mAug, Mi.one, Mi.mRaise, Mi.mRaise0, Mi.mTry, Mi.noEx, Mi.endX, Mi.inX, Mi.mTryAs, Mi.mXf, Mi.dI, Mi.dIc, Mi.dAdd, Mi.dSub, Mi.dLt, Mi.dLe, Mi.dGt, Mi.dGe, Mi.dMul, Mi.dDiv, Mi.dMod, Mi.dPow, Mi.dNeg, Mi.sEq, Mi.ofB, Mi.dEq, Mi.dNe, Mi.isNon, Mi.dIsN, Mi.dNotN, Mi.dInt, Mi.dI1, Mi.dI2, Mi.dAbs, Mi.dMin, Mi.dMax, Mi.dGcd, Mi.dLen1, Mi.dLen, Mi.mLenV, Mi.mIsi, Mi.isub, Mi.D.tn, Mi.dIx, Mi.opC, Mi.negC, Mi.eqC, Mi.ipC, Mi.Rv.d, Mi.mNoP, Mi.asI, Mi.mPart, Mi.mSlL, Mi.asL, Mi.asQ, Mi.mItQ, Mi.mItA, Mi.mFor, Mi.putD, List.map_cons, List.map_nil, List.length_cons, List.length_nil, List.replicate, List.cons_append, List.nil_append, List.getElem?_cons_zero, List.getElem?_cons_succ, List.set_cons_zero, List.set_cons_succ, Nat.sub_self, Nat.reduceAdd, Nat.reduceSub, Nat.reduceEqDiff, List.reverse_cons, id, Bool.not_true, Bool.not_false, if_true, if_false, Bool.false_eq_true, reduceIte, true_and, and_true, and_self, Option.toList, List.all_cons, List.all_nil, Bool.and_true, Bool.true_and, Bool.and_self, decide_true, decide_false, decide_eq_true_eq, reduceCtorEq, Mi.bo_pl, Mi.bo_ow, Mi.bo_rf, Mi.bo_un, Mi.sa_ow, Mi.sa_rf, Mi.sa_pl, Mi.oa_un, Mi.oa_pl, Mi.oa_ow, Mi.co_ow, Mi.co_rf, Mi.co_pl, Mi.st_ow, Mi.st_rf, Mi.lv_ow, Mi.lv_rf, Mi.lv_pl, Mi.ne_un, Mi.ne_pl, Mi.ne_ow, Mi.ne_rf, Mi.ne_se, Mi.ne_ex, Mi.th_un, Mi.th_pl, Mi.ie_ex, Mi.xf_ex, ne_eq, not_false_eq_true, not_true_eq_false, Mi.clr, Mi.putS, Option.isSome_some, Option.some.injEq, Int.reduceEq, Int.reduceNe, Int.reduceLT, Int.reduceLE, Nat.reduceLT, Nat.reduceLeDiff, decide_not, Bool.not_eq_true, Bool.decide_eq_true, Mi.ib_t, Mi.ib_f, Mi.mkR_ex, Mi.bO_s, Mi.rO_f, Mi.rO_t, Mi.dEqA_eq, Mi.eqN_0, Mi.eqN_1, Mi.eqN_2, Mi.eqN_3, Mi.eqB_ins, Mi.eqB_tt, Mi.eqB_ll, Mi.eqB_int, Mi.eqB_str, Mi.eqB_bl, Mi.eqB_non, Mi.eqK_ii, Mi.eqK_ss, Mi.eqK_bb, Mi.eqK_nn, Mi.eqK_ni, Mi.eqK_in, Mi.eqK_ns, Mi.eqK_sn, Mi.eqK_is, Mi.eqK_si, Mi.eqK_nt, Mi.eqK_nl, Mi.eqB_tn, Mi.eqB_ln, Mi.eqLs_nil, Mi.eqLs_nc, Mi.eqLs_cn, Mi.eqLs_cc, Mi.itE_int, Mi.itE_str, Mi.itE_bl, Mi.itE_non, Mi.appT, Mi.asB, Mi.mMakeK, Mi.mDic, Option.bind_some, hr0, iDiv_eq, fdiv_pos h0, hu, mo, er]
      have hm0 := Int.emod_nonneg b hr0
      have hm1 := Int.emod_lt_of_pos b h0
      have hg2 : Int.gcd r (b % r) = 1 := by rw [← er, Int.mul_comm, Int.gcd_sub_mul_left_right, Int.gcd_comm]; exact hg
      have hm : ¬ b % r = 0 := fun z => by
        rw [z, Int.gcd_zero_right] at hg2
        omega
      obtain ⟨b', o', f', u', hd, e⟩ := inv_loop hp hp2 n r (b % r) f (o - b / r * f) (.pl (.int (b / r))) rfl (by omega) (by omega) hm1 (by omega) hg2 (by
        have : (o - b / r * f) * v - b % r = (o * v - b) - b / r * (f * v - r) := by rw [← er]; grind
        rw [this]
        exact Int.dvd_sub ho (Int.dvd_mul_of_dvd_right hf)) hf
      refine ⟨b', o', f', u', hd, ?_⟩
      simp only [Mi.runM, Mi.runI, Mi.runR, Mi.outF, Mi.outI, Mi.outR, Mi.startE, Mi.bnd, Mi.ret, Mi.lift, Mi.fail, Mi.mVar, Mi.mC, Mi.mBin, Mi.mBinN, Mi.mUn, Mi.mFld, Mi.mFrz, Mi.mB, Mi.tru, Mi.mAnd, Mi.mOr, Mi.mNot, Mi.mAndV, Mi.mOrV, Mi.mNotV, Mi.mIf, Mi.mChain, Mi.mNil, Mi.mCons, Mi.mTup, Mi.mLst, Mi.mCB, Mi.mCBn, Mi.mIdxV, Mi.mSkip, Mi.thenF, Mi.mSeq, Mi.sto, Mi.mAsg, Mi.mAsgN, Mi.two, Mi.mPar, Mi.mDrop, Mi.mRet, Mi.mRetN, Mi.mRetV, Mi.mIfS, Mi.againF, Mi.gV, Mi.gsN, Mi.gsC, Mi.gT, Mi.mAsgT, Mi.tgt, Mi.mCall, Mi.frzR, Mi.newR, Mi.mCallN, Mi.recv, Mi.mMeth, Mi.mMethN, Mi.mMake, Mi.callR, Mi.mCallR, Mi.newM, Mi.mCallRN, Mi.mApp, Mi.mRev, Mi.setAt, Mi.mSetV, Mi.mSetF, Mi.mAug, Mi.one, Mi.mRaise, Mi.mRaise0, Mi.mTry, Mi.noEx, Mi.endX, Mi.inX, Mi.mTryAs, Mi.mXf, Mi.dI, Mi.dIc, Mi.dAdd, Mi.dSub, Mi.dLt, Mi.dLe, Mi.dGt, Mi.dGe, Mi.dMul, Mi.dDiv, Mi.dMod, Mi.dPow, Mi.dNeg, Mi.sEq, Mi.ofB, Mi.dEq, Mi.dNe, Mi.isNon, Mi.dIsN, Mi.dNotN, Mi.dInt, Mi.dI1, Mi.dI2, Mi.dAbs, Mi.dMin, Mi.dMax, Mi.dGcd, Mi.dLen1, Mi.dLen, Mi.mLenV, Mi.mIsi, Mi.isub, Mi.D.tn, Mi.dIx, Mi.opC, Mi.negC, Mi.eqC, Mi.ipC, Mi.Rv.d, Mi.mNoP, Mi.asI, Mi.mPart, Mi.mSlL, Mi.asL, Mi.asQ, Mi.mItQ, Mi.mItA, Mi.mFor, Mi.putD, List.map_cons, List.map_nil, List.length_cons, List.length_nil, List.replicate, List.cons_append, List.nil_append, List.getElem?_cons_zero, List.getElem?_cons_succ, List.set_cons_zero, List.set_cons_succ, Nat.sub_self, Nat.reduceAdd, Nat.reduceSub, Nat.reduceEqDiff, List.reverse_cons, id, Bool.not_true, Bool.not_false, if_true, if_false, Bool.false_eq_true, reduceIte, true_and, and_true, and_self, Option.toList, List.all_cons, List.all_nil, Bool.and_true, Bool.true_and, Bool.and_self, decide_true, decide_false, decide_eq_true_eq, reduceCtorEq, Mi.bo_pl, Mi.bo_ow, Mi.bo_rf, Mi.bo_un, Mi.sa_ow, Mi.sa_rf, Mi.sa_pl, Mi.oa_un, Mi.oa_pl, Mi.oa_ow, Mi.co_ow, Mi.co_rf, Mi.co_pl, Mi.st_ow, Mi.st_rf, Mi.lv_ow, Mi.lv_rf, Mi.lv_pl, Mi.ne_un, Mi.ne_pl, Mi.ne_ow, Mi.ne_rf, Mi.ne_se, Mi.ne_ex, Mi.th_un, Mi.th_pl, Mi.ie_ex, Mi.xf_ex, ne_eq, not_false_eq_true, not_true_eq_false, Mi.clr, Mi.putS, Option.isSome_some, Option.some.injEq, Int.reduceEq, Int.reduceNe, Int.reduceLT, Int.reduceLE, Nat.reduceLT, Nat.reduceLeDiff, decide_not, Bool.not_eq_true, Bool.decide_eq_true, Mi.ib_t, Mi.ib_f, Mi.mkR_ex, Mi.bO_s, Mi.rO_f, Mi.rO_t, Mi.dEqA_eq, Mi.eqN_0, Mi.eqN_1, Mi.eqN_2, Mi.eqN_3, Mi.eqB_ins, Mi.eqB_tt, Mi.eqB_ll, Mi.eqB_int, Mi.eqB_str, Mi.eqB_bl, Mi.eqB_non, Mi.eqK_ii, Mi.eqK_ss, Mi.eqK_bb, Mi.eqK_nn, Mi.eqK_ni, Mi.eqK_in, Mi.eqK_ns, Mi.eqK_sn, Mi.eqK_is, Mi.eqK_si, Mi.eqK_nt, Mi.eqK_nl, Mi.eqB_tn, Mi.eqB_ln, Mi.eqLs_nil, Mi.eqLs_nc, Mi.eqLs_cn, Mi.eqLs_cc, Mi.itE_int, Mi.itE_str, Mi.itE_bl, Mi.itE_non, Mi.appT, Mi.asB, Mi.mMakeK, Mi.mDic, Option.bind_some, e1, e2, e]
    · have hr1 : r = 1 := by omega
      subst hr1
      refine ⟨b, o, f, u, hf, ?_⟩
      have e1 : lc_inverse_0 [.pl (.int v), .pl (.int p), .pl (.int b), .pl (.int 1), .pl (.int o), .pl (.int f), u] = .ok false [.pl (.int v), .pl (.int p), .pl (.int b), .pl (.int 1), .pl (.int o), .pl (.int f), u] := by unfold lc_inverse_0; simp only [Mi.runM, Mi.runI, Mi.runR, Mi.outF, Mi.outI, Mi.outR, Mi.startE, Mi.bnd, Mi.ret, Mi.lift, Mi.fail, Mi.mVar, Mi.mC, Mi.mBin, Mi.mBinN, Mi.mUn, Mi.mFld, Mi.mFrz, Mi.mB, Mi.tru, Mi.mAnd, Mi.mOr, Mi.mNot, Mi.mAndV, Mi.mOrV, Mi.mNotV, Mi.mIf, Mi.mChain, Mi.mNil, Mi.mCons, Mi.mTup, Mi.mLst, Mi.mCB, Mi.mCBn, Mi.mIdxV, Mi.mSkip, Mi.thenF, Mi.mSeq, Mi.sto, Mi.mAsg, Mi.mAsgN, Mi.two, Mi.mPar, Mi.mDrop, Mi.mRet, Mi.mRetN, Mi.mRetV, Mi.mIfS, Mi.againF, Mi.gV, Mi.gsN, Mi.gsC, Mi.gT, Mi.mAsgT, Mi.tgt, Mi.mCall, Mi.frzR, Mi.newR, Mi.mCallN, Mi.recv, Mi.mMeth, Mi.mMethN, Mi.mMake, Mi.callR, Mi.mCallR, Mi.newM, Mi.mCallRN, Mi.mApp, Mi.mRev, Mi.setAt, Mi.mSetV, Mi.mSetF, Mi.mAug, Mi.one, Mi.mRaise, Mi.mRaise0, Mi.mTry, Mi.noEx, Mi.endX, Mi.inX, Mi.mTryAs, Mi.mXf, Mi.dI, Mi.dIc, Mi.dAdd, Mi.dSub, Mi.dLt, Mi.dLe, Mi.dGt, Mi.dGe, Mi.dMul, Mi.dDiv, Mi.dMod, Mi.dPow, Mi.dNeg, Mi.sEq, Mi.ofB, Mi.dEq, Mi.dNe, Mi.isNon, Mi.dIsN, Mi.dNotN, Mi.dInt, Mi.dI1, Mi.dI2, Mi.dAbs, Mi.dMin, Mi.dMax, Mi.dGcd, Mi.dLen1, Mi.dLen, Mi.mLenV, Mi.mIsi, Mi.isub, Mi.D.tn, Mi.dIx, Mi.opC, Mi.negC, Mi.eqC, Mi.ipC, Mi.Rv.d, Mi.mNoP, Mi.asI, Mi.mPart, Mi.mSlL, Mi.asL, Mi.asQ, Mi.mItQ, Mi.mItA, Mi.mFor, Mi.putD, List.map_cons, List.map_nil, List.length_cons, List.length_nil, List.replicate, List.cons_append, List.nil_append, List.getElem?_cons_zero, List.getElem?_cons_succ, List.set_cons_zero, List.set_cons_succ, Nat.sub_self, Nat.reduceAdd, Nat.reduceSub, Nat.reduceEqDiff, List.reverse_cons, id, Bool.not_true, Bool.not_false, if_true, if_false, Bool.false_eq_true, reduceIte, true_and, and_true, and_self, Option.toList, List.all_cons, List.all_nil, Bool.and_true, Bool.true_and, Bool.and_self, decide_true, decide_false, decide_eq_true_eq, reduceCtorEq, Mi.bo_pl, Mi.bo_ow, Mi.bo_rf, Mi.bo_un, Mi.sa_ow, Mi.sa_rf, Mi.sa_pl, Mi.oa_un, Mi.oa_pl, Mi.oa_ow, Mi.co_ow, Mi.co_rf, Mi.co_pl, Mi.st_ow, Mi.st_rf, Mi.lv_ow, Mi.lv_rf, Mi.lv_pl, Mi.ne_un, Mi.ne_pl, Mi.ne_ow, Mi.ne_rf, Mi.ne_se, Mi.ne_ex, Mi.th_un, Mi.th_pl, Mi.ie_ex, Mi.xf_ex, ne_eq, not_false_eq_true, not_true_eq_false, Mi.clr, Mi.putS, Option.isSome_some, Option.some.injEq, Int.reduceEq, Int.reduceNe, Int.reduceLT, Int.reduceLE, Nat.reduceLT, Nat.reduceLeDiff, decide_not, Bool.not_eq_true, Bool.decide_eq_true, Mi.ib_t, Mi.ib_f, Mi.mkR_ex, Mi.bO_s, Mi.rO_f, Mi.rO_t, Mi.dEqA_eq, Mi.eqN_0, Mi.eqN_1, Mi.eqN_2, Mi.eqN_3, Mi.eqB_ins, Mi.eqB_tt, Mi.eqB_ll, Mi.eqB_int, Mi.eqB_str, Mi.eqB_bl, Mi.eqB_non, Mi.eqK_ii, Mi.eqK_ss, Mi.eqK_bb, Mi.eqK_nn, Mi.eqK_ni, Mi.eqK_in, Mi.eqK_ns, Mi.eqK_sn, Mi.eqK_is, Mi.eqK_si, Mi.eqK_nt, Mi.eqK_nl, Mi.eqB_tn, Mi.eqB_ln, Mi.eqLs_nil, Mi.eqLs_nc, Mi.eqLs_cn, Mi.eqLs_cc, Mi.itE_int, Mi.itE_str, Mi.itE_bl, Mi.itE_non, Mi.appT, Mi.asB, Mi.mMakeK, Mi.mDic, Option.bind_some]
      simp only [Mi.runM, Mi.runI, Mi.runR, Mi.outF, Mi.outI, Mi.outR, Mi.startE, Mi.bnd, Mi.ret, Mi.lift, Mi.fail, Mi.mVar, Mi.mC, Mi.mBin, Mi.mBinN, Mi.mUn, Mi.mFld, Mi.mFrz, Mi.mB, Mi.tru, Mi.mAnd, Mi.mOr, Mi.mNot, Mi.mAndV, Mi.mOrV, Mi.mNotV, Mi.mIf, Mi.mChain, Mi.mNil, Mi.mCons, Mi.mTup, Mi.mLst, Mi.mCB, Mi.mCBn, Mi.mIdxV, Mi.mSkip, Mi.thenF, Mi.mSeq, Mi.sto, Mi.mAsg, Mi.mAsgN, Mi.two, Mi.mPar, Mi.mDrop, Mi.mRet, Mi.mRetN, Mi.mRetV, Mi.mIfS, Mi.againF, Mi.gV, Mi.gsN, Mi.gsC, Mi.gT, Mi.mAsgT, Mi.tgt, Mi.mCall, Mi.frzR, Mi.newR, Mi.mCallN, Mi.recv, Mi.mMeth, Mi.mMethN, Mi.mMake, Mi.callR, Mi.mCallR, Mi.newM, Mi.mCallRN, Mi.mApp, Mi.mRev, Mi.setAt, Mi.mSetV, Mi.mSetF, Mi.mAug, Mi.one, Mi.mRaise, Mi.mRaise0, Mi.mTry, Mi.noEx, Mi.endX, Mi.inX, Mi.mTryAs, Mi.mXf, Mi.dI, Mi.dIc, Mi.dAdd, Mi.dSub, Mi.dLt, Mi.dLe, Mi.dGt, Mi.dGe, Mi.dMul, Mi.dDiv, Mi.dMod, Mi.dPow, Mi.dNeg, Mi.sEq, Mi.ofB, Mi.dEq, Mi.dNe, Mi.isNon, Mi.dIsN, Mi.dNotN, Mi.dInt, Mi.dI1, Mi.dI2, Mi.dAbs, Mi.dMin, Mi.dMax, Mi.dGcd, Mi.dLen1, Mi.dLen, Mi.mLenV, Mi.mIsi, Mi.isub, Mi.D.tn, Mi.dIx, Mi.opC, Mi.negC, Mi.eqC, Mi.ipC, Mi.Rv.d, Mi.mNoP, Mi.asI, Mi.mPart, Mi.mSlL, Mi.asL, Mi.asQ, Mi.mItQ, Mi.mItA, Mi.mFor, Mi.putD, List.map_cons, List.map_nil, List.length_cons, List.length_nil, List.replicate, List.cons_append, List.nil_append, List.getElem?_cons_zero, List.getElem?_cons_succ, List.set_cons_zero, List.set_cons_succ, Nat.sub_self, Nat.reduceAdd, Nat.reduceSub, Nat.reduceEqDiff, List.reverse_cons, id, Bool.not_true, Bool.not_false, if_true, if_false, Bool.false_eq_true, reduceIte, true_and, and_true, and_self, Option.toList, List.all_cons, List.all_nil, Bool.and_true, Bool.true_and, Bool.and_self, decide_true, decide_false, decide_eq_true_eq, reduceCtorEq, Mi.bo_pl, Mi.bo_ow, Mi.bo_rf, Mi.bo_un, Mi.sa_ow, Mi.sa_rf, Mi.sa_pl, Mi.oa_un, Mi.oa_pl, Mi.oa_ow, Mi.co_ow, Mi.co_rf, Mi.co_pl, Mi.st_ow, Mi.st_rf, Mi.lv_ow, Mi.lv_rf, Mi.lv_pl, Mi.ne_un, Mi.ne_pl, Mi.ne_ow, Mi.ne_rf, Mi.ne_se, Mi.ne_ex, Mi.th_un, Mi.th_pl, Mi.ie_ex, Mi.xf_ex, ne_eq, not_false_eq_true, not_true_eq_false, Mi.clr, Mi.putS, Option.isSome_some, Option.some.injEq, Int.reduceEq, Int.reduceNe, Int.reduceLT, Int.reduceLE, Nat.reduceLT, Nat.reduceLeDiff, decide_not, Bool.not_eq_true, Bool.decide_eq_true, Mi.ib_t, Mi.ib_f, Mi.mkR_ex, Mi.bO_s, Mi.rO_f, Mi.rO_t, Mi.dEqA_eq, Mi.eqN_0, Mi.eqN_1, Mi.eqN_2, Mi.eqN_3, Mi.eqB_ins, Mi.eqB_tt, Mi.eqB_ll, Mi.eqB_int, Mi.eqB_str, Mi.eqB_bl, Mi.eqB_non, Mi.eqK_ii, Mi.eqK_ss, Mi.eqK_bb, Mi.eqK_nn, Mi.eqK_ni, Mi.eqK_in, Mi.eqK_ns, Mi.eqK_sn, Mi.eqK_is, Mi.eqK_si, Mi.eqK_nt, Mi.eqK_nl, Mi.eqB_tn, Mi.eqB_ln, Mi.eqLs_nil, Mi.eqLs_nc, Mi.eqLs_cn, Mi.eqLs_cc, Mi.itE_int, Mi.itE_str, Mi.itE_bl, Mi.itE_non, Mi.appT, Mi.asB, Mi.mMakeK, Mi.mDic, Option.bind_some, e1]
theorem inv_ex {v p : Int} (h : Prm p) (hp2 : p < 2 ^ 32) (hv : ¬ v % p = 0) : ∃ x : Int, 0 ≤ x ∧ x < p ∧ p ∣ x * v - 1 ∧ m_inverse [.int v, .int p] = .ok (.pl (.int x)) := by
  have h1 := h.1
  have hp : 0 < p := by omega
  have hp0 : ¬ p = 0 := by omega
  have m0 := Int.emod_nonneg v (by omega : p ≠ 0)
  have m1 := Int.emod_lt_of_pos v hp
  have hg : Int.gcd p (v % p) = 1 := by
    rw [Int.gcd_comm]
    refine h.gcd ?_
    rw [Int.emod_emod]
    exact hv
  obtain ⟨b', o', f', u', hd, e⟩ := inv_loop hp hp2 (p + 1).toNat p (v % p) 0 1 .un rfl (by omega) (by omega) m1 (Int.le_refl _) hg (by rw [Int.one_mul]; exact Int.dvd_self_sub_emod) (by rw [Int.zero_mul, Int.zero_sub]; exact Int.dvd_neg.mpr (Int.dvd_refl p))
  have w : mWhile lc_inverse_0 lb_inverse_1 [.pl (.int v), .pl (.int p), .pl (.int p), .pl (.int (v % p)), .pl (.int 0), .pl (.int 1), .un] = .ok .nx [.pl (.int v), .pl (.int p), .pl (.int b'), .pl (.int 1), .pl (.int o'), .pl (.int f'), u'] := by rw [mWhile_eq (n := (p + 1).toNat) (by rw [e]; rfl), e]
  refine ⟨f' % p, Int.emod_nonneg _ (by omega), Int.emod_lt_of_pos _ hp, ?_, ?_⟩
  · have : f' % p * v - 1 = (f' * v - 1) - p * (f' / p * v) := by rw [Int.emod_def]; grind
    rw [this]
    exact Int.dvd_sub hd (Int.dvd_mul_right ..)
  · unfold m_inverse b_inverse
    simp only [Mi.runM, Mi.runI, Mi.runR, Mi.outF, Mi.outI, Mi.outR, Mi.startE, Mi.bnd, Mi.ret, Mi.lift, Mi.fail, Mi.mVar, Mi.mC, Mi.mBin, Mi.mBinN, Mi.mUn, Mi.mFld, Mi.mFrz, Mi.mB, Mi.tru, Mi.mAnd, Mi.mOr, Mi.mNot, Mi.mAndV, Mi.mOrV, Mi.mNotV, Mi.mIf, Mi.mChain, Mi.mNil, Mi.mCons, Mi.mTup, Mi.mLst, Mi.mCB, Mi.mCBn, Mi.mIdxV, Mi.mSkip, Mi.thenF, Mi.mSeq, Mi.sto, Mi.mAsg, Mi.mAsgN, Mi.two, Mi.mPar, Mi.mDrop, Mi.mRet, Mi.mRetN, Mi.mRetV, Mi.mIfS, Mi.againF, Mi.gV, Mi.gsN, Mi.gsC, Mi.gT, Mi.mAsgT, Mi.tgt, Mi.mCall, Mi.frzR, Mi.newR, Mi.mCallN, Mi.recv, Mi.mMeth, Mi.mMethN, Mi.mMake, Mi.callR, Mi.mCallR, Mi.newM, Mi.mCallRN, Mi.mApp, Mi.mRev, Mi.setAt, Mi.mSetV, Mi.mSetF, Mi.mAug, Mi.one, Mi.mRaise, Mi.mRaise0, Mi.mTry, Mi.noEx, Mi.endX, Mi.inX, Mi.mTryAs, Mi.mXf, Mi.dI, Mi.dIc, Mi.dAdd, Mi.dSub, Mi.dLt, Mi.dLe, Mi.dGt, Mi.dGe, Mi.dMul, Mi.dDiv, Mi.dMod, Mi.dPow, Mi.dNeg, Mi.sEq, Mi.ofB, Mi.dEq, Mi.dNe, Mi.isNon, Mi.dIsN, Mi.dNotN, Mi.dInt, Mi.dI1, Mi.dI2, Mi.dAbs, Mi.dMin, Mi.dMax, Mi.dGcd, Mi.dLen1, Mi.dLen, Mi.mLenV, Mi.mIsi, Mi.isub, Mi.D.tn, Mi.dIx, Mi.opC, Mi.negC, Mi.eqC, Mi.ipC, Mi.Rv.d, Mi.mNoP, Mi.asI, Mi.mPart, Mi.mSlL, Mi.asL, Mi.asQ, Mi.mItQ, Mi.mItA, Mi.mFor, Mi.putD, List.map_cons, List.map_nil, List.length_cons, List.length_nil, List.replicate, List.cons_append, List.nil_append, List.getElem?_cons_zero, List.getElem?_cons_succ, List.set_cons_zero, List.set_cons_succ, Nat.sub_self, Nat.reduceAdd, Nat.reduceSub, Nat.reduceEqDiff, List.reverse_cons, id, Bool.not_true, Bool.not_false, if_true, if_false, Bool.false_eq_true, reduceIte, true_and, and_true, and_self, Option.toList, List.all_cons, List.all_nil, Bool.and_true, Bool.true_and, Bool.and_self, decide_true, decide_false, decide_eq_true_eq, reduceCtorEq, Mi.bo_pl, Mi.bo_ow, Mi.bo_rf, Mi.bo_un, Mi.sa_ow, Mi.sa_rf, Mi.sa_pl, Mi.oa_un, Mi.oa_pl, Mi.oa_ow, Mi.co_ow, Mi.co_rf, Mi.co_pl, Mi.st_ow, Mi.st_rf, Mi.lv_ow, Mi.lv_rf, Mi.lv_pl, Mi.ne_un, Mi.ne_pl, Mi.ne_ow, Mi.ne_rf, Mi.ne_se, Mi.ne_ex, Mi.th_un, Mi.th_pl, Mi.ie_ex, Mi.xf_ex, ne_eq, not_false_eq_true, not_true_eq_false, Mi.clr, Mi.putS, Option.isSome_some, Option.some.injEq, Int.reduceEq, Int.reduceNe, Int.reduceLT, Int.reduceLE, Nat.reduceLT, Nat.reduceLeDiff, decide_not, Bool.not_eq_true, Bool.decide_eq_true, Mi.ib_t, Mi.ib_f, Mi.mkR_ex, Mi.bO_s, Mi.rO_f, Mi.rO_t, Mi.dEqA_eq, Mi.eqN_0, Mi.eqN_1, Mi.eqN_2, Mi.eqN_3, Mi.eqB_ins, Mi.eqB_tt, Mi.eqB_ll, Mi.eqB_int, Mi.eqB_str, Mi.eqB_bl, Mi.eqB_non, Mi.eqK_ii, Mi.eqK_ss, Mi.eqK_bb, Mi.eqK_nn, Mi.eqK_ni, Mi.eqK_in, Mi.eqK_ns, Mi.eqK_sn, Mi.eqK_is, Mi.eqK_si, Mi.eqK_nt, Mi.eqK_nl, Mi.eqB_tn, Mi.eqB_ln, Mi.eqLs_nil, Mi.eqLs_nc, Mi.eqLs_cn, Mi.eqLs_cc, Mi.itE_int, Mi.itE_str, Mi.itE_bl, Mi.itE_non, Mi.appT, Mi.asB, Mi.mMakeK, Mi.mDic, Option.bind_some, hp0, iMod_eq, fmod_pos hp, w]
end Mi

namespace Mi
open PySem
def fD (p : Int) : D := .ins "Field" [("prime", .int p)]
theorem dFld_prime (p : Int) : dFld "prime" (fD p) = .ok (.int p) := rfl
theorem tn_fD (p : Int) : (fD p).tn = .c "Field" := rfl
theorem isIntD_fD (p : Int) : isIntD (fD p) = false := rfl
theorem isub_FF : isub (.c "Field") (.c "Field") = true := rfl
theorem mkR_fD (p : Int) : mkR "Field" (.ok [("prime", .int p)]) = .ok (fD p) := rfl
/-- a field: of exact fractions, or of a prime of the range -/
def FOk (p : Int) : Prop := p = 0 ∨ Prm p ∧ p ≤ 9973
/-- of a prime -/
structure PF (p : Int) : Prop where
  pr : Prm p
  le : p ≤ 9973
theorem PF.pos {p : Int} (h : PF p) : 0 < p := by have := h.pr.1; omega
theorem PF.ne {p : Int} (h : PF p) : ¬ p = 0 := by have := h.pos; omega
theorem PF.lt {p : Int} (h : PF p) : p < 2 ^ 32 := by have := h.le; omega
theorem FOk.cases {p : Int} (h : FOk p) : p = 0 ∨ PF p := h.imp id fun z => ⟨z.1, z.2⟩
theorem e_Finit {p : Int} (h : FOk p) : m_Field___init__ [.int p] = .ok [("prime", .int p)] := by
  unfold m_Field___init__ b_Field___init__
  rcases h.cases with rfl | h
  · simp only [Mi.runM, Mi.runI, Mi.runR, Mi.outF, Mi.outI, Mi.outR, Mi.startE, Mi.bnd, Mi.ret, Mi.lift, Mi.fail, Mi.mVar, Mi.mC, Mi.mBin, Mi.mBinN, Mi.mUn, Mi.mFld, Mi.mFrz, Mi.mB, Mi.tru, Mi.mAnd, Mi.mOr, Mi.mNot, Mi.mAndV, Mi.mOrV, Mi.mNotV, Mi.mIf, Mi.mChain, Mi.mNil, Mi.mCons, Mi.mTup, Mi.mLst, Mi.mCB, Mi.mCBn, Mi.mIdxV, Mi.mSkip, Mi.thenF, Mi.mSeq, Mi.sto, Mi.mAsg, Mi.mAsgN, Mi.two, Mi.mPar, Mi.mDrop, Mi.mRet, Mi.mRetN, Mi.mRetV, Mi.mIfS, Mi.againF, Mi.gV, Mi.gsN, Mi.gsC, Mi.gT, Mi.mAsgT, Mi.tgt, Mi.mCall, Mi.frzR, Mi.newR, Mi.mCallN, Mi.recv, Mi.mMeth, Mi.mMethN, Mi.mMake, Mi.callR, Mi.mCallR, Mi.newM, Mi.mCallRN, Mi.mApp, Mi.mRev, Mi.setAt, Mi.mSetV, Mi.mSetF, Mi.mAug, Mi.one, Mi.mRaise, Mi.mRaise0, Mi.mTry, Mi.noEx, Mi.endX, Mi.inX, Mi.mTryAs, Mi.mXf, Mi.dI, Mi.dIc, Mi.dAdd, Mi.dSub, Mi.dLt, Mi.dLe, Mi.dGt, Mi.dGe, Mi.dMul, Mi.dDiv, Mi.dMod, Mi.dPow, Mi.dNeg, Mi.sEq, Mi.ofB, Mi.dEq, Mi.dNe, Mi.isNon, Mi.dIsN, Mi.dNotN, Mi.dInt, Mi.dI1, Mi.dI2, Mi.dAbs, Mi.dMin, Mi.dMax, Mi.dGcd, Mi.dLen1, Mi.dLen, Mi.mLenV, Mi.mIsi, Mi.isub, Mi.D.tn, Mi.dIx, Mi.opC, Mi.negC, Mi.eqC, Mi.ipC, Mi.Rv.d, Mi.mNoP, Mi.asI, Mi.mPart, Mi.mSlL, Mi.asL, Mi.asQ, Mi.mItQ, Mi.mItA, Mi.mFor, Mi.putD, List.map_cons, List.map_nil, List.length_cons, List.length_nil, List.replicate, List.cons_append, List.nil_append, List.getElem?_cons_zero, List.getElem?_cons_succ, List.set_cons_zero, List.set_cons_succ, Nat.sub_self, Nat.reduceAdd, Nat.reduceSub, Nat.reduceEqDiff, List.reverse_cons, id, Bool.not_true, Bool.not_false, if_true, if_false, Bool.false_eq_true, reduceIte, true_and, and_true, and_self, Option.toList, List.all_cons, List.all_nil, Bool.and_true, Bool.true_and, Bool.and_self, decide_true, decide_false, decide_eq_true_eq, reduceCtorEq, Mi.bo_pl, Mi.bo_ow, Mi.bo_rf, Mi.bo_un, Mi.sa_ow, Mi.sa_rf, Mi.sa_pl, Mi.oa_un, Mi.oa_pl, Mi.oa_ow, Mi.co_ow, Mi.co_rf, Mi.co_pl, Mi.st_ow, Mi.st_rf, Mi.lv_ow, Mi.lv_rf, Mi.lv_pl, Mi.ne_un, Mi.ne_pl, Mi.ne_ow, Mi.ne_rf, Mi.ne_se, Mi.ne_ex, Mi.th_un, Mi.th_pl, Mi.ie_ex, Mi.xf_ex, ne_eq, not_false_eq_true, not_true_eq_false, Mi.clr, Mi.putS, Option.isSome_some, Option.some.injEq, Int.reduceEq, Int.reduceNe, Int.reduceLT, Int.reduceLE, Nat.reduceLT, Nat.reduceLeDiff, decide_not, Bool.not_eq_true, Bool.decide_eq_true, Mi.ib_t, Mi.ib_f, Mi.mkR_ex, Mi.bO_s, Mi.rO_f, Mi.rO_t, Mi.dEqA_eq, Mi.eqN_0, Mi.eqN_1, Mi.eqN_2, Mi.eqN_3, Mi.eqB_ins, Mi.eqB_tt, Mi.eqB_ll, Mi.eqB_int, Mi.eqB_str, Mi.eqB_bl, Mi.eqB_non, Mi.eqK_ii, Mi.eqK_ss, Mi.eqK_bb, Mi.eqK_nn, Mi.eqK_ni, Mi.eqK_in, Mi.eqK_ns, Mi.eqK_sn, Mi.eqK_is, Mi.eqK_si, Mi.eqK_nt, Mi.eqK_nl, Mi.eqB_tn, Mi.eqB_ln, Mi.eqLs_nil, Mi.eqLs_nc, Mi.eqLs_cn, Mi.eqLs_cc, Mi.itE_int, Mi.itE_str, Mi.itE_bl, Mi.itE_non, Mi.appT, Mi.asB, Mi.mMakeK, Mi.mDic, Option.bind_some, e_is_integer, isIntD]
  · have h1 : ¬ 9973 < p := by have := h.le; omega
    simp only [Mi.runM, Mi.runI, Mi.runR, Mi.outF, Mi.outI, Mi.outR, Mi.startE, Mi.bnd, Mi.ret, Mi.lift, Mi.fail, Mi.mVar, Mi.mC, Mi.mBin, Mi.mBinN, Mi.mUn, Mi.mFld, Mi.mFrz, Mi.mB, Mi.tru, Mi.mAnd, Mi.mOr, Mi.mNot, Mi.mAndV, Mi.mOrV, Mi.mNotV, Mi.mIf, Mi.mChain, Mi.mNil, Mi.mCons, Mi.mTup, Mi.mLst, Mi.mCB, Mi.mCBn, Mi.mIdxV, Mi.mSkip, Mi.thenF, Mi.mSeq, Mi.sto, Mi.mAsg, Mi.mAsgN, Mi.two, Mi.mPar, Mi.mDrop, Mi.mRet, Mi.mRetN, Mi.mRetV, Mi.mIfS, Mi.againF, Mi.gV, Mi.gsN, Mi.gsC, Mi.gT, Mi.mAsgT, Mi.tgt, Mi.mCall, Mi.frzR, Mi.newR, Mi.mCallN, Mi.recv, Mi.mMeth, Mi.mMethN, Mi.mMake, Mi.callR, Mi.mCallR, Mi.newM, Mi.mCallRN, Mi.mApp, Mi.mRev, Mi.setAt, Mi.mSetV, Mi.mSetF, Mi.mAug, Mi.one, Mi.mRaise, Mi.mRaise0, Mi.mTry, Mi.noEx, Mi.endX, Mi.inX, Mi.mTryAs, Mi.mXf, Mi.dI, Mi.dIc, Mi.dAdd, Mi.dSub, Mi.dLt, Mi.dLe, Mi.dGt, Mi.dGe, Mi.dMul, Mi.dDiv, Mi.dMod, Mi.dPow, Mi.dNeg, Mi.sEq, Mi.ofB, Mi.dEq, Mi.dNe, Mi.isNon, Mi.dIsN, Mi.dNotN, Mi.dInt, Mi.dI1, Mi.dI2, Mi.dAbs, Mi.dMin, Mi.dMax, Mi.dGcd, Mi.dLen1, Mi.dLen, Mi.mLenV, Mi.mIsi, Mi.isub, Mi.D.tn, Mi.dIx, Mi.opC, Mi.negC, Mi.eqC, Mi.ipC, Mi.Rv.d, Mi.mNoP, Mi.asI, Mi.mPart, Mi.mSlL, Mi.asL, Mi.asQ, Mi.mItQ, Mi.mItA, Mi.mFor, Mi.putD, List.map_cons, List.map_nil, List.length_cons, List.length_nil, List.replicate, List.cons_append, List.nil_append, List.getElem?_cons_zero, List.getElem?_cons_succ, List.set_cons_zero, List.set_cons_succ, Nat.sub_self, Nat.reduceAdd, Nat.reduceSub, Nat.reduceEqDiff, List.reverse_cons, id, Bool.not_true, Bool.not_false, if_true, if_false, Bool.false_eq_true, reduceIte, true_and, and_true, and_self, Option.toList, List.all_cons, List.all_nil, Bool.and_true, Bool.true_and, Bool.and_self, decide_true, decide_false, decide_eq_true_eq, reduceCtorEq, Mi.bo_pl, Mi.bo_ow, Mi.bo_rf, Mi.bo_un, Mi.sa_ow, Mi.sa_rf, Mi.sa_pl, Mi.oa_un, Mi.oa_pl, Mi.oa_ow, Mi.co_ow, Mi.co_rf, Mi.co_pl, Mi.st_ow, Mi.st_rf, Mi.lv_ow, Mi.lv_rf, Mi.lv_pl, Mi.ne_un, Mi.ne_pl, Mi.ne_ow, Mi.ne_rf, Mi.ne_se, Mi.ne_ex, Mi.th_un, Mi.th_pl, Mi.ie_ex, Mi.xf_ex, ne_eq, not_false_eq_true, not_true_eq_false, Mi.clr, Mi.putS, Option.isSome_some, Option.some.injEq, Int.reduceEq, Int.reduceNe, Int.reduceLT, Int.reduceLE, Nat.reduceLT, Nat.reduceLeDiff, decide_not, Bool.not_eq_true, Bool.decide_eq_true, Mi.ib_t, Mi.ib_f, Mi.mkR_ex, Mi.bO_s, Mi.rO_f, Mi.rO_t, Mi.dEqA_eq, Mi.eqN_0, Mi.eqN_1, Mi.eqN_2, Mi.eqN_3, Mi.eqB_ins, Mi.eqB_tt, Mi.eqB_ll, Mi.eqB_int, Mi.eqB_str, Mi.eqB_bl, Mi.eqB_non, Mi.eqK_ii, Mi.eqK_ss, Mi.eqK_bb, Mi.eqK_nn, Mi.eqK_ni, Mi.eqK_in, Mi.eqK_ns, Mi.eqK_sn, Mi.eqK_is, Mi.eqK_si, Mi.eqK_nt, Mi.eqK_nl, Mi.eqB_tn, Mi.eqB_ln, Mi.eqLs_nil, Mi.eqLs_nc, Mi.eqLs_cn, Mi.eqLs_cc, Mi.itE_int, Mi.itE_str, Mi.itE_bl, Mi.itE_non, Mi.appT, Mi.asB, Mi.mMakeK, Mi.mDic, Option.bind_some, e_is_integer, isIntD, h.ne, h1, e_is_prime (by have := h.le; omega : p < 10000), isP_t h.pr]
theorem e_Finit0 : m_Field___init___1 [] = .ok [("prime", .int 0)] := e_Finit (.inl rfl)
theorem e_FinitX {p : Int} (h : ¬ FOk p) : m_Field___init__ [.int p] = .ex "NoField" none := by
  unfold m_Field___init__ b_Field___init__
  have h0 : ¬ p = 0 := fun z => h (.inl z)
  by_cases h1 : 9973 < p
  · simp only [Mi.runM, Mi.runI, Mi.runR, Mi.outF, Mi.outI, Mi.outR, Mi.startE, Mi.bnd, Mi.ret, Mi.lift, Mi.fail, Mi.mVar, Mi.mC, Mi.mBin, Mi.mBinN, Mi.mUn, Mi.mFld, Mi.mFrz, Mi.mB, Mi.tru, Mi.mAnd, Mi.mOr, Mi.mNot, Mi.mAndV, Mi.mOrV, Mi.mNotV, Mi.mIf, Mi.mChain, Mi.mNil, Mi.mCons, Mi.mTup, Mi.mLst, Mi.mCB, Mi.mCBn, Mi.mIdxV, Mi.mSkip, Mi.thenF, Mi.mSeq, Mi.sto, Mi.mAsg, Mi.mAsgN, Mi.two, Mi.mPar, Mi.mDrop, Mi.mRet, Mi.mRetN, Mi.mRetV, Mi.mIfS, Mi.againF, Mi.gV, Mi.gsN, Mi.gsC, Mi.gT, Mi.mAsgT, Mi.tgt, Mi.mCall, Mi.frzR, Mi.newR, Mi.mCallN, Mi.recv, Mi.mMeth, Mi.mMethN, Mi.mMake, Mi.callR, Mi.mCallR, Mi.newM, Mi.mCallRN, Mi.mApp, Mi.mRev, Mi.setAt, Mi.mSetV, Mi.mSetF, Mi.mAug, Mi.one, Mi.mRaise, Mi.mRaise0, Mi.mTry, Mi.noEx, Mi.endX, Mi.inX, Mi.mTryAs, Mi.mXf, Mi.dI, Mi.dIc, Mi.dAdd, Mi.dSub, Mi.dLt, Mi.dLe, Mi.dGt, Mi.dGe, Mi.dMul, Mi.dDiv, Mi.dMod, Mi.dPow, Mi.dNeg, Mi.sEq, Mi.ofB, Mi.dEq, Mi.dNe, Mi.isNon, Mi.dIsN, Mi.dNotN, Mi.dInt, Mi.dI1, Mi.dI2, Mi.dAbs, Mi.dMin, Mi.dMax, Mi.dGcd, Mi.dLen1, Mi.dLen, Mi.mLenV, Mi.mIsi, Mi.isub, Mi.D.tn, Mi.dIx, Mi.opC, Mi.negC, Mi.eqC, Mi.ipC, Mi.Rv.d, Mi.mNoP, Mi.asI, Mi.mPart, Mi.mSlL, Mi.asL, Mi.asQ, Mi.mItQ, Mi.mItA, Mi.mFor, Mi.putD, List.map_cons, List.map_nil, List.length_cons, List.length_nil, List.replicate, List.cons_append, List.nil_append, List.getElem?_cons_zero, List.getElem?_cons_succ, List.set_cons_zero, List.set_cons_succ, Nat.sub_self, Nat.reduceAdd, Nat.reduceSub, Nat.reduceEqDiff, List.reverse_cons, id, Bool.not_true, Bool.not_false, if_true, if_false, Bool.false_eq_true, reduceIte, true_and, and_true, and_self, Option.toList, List.all_cons, List.all_nil, Bool.and_true, Bool.true_and, Bool.and_self, decide_true, decide_false, decide_eq_true_eq, reduceCtorEq, Mi.bo_pl, Mi.bo_ow, Mi.bo_rf, Mi.bo_un, Mi.sa_ow, Mi.sa_rf, Mi.sa_pl, Mi.oa_un, Mi.oa_pl, Mi.oa_ow, Mi.co_ow, Mi.co_rf, Mi.co_pl, Mi.st_ow, Mi.st_rf, Mi.lv_ow, Mi.lv_rf, Mi.lv_pl, Mi.ne_un, Mi.ne_pl, Mi.ne_ow, Mi.ne_rf, Mi.ne_se, Mi.ne_ex, Mi.th_un, Mi.th_pl, Mi.ie_ex, Mi.xf_ex, ne_eq, not_false_eq_true, not_true_eq_false, Mi.clr, Mi.putS, Option.isSome_some, Option.some.injEq, Int.reduceEq, Int.reduceNe, Int.reduceLT, Int.reduceLE, Nat.reduceLT, Nat.reduceLeDiff, decide_not, Bool.not_eq_true, Bool.decide_eq_true, Mi.ib_t, Mi.ib_f, Mi.mkR_ex, Mi.bO_s, Mi.rO_f, Mi.rO_t, Mi.dEqA_eq, Mi.eqN_0, Mi.eqN_1, Mi.eqN_2, Mi.eqN_3, Mi.eqB_ins, Mi.eqB_tt, Mi.eqB_ll, Mi.eqB_int, Mi.eqB_str, Mi.eqB_bl, Mi.eqB_non, Mi.eqK_ii, Mi.eqK_ss, Mi.eqK_bb, Mi.eqK_nn, Mi.eqK_ni, Mi.eqK_in, Mi.eqK_ns, Mi.eqK_sn, Mi.eqK_is, Mi.eqK_si, Mi.eqK_nt, Mi.eqK_nl, Mi.eqB_tn, Mi.eqB_ln, Mi.eqLs_nil, Mi.eqLs_nc, Mi.eqLs_cn, Mi.eqLs_cc, Mi.itE_int, Mi.itE_str, Mi.itE_bl, Mi.itE_non, Mi.appT, Mi.asB, Mi.mMakeK, Mi.mDic, Option.bind_some, e_is_integer, isIntD, h0, h1]
  · have hp : ¬ Prm p := fun z => h (.inr ⟨z, by omega⟩)
    simp only [Mi.runM, Mi.runI, Mi.runR, Mi.outF, Mi.outI, Mi.outR, Mi.startE, Mi.bnd, Mi.ret, Mi.lift, Mi.fail, Mi.mVar, Mi.mC, Mi.mBin, Mi.mBinN, Mi.mUn, Mi.mFld, Mi.mFrz, Mi.mB, Mi.tru, Mi.mAnd, Mi.mOr, Mi.mNot, Mi.mAndV, Mi.mOrV, Mi.mNotV, Mi.mIf, Mi.mChain, Mi.mNil, Mi.mCons, Mi.mTup, Mi.mLst, Mi.mCB, Mi.mCBn, Mi.mIdxV, Mi.mSkip, Mi.thenF, Mi.mSeq, Mi.sto, Mi.mAsg, Mi.mAsgN, Mi.two, Mi.mPar, Mi.mDrop, Mi.mRet, Mi.mRetN, Mi.mRetV, Mi.mIfS, Mi.againF, Mi.gV, Mi.gsN, Mi.gsC, Mi.gT, Mi.mAsgT, Mi.tgt, Mi.mCall, Mi.frzR, Mi.newR, Mi.mCallN, Mi.recv, Mi.mMeth, Mi.mMethN, Mi.mMake, Mi.callR, Mi.mCallR, Mi.newM, Mi.mCallRN, Mi.mApp, Mi.mRev, Mi.setAt, Mi.mSetV, Mi.mSetF, Mi.mAug, Mi.one, Mi.mRaise, Mi.mRaise0, Mi.mTry, Mi.noEx, Mi.endX, Mi.inX, Mi.mTryAs, Mi.mXf, Mi.dI, Mi.dIc, Mi.dAdd, Mi.dSub, Mi.dLt, Mi.dLe, Mi.dGt, Mi.dGe, Mi.dMul, Mi.dDiv, Mi.dMod, Mi.dPow, Mi.dNeg, Mi.sEq, Mi.ofB, Mi.dEq, Mi.dNe, Mi.isNon, Mi.dIsN, Mi.dNotN, Mi.dInt, Mi.dI1, Mi.dI2, Mi.dAbs, Mi.dMin, Mi.dMax, Mi.dGcd, Mi.dLen1, Mi.dLen, Mi.mLenV, Mi.mIsi, Mi.isub, Mi.D.tn, Mi.dIx, Mi.opC, Mi.negC, Mi.eqC, Mi.ipC, Mi.Rv.d, Mi.mNoP, Mi.asI, Mi.mPart, Mi.mSlL, Mi.asL, Mi.asQ, Mi.mItQ, Mi.mItA, Mi.mFor, Mi.putD, List.map_cons, List.map_nil, List.length_cons, List.length_nil, List.replicate, List.cons_append, List.nil_append, List.getElem?_cons_zero, List.getElem?_cons_succ, List.set_cons_zero, List.set_cons_succ, Nat.sub_self, Nat.reduceAdd, Nat.reduceSub, Nat.reduceEqDiff, List.reverse_cons, id, Bool.not_true, Bool.not_false, if_true, if_false, Bool.false_eq_true, reduceIte, true_and, and_true, and_self, Option.toList, List.all_cons, List.all_nil, Bool.and_true, Bool.true_and, Bool.and_self, decide_true, decide_false, decide_eq_true_eq, reduceCtorEq, Mi.bo_pl, Mi.bo_ow, Mi.bo_rf, Mi.bo_un, Mi.sa_ow, Mi.sa_rf, Mi.sa_pl, Mi.oa_un, Mi.oa_pl, Mi.oa_ow, Mi.co_ow, Mi.co_rf, Mi.co_pl, Mi.st_ow, Mi.st_rf, Mi.lv_ow, Mi.lv_rf, Mi.lv_pl, Mi.ne_un, Mi.ne_pl, Mi.ne_ow, Mi.ne_rf, Mi.ne_se, Mi.ne_ex, Mi.th_un, Mi.th_pl, Mi.ie_ex, Mi.xf_ex, ne_eq, not_false_eq_true, not_true_eq_false, Mi.clr, Mi.putS, Option.isSome_some, Option.some.injEq, Int.reduceEq, Int.reduceNe, Int.reduceLT, Int.reduceLE, Nat.reduceLT, Nat.reduceLeDiff, decide_not, Bool.not_eq_true, Bool.decide_eq_true, Mi.ib_t, Mi.ib_f, Mi.mkR_ex, Mi.bO_s, Mi.rO_f, Mi.rO_t, Mi.dEqA_eq, Mi.eqN_0, Mi.eqN_1, Mi.eqN_2, Mi.eqN_3, Mi.eqB_ins, Mi.eqB_tt, Mi.eqB_ll, Mi.eqB_int, Mi.eqB_str, Mi.eqB_bl, Mi.eqB_non, Mi.eqK_ii, Mi.eqK_ss, Mi.eqK_bb, Mi.eqK_nn, Mi.eqK_ni, Mi.eqK_in, Mi.eqK_ns, Mi.eqK_sn, Mi.eqK_is, Mi.eqK_si, Mi.eqK_nt, Mi.eqK_nl, Mi.eqB_tn, Mi.eqB_ln, Mi.eqLs_nil, Mi.eqLs_nc, Mi.eqLs_cn, Mi.eqLs_cc, Mi.itE_int, Mi.itE_str, Mi.itE_bl, Mi.itE_non, Mi.appT, Mi.asB, Mi.mMakeK, Mi.mDic, Option.bind_some, e_is_integer, isIntD, h0, h1, e_is_prime (by omega : p < 10000), isP_f hp]
theorem e_FinitD {d : D} (h : isIntD d = false) : m_Field___init__ [d] = .ex "NoField" none := by
  unfold m_Field___init__ b_Field___init__
  simp only [Mi.runM, Mi.runI, Mi.runR, Mi.outF, Mi.outI, Mi.outR, Mi.startE, Mi.bnd, Mi.ret, Mi.lift, Mi.fail, Mi.mVar, Mi.mC, Mi.mBin, Mi.mBinN, Mi.mUn, Mi.mFld, Mi.mFrz, Mi.mB, Mi.tru, Mi.mAnd, Mi.mOr, Mi.mNot, Mi.mAndV, Mi.mOrV, Mi.mNotV, Mi.mIf, Mi.mChain, Mi.mNil, Mi.mCons, Mi.mTup, Mi.mLst, Mi.mCB, Mi.mCBn, Mi.mIdxV, Mi.mSkip, Mi.thenF, Mi.mSeq, Mi.sto, Mi.mAsg, Mi.mAsgN, Mi.two, Mi.mPar, Mi.mDrop, Mi.mRet, Mi.mRetN, Mi.mRetV, Mi.mIfS, Mi.againF, Mi.gV, Mi.gsN, Mi.gsC, Mi.gT, Mi.mAsgT, Mi.tgt, Mi.mCall, Mi.frzR, Mi.newR, Mi.mCallN, Mi.recv, Mi.mMeth, Mi.mMethN, Mi.mMake, Mi.callR, Mi.mCallR, Mi.newM, Mi.mCallRN, Mi.mApp, Mi.mRev, Mi.setAt, Mi.mSetV, Mi.mSetF, Mi.mAug, Mi.one, Mi.mRaise, Mi.mRaise0, Mi.mTry, Mi.noEx, Mi.endX, Mi.inX, Mi.mTryAs, Mi.mXf, Mi.dI, Mi.dIc, Mi.dAdd, Mi.dSub, Mi.dLt, Mi.dLe, Mi.dGt, Mi.dGe, Mi.dMul, Mi.dDiv, Mi.dMod, Mi.dPow, Mi.dNeg, Mi.sEq, Mi.ofB, Mi.dEq, Mi.dNe, Mi.isNon, Mi.dIsN, Mi.dNotN, Mi.dInt, Mi.dI1, Mi.dI2, Mi.dAbs, Mi.dMin, Mi.dMax, Mi.dGcd, Mi.dLen1, Mi.dLen, Mi.mLenV, Mi.mIsi, Mi.isub, Mi.D.tn, Mi.dIx, Mi.opC, Mi.negC, Mi.eqC, Mi.ipC, Mi.Rv.d, Mi.mNoP, Mi.asI, Mi.mPart, Mi.mSlL, Mi.asL, Mi.asQ, Mi.mItQ, Mi.mItA, Mi.mFor, Mi.putD, List.map_cons, List.map_nil, List.length_cons, List.length_nil, List.replicate, List.cons_append, List.nil_append, List.getElem?_cons_zero, List.getElem?_cons_succ, List.set_cons_zero, List.set_cons_succ, Nat.sub_self, Nat.reduceAdd, Nat.reduceSub, Nat.reduceEqDiff, List.reverse_cons, id, Bool.not_true, Bool.not_false, if_true, if_false, Bool.false_eq_true, reduceIte, true_and, and_true, and_self, Option.toList, List.all_cons, List.all_nil, Bool.and_true, Bool.true_and, Bool.and_self, decide_true, decide_false, decide_eq_true_eq, reduceCtorEq, Mi.bo_pl, Mi.bo_ow, Mi.bo_rf, Mi.bo_un, Mi.sa_ow, Mi.sa_rf, Mi.sa_pl, Mi.oa_un, Mi.oa_pl, Mi.oa_ow, Mi.co_ow, Mi.co_rf, Mi.co_pl, Mi.st_ow, Mi.st_rf, Mi.lv_ow, Mi.lv_rf, Mi.lv_pl, Mi.ne_un, Mi.ne_pl, Mi.ne_ow, Mi.ne_rf, Mi.ne_se, Mi.ne_ex, Mi.th_un, Mi.th_pl, Mi.ie_ex, Mi.xf_ex, ne_eq, not_false_eq_true, not_true_eq_false, Mi.clr, Mi.putS, Option.isSome_some, Option.some.injEq, Int.reduceEq, Int.reduceNe, Int.reduceLT, Int.reduceLE, Nat.reduceLT, Nat.reduceLeDiff, decide_not, Bool.not_eq_true, Bool.decide_eq_true, Mi.ib_t, Mi.ib_f, Mi.mkR_ex, Mi.bO_s, Mi.rO_f, Mi.rO_t, Mi.dEqA_eq, Mi.eqN_0, Mi.eqN_1, Mi.eqN_2, Mi.eqN_3, Mi.eqB_ins, Mi.eqB_tt, Mi.eqB_ll, Mi.eqB_int, Mi.eqB_str, Mi.eqB_bl, Mi.eqB_non, Mi.eqK_ii, Mi.eqK_ss, Mi.eqK_bb, Mi.eqK_nn, Mi.eqK_ni, Mi.eqK_in, Mi.eqK_ns, Mi.eqK_sn, Mi.eqK_is, Mi.eqK_si, Mi.eqK_nt, Mi.eqK_nl, Mi.eqB_tn, Mi.eqB_ln, Mi.eqLs_nil, Mi.eqLs_nc, Mi.eqLs_cn, Mi.eqLs_cc, Mi.itE_int, Mi.itE_str, Mi.itE_bl, Mi.itE_non, Mi.appT, Mi.asB, Mi.mMakeK, Mi.mDic, Option.bind_some, e_is_integer, h]
theorem e_Feq {p q : Int} : m_Field___eq__ [fD p, fD q] = .ok (.pl (.bl (decide (p = q)))) := by
  unfold m_Field___eq__ b_Field___eq__
  simp only [Mi.runM, Mi.runI, Mi.runR, Mi.outF, Mi.outI, Mi.outR, Mi.startE, Mi.bnd, Mi.ret, Mi.lift, Mi.fail, Mi.mVar, Mi.mC, Mi.mBin, Mi.mBinN, Mi.mUn, Mi.mFld, Mi.mFrz, Mi.mB, Mi.tru, Mi.mAnd, Mi.mOr, Mi.mNot, Mi.mAndV, Mi.mOrV, Mi.mNotV, Mi.mIf, Mi.mChain, Mi.mNil, Mi.mCons, Mi.mTup, Mi.mLst, Mi.mCB, Mi.mCBn, Mi.mIdxV, Mi.mSkip, Mi.thenF, Mi.mSeq, Mi.sto, Mi.mAsg, Mi.mAsgN, Mi.two, Mi.mPar, Mi.mDrop, Mi.mRet, Mi.mRetN, Mi.mRetV, Mi.mIfS, Mi.againF, Mi.gV, Mi.gsN, Mi.gsC, Mi.gT, Mi.mAsgT, Mi.tgt, Mi.mCall, Mi.frzR, Mi.newR, Mi.mCallN, Mi.recv, Mi.mMeth, Mi.mMethN, Mi.mMake, Mi.callR, Mi.mCallR, Mi.newM, Mi.mCallRN, Mi.mApp, Mi.mRev, Mi.setAt, Mi.mSetV, Mi.mSetF, Mi.mAug, Mi.one, Mi.mRaise, Mi.mRaise0, Mi.mTry, Mi.noEx, Mi.endX, Mi.inX, Mi.mTryAs, Mi.mXf, Mi.dI, Mi.dIc, Mi.dAdd, Mi.dSub, Mi.dLt, Mi.dLe, Mi.dGt, Mi.dGe, Mi.dMul, Mi.dDiv, Mi.dMod, Mi.dPow, Mi.dNeg, Mi.sEq, Mi.ofB, Mi.dEq, Mi.dNe, Mi.isNon, Mi.dIsN, Mi.dNotN, Mi.dInt, Mi.dI1, Mi.dI2, Mi.dAbs, Mi.dMin, Mi.dMax, Mi.dGcd, Mi.dLen1, Mi.dLen, Mi.mLenV, Mi.mIsi, Mi.dIx, Mi.opC, Mi.negC, Mi.eqC, Mi.ipC, Mi.Rv.d, Mi.mNoP, Mi.asI, Mi.mPart, Mi.mSlL, Mi.asL, Mi.asQ, Mi.mItQ, Mi.mItA, Mi.mFor, Mi.putD, List.map_cons, List.map_nil, List.length_cons, List.length_nil, List.replicate, List.cons_append, List.nil_append, List.getElem?_cons_zero, List.getElem?_cons_succ, List.set_cons_zero, List.set_cons_succ, Nat.sub_self, Nat.reduceAdd, Nat.reduceSub, Nat.reduceEqDiff, List.reverse_cons, id, Bool.not_true, Bool.not_false, if_true, if_false, Bool.false_eq_true, reduceIte, true_and, and_true, and_self, Option.toList, List.all_cons, List.all_nil, Bool.and_true, Bool.true_and, Bool.and_self, decide_true, decide_false, decide_eq_true_eq, reduceCtorEq, Mi.bo_pl, Mi.bo_ow, Mi.bo_rf, Mi.bo_un, Mi.sa_ow, Mi.sa_rf, Mi.sa_pl, Mi.oa_un, Mi.oa_pl, Mi.oa_ow, Mi.co_ow, Mi.co_rf, Mi.co_pl, Mi.st_ow, Mi.st_rf, Mi.lv_ow, Mi.lv_rf, Mi.lv_pl, Mi.ne_un, Mi.ne_pl, Mi.ne_ow, Mi.ne_rf, Mi.ne_se, Mi.ne_ex, Mi.th_un, Mi.th_pl, Mi.ie_ex, Mi.xf_ex, ne_eq, not_false_eq_true, not_true_eq_false, Mi.clr, Mi.putS, Option.isSome_some, Option.some.injEq, Int.reduceEq, Int.reduceNe, Int.reduceLT, Int.reduceLE, Nat.reduceLT, Nat.reduceLeDiff, decide_not, Bool.not_eq_true, Bool.decide_eq_true, Mi.ib_t, Mi.ib_f, Mi.mkR_ex, Mi.bO_s, Mi.rO_f, Mi.rO_t, Mi.dEqA_eq, Mi.eqN_0, Mi.eqN_1, Mi.eqN_2, Mi.eqN_3, Mi.eqB_ins, Mi.eqB_tt, Mi.eqB_ll, Mi.eqB_int, Mi.eqB_str, Mi.eqB_bl, Mi.eqB_non, Mi.eqK_ii, Mi.eqK_ss, Mi.eqK_bb, Mi.eqK_nn, Mi.eqK_ni, Mi.eqK_in, Mi.eqK_ns, Mi.eqK_sn, Mi.eqK_is, Mi.eqK_si, Mi.eqK_nt, Mi.eqK_nl, Mi.eqB_tn, Mi.eqB_ln, Mi.eqLs_nil, Mi.eqLs_nc, Mi.eqLs_cn, Mi.eqLs_cc, Mi.itE_int, Mi.itE_str, Mi.itE_bl, Mi.itE_non, Mi.appT, Mi.asB, Mi.mMakeK, Mi.mDic, Option.bind_some, tn_fD, isub_FF, dFld_prime]
theorem e_FeqX {p : Int} {d : D} (h : isub d.tn (.c "Field") = false) : m_Field___eq__ [fD p, d] = .ok (.pl (.bl false)) := by
  unfold m_Field___eq__ b_Field___eq__
  simp only [Mi.runM, Mi.runI, Mi.runR, Mi.outF, Mi.outI, Mi.outR, Mi.startE, Mi.bnd, Mi.ret, Mi.lift, Mi.fail, Mi.mVar, Mi.mC, Mi.mBin, Mi.mBinN, Mi.mUn, Mi.mFld, Mi.mFrz, Mi.mB, Mi.tru, Mi.mAnd, Mi.mOr, Mi.mNot, Mi.mAndV, Mi.mOrV, Mi.mNotV, Mi.mIf, Mi.mChain, Mi.mNil, Mi.mCons, Mi.mTup, Mi.mLst, Mi.mCB, Mi.mCBn, Mi.mIdxV, Mi.mSkip, Mi.thenF, Mi.mSeq, Mi.sto, Mi.mAsg, Mi.mAsgN, Mi.two, Mi.mPar, Mi.mDrop, Mi.mRet, Mi.mRetN, Mi.mRetV, Mi.mIfS, Mi.againF, Mi.gV, Mi.gsN, Mi.gsC, Mi.gT, Mi.mAsgT, Mi.tgt, Mi.mCall, Mi.frzR, Mi.newR, Mi.mCallN, Mi.recv, Mi.mMeth, Mi.mMethN, Mi.mMake, Mi.callR, Mi.mCallR, Mi.newM, Mi.mCallRN, Mi.mApp, Mi.mRev, Mi.setAt, Mi.mSetV, Mi.mSetF, Mi.mAug, Mi.one, Mi.mRaise, Mi.mRaise0, Mi.mTry, Mi.noEx, Mi.endX, Mi.inX, Mi.mTryAs, Mi.mXf, Mi.dI, Mi.dIc, Mi.dAdd, Mi.dSub, Mi.dLt, Mi.dLe, Mi.dGt, Mi.dGe, Mi.dMul, Mi.dDiv, Mi.dMod, Mi.dPow, Mi.dNeg, Mi.sEq, Mi.ofB, Mi.dEq, Mi.dNe, Mi.isNon, Mi.dIsN, Mi.dNotN, Mi.dInt, Mi.dI1, Mi.dI2, Mi.dAbs, Mi.dMin, Mi.dMax, Mi.dGcd, Mi.dLen1, Mi.dLen, Mi.mLenV, Mi.mIsi, Mi.dIx, Mi.opC, Mi.negC, Mi.eqC, Mi.ipC, Mi.Rv.d, Mi.mNoP, Mi.asI, Mi.mPart, Mi.mSlL, Mi.asL, Mi.asQ, Mi.mItQ, Mi.mItA, Mi.mFor, Mi.putD, List.map_cons, List.map_nil, List.length_cons, List.length_nil, List.replicate, List.cons_append, List.nil_append, List.getElem?_cons_zero, List.getElem?_cons_succ, List.set_cons_zero, List.set_cons_succ, Nat.sub_self, Nat.reduceAdd, Nat.reduceSub, Nat.reduceEqDiff, List.reverse_cons, id, Bool.not_true, Bool.not_false, if_true, if_false, Bool.false_eq_true, reduceIte, true_and, and_true, and_self, Option.toList, List.all_cons, List.all_nil, Bool.and_true, Bool.true_and, Bool.and_self, decide_true, decide_false, decide_eq_true_eq, reduceCtorEq, Mi.bo_pl, Mi.bo_ow, Mi.bo_rf, Mi.bo_un, Mi.sa_ow, Mi.sa_rf, Mi.sa_pl, Mi.oa_un, Mi.oa_pl, Mi.oa_ow, Mi.co_ow, Mi.co_rf, Mi.co_pl, Mi.st_ow, Mi.st_rf, Mi.lv_ow, Mi.lv_rf, Mi.lv_pl, Mi.ne_un, Mi.ne_pl, Mi.ne_ow, Mi.ne_rf, Mi.ne_se, Mi.ne_ex, Mi.th_un, Mi.th_pl, Mi.ie_ex, Mi.xf_ex, ne_eq, not_false_eq_true, not_true_eq_false, Mi.clr, Mi.putS, Option.isSome_some, Option.some.injEq, Int.reduceEq, Int.reduceNe, Int.reduceLT, Int.reduceLE, Nat.reduceLT, Nat.reduceLeDiff, decide_not, Bool.not_eq_true, Bool.decide_eq_true, Mi.ib_t, Mi.ib_f, Mi.mkR_ex, Mi.bO_s, Mi.rO_f, Mi.rO_t, Mi.dEqA_eq, Mi.eqN_0, Mi.eqN_1, Mi.eqN_2, Mi.eqN_3, Mi.eqB_ins, Mi.eqB_tt, Mi.eqB_ll, Mi.eqB_int, Mi.eqB_str, Mi.eqB_bl, Mi.eqB_non, Mi.eqK_ii, Mi.eqK_ss, Mi.eqK_bb, Mi.eqK_nn, Mi.eqK_ni, Mi.eqK_in, Mi.eqK_ns, Mi.eqK_sn, Mi.eqK_is, Mi.eqK_si, Mi.eqK_nt, Mi.eqK_nl, Mi.eqB_tn, Mi.eqB_ln, Mi.eqLs_nil, Mi.eqLs_nc, Mi.eqLs_cn, Mi.eqLs_cc, Mi.itE_int, Mi.itE_str, Mi.itE_bl, Mi.itE_non, Mi.appT, Mi.asB, Mi.mMakeK, Mi.mDic, Option.bind_some, h]
theorem eq_of_dvd {p x y : Int} (hx : 0 ≤ x) (hx2 : x < p) (hy : 0 ≤ y) (hy2 : y < p) (h : p ∣ x - y) : x = y := by
  obtain ⟨c, hc⟩ := h
  have : c = 0 := by
    rcases Int.lt_trichotomy c 0 with z | z | z
    · have := Int.mul_le_mul_of_nonneg_left (by omega : c ≤ -1) (by omega : 0 ≤ p)
      omega
    · exact z
    · have := Int.mul_le_mul_of_nonneg_left (by omega : 1 ≤ c) (by omega : 0 ≤ p)
      omega
  subst this
  omega
theorem inv_uniq {p v x y : Int} (hx : 0 ≤ x) (hx2 : x < p) (hy : 0 ≤ y) (hy2 : y < p) (h1 : p ∣ x * v - 1) (h2 : p ∣ y * v - 1) : x = y := by
  refine eq_of_dvd hx hx2 hy hy2 ?_
  have : x - y = x * (-(y * v - 1)) - y * (-(x * v - 1)) := by grind
  rw [this]
  exact Int.dvd_sub (Int.dvd_mul_of_dvd_right (Int.dvd_neg.mpr h2)) (Int.dvd_mul_of_dvd_right (Int.dvd_neg.mpr h1))
open Classical in
/-- the inverse modulo p -/
noncomputable def zinv (p v : Int) : Int := if h : ∃ x : Int, 0 ≤ x ∧ x < p ∧ p ∣ x * v - 1 then h.choose else 0
theorem zinv_of {p v x : Int} (h0 : 0 ≤ x) (h1 : x < p) (h2 : p ∣ x * v - 1) : zinv p v = x := by
  have hx : ∃ x : Int, 0 ≤ x ∧ x < p ∧ p ∣ x * v - 1 := ⟨x, h0, h1, h2⟩
  unfold zinv
  rw [dif_pos hx]
  obtain ⟨a, b, c⟩ := hx.choose_spec
  exact inv_uniq a b h0 h1 c h2
theorem e_inverse {v p : Int} (h : PF p) (hv : ¬ v % p = 0) : m_inverse [.int v, .int p] = .ok (.pl (.int (zinv p v))) := by
  obtain ⟨x, h0, h1, h2, e⟩ := inv_ex h.pr h.lt hv
  rw [zinv_of h0 h1 h2, e]
theorem zinv_ok {v p : Int} (h : PF p) (hv : ¬ v % p = 0) : 0 ≤ zinv p v ∧ zinv p v < p ∧ p ∣ zinv p v * v - 1 := by
  obtain ⟨x, h0, h1, h2, e⟩ := inv_ex h.pr h.lt hv
  rw [zinv_of h0 h1 h2]
  exact ⟨h0, h1, h2⟩
theorem zinv_mul {v p : Int} (h : PF p) (hv : ¬ v % p = 0) (x : Int) : mulOk x (zinv p v) = true := by
  have := zinv_ok h hv
  have := h.le
  exact mulOk_r (by omega) (by omega)
/-- the residue of a fraction -/
noncomputable def res (p : Int) (q : Rat) : Int := q.num * zinv p q.den % p
theorem res_lo {p : Int} (h : PF p) (q : Rat) : 0 ≤ res p q := Int.emod_nonneg _ h.ne
theorem res_hi {p : Int} (h : PF p) (q : Rat) : res p q < p := Int.emod_lt_of_pos _ h.pos
theorem e_numI0 (i : Int) : m_Field_number [fD 0, .int i] = .ok (.pl (rD (i : Rat))) := by
  unfold m_Field_number b_Field_number
  simp only [Mi.runM, Mi.runI, Mi.runR, Mi.outF, Mi.outI, Mi.outR, Mi.startE, Mi.bnd, Mi.ret, Mi.lift, Mi.fail, Mi.mVar, Mi.mC, Mi.mBin, Mi.mBinN, Mi.mUn, Mi.mFld, Mi.mFrz, Mi.mB, Mi.tru, Mi.mAnd, Mi.mOr, Mi.mNot, Mi.mAndV, Mi.mOrV, Mi.mNotV, Mi.mIf, Mi.mChain, Mi.mNil, Mi.mCons, Mi.mTup, Mi.mLst, Mi.mCB, Mi.mCBn, Mi.mIdxV, Mi.mSkip, Mi.thenF, Mi.mSeq, Mi.sto, Mi.mAsg, Mi.mAsgN, Mi.two, Mi.mPar, Mi.mDrop, Mi.mRet, Mi.mRetN, Mi.mRetV, Mi.mIfS, Mi.againF, Mi.gV, Mi.gsN, Mi.gsC, Mi.gT, Mi.mAsgT, Mi.tgt, Mi.mCall, Mi.frzR, Mi.newR, Mi.mCallN, Mi.recv, Mi.mMeth, Mi.mMethN, Mi.mMake, Mi.callR, Mi.mCallR, Mi.newM, Mi.mCallRN, Mi.mApp, Mi.mRev, Mi.setAt, Mi.mSetV, Mi.mSetF, Mi.mAug, Mi.one, Mi.mRaise, Mi.mRaise0, Mi.mTry, Mi.noEx, Mi.endX, Mi.inX, Mi.mTryAs, Mi.mXf, Mi.dI, Mi.dIc, Mi.dAdd, Mi.dSub, Mi.dLt, Mi.dLe, Mi.dGt, Mi.dGe, Mi.dMul, Mi.dDiv, Mi.dMod, Mi.dPow, Mi.dNeg, Mi.sEq, Mi.ofB, Mi.dEq, Mi.dNe, Mi.isNon, Mi.dIsN, Mi.dNotN, Mi.dInt, Mi.dI1, Mi.dI2, Mi.dAbs, Mi.dMin, Mi.dMax, Mi.dGcd, Mi.dLen1, Mi.dLen, Mi.mLenV, Mi.mIsi, Mi.dIx, Mi.opC, Mi.negC, Mi.eqC, Mi.ipC, Mi.Rv.d, Mi.mNoP, Mi.asI, Mi.mPart, Mi.mSlL, Mi.asL, Mi.asQ, Mi.mItQ, Mi.mItA, Mi.mFor, Mi.putD, List.map_cons, List.map_nil, List.length_cons, List.length_nil, List.replicate, List.cons_append, List.nil_append, List.getElem?_cons_zero, List.getElem?_cons_succ, List.set_cons_zero, List.set_cons_succ, Nat.sub_self, Nat.reduceAdd, Nat.reduceSub, Nat.reduceEqDiff, List.reverse_cons, id, Bool.not_true, Bool.not_false, if_true, if_false, Bool.false_eq_true, reduceIte, true_and, and_true, and_self, Option.toList, List.all_cons, List.all_nil, Bool.and_true, Bool.true_and, Bool.and_self, decide_true, decide_false, decide_eq_true_eq, reduceCtorEq, Mi.bo_pl, Mi.bo_ow, Mi.bo_rf, Mi.bo_un, Mi.sa_ow, Mi.sa_rf, Mi.sa_pl, Mi.oa_un, Mi.oa_pl, Mi.oa_ow, Mi.co_ow, Mi.co_rf, Mi.co_pl, Mi.st_ow, Mi.st_rf, Mi.lv_ow, Mi.lv_rf, Mi.lv_pl, Mi.ne_un, Mi.ne_pl, Mi.ne_ow, Mi.ne_rf, Mi.ne_se, Mi.ne_ex, Mi.th_un, Mi.th_pl, Mi.ie_ex, Mi.xf_ex, ne_eq, not_false_eq_true, not_true_eq_false, Mi.clr, Mi.putS, Option.isSome_some, Option.some.injEq, Int.reduceEq, Int.reduceNe, Int.reduceLT, Int.reduceLE, Nat.reduceLT, Nat.reduceLeDiff, decide_not, Bool.not_eq_true, Bool.decide_eq_true, Mi.ib_t, Mi.ib_f, Mi.mkR_ex, Mi.bO_s, Mi.rO_f, Mi.rO_t, Mi.dEqA_eq, Mi.eqN_0, Mi.eqN_1, Mi.eqN_2, Mi.eqN_3, Mi.eqB_ins, Mi.eqB_tt, Mi.eqB_ll, Mi.eqB_int, Mi.eqB_str, Mi.eqB_bl, Mi.eqB_non, Mi.eqK_ii, Mi.eqK_ss, Mi.eqK_bb, Mi.eqK_nn, Mi.eqK_ni, Mi.eqK_in, Mi.eqK_ns, Mi.eqK_sn, Mi.eqK_is, Mi.eqK_si, Mi.eqK_nt, Mi.eqK_nl, Mi.eqB_tn, Mi.eqB_ln, Mi.eqLs_nil, Mi.eqLs_nc, Mi.eqLs_cn, Mi.eqLs_cc, Mi.itE_int, Mi.itE_str, Mi.itE_bl, Mi.itE_non, Mi.appT, Mi.asB, Mi.mMakeK, Mi.mDic, Option.bind_some, e_is_integer, isIntD, dFld_prime, e_init1, mkR_rF]
theorem e_numI {p : Int} (h : PF p) (i : Int) : m_Field_number [fD p, .int i] = .ok (.pl (.int (i % p))) := by
  unfold m_Field_number b_Field_number
  simp only [Mi.runM, Mi.runI, Mi.runR, Mi.outF, Mi.outI, Mi.outR, Mi.startE, Mi.bnd, Mi.ret, Mi.lift, Mi.fail, Mi.mVar, Mi.mC, Mi.mBin, Mi.mBinN, Mi.mUn, Mi.mFld, Mi.mFrz, Mi.mB, Mi.tru, Mi.mAnd, Mi.mOr, Mi.mNot, Mi.mAndV, Mi.mOrV, Mi.mNotV, Mi.mIf, Mi.mChain, Mi.mNil, Mi.mCons, Mi.mTup, Mi.mLst, Mi.mCB, Mi.mCBn, Mi.mIdxV, Mi.mSkip, Mi.thenF, Mi.mSeq, Mi.sto, Mi.mAsg, Mi.mAsgN, Mi.two, Mi.mPar, Mi.mDrop, Mi.mRet, Mi.mRetN, Mi.mRetV, Mi.mIfS, Mi.againF, Mi.gV, Mi.gsN, Mi.gsC, Mi.gT, Mi.mAsgT, Mi.tgt, Mi.mCall, Mi.frzR, Mi.newR, Mi.mCallN, Mi.recv, Mi.mMeth, Mi.mMethN, Mi.mMake, Mi.callR, Mi.mCallR, Mi.newM, Mi.mCallRN, Mi.mApp, Mi.mRev, Mi.setAt, Mi.mSetV, Mi.mSetF, Mi.mAug, Mi.one, Mi.mRaise, Mi.mRaise0, Mi.mTry, Mi.noEx, Mi.endX, Mi.inX, Mi.mTryAs, Mi.mXf, Mi.dI, Mi.dIc, Mi.dAdd, Mi.dSub, Mi.dLt, Mi.dLe, Mi.dGt, Mi.dGe, Mi.dMul, Mi.dDiv, Mi.dMod, Mi.dPow, Mi.dNeg, Mi.sEq, Mi.ofB, Mi.dEq, Mi.dNe, Mi.isNon, Mi.dIsN, Mi.dNotN, Mi.dInt, Mi.dI1, Mi.dI2, Mi.dAbs, Mi.dMin, Mi.dMax, Mi.dGcd, Mi.dLen1, Mi.dLen, Mi.mLenV, Mi.mIsi, Mi.dIx, Mi.opC, Mi.negC, Mi.eqC, Mi.ipC, Mi.Rv.d, Mi.mNoP, Mi.asI, Mi.mPart, Mi.mSlL, Mi.asL, Mi.asQ, Mi.mItQ, Mi.mItA, Mi.mFor, Mi.putD, List.map_cons, List.map_nil, List.length_cons, List.length_nil, List.replicate, List.cons_append, List.nil_append, List.getElem?_cons_zero, List.getElem?_cons_succ, List.set_cons_zero, List.set_cons_succ, Nat.sub_self, Nat.reduceAdd, Nat.reduceSub, Nat.reduceEqDiff, List.reverse_cons, id, Bool.not_true, Bool.not_false, if_true, if_false, Bool.false_eq_true, reduceIte, true_and, and_true, and_self, Option.toList, List.all_cons, List.all_nil, Bool.and_true, Bool.true_and, Bool.and_self, decide_true, decide_false, decide_eq_true_eq, reduceCtorEq, Mi.bo_pl, Mi.bo_ow, Mi.bo_rf, Mi.bo_un, Mi.sa_ow, Mi.sa_rf, Mi.sa_pl, Mi.oa_un, Mi.oa_pl, Mi.oa_ow, Mi.co_ow, Mi.co_rf, Mi.co_pl, Mi.st_ow, Mi.st_rf, Mi.lv_ow, Mi.lv_rf, Mi.lv_pl, Mi.ne_un, Mi.ne_pl, Mi.ne_ow, Mi.ne_rf, Mi.ne_se, Mi.ne_ex, Mi.th_un, Mi.th_pl, Mi.ie_ex, Mi.xf_ex, ne_eq, not_false_eq_true, not_true_eq_false, Mi.clr, Mi.putS, Option.isSome_some, Option.some.injEq, Int.reduceEq, Int.reduceNe, Int.reduceLT, Int.reduceLE, Nat.reduceLT, Nat.reduceLeDiff, decide_not, Bool.not_eq_true, Bool.decide_eq_true, Mi.ib_t, Mi.ib_f, Mi.mkR_ex, Mi.bO_s, Mi.rO_f, Mi.rO_t, Mi.dEqA_eq, Mi.eqN_0, Mi.eqN_1, Mi.eqN_2, Mi.eqN_3, Mi.eqB_ins, Mi.eqB_tt, Mi.eqB_ll, Mi.eqB_int, Mi.eqB_str, Mi.eqB_bl, Mi.eqB_non, Mi.eqK_ii, Mi.eqK_ss, Mi.eqK_bb, Mi.eqK_nn, Mi.eqK_ni, Mi.eqK_in, Mi.eqK_ns, Mi.eqK_sn, Mi.eqK_is, Mi.eqK_si, Mi.eqK_nt, Mi.eqK_nl, Mi.eqB_tn, Mi.eqB_ln, Mi.eqLs_nil, Mi.eqLs_nc, Mi.eqLs_cn, Mi.eqLs_cc, Mi.itE_int, Mi.itE_str, Mi.itE_bl, Mi.itE_non, Mi.appT, Mi.asB, Mi.mMakeK, Mi.mDic, Option.bind_some, e_is_integer, isIntD, dFld_prime, h.ne, iMod_eq, fmod_pos h.pos]
theorem e_numR0 (q : Rat) : m_Field_number [fD 0, rD q] = .ok (.pl (rD q)) := by
  unfold m_Field_number b_Field_number
  simp only [Mi.runM, Mi.runI, Mi.runR, Mi.outF, Mi.outI, Mi.outR, Mi.startE, Mi.bnd, Mi.ret, Mi.lift, Mi.fail, Mi.mVar, Mi.mC, Mi.mBin, Mi.mBinN, Mi.mUn, Mi.mFld, Mi.mFrz, Mi.mB, Mi.tru, Mi.mAnd, Mi.mOr, Mi.mNot, Mi.mAndV, Mi.mOrV, Mi.mNotV, Mi.mIf, Mi.mChain, Mi.mNil, Mi.mCons, Mi.mTup, Mi.mLst, Mi.mCB, Mi.mCBn, Mi.mIdxV, Mi.mSkip, Mi.thenF, Mi.mSeq, Mi.sto, Mi.mAsg, Mi.mAsgN, Mi.two, Mi.mPar, Mi.mDrop, Mi.mRet, Mi.mRetN, Mi.mRetV, Mi.mIfS, Mi.againF, Mi.gV, Mi.gsN, Mi.gsC, Mi.gT, Mi.mAsgT, Mi.tgt, Mi.mCall, Mi.frzR, Mi.newR, Mi.mCallN, Mi.recv, Mi.mMeth, Mi.mMethN, Mi.mMake, Mi.callR, Mi.mCallR, Mi.newM, Mi.mCallRN, Mi.mApp, Mi.mRev, Mi.setAt, Mi.mSetV, Mi.mSetF, Mi.mAug, Mi.one, Mi.mRaise, Mi.mRaise0, Mi.mTry, Mi.noEx, Mi.endX, Mi.inX, Mi.mTryAs, Mi.mXf, Mi.dI, Mi.dIc, Mi.dAdd, Mi.dSub, Mi.dLt, Mi.dLe, Mi.dGt, Mi.dGe, Mi.dMul, Mi.dDiv, Mi.dMod, Mi.dPow, Mi.dNeg, Mi.sEq, Mi.ofB, Mi.dEq, Mi.dNe, Mi.isNon, Mi.dIsN, Mi.dNotN, Mi.dInt, Mi.dI1, Mi.dI2, Mi.dAbs, Mi.dMin, Mi.dMax, Mi.dGcd, Mi.dLen1, Mi.dLen, Mi.mLenV, Mi.mIsi, Mi.dIx, Mi.opC, Mi.negC, Mi.eqC, Mi.ipC, Mi.Rv.d, Mi.mNoP, Mi.asI, Mi.mPart, Mi.mSlL, Mi.asL, Mi.asQ, Mi.mItQ, Mi.mItA, Mi.mFor, Mi.putD, List.map_cons, List.map_nil, List.length_cons, List.length_nil, List.replicate, List.cons_append, List.nil_append, List.getElem?_cons_zero, List.getElem?_cons_succ, List.set_cons_zero, List.set_cons_succ, Nat.sub_self, Nat.reduceAdd, Nat.reduceSub, Nat.reduceEqDiff, List.reverse_cons, id, Bool.not_true, Bool.not_false, if_true, if_false, Bool.false_eq_true, reduceIte, true_and, and_true, and_self, Option.toList, List.all_cons, List.all_nil, Bool.and_true, Bool.true_and, Bool.and_self, decide_true, decide_false, decide_eq_true_eq, reduceCtorEq, Mi.bo_pl, Mi.bo_ow, Mi.bo_rf, Mi.bo_un, Mi.sa_ow, Mi.sa_rf, Mi.sa_pl, Mi.oa_un, Mi.oa_pl, Mi.oa_ow, Mi.co_ow, Mi.co_rf, Mi.co_pl, Mi.st_ow, Mi.st_rf, Mi.lv_ow, Mi.lv_rf, Mi.lv_pl, Mi.ne_un, Mi.ne_pl, Mi.ne_ow, Mi.ne_rf, Mi.ne_se, Mi.ne_ex, Mi.th_un, Mi.th_pl, Mi.ie_ex, Mi.xf_ex, ne_eq, not_false_eq_true, not_true_eq_false, Mi.clr, Mi.putS, Option.isSome_some, Option.some.injEq, Int.reduceEq, Int.reduceNe, Int.reduceLT, Int.reduceLE, Nat.reduceLT, Nat.reduceLeDiff, decide_not, Bool.not_eq_true, Bool.decide_eq_true, Mi.ib_t, Mi.ib_f, Mi.mkR_ex, Mi.bO_s, Mi.rO_f, Mi.rO_t, Mi.dEqA_eq, Mi.eqN_0, Mi.eqN_1, Mi.eqN_2, Mi.eqN_3, Mi.eqB_ins, Mi.eqB_tt, Mi.eqB_ll, Mi.eqB_int, Mi.eqB_str, Mi.eqB_bl, Mi.eqB_non, Mi.eqK_ii, Mi.eqK_ss, Mi.eqK_bb, Mi.eqK_nn, Mi.eqK_ni, Mi.eqK_in, Mi.eqK_ns, Mi.eqK_sn, Mi.eqK_is, Mi.eqK_si, Mi.eqK_nt, Mi.eqK_nl, Mi.eqB_tn, Mi.eqB_ln, Mi.eqLs_nil, Mi.eqLs_nc, Mi.eqLs_cn, Mi.eqLs_cc, Mi.itE_int, Mi.itE_str, Mi.itE_bl, Mi.itE_non, Mi.appT, Mi.asB, Mi.mMakeK, Mi.mDic, Option.bind_some, e_is_integer, isIntD_rD, tn_rD, isub_RR, dFld_prime]
theorem e_numR {p : Int} (h : PF p) (q : Rat) (hq : ¬ (q.den : Int) % p = 0) : m_Field_number [fD p, rD q] = .ok (.pl (.int (res p q))) := by
  unfold m_Field_number b_Field_number res
  simp only [Mi.runM, Mi.runI, Mi.runR, Mi.outF, Mi.outI, Mi.outR, Mi.startE, Mi.bnd, Mi.ret, Mi.lift, Mi.fail, Mi.mVar, Mi.mC, Mi.mBin, Mi.mBinN, Mi.mUn, Mi.mFld, Mi.mFrz, Mi.mB, Mi.tru, Mi.mAnd, Mi.mOr, Mi.mNot, Mi.mAndV, Mi.mOrV, Mi.mNotV, Mi.mIf, Mi.mChain, Mi.mNil, Mi.mCons, Mi.mTup, Mi.mLst, Mi.mCB, Mi.mCBn, Mi.mIdxV, Mi.mSkip, Mi.thenF, Mi.mSeq, Mi.sto, Mi.mAsg, Mi.mAsgN, Mi.two, Mi.mPar, Mi.mDrop, Mi.mRet, Mi.mRetN, Mi.mRetV, Mi.mIfS, Mi.againF, Mi.gV, Mi.gsN, Mi.gsC, Mi.gT, Mi.mAsgT, Mi.tgt, Mi.mCall, Mi.frzR, Mi.newR, Mi.mCallN, Mi.recv, Mi.mMeth, Mi.mMethN, Mi.mMake, Mi.callR, Mi.mCallR, Mi.newM, Mi.mCallRN, Mi.mApp, Mi.mRev, Mi.setAt, Mi.mSetV, Mi.mSetF, Mi.mAug, Mi.one, Mi.mRaise, Mi.mRaise0, Mi.mTry, Mi.noEx, Mi.endX, Mi.inX, Mi.mTryAs, Mi.mXf, Mi.dI, Mi.dIc, Mi.dAdd, Mi.dSub, Mi.dLt, Mi.dLe, Mi.dGt, Mi.dGe, Mi.dMul, Mi.dDiv, Mi.dMod, Mi.dPow, Mi.dNeg, Mi.sEq, Mi.ofB, Mi.dEq, Mi.dNe, Mi.isNon, Mi.dIsN, Mi.dNotN, Mi.dInt, Mi.dI1, Mi.dI2, Mi.dAbs, Mi.dMin, Mi.dMax, Mi.dGcd, Mi.dLen1, Mi.dLen, Mi.mLenV, Mi.mIsi, Mi.dIx, Mi.opC, Mi.negC, Mi.eqC, Mi.ipC, Mi.Rv.d, Mi.mNoP, Mi.asI, Mi.mPart, Mi.mSlL, Mi.asL, Mi.asQ, Mi.mItQ, Mi.mItA, Mi.mFor, Mi.putD, List.map_cons, List.map_nil, List.length_cons, List.length_nil, List.replicate, List.cons_append, List.nil_append, List.getElem?_cons_zero, List.getElem?_cons_succ, List.set_cons_zero, List.set_cons_succ, Nat.sub_self, Nat.reduceAdd, Nat.reduceSub, Nat.reduceEqDiff, List.reverse_cons, id, Bool.not_true, Bool.not_false, if_true, if_false, Bool.false_eq_true, reduceIte, true_and, and_true, and_self, Option.toList, List.all_cons, List.all_nil, Bool.and_true, Bool.true_and, Bool.and_self, decide_true, decide_false, decide_eq_true_eq, reduceCtorEq, Mi.bo_pl, Mi.bo_ow, Mi.bo_rf, Mi.bo_un, Mi.sa_ow, Mi.sa_rf, Mi.sa_pl, Mi.oa_un, Mi.oa_pl, Mi.oa_ow, Mi.co_ow, Mi.co_rf, Mi.co_pl, Mi.st_ow, Mi.st_rf, Mi.lv_ow, Mi.lv_rf, Mi.lv_pl, Mi.ne_un, Mi.ne_pl, Mi.ne_ow, Mi.ne_rf, Mi.ne_se, Mi.ne_ex, Mi.th_un, Mi.th_pl, Mi.ie_ex, Mi.xf_ex, ne_eq, not_false_eq_true, not_true_eq_false, Mi.clr, Mi.putS, Option.isSome_some, Option.some.injEq, Int.reduceEq, Int.reduceNe, Int.reduceLT, Int.reduceLE, Nat.reduceLT, Nat.reduceLeDiff, decide_not, Bool.not_eq_true, Bool.decide_eq_true, Mi.ib_t, Mi.ib_f, Mi.mkR_ex, Mi.bO_s, Mi.rO_f, Mi.rO_t, Mi.dEqA_eq, Mi.eqN_0, Mi.eqN_1, Mi.eqN_2, Mi.eqN_3, Mi.eqB_ins, Mi.eqB_tt, Mi.eqB_ll, Mi.eqB_int, Mi.eqB_str, Mi.eqB_bl, Mi.eqB_non, Mi.eqK_ii, Mi.eqK_ss, Mi.eqK_bb, Mi.eqK_nn, Mi.eqK_ni, Mi.eqK_in, Mi.eqK_ns, Mi.eqK_sn, Mi.eqK_is, Mi.eqK_si, Mi.eqK_nt, Mi.eqK_nl, Mi.eqB_tn, Mi.eqB_ln, Mi.eqLs_nil, Mi.eqLs_nc, Mi.eqLs_cn, Mi.eqLs_cc, Mi.itE_int, Mi.itE_str, Mi.itE_bl, Mi.itE_non, Mi.appT, Mi.asB, Mi.mMakeK, Mi.mDic, Option.bind_some, e_is_integer, isIntD_rD, tn_rD, isub_RR, dFld_prime, dFld_top, dFld_bottom, h.ne, iMod_eq, fmod_pos h.pos, hq, e_inverse h hq, zinv_mul h hq]
theorem e_numRx {p : Int} (h : PF p) (q : Rat) (hq : (q.den : Int) % p = 0) : m_Field_number [fD p, rD q] = .ex "NoNumber" none := by
  unfold m_Field_number b_Field_number
  simp only [Mi.runM, Mi.runI, Mi.runR, Mi.outF, Mi.outI, Mi.outR, Mi.startE, Mi.bnd, Mi.ret, Mi.lift, Mi.fail, Mi.mVar, Mi.mC, Mi.mBin, Mi.mBinN, Mi.mUn, Mi.mFld, Mi.mFrz, Mi.mB, Mi.tru, Mi.mAnd, Mi.mOr, Mi.mNot, Mi.mAndV, Mi.mOrV, Mi.mNotV, Mi.mIf, Mi.mChain, Mi.mNil, Mi.mCons, Mi.mTup, Mi.mLst, Mi.mCB, Mi.mCBn, Mi.mIdxV, Mi.mSkip, Mi.thenF, Mi.mSeq, Mi.sto, Mi.mAsg, Mi.mAsgN, Mi.two, Mi.mPar, Mi.mDrop, Mi.mRet, Mi.mRetN, Mi.mRetV, Mi.mIfS, Mi.againF, Mi.gV, Mi.gsN, Mi.gsC, Mi.gT, Mi.mAsgT, Mi.tgt, Mi.mCall, Mi.frzR, Mi.newR, Mi.mCallN, Mi.recv, Mi.mMeth, Mi.mMethN, Mi.mMake, Mi.callR, Mi.mCallR, Mi.newM, Mi.mCallRN, Mi.mApp, Mi.mRev, Mi.setAt, Mi.mSetV, Mi.mSetF, Mi.mAug, Mi.one, Mi.mRaise, Mi.mRaise0, Mi.mTry, Mi.noEx, Mi.endX, Mi.inX, Mi.mTryAs, Mi.mXf, Mi.dI, Mi.dIc, Mi.dAdd, Mi.dSub, Mi.dLt, Mi.dLe, Mi.dGt, Mi.dGe, Mi.dMul, Mi.dDiv, Mi.dMod, Mi.dPow, Mi.dNeg, Mi.sEq, Mi.ofB, Mi.dEq, Mi.dNe, Mi.isNon, Mi.dIsN, Mi.dNotN, Mi.dInt, Mi.dI1, Mi.dI2, Mi.dAbs, Mi.dMin, Mi.dMax, Mi.dGcd, Mi.dLen1, Mi.dLen, Mi.mLenV, Mi.mIsi, Mi.dIx, Mi.opC, Mi.negC, Mi.eqC, Mi.ipC, Mi.Rv.d, Mi.mNoP, Mi.asI, Mi.mPart, Mi.mSlL, Mi.asL, Mi.asQ, Mi.mItQ, Mi.mItA, Mi.mFor, Mi.putD, List.map_cons, List.map_nil, List.length_cons, List.length_nil, List.replicate, List.cons_append, List.nil_append, List.getElem?_cons_zero, List.getElem?_cons_succ, List.set_cons_zero, List.set_cons_succ, Nat.sub_self, Nat.reduceAdd, Nat.reduceSub, Nat.reduceEqDiff, List.reverse_cons, id, Bool.not_true, Bool.not_false, if_true, if_false, Bool.false_eq_true, reduceIte, true_and, and_true, and_self, Option.toList, List.all_cons, List.all_nil, Bool.and_true, Bool.true_and, Bool.and_self, decide_true, decide_false, decide_eq_true_eq, reduceCtorEq, Mi.bo_pl, Mi.bo_ow, Mi.bo_rf, Mi.bo_un, Mi.sa_ow, Mi.sa_rf, Mi.sa_pl, Mi.oa_un, Mi.oa_pl, Mi.oa_ow, Mi.co_ow, Mi.co_rf, Mi.co_pl, Mi.st_ow, Mi.st_rf, Mi.lv_ow, Mi.lv_rf, Mi.lv_pl, Mi.ne_un, Mi.ne_pl, Mi.ne_ow, Mi.ne_rf, Mi.ne_se, Mi.ne_ex, Mi.th_un, Mi.th_pl, Mi.ie_ex, Mi.xf_ex, ne_eq, not_false_eq_true, not_true_eq_false, Mi.clr, Mi.putS, Option.isSome_some, Option.some.injEq, Int.reduceEq, Int.reduceNe, Int.reduceLT, Int.reduceLE, Nat.reduceLT, Nat.reduceLeDiff, decide_not, Bool.not_eq_true, Bool.decide_eq_true, Mi.ib_t, Mi.ib_f, Mi.mkR_ex, Mi.bO_s, Mi.rO_f, Mi.rO_t, Mi.dEqA_eq, Mi.eqN_0, Mi.eqN_1, Mi.eqN_2, Mi.eqN_3, Mi.eqB_ins, Mi.eqB_tt, Mi.eqB_ll, Mi.eqB_int, Mi.eqB_str, Mi.eqB_bl, Mi.eqB_non, Mi.eqK_ii, Mi.eqK_ss, Mi.eqK_bb, Mi.eqK_nn, Mi.eqK_ni, Mi.eqK_in, Mi.eqK_ns, Mi.eqK_sn, Mi.eqK_is, Mi.eqK_si, Mi.eqK_nt, Mi.eqK_nl, Mi.eqB_tn, Mi.eqB_ln, Mi.eqLs_nil, Mi.eqLs_nc, Mi.eqLs_cn, Mi.eqLs_cc, Mi.itE_int, Mi.itE_str, Mi.itE_bl, Mi.itE_non, Mi.appT, Mi.asB, Mi.mMakeK, Mi.mDic, Option.bind_some, e_is_integer, isIntD_rD, tn_rD, isub_RR, dFld_prime, dFld_top, dFld_bottom, h.ne, iMod_eq, fmod_pos h.pos, hq]
theorem e_numX {p : Int} {d : D} (h1 : isIntD d = false) (h2 : isub d.tn (.c "Ratio") = false) : m_Field_number [fD p, d] = .ex "NoNumber" none := by
  unfold m_Field_number b_Field_number
  simp only [Mi.runM, Mi.runI, Mi.runR, Mi.outF, Mi.outI, Mi.outR, Mi.startE, Mi.bnd, Mi.ret, Mi.lift, Mi.fail, Mi.mVar, Mi.mC, Mi.mBin, Mi.mBinN, Mi.mUn, Mi.mFld, Mi.mFrz, Mi.mB, Mi.tru, Mi.mAnd, Mi.mOr, Mi.mNot, Mi.mAndV, Mi.mOrV, Mi.mNotV, Mi.mIf, Mi.mChain, Mi.mNil, Mi.mCons, Mi.mTup, Mi.mLst, Mi.mCB, Mi.mCBn, Mi.mIdxV, Mi.mSkip, Mi.thenF, Mi.mSeq, Mi.sto, Mi.mAsg, Mi.mAsgN, Mi.two, Mi.mPar, Mi.mDrop, Mi.mRet, Mi.mRetN, Mi.mRetV, Mi.mIfS, Mi.againF, Mi.gV, Mi.gsN, Mi.gsC, Mi.gT, Mi.mAsgT, Mi.tgt, Mi.mCall, Mi.frzR, Mi.newR, Mi.mCallN, Mi.recv, Mi.mMeth, Mi.mMethN, Mi.mMake, Mi.callR, Mi.mCallR, Mi.newM, Mi.mCallRN, Mi.mApp, Mi.mRev, Mi.setAt, Mi.mSetV, Mi.mSetF, Mi.mAug, Mi.one, Mi.mRaise, Mi.mRaise0, Mi.mTry, Mi.noEx, Mi.endX, Mi.inX, Mi.mTryAs, Mi.mXf, Mi.dI, Mi.dIc, Mi.dAdd, Mi.dSub, Mi.dLt, Mi.dLe, Mi.dGt, Mi.dGe, Mi.dMul, Mi.dDiv, Mi.dMod, Mi.dPow, Mi.dNeg, Mi.sEq, Mi.ofB, Mi.dEq, Mi.dNe, Mi.isNon, Mi.dIsN, Mi.dNotN, Mi.dInt, Mi.dI1, Mi.dI2, Mi.dAbs, Mi.dMin, Mi.dMax, Mi.dGcd, Mi.dLen1, Mi.dLen, Mi.mLenV, Mi.mIsi, Mi.dIx, Mi.opC, Mi.negC, Mi.eqC, Mi.ipC, Mi.Rv.d, Mi.mNoP, Mi.asI, Mi.mPart, Mi.mSlL, Mi.asL, Mi.asQ, Mi.mItQ, Mi.mItA, Mi.mFor, Mi.putD, List.map_cons, List.map_nil, List.length_cons, List.length_nil, List.replicate, List.cons_append, List.nil_append, List.getElem?_cons_zero, List.getElem?_cons_succ, List.set_cons_zero, List.set_cons_succ, Nat.sub_self, Nat.reduceAdd, Nat.reduceSub, Nat.reduceEqDiff, List.reverse_cons, id, Bool.not_true, Bool.not_false, if_true, if_false, Bool.false_eq_true, reduceIte, true_and, and_true, and_self, Option.toList, List.all_cons, List.all_nil, Bool.and_true, Bool.true_and, Bool.and_self, decide_true, decide_false, decide_eq_true_eq, reduceCtorEq, Mi.bo_pl, Mi.bo_ow, Mi.bo_rf, Mi.bo_un, Mi.sa_ow, Mi.sa_rf, Mi.sa_pl, Mi.oa_un, Mi.oa_pl, Mi.oa_ow, Mi.co_ow, Mi.co_rf, Mi.co_pl, Mi.st_ow, Mi.st_rf, Mi.lv_ow, Mi.lv_rf, Mi.lv_pl, Mi.ne_un, Mi.ne_pl, Mi.ne_ow, Mi.ne_rf, Mi.ne_se, Mi.ne_ex, Mi.th_un, Mi.th_pl, Mi.ie_ex, Mi.xf_ex, ne_eq, not_false_eq_true, not_true_eq_false, Mi.clr, Mi.putS, Option.isSome_some, Option.some.injEq, Int.reduceEq, Int.reduceNe, Int.reduceLT, Int.reduceLE, Nat.reduceLT, Nat.reduceLeDiff, decide_not, Bool.not_eq_true, Bool.decide_eq_true, Mi.ib_t, Mi.ib_f, Mi.mkR_ex, Mi.bO_s, Mi.rO_f, Mi.rO_t, Mi.dEqA_eq, Mi.eqN_0, Mi.eqN_1, Mi.eqN_2, Mi.eqN_3, Mi.eqB_ins, Mi.eqB_tt, Mi.eqB_ll, Mi.eqB_int, Mi.eqB_str, Mi.eqB_bl, Mi.eqB_non, Mi.eqK_ii, Mi.eqK_ss, Mi.eqK_bb, Mi.eqK_nn, Mi.eqK_ni, Mi.eqK_in, Mi.eqK_ns, Mi.eqK_sn, Mi.eqK_is, Mi.eqK_si, Mi.eqK_nt, Mi.eqK_nl, Mi.eqB_tn, Mi.eqB_ln, Mi.eqLs_nil, Mi.eqLs_nc, Mi.eqLs_cn, Mi.eqLs_cc, Mi.itE_int, Mi.itE_str, Mi.itE_bl, Mi.itE_non, Mi.appT, Mi.asB, Mi.mMakeK, Mi.mDic, Option.bind_some, e_is_integer, h1, h2]
end Mi

namespace Mi
open PySem
/-! ### == with Ratios -/
/-- the table knows Ratio -/
def TR (T : Tab) : Prop := ∀ ds, appT T "Ratio" ds = asB (m_Ratio___eq__ ds)
section
variable {T : Tab} {g : D → D → Option Bool} {p q : Rat} {i : Int}
theorem TR.rr (h : TR T) : eqB T g (rD p) (rD q) = some (decide (p = q)) := by
  show appT T "Ratio" [rD p, rD q] = _
  rw [h, e_eq]; rfl
theorem TR.ri (h : TR T) : eqB T g (rD p) (.int i) = some (decide (p = (i : Rat))) := by
  show appT T "Ratio" [rD p, .int i] = _
  rw [h, e_eqI]; rfl
theorem rD_inj : rD p = rD q ↔ p = q := by
  constructor
  · intro h
    unfold rD rF at h
    injection h with _ h
    injection h with h1 h2
    injection h2 with h2 _
    injection h1 with _ h1
    injection h2 with _ h2
    injection h1 with h1
    injection h2 with h2
    exact rat_eq_iff.mpr ⟨h1, h2⟩
  · rintro rfl; rfl
theorem TR.it (h : TR T) : itE (eqB T g) (rD p) (rD q) = some (decide (p = q)) := itE_of h.rr fun z => decide_eq_true (rD_inj.mp z)
end
theorem tr_R : TR T_Ratio := fun ds => by simp only [T_Ratio, appT, if_true]
section
variable {p : Int} {a b : D} {x y : Rat} {i j : Int} {n m : Nat}
theorem recv_Fn : recv "Field" "number" (fD p) = .ok () := rfl
theorem recv_Fo : recv "Field" "over" (fD p) = .ok () := rfl
theorem recv_Ro : recv "Ratio" "over" (rD x) = .ok () := rfl
theorem e_over1 (ha : m_Field_number [fD p, a] = .ex "NoNumber" none) : m_Field_over [fD p, a, b] = .ex "NoNumber" none := by
  unfold m_Field_over b_Field_over
  simp only [Mi.runM, Mi.runI, Mi.runR, Mi.outF, Mi.outI, Mi.outR, Mi.startE, Mi.bnd, Mi.ret, Mi.lift, Mi.fail, Mi.mVar, Mi.mC, Mi.mBin, Mi.mBinN, Mi.mUn, Mi.mFld, Mi.mFrz, Mi.mB, Mi.tru, Mi.mAnd, Mi.mOr, Mi.mNot, Mi.mAndV, Mi.mOrV, Mi.mNotV, Mi.mIf, Mi.mChain, Mi.mNil, Mi.mCons, Mi.mTup, Mi.mLst, Mi.mCB, Mi.mCBn, Mi.mIdxV, Mi.mSkip, Mi.thenF, Mi.mSeq, Mi.sto, Mi.mAsg, Mi.mAsgN, Mi.two, Mi.mPar, Mi.mDrop, Mi.mRet, Mi.mRetN, Mi.mRetV, Mi.mIfS, Mi.againF, Mi.gV, Mi.gsN, Mi.gsC, Mi.gT, Mi.mAsgT, Mi.tgt, Mi.mCall, Mi.frzR, Mi.newR, Mi.mCallN, Mi.mMeth, Mi.mMethN, Mi.mMake, Mi.callR, Mi.mCallR, Mi.newM, Mi.mCallRN, Mi.mApp, Mi.mRev, Mi.setAt, Mi.mSetV, Mi.mSetF, Mi.mAug, Mi.one, Mi.mRaise, Mi.mRaise0, Mi.mTry, Mi.noEx, Mi.endX, Mi.inX, Mi.mTryAs, Mi.mXf, Mi.dI, Mi.dIc, Mi.dAdd, Mi.dSub, Mi.dLt, Mi.dLe, Mi.dGt, Mi.dGe, Mi.dMul, Mi.dDiv, Mi.dMod, Mi.dPow, Mi.dNeg, Mi.sEq, Mi.ofB, Mi.dEq, Mi.dNe, Mi.isNon, Mi.dIsN, Mi.dNotN, Mi.dInt, Mi.dI1, Mi.dI2, Mi.dAbs, Mi.dMin, Mi.dMax, Mi.dGcd, Mi.dLen1, Mi.dLen, Mi.mLenV, Mi.mIsi, Mi.isub, Mi.D.tn, Mi.dIx, Mi.opC, Mi.negC, Mi.eqC, Mi.ipC, Mi.Rv.d, Mi.mNoP, Mi.asI, Mi.mPart, Mi.mSlL, Mi.asL, Mi.asQ, Mi.mItQ, Mi.mItA, Mi.mFor, Mi.putD, List.map_cons, List.map_nil, List.length_cons, List.length_nil, List.replicate, List.cons_append, List.nil_append, List.getElem?_cons_zero, List.getElem?_cons_succ, List.set_cons_zero, List.set_cons_succ, Nat.sub_self, Nat.reduceAdd, Nat.reduceSub, Nat.reduceEqDiff, List.reverse_cons, id, Bool.not_true, Bool.not_false, if_true, if_false, Bool.false_eq_true, reduceIte, true_and, and_true, and_self, Option.toList, List.all_cons, List.all_nil, Bool.and_true, Bool.true_and, Bool.and_self, decide_true, decide_false, decide_eq_true_eq, reduceCtorEq, Mi.bo_pl, Mi.bo_ow, Mi.bo_rf, Mi.bo_un, Mi.sa_ow, Mi.sa_rf, Mi.sa_pl, Mi.oa_un, Mi.oa_pl, Mi.oa_ow, Mi.co_ow, Mi.co_rf, Mi.co_pl, Mi.st_ow, Mi.st_rf, Mi.lv_ow, Mi.lv_rf, Mi.lv_pl, Mi.ne_un, Mi.ne_pl, Mi.ne_ow, Mi.ne_rf, Mi.ne_se, Mi.ne_ex, Mi.th_un, Mi.th_pl, Mi.ie_ex, Mi.xf_ex, ne_eq, not_false_eq_true, not_true_eq_false, Mi.clr, Mi.putS, Option.isSome_some, Option.some.injEq, Int.reduceEq, Int.reduceNe, Int.reduceLT, Int.reduceLE, Nat.reduceLT, Nat.reduceLeDiff, decide_not, Bool.not_eq_true, Bool.decide_eq_true, Mi.ib_t, Mi.ib_f, Mi.mkR_ex, Mi.bO_s, Mi.rO_f, Mi.rO_t, Mi.dEqA_eq, Mi.eqN_0, Mi.eqN_1, Mi.eqN_2, Mi.eqN_3, Mi.eqB_ins, Mi.eqB_tt, Mi.eqB_ll, Mi.eqB_int, Mi.eqB_str, Mi.eqB_bl, Mi.eqB_non, Mi.eqK_ii, Mi.eqK_ss, Mi.eqK_bb, Mi.eqK_nn, Mi.eqK_ni, Mi.eqK_in, Mi.eqK_ns, Mi.eqK_sn, Mi.eqK_is, Mi.eqK_si, Mi.eqK_nt, Mi.eqK_nl, Mi.eqB_tn, Mi.eqB_ln, Mi.eqLs_nil, Mi.eqLs_nc, Mi.eqLs_cn, Mi.eqLs_cc, Mi.itE_int, Mi.itE_str, Mi.itE_bl, Mi.itE_non, Mi.appT, Mi.asB, Mi.mMakeK, Mi.mDic, Option.bind_some, recv_Fn, ha]
theorem e_over2 {d : D} (ha : m_Field_number [fD p, a] = .ok (.pl d)) (hb : m_Field_number [fD p, b] = .ex "NoNumber" none) : m_Field_over [fD p, a, b] = .ex "NoNumber" none := by
  unfold m_Field_over b_Field_over
  simp only [Mi.runM, Mi.runI, Mi.runR, Mi.outF, Mi.outI, Mi.outR, Mi.startE, Mi.bnd, Mi.ret, Mi.lift, Mi.fail, Mi.mVar, Mi.mC, Mi.mBin, Mi.mBinN, Mi.mUn, Mi.mFld, Mi.mFrz, Mi.mB, Mi.tru, Mi.mAnd, Mi.mOr, Mi.mNot, Mi.mAndV, Mi.mOrV, Mi.mNotV, Mi.mIf, Mi.mChain, Mi.mNil, Mi.mCons, Mi.mTup, Mi.mLst, Mi.mCB, Mi.mCBn, Mi.mIdxV, Mi.mSkip, Mi.thenF, Mi.mSeq, Mi.sto, Mi.mAsg, Mi.mAsgN, Mi.two, Mi.mPar, Mi.mDrop, Mi.mRet, Mi.mRetN, Mi.mRetV, Mi.mIfS, Mi.againF, Mi.gV, Mi.gsN, Mi.gsC, Mi.gT, Mi.mAsgT, Mi.tgt, Mi.mCall, Mi.frzR, Mi.newR, Mi.mCallN, Mi.mMeth, Mi.mMethN, Mi.mMake, Mi.callR, Mi.mCallR, Mi.newM, Mi.mCallRN, Mi.mApp, Mi.mRev, Mi.setAt, Mi.mSetV, Mi.mSetF, Mi.mAug, Mi.one, Mi.mRaise, Mi.mRaise0, Mi.mTry, Mi.noEx, Mi.endX, Mi.inX, Mi.mTryAs, Mi.mXf, Mi.dI, Mi.dIc, Mi.dAdd, Mi.dSub, Mi.dLt, Mi.dLe, Mi.dGt, Mi.dGe, Mi.dMul, Mi.dDiv, Mi.dMod, Mi.dPow, Mi.dNeg, Mi.sEq, Mi.ofB, Mi.dEq, Mi.dNe, Mi.isNon, Mi.dIsN, Mi.dNotN, Mi.dInt, Mi.dI1, Mi.dI2, Mi.dAbs, Mi.dMin, Mi.dMax, Mi.dGcd, Mi.dLen1, Mi.dLen, Mi.mLenV, Mi.mIsi, Mi.isub, Mi.D.tn, Mi.dIx, Mi.opC, Mi.negC, Mi.eqC, Mi.ipC, Mi.Rv.d, Mi.mNoP, Mi.asI, Mi.mPart, Mi.mSlL, Mi.asL, Mi.asQ, Mi.mItQ, Mi.mItA, Mi.mFor, Mi.putD, List.map_cons, List.map_nil, List.length_cons, List.length_nil, List.replicate, List.cons_append, List.nil_append, List.getElem?_cons_zero, List.getElem?_cons_succ, List.set_cons_zero, List.set_cons_succ, Nat.sub_self, Nat.reduceAdd, Nat.reduceSub, Nat.reduceEqDiff, List.reverse_cons, id, Bool.not_true, Bool.not_false, if_true, if_false, Bool.false_eq_true, reduceIte, true_and, and_true, and_self, Option.toList, List.all_cons, List.all_nil, Bool.and_true, Bool.true_and, Bool.and_self, decide_true, decide_false, decide_eq_true_eq, reduceCtorEq, Mi.bo_pl, Mi.bo_ow, Mi.bo_rf, Mi.bo_un, Mi.sa_ow, Mi.sa_rf, Mi.sa_pl, Mi.oa_un, Mi.oa_pl, Mi.oa_ow, Mi.co_ow, Mi.co_rf, Mi.co_pl, Mi.st_ow, Mi.st_rf, Mi.lv_ow, Mi.lv_rf, Mi.lv_pl, Mi.ne_un, Mi.ne_pl, Mi.ne_ow, Mi.ne_rf, Mi.ne_se, Mi.ne_ex, Mi.th_un, Mi.th_pl, Mi.ie_ex, Mi.xf_ex, ne_eq, not_false_eq_true, not_true_eq_false, Mi.clr, Mi.putS, Option.isSome_some, Option.some.injEq, Int.reduceEq, Int.reduceNe, Int.reduceLT, Int.reduceLE, Nat.reduceLT, Nat.reduceLeDiff, decide_not, Bool.not_eq_true, Bool.decide_eq_true, Mi.ib_t, Mi.ib_f, Mi.mkR_ex, Mi.bO_s, Mi.rO_f, Mi.rO_t, Mi.dEqA_eq, Mi.eqN_0, Mi.eqN_1, Mi.eqN_2, Mi.eqN_3, Mi.eqB_ins, Mi.eqB_tt, Mi.eqB_ll, Mi.eqB_int, Mi.eqB_str, Mi.eqB_bl, Mi.eqB_non, Mi.eqK_ii, Mi.eqK_ss, Mi.eqK_bb, Mi.eqK_nn, Mi.eqK_ni, Mi.eqK_in, Mi.eqK_ns, Mi.eqK_sn, Mi.eqK_is, Mi.eqK_si, Mi.eqK_nt, Mi.eqK_nl, Mi.eqB_tn, Mi.eqB_ln, Mi.eqLs_nil, Mi.eqLs_nc, Mi.eqLs_cn, Mi.eqLs_cc, Mi.itE_int, Mi.itE_str, Mi.itE_bl, Mi.itE_non, Mi.appT, Mi.asB, Mi.mMakeK, Mi.mDic, Option.bind_some, recv_Fn, ha, hb]
theorem e_overQ (ha : m_Field_number [fD 0, a] = .ok (.pl (rD x))) (hb : m_Field_number [fD 0, b] = .ok (.pl (rD y))) (h0 : y ≠ 0) (hx : RB n x) (hy : RB m y) (e : n + m ≤ 134217728) : m_Field_over [fD 0, a, b] = .ok (.pl (rD (x / y))) := by
  have h1 : ¬ y = ((0 : Int) : Rat) := fun z => h0 (by simpa using z)
  unfold m_Field_over b_Field_over
  simp only [Mi.runM, Mi.runI, Mi.runR, Mi.outF, Mi.outI, Mi.outR, Mi.startE, Mi.bnd, Mi.ret, Mi.lift, Mi.fail, Mi.mVar, Mi.mC, Mi.mBin, Mi.mBinN, Mi.mUn, Mi.mFld, Mi.mFrz, Mi.mB, Mi.tru, Mi.mAnd, Mi.mOr, Mi.mNot, Mi.mAndV, Mi.mOrV, Mi.mNotV, Mi.mIf, Mi.mChain, Mi.mNil, Mi.mCons, Mi.mTup, Mi.mLst, Mi.mCB, Mi.mCBn, Mi.mIdxV, Mi.mSkip, Mi.thenF, Mi.mSeq, Mi.sto, Mi.mAsg, Mi.mAsgN, Mi.two, Mi.mPar, Mi.mDrop, Mi.mRet, Mi.mRetN, Mi.mRetV, Mi.mIfS, Mi.againF, Mi.gV, Mi.gsN, Mi.gsC, Mi.gT, Mi.mAsgT, Mi.tgt, Mi.mCall, Mi.frzR, Mi.newR, Mi.mCallN, Mi.mMeth, Mi.mMethN, Mi.mMake, Mi.callR, Mi.mCallR, Mi.newM, Mi.mCallRN, Mi.mApp, Mi.mRev, Mi.setAt, Mi.mSetV, Mi.mSetF, Mi.mAug, Mi.one, Mi.mRaise, Mi.mRaise0, Mi.mTry, Mi.noEx, Mi.endX, Mi.inX, Mi.mTryAs, Mi.mXf, Mi.dI, Mi.dIc, Mi.dAdd, Mi.dSub, Mi.dLt, Mi.dLe, Mi.dGt, Mi.dGe, Mi.dMul, Mi.dDiv, Mi.dMod, Mi.dPow, Mi.dNeg, Mi.sEq, Mi.ofB, Mi.dEq, Mi.dNe, Mi.isNon, Mi.dIsN, Mi.dNotN, Mi.dInt, Mi.dI1, Mi.dI2, Mi.dAbs, Mi.dMin, Mi.dMax, Mi.dGcd, Mi.dLen1, Mi.dLen, Mi.mLenV, Mi.mIsi, Mi.isub, Mi.D.tn, Mi.dIx, Mi.opC, Mi.negC, Mi.eqC, Mi.ipC, Mi.Rv.d, Mi.mNoP, Mi.asI, Mi.mPart, Mi.mSlL, Mi.asL, Mi.asQ, Mi.mItQ, Mi.mItA, Mi.mFor, Mi.putD, List.map_cons, List.map_nil, List.length_cons, List.length_nil, List.replicate, List.cons_append, List.nil_append, List.getElem?_cons_zero, List.getElem?_cons_succ, List.set_cons_zero, List.set_cons_succ, Nat.sub_self, Nat.reduceAdd, Nat.reduceSub, Nat.reduceEqDiff, List.reverse_cons, id, Bool.not_true, Bool.not_false, if_true, if_false, Bool.false_eq_true, reduceIte, true_and, and_true, and_self, Option.toList, List.all_cons, List.all_nil, Bool.and_true, Bool.true_and, Bool.and_self, decide_true, decide_false, decide_eq_true_eq, reduceCtorEq, Mi.bo_pl, Mi.bo_ow, Mi.bo_rf, Mi.bo_un, Mi.sa_ow, Mi.sa_rf, Mi.sa_pl, Mi.oa_un, Mi.oa_pl, Mi.oa_ow, Mi.co_ow, Mi.co_rf, Mi.co_pl, Mi.st_ow, Mi.st_rf, Mi.lv_ow, Mi.lv_rf, Mi.lv_pl, Mi.ne_un, Mi.ne_pl, Mi.ne_ow, Mi.ne_rf, Mi.ne_se, Mi.ne_ex, Mi.th_un, Mi.th_pl, Mi.ie_ex, Mi.xf_ex, ne_eq, not_false_eq_true, not_true_eq_false, Mi.clr, Mi.putS, Option.isSome_some, Option.some.injEq, Int.reduceEq, Int.reduceNe, Int.reduceLT, Int.reduceLE, Nat.reduceLT, Nat.reduceLeDiff, decide_not, Bool.not_eq_true, Bool.decide_eq_true, Mi.ib_t, Mi.ib_f, Mi.mkR_ex, Mi.bO_s, Mi.rO_f, Mi.rO_t, Mi.dEqA_eq, Mi.eqN_0, Mi.eqN_1, Mi.eqN_2, Mi.eqN_3, Mi.eqB_ins, Mi.eqB_tt, Mi.eqB_ll, Mi.eqB_int, Mi.eqB_str, Mi.eqB_bl, Mi.eqB_non, Mi.eqK_ii, Mi.eqK_ss, Mi.eqK_bb, Mi.eqK_nn, Mi.eqK_ni, Mi.eqK_in, Mi.eqK_ns, Mi.eqK_sn, Mi.eqK_is, Mi.eqK_si, Mi.eqK_nt, Mi.eqK_nl, Mi.eqB_tn, Mi.eqB_ln, Mi.eqLs_nil, Mi.eqLs_nc, Mi.eqLs_cn, Mi.eqLs_cc, Mi.itE_int, Mi.itE_str, Mi.itE_bl, Mi.itE_non, Mi.appT, Mi.asB, Mi.mMakeK, Mi.mDic, Option.bind_some, recv_Fn, recv_Ro, ha, hb, tr_R.ri, h1, dFld_prime, e_over hx hy e h0]
theorem e_overQ0 (ha : m_Field_number [fD 0, a] = .ok (.pl (rD x))) (hb : m_Field_number [fD 0, b] = .ok (.pl (rD 0))) : m_Field_over [fD 0, a, b] = .ex "NoNumber" none := by
  have h1 : (0 : Rat) = ((0 : Int) : Rat) := rfl
  unfold m_Field_over b_Field_over
  simp only [Mi.runM, Mi.runI, Mi.runR, Mi.outF, Mi.outI, Mi.outR, Mi.startE, Mi.bnd, Mi.ret, Mi.lift, Mi.fail, Mi.mVar, Mi.mC, Mi.mBin, Mi.mBinN, Mi.mUn, Mi.mFld, Mi.mFrz, Mi.mB, Mi.tru, Mi.mAnd, Mi.mOr, Mi.mNot, Mi.mAndV, Mi.mOrV, Mi.mNotV, Mi.mIf, Mi.mChain, Mi.mNil, Mi.mCons, Mi.mTup, Mi.mLst, Mi.mCB, Mi.mCBn, Mi.mIdxV, Mi.mSkip, Mi.thenF, Mi.mSeq, Mi.sto, Mi.mAsg, Mi.mAsgN, Mi.two, Mi.mPar, Mi.mDrop, Mi.mRet, Mi.mRetN, Mi.mRetV, Mi.mIfS, Mi.againF, Mi.gV, Mi.gsN, Mi.gsC, Mi.gT, Mi.mAsgT, Mi.tgt, Mi.mCall, Mi.frzR, Mi.newR, Mi.mCallN, Mi.mMeth, Mi.mMethN, Mi.mMake, Mi.callR, Mi.mCallR, Mi.newM, Mi.mCallRN, Mi.mApp, Mi.mRev, Mi.setAt, Mi.mSetV, Mi.mSetF, Mi.mAug, Mi.one, Mi.mRaise, Mi.mRaise0, Mi.mTry, Mi.noEx, Mi.endX, Mi.inX, Mi.mTryAs, Mi.mXf, Mi.dI, Mi.dIc, Mi.dAdd, Mi.dSub, Mi.dLt, Mi.dLe, Mi.dGt, Mi.dGe, Mi.dMul, Mi.dDiv, Mi.dMod, Mi.dPow, Mi.dNeg, Mi.sEq, Mi.ofB, Mi.dEq, Mi.dNe, Mi.isNon, Mi.dIsN, Mi.dNotN, Mi.dInt, Mi.dI1, Mi.dI2, Mi.dAbs, Mi.dMin, Mi.dMax, Mi.dGcd, Mi.dLen1, Mi.dLen, Mi.mLenV, Mi.mIsi, Mi.isub, Mi.D.tn, Mi.dIx, Mi.opC, Mi.negC, Mi.eqC, Mi.ipC, Mi.Rv.d, Mi.mNoP, Mi.asI, Mi.mPart, Mi.mSlL, Mi.asL, Mi.asQ, Mi.mItQ, Mi.mItA, Mi.mFor, Mi.putD, List.map_cons, List.map_nil, List.length_cons, List.length_nil, List.replicate, List.cons_append, List.nil_append, List.getElem?_cons_zero, List.getElem?_cons_succ, List.set_cons_zero, List.set_cons_succ, Nat.sub_self, Nat.reduceAdd, Nat.reduceSub, Nat.reduceEqDiff, List.reverse_cons, id, Bool.not_true, Bool.not_false, if_true, if_false, Bool.false_eq_true, reduceIte, true_and, and_true, and_self, Option.toList, List.all_cons, List.all_nil, Bool.and_true, Bool.true_and, Bool.and_self, decide_true, decide_false, decide_eq_true_eq, reduceCtorEq, Mi.bo_pl, Mi.bo_ow, Mi.bo_rf, Mi.bo_un, Mi.sa_ow, Mi.sa_rf, Mi.sa_pl, Mi.oa_un, Mi.oa_pl, Mi.oa_ow, Mi.co_ow, Mi.co_rf, Mi.co_pl, Mi.st_ow, Mi.st_rf, Mi.lv_ow, Mi.lv_rf, Mi.lv_pl, Mi.ne_un, Mi.ne_pl, Mi.ne_ow, Mi.ne_rf, Mi.ne_se, Mi.ne_ex, Mi.th_un, Mi.th_pl, Mi.ie_ex, Mi.xf_ex, ne_eq, not_false_eq_true, not_true_eq_false, Mi.clr, Mi.putS, Option.isSome_some, Option.some.injEq, Int.reduceEq, Int.reduceNe, Int.reduceLT, Int.reduceLE, Nat.reduceLT, Nat.reduceLeDiff, decide_not, Bool.not_eq_true, Bool.decide_eq_true, Mi.ib_t, Mi.ib_f, Mi.mkR_ex, Mi.bO_s, Mi.rO_f, Mi.rO_t, Mi.dEqA_eq, Mi.eqN_0, Mi.eqN_1, Mi.eqN_2, Mi.eqN_3, Mi.eqB_ins, Mi.eqB_tt, Mi.eqB_ll, Mi.eqB_int, Mi.eqB_str, Mi.eqB_bl, Mi.eqB_non, Mi.eqK_ii, Mi.eqK_ss, Mi.eqK_bb, Mi.eqK_nn, Mi.eqK_ni, Mi.eqK_in, Mi.eqK_ns, Mi.eqK_sn, Mi.eqK_is, Mi.eqK_si, Mi.eqK_nt, Mi.eqK_nl, Mi.eqB_tn, Mi.eqB_ln, Mi.eqLs_nil, Mi.eqLs_nc, Mi.eqLs_cn, Mi.eqLs_cc, Mi.itE_int, Mi.itE_str, Mi.itE_bl, Mi.itE_non, Mi.appT, Mi.asB, Mi.mMakeK, Mi.mDic, Option.bind_some, recv_Fn, recv_Ro, ha, hb, tr_R.ri, ← h1, dFld_prime]
theorem e_overZ (h : PF p) (ha : m_Field_number [fD p, a] = .ok (.pl (.int i))) (hb : m_Field_number [fD p, b] = .ok (.pl (.int j))) (h0 : ¬ j % p = 0) : m_Field_over [fD p, a, b] = .ok (.pl (.int (i * zinv p j % p))) := by
  have h1 : ¬ j = 0 := fun z => h0 (by rw [z]; exact Int.zero_emod p)
  unfold m_Field_over b_Field_over
  simp only [Mi.runM, Mi.runI, Mi.runR, Mi.outF, Mi.outI, Mi.outR, Mi.startE, Mi.bnd, Mi.ret, Mi.lift, Mi.fail, Mi.mVar, Mi.mC, Mi.mBin, Mi.mBinN, Mi.mUn, Mi.mFld, Mi.mFrz, Mi.mB, Mi.tru, Mi.mAnd, Mi.mOr, Mi.mNot, Mi.mAndV, Mi.mOrV, Mi.mNotV, Mi.mIf, Mi.mChain, Mi.mNil, Mi.mCons, Mi.mTup, Mi.mLst, Mi.mCB, Mi.mCBn, Mi.mIdxV, Mi.mSkip, Mi.thenF, Mi.mSeq, Mi.sto, Mi.mAsg, Mi.mAsgN, Mi.two, Mi.mPar, Mi.mDrop, Mi.mRet, Mi.mRetN, Mi.mRetV, Mi.mIfS, Mi.againF, Mi.gV, Mi.gsN, Mi.gsC, Mi.gT, Mi.mAsgT, Mi.tgt, Mi.mCall, Mi.frzR, Mi.newR, Mi.mCallN, Mi.mMeth, Mi.mMethN, Mi.mMake, Mi.callR, Mi.mCallR, Mi.newM, Mi.mCallRN, Mi.mApp, Mi.mRev, Mi.setAt, Mi.mSetV, Mi.mSetF, Mi.mAug, Mi.one, Mi.mRaise, Mi.mRaise0, Mi.mTry, Mi.noEx, Mi.endX, Mi.inX, Mi.mTryAs, Mi.mXf, Mi.dI, Mi.dIc, Mi.dAdd, Mi.dSub, Mi.dLt, Mi.dLe, Mi.dGt, Mi.dGe, Mi.dMul, Mi.dDiv, Mi.dMod, Mi.dPow, Mi.dNeg, Mi.sEq, Mi.ofB, Mi.dEq, Mi.dNe, Mi.isNon, Mi.dIsN, Mi.dNotN, Mi.dInt, Mi.dI1, Mi.dI2, Mi.dAbs, Mi.dMin, Mi.dMax, Mi.dGcd, Mi.dLen1, Mi.dLen, Mi.mLenV, Mi.mIsi, Mi.isub, Mi.D.tn, Mi.dIx, Mi.opC, Mi.negC, Mi.eqC, Mi.ipC, Mi.Rv.d, Mi.mNoP, Mi.asI, Mi.mPart, Mi.mSlL, Mi.asL, Mi.asQ, Mi.mItQ, Mi.mItA, Mi.mFor, Mi.putD, List.map_cons, List.map_nil, List.length_cons, List.length_nil, List.replicate, List.cons_append, List.nil_append, List.getElem?_cons_zero, List.getElem?_cons_succ, List.set_cons_zero, List.set_cons_succ, Nat.sub_self, Nat.reduceAdd, Nat.reduceSub, Nat.reduceEqDiff, List.reverse_cons, id, Bool.not_true, Bool.not_false, if_true, if_false, Bool.false_eq_true, reduceIte, true_and, and_true, and_self, Option.toList, List.all_cons, List.all_nil, Bool.and_true, Bool.true_and, Bool.and_self, decide_true, decide_false, decide_eq_true_eq, reduceCtorEq, Mi.bo_pl, Mi.bo_ow, Mi.bo_rf, Mi.bo_un, Mi.sa_ow, Mi.sa_rf, Mi.sa_pl, Mi.oa_un, Mi.oa_pl, Mi.oa_ow, Mi.co_ow, Mi.co_rf, Mi.co_pl, Mi.st_ow, Mi.st_rf, Mi.lv_ow, Mi.lv_rf, Mi.lv_pl, Mi.ne_un, Mi.ne_pl, Mi.ne_ow, Mi.ne_rf, Mi.ne_se, Mi.ne_ex, Mi.th_un, Mi.th_pl, Mi.ie_ex, Mi.xf_ex, ne_eq, not_false_eq_true, not_true_eq_false, Mi.clr, Mi.putS, Option.isSome_some, Option.some.injEq, Int.reduceEq, Int.reduceNe, Int.reduceLT, Int.reduceLE, Nat.reduceLT, Nat.reduceLeDiff, decide_not, Bool.not_eq_true, Bool.decide_eq_true, Mi.ib_t, Mi.ib_f, Mi.mkR_ex, Mi.bO_s, Mi.rO_f, Mi.rO_t, Mi.dEqA_eq, Mi.eqN_0, Mi.eqN_1, Mi.eqN_2, Mi.eqN_3, Mi.eqB_ins, Mi.eqB_tt, Mi.eqB_ll, Mi.eqB_int, Mi.eqB_str, Mi.eqB_bl, Mi.eqB_non, Mi.eqK_ii, Mi.eqK_ss, Mi.eqK_bb, Mi.eqK_nn, Mi.eqK_ni, Mi.eqK_in, Mi.eqK_ns, Mi.eqK_sn, Mi.eqK_is, Mi.eqK_si, Mi.eqK_nt, Mi.eqK_nl, Mi.eqB_tn, Mi.eqB_ln, Mi.eqLs_nil, Mi.eqLs_nc, Mi.eqLs_cn, Mi.eqLs_cc, Mi.itE_int, Mi.itE_str, Mi.itE_bl, Mi.itE_non, Mi.appT, Mi.asB, Mi.mMakeK, Mi.mDic, Option.bind_some, recv_Fn, ha, hb, h1, h.ne, dFld_prime, iMod_eq, fmod_pos h.pos, e_inverse h h0, zinv_mul h h0]
theorem e_overZ0 (ha : m_Field_number [fD p, a] = .ok (.pl (.int i))) (hb : m_Field_number [fD p, b] = .ok (.pl (.int 0))) : m_Field_over [fD p, a, b] = .ex "NoNumber" none := by
  unfold m_Field_over b_Field_over
  simp only [Mi.runM, Mi.runI, Mi.runR, Mi.outF, Mi.outI, Mi.outR, Mi.startE, Mi.bnd, Mi.ret, Mi.lift, Mi.fail, Mi.mVar, Mi.mC, Mi.mBin, Mi.mBinN, Mi.mUn, Mi.mFld, Mi.mFrz, Mi.mB, Mi.tru, Mi.mAnd, Mi.mOr, Mi.mNot, Mi.mAndV, Mi.mOrV, Mi.mNotV, Mi.mIf, Mi.mChain, Mi.mNil, Mi.mCons, Mi.mTup, Mi.mLst, Mi.mCB, Mi.mCBn, Mi.mIdxV, Mi.mSkip, Mi.thenF, Mi.mSeq, Mi.sto, Mi.mAsg, Mi.mAsgN, Mi.two, Mi.mPar, Mi.mDrop, Mi.mRet, Mi.mRetN, Mi.mRetV, Mi.mIfS, Mi.againF, Mi.gV, Mi.gsN, Mi.gsC, Mi.gT, Mi.mAsgT, Mi.tgt, Mi.mCall, Mi.frzR, Mi.newR, Mi.mCallN, Mi.mMeth, Mi.mMethN, Mi.mMake, Mi.callR, Mi.mCallR, Mi.newM, Mi.mCallRN, Mi.mApp, Mi.mRev, Mi.setAt, Mi.mSetV, Mi.mSetF, Mi.mAug, Mi.one, Mi.mRaise, Mi.mRaise0, Mi.mTry, Mi.noEx, Mi.endX, Mi.inX, Mi.mTryAs, Mi.mXf, Mi.dI, Mi.dIc, Mi.dAdd, Mi.dSub, Mi.dLt, Mi.dLe, Mi.dGt, Mi.dGe, Mi.dMul, Mi.dDiv, Mi.dMod, Mi.dPow, Mi.dNeg, Mi.sEq, Mi.ofB, Mi.dEq, Mi.dNe, Mi.isNon, Mi.dIsN, Mi.dNotN, Mi.dInt, Mi.dI1, Mi.dI2, Mi.dAbs, Mi.dMin, Mi.dMax, Mi.dGcd, Mi.dLen1, Mi.dLen, Mi.mLenV, Mi.mIsi, Mi.isub, Mi.D.tn, Mi.dIx, Mi.opC, Mi.negC, Mi.eqC, Mi.ipC, Mi.Rv.d, Mi.mNoP, Mi.asI, Mi.mPart, Mi.mSlL, Mi.asL, Mi.asQ, Mi.mItQ, Mi.mItA, Mi.mFor, Mi.putD, List.map_cons, List.map_nil, List.length_cons, List.length_nil, List.replicate, List.cons_append, List.nil_append, List.getElem?_cons_zero, List.getElem?_cons_succ, List.set_cons_zero, List.set_cons_succ, Nat.sub_self, Nat.reduceAdd, Nat.reduceSub, Nat.reduceEqDiff, List.reverse_cons, id, Bool.not_true, Bool.not_false, if_true, if_false, Bool.false_eq_true, reduceIte, true_and, and_true, and_self, Option.toList, List.all_cons, List.all_nil, Bool.and_true, Bool.true_and, Bool.and_self, decide_true, decide_false, decide_eq_true_eq, reduceCtorEq, Mi.bo_pl, Mi.bo_ow, Mi.bo_rf, Mi.bo_un, Mi.sa_ow, Mi.sa_rf, Mi.sa_pl, Mi.oa_un, Mi.oa_pl, Mi.oa_ow, Mi.co_ow, Mi.co_rf, Mi.co_pl, Mi.st_ow, Mi.st_rf, Mi.lv_ow, Mi.lv_rf, Mi.lv_pl, Mi.ne_un, Mi.ne_pl, Mi.ne_ow, Mi.ne_rf, Mi.ne_se, Mi.ne_ex, Mi.th_un, Mi.th_pl, Mi.ie_ex, Mi.xf_ex, ne_eq, not_false_eq_true, not_true_eq_false, Mi.clr, Mi.putS, Option.isSome_some, Option.some.injEq, Int.reduceEq, Int.reduceNe, Int.reduceLT, Int.reduceLE, Nat.reduceLT, Nat.reduceLeDiff, decide_not, Bool.not_eq_true, Bool.decide_eq_true, Mi.ib_t, Mi.ib_f, Mi.mkR_ex, Mi.bO_s, Mi.rO_f, Mi.rO_t, Mi.dEqA_eq, Mi.eqN_0, Mi.eqN_1, Mi.eqN_2, Mi.eqN_3, Mi.eqB_ins, Mi.eqB_tt, Mi.eqB_ll, Mi.eqB_int, Mi.eqB_str, Mi.eqB_bl, Mi.eqB_non, Mi.eqK_ii, Mi.eqK_ss, Mi.eqK_bb, Mi.eqK_nn, Mi.eqK_ni, Mi.eqK_in, Mi.eqK_ns, Mi.eqK_sn, Mi.eqK_is, Mi.eqK_si, Mi.eqK_nt, Mi.eqK_nl, Mi.eqB_tn, Mi.eqB_ln, Mi.eqLs_nil, Mi.eqLs_nc, Mi.eqLs_cn, Mi.eqLs_cc, Mi.itE_int, Mi.itE_str, Mi.itE_bl, Mi.itE_non, Mi.appT, Mi.asB, Mi.mMakeK, Mi.mDic, Option.bind_some, recv_Fn, ha, hb]
end
end Mi

namespace Mi
open PySem
theorem rngL_map (lo : Int) (n : Nat) : rngL lo n = ((List.range n).map fun (i : Nat) => lo + (i : Int)).map D.int := by unfold rngL; rw [List.map_map]; rfl
theorem lip_loop {v : Int} : ∀ (l : List Int) (u : Sl), okAsg (some u) = true → (∀ d ∈ l, 2 ≤ d ∧ d < 100) →
    ((∃ d, 2 ≤ d ∧ d * d ≤ v ∧ v % d = 0) ∧ ∃ ρ, forL (gV 1) lb__law_is_prime_0 (l.map D.int) [.pl (.int v), u] = .ok (.rt (.pl (.bl false))) ρ) ∨
    ((∀ d ∈ l, ¬ (d * d ≤ v ∧ v % d = 0)) ∧ ∃ u', forL (gV 1) lb__law_is_prime_0 (l.map D.int) [.pl (.int v), u] = .ok .nx [.pl (.int v), u'])
  | [], u, _, _ => .inr ⟨fun _ h => (by cases h), u, rfl⟩
  | d :: l, u, hu, h => by
    obtain ⟨h2, h3⟩ := h d List.mem_cons_self
    have mo : mulOk d d = true := mulOk_l (by omega) (by omega)
    have hd0 : ¬ d = 0 := by omega
    by_cases c : d * d ≤ v ∧ v % d = 0
    · refine .inl ⟨⟨d, h2, c⟩, [.pl (.int v), .pl (.int d)], ?_⟩
      have e1 : lb__law_is_prime_0 [.pl (.int v), .pl (.int d)] = .ok (.rt (.pl (.bl false))) [.pl (.int v), .pl (.int d)] := by unfold lb__law_is_prime_0; simp only [Mi.runM, Mi.runI, Mi.runR, Mi.outF, Mi.outI, Mi.outR, Mi.startE, Mi.bnd, Mi.ret, Mi.lift, Mi.fail, Mi.mVar, Mi.mC, Mi.mBin, Mi.mBinN, Mi.mUn, Mi.mFld, Mi.mFrz, Mi.mB, Mi.tru, Mi.mAnd, Mi.mOr, Mi.mNot, Mi.mAndV, Mi.mOrV, Mi.mNotV, Mi.mIf, Mi.mChain, Mi.mNil, Mi.mCons, Mi.mTup, Mi.mLst, Mi.mCB, Mi.mCBn, Mi.mIdxV, Mi.mSkip, Mi.thenF, Mi.mSeq, Mi.sto, Mi.mAsg, Mi.mAsgN, Mi.two, Mi.mPar, Mi.mDrop, Mi.mRet, Mi.mRetN, Mi.mRetV, Mi.mIfS, Mi.againF, Mi.gV, Mi.gsN, Mi.gsC, Mi.gT, Mi.mAsgT, Mi.tgt, Mi.mCall, Mi.frzR, Mi.newR, Mi.mCallN, Mi.recv, Mi.mMeth, Mi.mMethN, Mi.mMake, Mi.callR, Mi.mCallR, Mi.newM, Mi.mCallRN, Mi.mApp, Mi.mRev, Mi.setAt, Mi.mSetV, Mi.mSetF, Mi.mAug, Mi.one, Mi.mRaise, Mi.mRaise0, Mi.mTry, Mi.noEx, Mi.endX, Mi.inX, Mi.mTryAs, Mi.mXf, Mi.dI, Mi.dIc, Mi.dAdd, Mi.dSub, Mi.dLt, Mi.dLe, Mi.dGt, Mi.dGe, Mi.dMul, Mi.dDiv, Mi.dMod, Mi.dPow, Mi.dNeg, Mi.sEq, Mi.ofB, Mi.dEq, Mi.dNe, Mi.isNon, Mi.dIsN, Mi.dNotN, Mi.dInt, Mi.dI1, Mi.dI2, Mi.dAbs, Mi.dMin, Mi.dMax, Mi.dGcd, Mi.dLen1, Mi.dLen, Mi.mLenV, Mi.mIsi, Mi.isub, Mi.D.tn, Mi.dIx, Mi.opC, Mi.negC, Mi.eqC, Mi.ipC, Mi.Rv.d, Mi.mNoP, Mi.asI, Mi.mPart, Mi.mSlL, Mi.asL, Mi.asQ, Mi.mItQ, Mi.mItA, Mi.mFor, Mi.putD, List.map_cons, List.map_nil, List.length_cons, List.length_nil, List.replicate, List.cons_append, List.nil_append, List.getElem?_cons_zero, List.getElem?_cons_succ, List.set_cons_zero, List.set_cons_succ, Nat.sub_self, Nat.reduceAdd, Nat.reduceSub, Nat.reduceEqDiff, List.reverse_cons, id, Bool.not_true, Bool.not_false, if_true, if_false, Bool.false_eq_true, reduceIte, true_and, and_true, and_self, Option.toList, List.all_cons, List.all_nil, Bool.and_true, Bool.true_and, Bool.and_self, decide_true, decide_false, decide_eq_true_eq, reduceCtorEq, Mi.bo_pl, Mi.bo_ow, Mi.bo_rf, Mi.bo_un, Mi.sa_ow, Mi.sa_rf, Mi.sa_pl, Mi.oa_un, Mi.oa_pl, Mi.oa_ow, Mi.co_ow, Mi.co_rf, Mi.co_pl, Mi.st_ow, Mi.st_rf, Mi.lv_ow, Mi.lv_rf, Mi.lv_pl, Mi.ne_un, Mi.ne_pl, Mi.ne_ow, Mi.ne_rf, Mi.ne_se, Mi.ne_ex, Mi.th_un, Mi.th_pl, Mi.ie_ex, Mi.xf_ex, ne_eq, not_false_eq_true, not_true_eq_false, Mi.clr, Mi.putS, Option.isSome_some, Option.some.injEq, Int.reduceEq, Int.reduceNe, Int.reduceLT, Int.reduceLE, Nat.reduceLT, Nat.reduceLeDiff, decide_not, Bool.not_eq_true, Bool.decide_eq_true, Mi.ib_t, Mi.ib_f, Mi.mkR_ex, Mi.bO_s, Mi.rO_f, Mi.rO_t, Mi.dEqA_eq, Mi.eqN_0, Mi.eqN_1, Mi.eqN_2, Mi.eqN_3, Mi.eqB_ins, Mi.eqB_tt, Mi.eqB_ll, Mi.eqB_int, Mi.eqB_str, Mi.eqB_bl, Mi.eqB_non, Mi.eqK_ii, Mi.eqK_ss, Mi.eqK_bb, Mi.eqK_nn, Mi.eqK_ni, Mi.eqK_in, Mi.eqK_ns, Mi.eqK_sn, Mi.eqK_is, Mi.eqK_si, Mi.eqK_nt, Mi.eqK_nl, Mi.eqB_tn, Mi.eqB_ln, Mi.eqLs_nil, Mi.eqLs_nc, Mi.eqLs_cn, Mi.eqLs_cc, Mi.itE_int, Mi.itE_str, Mi.itE_bl, Mi.itE_non, Mi.appT, Mi.asB, Mi.mMakeK, Mi.mDic, Option.bind_some, mo, c.1, c.2, hd0, iMod_eq, fmod_pos (by omega : 0 < d)]
      simp only [Mi.runM, Mi.runI, Mi.runR, Mi.outF, Mi.outI, Mi.outR, Mi.startE, Mi.bnd, Mi.ret, Mi.lift, Mi.fail, Mi.mVar, Mi.mC, Mi.mBin, Mi.mBinN, Mi.mUn, Mi.mFld, Mi.mFrz, Mi.mB, Mi.tru, Mi.mAnd, Mi.mOr, Mi.mNot, Mi.mAndV, Mi.mOrV, Mi.mNotV, Mi.mIf, Mi.mChain, Mi.mNil, Mi.mCons, Mi.mTup, Mi.mLst, Mi.mCB, Mi.mCBn, Mi.mIdxV, Mi.mSkip, Mi.thenF, Mi.mSeq, Mi.sto, Mi.mAsg, Mi.mAsgN, Mi.two, Mi.mPar, Mi.mDrop, Mi.mRet, Mi.mRetN, Mi.mRetV, Mi.mIfS, Mi.againF, Mi.gV, Mi.gsN, Mi.gsC, Mi.gT, Mi.mAsgT, Mi.tgt, Mi.mCall, Mi.frzR, Mi.newR, Mi.mCallN, Mi.recv, Mi.mMeth, Mi.mMethN, Mi.mMake, Mi.callR, Mi.mCallR, Mi.newM, Mi.mCallRN, Mi.mApp, Mi.mRev, Mi.setAt, Mi.mSetV, Mi.mSetF, Mi.mAug, Mi.one, Mi.mRaise, Mi.mRaise0, Mi.mTry, Mi.noEx, Mi.endX, Mi.inX, Mi.mTryAs, Mi.mXf, Mi.dI, Mi.dIc, Mi.dAdd, Mi.dSub, Mi.dLt, Mi.dLe, Mi.dGt, Mi.dGe, Mi.dMul, Mi.dDiv, Mi.dMod, Mi.dPow, Mi.dNeg, Mi.sEq, Mi.ofB, Mi.dEq, Mi.dNe, Mi.isNon, Mi.dIsN, Mi.dNotN, Mi.dInt, Mi.dI1, Mi.dI2, Mi.dAbs, Mi.dMin, Mi.dMax, Mi.dGcd, Mi.dLen1, Mi.dLen, Mi.mLenV, Mi.mIsi, Mi.isub, Mi.D.tn, Mi.dIx, Mi.opC, Mi.negC, Mi.eqC, Mi.ipC, Mi.Rv.d, Mi.mNoP, Mi.asI, Mi.mPart, Mi.mSlL, Mi.asL, Mi.asQ, Mi.mItQ, Mi.mItA, Mi.mFor, Mi.putD, List.map_cons, List.map_nil, List.length_cons, List.length_nil, List.replicate, List.cons_append, List.nil_append, List.getElem?_cons_zero, List.getElem?_cons_succ, List.set_cons_zero, List.set_cons_succ, Nat.sub_self, Nat.reduceAdd, Nat.reduceSub, Nat.reduceEqDiff, List.reverse_cons, id, Bool.not_true, Bool.not_false, if_true, if_false, Bool.false_eq_true, reduceIte, true_and, and_true, and_self, Option.toList, List.all_cons, List.all_nil, Bool.and_true, Bool.true_and, Bool.and_self, decide_true, decide_false, decide_eq_true_eq, reduceCtorEq, Mi.bo_pl, Mi.bo_ow, Mi.bo_rf, Mi.bo_un, Mi.sa_ow, Mi.sa_rf, Mi.sa_pl, Mi.oa_un, Mi.oa_pl, Mi.oa_ow, Mi.co_ow, Mi.co_rf, Mi.co_pl, Mi.st_ow, Mi.st_rf, Mi.lv_ow, Mi.lv_rf, Mi.lv_pl, Mi.ne_un, Mi.ne_pl, Mi.ne_ow, Mi.ne_rf, Mi.ne_se, Mi.ne_ex, Mi.th_un, Mi.th_pl, Mi.ie_ex, Mi.xf_ex, ne_eq, not_false_eq_true, not_true_eq_false, Mi.clr, Mi.putS, Option.isSome_some, Option.some.injEq, Int.reduceEq, Int.reduceNe, Int.reduceLT, Int.reduceLE, Nat.reduceLT, Nat.reduceLeDiff, decide_not, Bool.not_eq_true, Bool.decide_eq_true, Mi.ib_t, Mi.ib_f, Mi.mkR_ex, Mi.bO_s, Mi.rO_f, Mi.rO_t, Mi.dEqA_eq, Mi.eqN_0, Mi.eqN_1, Mi.eqN_2, Mi.eqN_3, Mi.eqB_ins, Mi.eqB_tt, Mi.eqB_ll, Mi.eqB_int, Mi.eqB_str, Mi.eqB_bl, Mi.eqB_non, Mi.eqK_ii, Mi.eqK_ss, Mi.eqK_bb, Mi.eqK_nn, Mi.eqK_ni, Mi.eqK_in, Mi.eqK_ns, Mi.eqK_sn, Mi.eqK_is, Mi.eqK_si, Mi.eqK_nt, Mi.eqK_nl, Mi.eqB_tn, Mi.eqB_ln, Mi.eqLs_nil, Mi.eqLs_nc, Mi.eqLs_cn, Mi.eqLs_cc, Mi.itE_int, Mi.itE_str, Mi.itE_bl, Mi.itE_non, Mi.appT, Mi.asB, Mi.mMakeK, Mi.mDic, Option.bind_some, Mi.forL, hu, e1]
    · have e1 : lb__law_is_prime_0 [.pl (.int v), .pl (.int d)] = .ok .nx [.pl (.int v), .pl (.int d)] := by
        unfold lb__law_is_prime_0
        by_cases c1 : d * d ≤ v
        · have c2 : ¬ v % d = 0 := fun z => c ⟨c1, z⟩
          simp only [Mi.runM, Mi.runI, Mi.runR, Mi.outF, Mi.outI, Mi.outR, Mi.startE, Mi.bnd, Mi.ret, Mi.lift, Mi.fail, Mi.mVar, Mi.mC, Mi.mBin, Mi.mBinN, Mi.mUn, Mi.mFld, Mi.mFrz, Mi.mB, Mi.tru, Mi.mAnd, Mi.mOr, Mi.mNot, Mi.mAndV, Mi.mOrV, Mi.mNotV, Mi.mIf, Mi.mChain, Mi.mNil, Mi.mCons, Mi.mTup, Mi.mLst, Mi.mCB, Mi.mCBn, Mi.mIdxV, Mi.mSkip, Mi.thenF, Mi.mSeq, Mi.sto, Mi.mAsg, Mi.mAsgN, Mi.two, Mi.mPar, Mi.mDrop, Mi.mRet, Mi.mRetN, Mi.mRetV, Mi.mIfS, Mi.againF, Mi.gV, Mi.gsN, Mi.gsC, Mi.gT, Mi.mAsgT, Mi.tgt, Mi.mCall, Mi.frzR, Mi.newR, Mi.mCallN, Mi.recv, Mi.mMeth, Mi.mMethN, Mi.mMake, Mi.callR, Mi.mCallR, Mi.newM, Mi.mCallRN, Mi.mApp, Mi.mRev, Mi.setAt, Mi.mSetV, Mi.mSetF, Mi.mAug, Mi.one, Mi.mRaise, Mi.mRaise0, Mi.mTry, Mi.noEx, Mi.endX, Mi.inX, Mi.mTryAs, Mi.mXf, Mi.dI, Mi.dIc, Mi.dAdd, Mi.dSub, Mi.dLt, Mi.dLe, Mi.dGt, Mi.dGe, Mi.dMul, Mi.dDiv, Mi.dMod, Mi.dPow, Mi.dNeg, Mi.sEq, Mi.ofB, Mi.dEq, Mi.dNe, Mi.isNon, Mi.dIsN, Mi.dNotN, Mi.dInt, Mi.dI1, Mi.dI2, Mi.dAbs, Mi.dMin, Mi.dMax, Mi.dGcd, Mi.dLen1, Mi.dLen, Mi.mLenV, Mi.mIsi, Mi.isub, Mi.D.tn, Mi.dIx, Mi.opC, Mi.negC, Mi.eqC, Mi.ipC, Mi.Rv.d, Mi.mNoP, Mi.asI, Mi.mPart, Mi.mSlL, Mi.asL, Mi.asQ, Mi.mItQ, Mi.mItA, Mi.mFor, Mi.putD, List.map_cons, List.map_nil, List.length_cons, List.length_nil, List.replicate, List.cons_append, List.nil_append, List.getElem?_cons_zero, List.getElem?_cons_succ, List.set_cons_zero, List.set_cons_succ, Nat.sub_self, Nat.reduceAdd, Nat.reduceSub, Nat.reduceEqDiff, List.reverse_cons, id, Bool.not_true, Bool.not_false, if_true, if_false, Bool.false_eq_true, reduceIte, true_and, and_true, and_self, Option.toList, List.all_cons, List.all_nil, Bool.and_true, Bool.true_and, Bool.and_self, decide_true, decide_false, decide_eq_true_eq, reduceCtorEq, Mi.bo_pl, Mi.bo_ow, Mi.bo_rf, Mi.bo_un, Mi.sa_ow, Mi.sa_rf, Mi.sa_pl, Mi.oa_un, Mi.oa_pl, Mi.oa_ow, Mi.co_ow, Mi.co_rf, Mi.co_pl, Mi.st_ow, Mi.st_rf, Mi.lv_ow, Mi.lv_rf, Mi.lv_pl, Mi.ne_un, Mi.ne_pl, Mi.ne_ow, Mi.ne_rf, Mi.ne_se, Mi.ne_ex, Mi.th_un, Mi.th_pl, Mi.ie_ex, Mi.xf_ex, ne_eq, not_false_eq_true, not_true_eq_false, Mi.clr, Mi.putS, Option.isSome_some, Option.some.injEq, Int.reduceEq, Int.reduceNe, Int.reduceLT, Int.reduceLE, Nat.reduceLT, Nat.reduceLeDiff, decide_not, Bool.not_eq_true, Bool.decide_eq_true, Mi.ib_t, Mi.ib_f, Mi.mkR_ex, Mi.bO_s, Mi.rO_f, Mi.rO_t, Mi.dEqA_eq, Mi.eqN_0, Mi.eqN_1, Mi.eqN_2, Mi.eqN_3, Mi.eqB_ins, Mi.eqB_tt, Mi.eqB_ll, Mi.eqB_int, Mi.eqB_str, Mi.eqB_bl, Mi.eqB_non, Mi.eqK_ii, Mi.eqK_ss, Mi.eqK_bb, Mi.eqK_nn, Mi.eqK_ni, Mi.eqK_in, Mi.eqK_ns, Mi.eqK_sn, Mi.eqK_is, Mi.eqK_si, Mi.eqK_nt, Mi.eqK_nl, Mi.eqB_tn, Mi.eqB_ln, Mi.eqLs_nil, Mi.eqLs_nc, Mi.eqLs_cn, Mi.eqLs_cc, Mi.itE_int, Mi.itE_str, Mi.itE_bl, Mi.itE_non, Mi.appT, Mi.asB, Mi.mMakeK, Mi.mDic, Option.bind_some, mo, c1, c2, hd0, iMod_eq, fmod_pos (by omega : 0 < d)]
        · simp only [Mi.runM, Mi.runI, Mi.runR, Mi.outF, Mi.outI, Mi.outR, Mi.startE, Mi.bnd, Mi.ret, Mi.lift, Mi.fail, Mi.mVar, Mi.mC, Mi.mBin, Mi.mBinN, Mi.mUn, Mi.mFld, Mi.mFrz, Mi.mB, Mi.tru, Mi.mAnd, Mi.mOr, Mi.mNot, Mi.mAndV, Mi.mOrV, Mi.mNotV, Mi.mIf, Mi.mChain, Mi.mNil, Mi.mCons, Mi.mTup, Mi.mLst, Mi.mCB, Mi.mCBn, Mi.mIdxV, Mi.mSkip, Mi.thenF, Mi.mSeq, Mi.sto, Mi.mAsg, Mi.mAsgN, Mi.two, Mi.mPar, Mi.mDrop, Mi.mRet, Mi.mRetN, Mi.mRetV, Mi.mIfS, Mi.againF, Mi.gV, Mi.gsN, Mi.gsC, Mi.gT, Mi.mAsgT, Mi.tgt, Mi.mCall, Mi.frzR, Mi.newR, Mi.mCallN, Mi.recv, Mi.mMeth, Mi.mMethN, Mi.mMake, Mi.callR, Mi.mCallR, Mi.newM, Mi.mCallRN, Mi.mApp, Mi.mRev, Mi.setAt, Mi.mSetV, Mi.mSetF, Mi.mAug, Mi.one, Mi.mRaise, Mi.mRaise0, Mi.mTry, Mi.noEx, Mi.endX, Mi.inX, Mi.mTryAs, Mi.mXf, Mi.dI, Mi.dIc, Mi.dAdd, Mi.dSub, Mi.dLt, Mi.dLe, Mi.dGt, Mi.dGe, Mi.dMul, Mi.dDiv, Mi.dMod, Mi.dPow, Mi.dNeg, Mi.sEq, Mi.ofB, Mi.dEq, Mi.dNe, Mi.isNon, Mi.dIsN, Mi.dNotN, Mi.dInt, Mi.dI1, Mi.dI2, Mi.dAbs, Mi.dMin, Mi.dMax, Mi.dGcd, Mi.dLen1, Mi.dLen, Mi.mLenV, Mi.mIsi, Mi.isub, Mi.D.tn, Mi.dIx, Mi.opC, Mi.negC, Mi.eqC, Mi.ipC, Mi.Rv.d, Mi.mNoP, Mi.asI, Mi.mPart, Mi.mSlL, Mi.asL, Mi.asQ, Mi.mItQ, Mi.mItA, Mi.mFor, Mi.putD, List.map_cons, List.map_nil, List.length_cons, List.length_nil, List.replicate, List.cons_append, List.nil_append, List.getElem?_cons_zero, List.getElem?_cons_succ, List.set_cons_zero, List.set_cons_succ, Nat.sub_self, Nat.reduceAdd, Nat.reduceSub, Nat.reduceEqDiff, List.reverse_cons, id, Bool.not_true, Bool.not_false, if_true, if_false, Bool.false_eq_true, reduceIte, true_and, and_true, and_self, Option.toList, List.all_cons, List.all_nil, Bool.and_true, Bool.true_and, Bool.and_self, decide_true, decide_false, decide_eq_true_eq, reduceCtorEq, Mi.bo_pl, Mi.bo_ow, Mi.bo_rf, Mi.bo_un, Mi.sa_ow, Mi.sa_rf, Mi.sa_pl, Mi.oa_un, Mi.oa_pl, Mi.oa_ow, Mi.co_ow, Mi.co_rf, Mi.co_pl, Mi.st_ow, Mi.st_rf, Mi.lv_ow, Mi.lv_rf, Mi.lv_pl, Mi.ne_un, Mi.ne_pl, Mi.ne_ow, Mi.ne_rf, Mi.ne_se, Mi.ne_ex, Mi.th_un, Mi.th_pl, Mi.ie_ex, Mi.xf_ex, ne_eq, not_false_eq_true, not_true_eq_false, Mi.clr, Mi.putS, Option.isSome_some, Option.some.injEq, Int.reduceEq, Int.reduceNe, Int.reduceLT, Int.reduceLE, Nat.reduceLT, Nat.reduceLeDiff, decide_not, Bool.not_eq_true, Bool.decide_eq_true, Mi.ib_t, Mi.ib_f, Mi.mkR_ex, Mi.bO_s, Mi.rO_f, Mi.rO_t, Mi.dEqA_eq, Mi.eqN_0, Mi.eqN_1, Mi.eqN_2, Mi.eqN_3, Mi.eqB_ins, Mi.eqB_tt, Mi.eqB_ll, Mi.eqB_int, Mi.eqB_str, Mi.eqB_bl, Mi.eqB_non, Mi.eqK_ii, Mi.eqK_ss, Mi.eqK_bb, Mi.eqK_nn, Mi.eqK_ni, Mi.eqK_in, Mi.eqK_ns, Mi.eqK_sn, Mi.eqK_is, Mi.eqK_si, Mi.eqK_nt, Mi.eqK_nl, Mi.eqB_tn, Mi.eqB_ln, Mi.eqLs_nil, Mi.eqLs_nc, Mi.eqLs_cn, Mi.eqLs_cc, Mi.itE_int, Mi.itE_str, Mi.itE_bl, Mi.itE_non, Mi.appT, Mi.asB, Mi.mMakeK, Mi.mDic, Option.bind_some, mo, c1]
      rcases lip_loop l (.pl (.int d)) rfl (fun x hx => h x (List.mem_cons_of_mem _ hx)) with ⟨a, ρ, e⟩ | ⟨a, u', e⟩
      · refine .inl ⟨a, ρ, ?_⟩
        simp only [Mi.runM, Mi.runI, Mi.runR, Mi.outF, Mi.outI, Mi.outR, Mi.startE, Mi.bnd, Mi.ret, Mi.lift, Mi.fail, Mi.mVar, Mi.mC, Mi.mBin, Mi.mBinN, Mi.mUn, Mi.mFld, Mi.mFrz, Mi.mB, Mi.tru, Mi.mAnd, Mi.mOr, Mi.mNot, Mi.mAndV, Mi.mOrV, Mi.mNotV, Mi.mIf, Mi.mChain, Mi.mNil, Mi.mCons, Mi.mTup, Mi.mLst, Mi.mCB, Mi.mCBn, Mi.mIdxV, Mi.mSkip, Mi.thenF, Mi.mSeq, Mi.sto, Mi.mAsg, Mi.mAsgN, Mi.two, Mi.mPar, Mi.mDrop, Mi.mRet, Mi.mRetN, Mi.mRetV, Mi.mIfS, Mi.againF, Mi.gV, Mi.gsN, Mi.gsC, Mi.gT, Mi.mAsgT, Mi.tgt, Mi.mCall, Mi.frzR, Mi.newR, Mi.mCallN, Mi.recv, Mi.mMeth, Mi.mMethN, Mi.mMake, Mi.callR, Mi.mCallR, Mi.newM, Mi.mCallRN, Mi.mApp, Mi.mRev, Mi.setAt, Mi.mSetV, Mi.mSetF, Mi.mAug, Mi.one, Mi.mRaise, Mi.mRaise0, Mi.mTry, Mi.noEx, Mi.endX, Mi.inX, Mi.mTryAs, Mi.mXf, Mi.dI, Mi.dIc, Mi.dAdd, Mi.dSub, Mi.dLt, Mi.dLe, Mi.dGt, Mi.dGe, Mi.dMul, Mi.dDiv, Mi.dMod, Mi.dPow, Mi.dNeg, Mi.sEq, Mi.ofB, Mi.dEq, Mi.dNe, Mi.isNon, Mi.dIsN, Mi.dNotN, Mi.dInt, Mi.dI1, Mi.dI2, Mi.dAbs, Mi.dMin, Mi.dMax, Mi.dGcd, Mi.dLen1, Mi.dLen, Mi.mLenV, Mi.mIsi, Mi.isub, Mi.D.tn, Mi.dIx, Mi.opC, Mi.negC, Mi.eqC, Mi.ipC, Mi.Rv.d, Mi.mNoP, Mi.asI, Mi.mPart, Mi.mSlL, Mi.asL, Mi.asQ, Mi.mItQ, Mi.mItA, Mi.mFor, Mi.putD, List.map_cons, List.map_nil, List.length_cons, List.length_nil, List.replicate, List.cons_append, List.nil_append, List.getElem?_cons_zero, List.getElem?_cons_succ, List.set_cons_zero, List.set_cons_succ, Nat.sub_self, Nat.reduceAdd, Nat.reduceSub, Nat.reduceEqDiff, List.reverse_cons, id, Bool.not_true, Bool.not_false, if_true, if_false, Bool.false_eq_true, reduceIte, true_and, and_true, and_self, Option.toList, List.all_cons, List.all_nil, Bool.and_true, Bool.true_and, Bool.and_self, decide_true, decide_false, decide_eq_true_eq, reduceCtorEq, Mi.bo_pl, Mi.bo_ow, Mi.bo_rf, Mi.bo_un, Mi.sa_ow, Mi.sa_rf, Mi.sa_pl, Mi.oa_un, Mi.oa_pl, Mi.oa_ow, Mi.co_ow, Mi.co_rf, Mi.co_pl, Mi.st_ow, Mi.st_rf, Mi.lv_ow, Mi.lv_rf, Mi.lv_pl, Mi.ne_un, Mi.ne_pl, Mi.ne_ow, Mi.ne_rf, Mi.ne_se, Mi.ne_ex, Mi.th_un, Mi.th_pl, Mi.ie_ex, Mi.xf_ex, ne_eq, not_false_eq_true, not_true_eq_false, Mi.clr, Mi.putS, Option.isSome_some, Option.some.injEq, Int.reduceEq, Int.reduceNe, Int.reduceLT, Int.reduceLE, Nat.reduceLT, Nat.reduceLeDiff, decide_not, Bool.not_eq_true, Bool.decide_eq_true, Mi.ib_t, Mi.ib_f, Mi.mkR_ex, Mi.bO_s, Mi.rO_f, Mi.rO_t, Mi.dEqA_eq, Mi.eqN_0, Mi.eqN_1, Mi.eqN_2, Mi.eqN_3, Mi.eqB_ins, Mi.eqB_tt, Mi.eqB_ll, Mi.eqB_int, Mi.eqB_str, Mi.eqB_bl, Mi.eqB_non, Mi.eqK_ii, Mi.eqK_ss, Mi.eqK_bb, Mi.eqK_nn, Mi.eqK_ni, Mi.eqK_in, Mi.eqK_ns, Mi.eqK_sn, Mi.eqK_is, Mi.eqK_si, Mi.eqK_nt, Mi.eqK_nl, Mi.eqB_tn, Mi.eqB_ln, Mi.eqLs_nil, Mi.eqLs_nc, Mi.eqLs_cn, Mi.eqLs_cc, Mi.itE_int, Mi.itE_str, Mi.itE_bl, Mi.itE_non, Mi.appT, Mi.asB, Mi.mMakeK, Mi.mDic, Option.bind_some, Mi.forL, hu, e1, e]
      · refine .inr ⟨fun x hx => ?_, u', ?_⟩
        · rcases List.mem_cons.mp hx with rfl | hx
          · exact c
          · exact a x hx
        · simp only [Mi.runM, Mi.runI, Mi.runR, Mi.outF, Mi.outI, Mi.outR, Mi.startE, Mi.bnd, Mi.ret, Mi.lift, Mi.fail, Mi.mVar, Mi.mC, Mi.mBin, Mi.mBinN, Mi.mUn, Mi.mFld, Mi.mFrz, Mi.mB, Mi.tru, Mi.mAnd, Mi.mOr, Mi.mNot, Mi.mAndV, Mi.mOrV, Mi.mNotV, Mi.mIf, Mi.mChain, Mi.mNil, Mi.mCons, Mi.mTup, Mi.mLst, Mi.mCB, Mi.mCBn, Mi.mIdxV, Mi.mSkip, Mi.thenF, Mi.mSeq, Mi.sto, Mi.mAsg, Mi.mAsgN, Mi.two, Mi.mPar, Mi.mDrop, Mi.mRet, Mi.mRetN, Mi.mRetV, Mi.mIfS, Mi.againF, Mi.gV, Mi.gsN, Mi.gsC, Mi.gT, Mi.mAsgT, Mi.tgt, Mi.mCall, Mi.frzR, Mi.newR, Mi.mCallN, Mi.recv, Mi.mMeth, Mi.mMethN, Mi.mMake, Mi.callR, Mi.mCallR, Mi.newM, Mi.mCallRN, Mi.mApp, Mi.mRev, Mi.setAt, Mi.mSetV, Mi.mSetF, Mi.mAug, Mi.one, Mi.mRaise, Mi.mRaise0, Mi.mTry, Mi.noEx, Mi.endX, Mi.inX, Mi.mTryAs, Mi.mXf, Mi.dI, Mi.dIc, Mi.dAdd, Mi.dSub, Mi.dLt, Mi.dLe, Mi.dGt, Mi.dGe, Mi.dMul, Mi.dDiv, Mi.dMod, Mi.dPow, Mi.dNeg, Mi.sEq, Mi.ofB, Mi.dEq, Mi.dNe, Mi.isNon, Mi.dIsN, Mi.dNotN, Mi.dInt, Mi.dI1, Mi.dI2, Mi.dAbs, Mi.dMin, Mi.dMax, Mi.dGcd, Mi.dLen1, Mi.dLen, Mi.mLenV, Mi.mIsi, Mi.isub, Mi.D.tn, Mi.dIx, Mi.opC, Mi.negC, Mi.eqC, Mi.ipC, Mi.Rv.d, Mi.mNoP, Mi.asI, Mi.mPart, Mi.mSlL, Mi.asL, Mi.asQ, Mi.mItQ, Mi.mItA, Mi.mFor, Mi.putD, List.map_cons, List.map_nil, List.length_cons, List.length_nil, List.replicate, List.cons_append, List.nil_append, List.getElem?_cons_zero, List.getElem?_cons_succ, List.set_cons_zero, List.set_cons_succ, Nat.sub_self, Nat.reduceAdd, Nat.reduceSub, Nat.reduceEqDiff, List.reverse_cons, id, Bool.not_true, Bool.not_false, if_true, if_false, Bool.false_eq_true, reduceIte, true_and, and_true, and_self, Option.toList, List.all_cons, List.all_nil, Bool.and_true, Bool.true_and, Bool.and_self, decide_true, decide_false, decide_eq_true_eq, reduceCtorEq, Mi.bo_pl, Mi.bo_ow, Mi.bo_rf, Mi.bo_un, Mi.sa_ow, Mi.sa_rf, Mi.sa_pl, Mi.oa_un, Mi.oa_pl, Mi.oa_ow, Mi.co_ow, Mi.co_rf, Mi.co_pl, Mi.st_ow, Mi.st_rf, Mi.lv_ow, Mi.lv_rf, Mi.lv_pl, Mi.ne_un, Mi.ne_pl, Mi.ne_ow, Mi.ne_rf, Mi.ne_se, Mi.ne_ex, Mi.th_un, Mi.th_pl, Mi.ie_ex, Mi.xf_ex, ne_eq, not_false_eq_true, not_true_eq_false, Mi.clr, Mi.putS, Option.isSome_some, Option.some.injEq, Int.reduceEq, Int.reduceNe, Int.reduceLT, Int.reduceLE, Nat.reduceLT, Nat.reduceLeDiff, decide_not, Bool.not_eq_true, Bool.decide_eq_true, Mi.ib_t, Mi.ib_f, Mi.mkR_ex, Mi.bO_s, Mi.rO_f, Mi.rO_t, Mi.dEqA_eq, Mi.eqN_0, Mi.eqN_1, Mi.eqN_2, Mi.eqN_3, Mi.eqB_ins, Mi.eqB_tt, Mi.eqB_ll, Mi.eqB_int, Mi.eqB_str, Mi.eqB_bl, Mi.eqB_non, Mi.eqK_ii, Mi.eqK_ss, Mi.eqK_bb, Mi.eqK_nn, Mi.eqK_ni, Mi.eqK_in, Mi.eqK_ns, Mi.eqK_sn, Mi.eqK_is, Mi.eqK_si, Mi.eqK_nt, Mi.eqK_nl, Mi.eqB_tn, Mi.eqB_ln, Mi.eqLs_nil, Mi.eqLs_nc, Mi.eqLs_cn, Mi.eqLs_cc, Mi.itE_int, Mi.itE_str, Mi.itE_bl, Mi.itE_non, Mi.appT, Mi.asB, Mi.mMakeK, Mi.mDic, Option.bind_some, Mi.forL, hu, e1, e]
theorem e_law_is_prime {v : Int} (hv : v < 10000) : m__law_is_prime [.int v] = .ok (.pl (.bl (isP v))) := by
  have hl : ∀ d ∈ (List.range 98).map (fun (i : Nat) => 2 + (i : Int)), 2 ≤ d ∧ d < 100 := fun d hd => by
    obtain ⟨i, hi, rfl⟩ := List.mem_map.mp hd
    have := List.mem_range.mp hi
    omega
  have sm : (small 2 && small 100) = true := by decide
  unfold m__law_is_prime b__law_is_prime
  rcases lip_loop (v := v) ((List.range 98).map fun (i : Nat) => 2 + (i : Int)) .un rfl hl with ⟨⟨d, d1, d2, d3⟩, ρ, e⟩ | ⟨a, u', e⟩
  · rw [← rngL_map] at e
    have hp : ¬ Prm v := fun z => z.2 d d1 d2 d3
    simp only [Mi.runM, Mi.runI, Mi.runR, Mi.outF, Mi.outI, Mi.outR, Mi.startE, Mi.bnd, Mi.ret, Mi.lift, Mi.fail, Mi.mVar, Mi.mC, Mi.mBin, Mi.mBinN, Mi.mUn, Mi.mFld, Mi.mFrz, Mi.mB, Mi.tru, Mi.mAnd, Mi.mOr, Mi.mNot, Mi.mAndV, Mi.mOrV, Mi.mNotV, Mi.mIf, Mi.mChain, Mi.mNil, Mi.mCons, Mi.mTup, Mi.mLst, Mi.mCB, Mi.mCBn, Mi.mIdxV, Mi.mSkip, Mi.thenF, Mi.mSeq, Mi.sto, Mi.mAsg, Mi.mAsgN, Mi.two, Mi.mPar, Mi.mDrop, Mi.mRet, Mi.mRetN, Mi.mRetV, Mi.mIfS, Mi.againF, Mi.gV, Mi.gsN, Mi.gsC, Mi.gT, Mi.mAsgT, Mi.tgt, Mi.mCall, Mi.frzR, Mi.newR, Mi.mCallN, Mi.recv, Mi.mMeth, Mi.mMethN, Mi.mMake, Mi.callR, Mi.mCallR, Mi.newM, Mi.mCallRN, Mi.mApp, Mi.mRev, Mi.setAt, Mi.mSetV, Mi.mSetF, Mi.mAug, Mi.one, Mi.mRaise, Mi.mRaise0, Mi.mTry, Mi.noEx, Mi.endX, Mi.inX, Mi.mTryAs, Mi.mXf, Mi.dI, Mi.dIc, Mi.dAdd, Mi.dSub, Mi.dLt, Mi.dLe, Mi.dGt, Mi.dGe, Mi.dMul, Mi.dDiv, Mi.dMod, Mi.dPow, Mi.dNeg, Mi.sEq, Mi.ofB, Mi.dEq, Mi.dNe, Mi.isNon, Mi.dIsN, Mi.dNotN, Mi.dInt, Mi.dI1, Mi.dI2, Mi.dAbs, Mi.dMin, Mi.dMax, Mi.dGcd, Mi.dLen1, Mi.dLen, Mi.mLenV, Mi.mIsi, Mi.isub, Mi.D.tn, Mi.dIx, Mi.opC, Mi.negC, Mi.eqC, Mi.ipC, Mi.Rv.d, Mi.mNoP, Mi.asI, Mi.mPart, Mi.mSlL, Mi.asL, Mi.asQ, Mi.mItQ, Mi.mItA, Mi.mFor, Mi.putD, List.map_cons, List.map_nil, List.length_cons, List.length_nil, List.replicate, List.cons_append, List.nil_append, List.getElem?_cons_zero, List.getElem?_cons_succ, List.set_cons_zero, List.set_cons_succ, Nat.sub_self, Nat.reduceAdd, Nat.reduceSub, Nat.reduceEqDiff, List.reverse_cons, id, Bool.not_true, Bool.not_false, if_true, if_false, Bool.false_eq_true, reduceIte, true_and, and_true, and_self, Option.toList, List.all_cons, List.all_nil, Bool.and_true, Bool.true_and, Bool.and_self, decide_true, decide_false, decide_eq_true_eq, reduceCtorEq, Mi.bo_pl, Mi.bo_ow, Mi.bo_rf, Mi.bo_un, Mi.sa_ow, Mi.sa_rf, Mi.sa_pl, Mi.oa_un, Mi.oa_pl, Mi.oa_ow, Mi.co_ow, Mi.co_rf, Mi.co_pl, Mi.st_ow, Mi.st_rf, Mi.lv_ow, Mi.lv_rf, Mi.lv_pl, Mi.ne_un, Mi.ne_pl, Mi.ne_ow, Mi.ne_rf, Mi.ne_se, Mi.ne_ex, Mi.th_un, Mi.th_pl, Mi.ie_ex, Mi.xf_ex, ne_eq, not_false_eq_true, not_true_eq_false, Mi.clr, Mi.putS, Option.isSome_some, Option.some.injEq, Int.reduceEq, Int.reduceNe, Int.reduceLT, Int.reduceLE, Nat.reduceLT, Nat.reduceLeDiff, decide_not, Bool.not_eq_true, Bool.decide_eq_true, Mi.ib_t, Mi.ib_f, Mi.mkR_ex, Mi.bO_s, Mi.rO_f, Mi.rO_t, Mi.dEqA_eq, Mi.eqN_0, Mi.eqN_1, Mi.eqN_2, Mi.eqN_3, Mi.eqB_ins, Mi.eqB_tt, Mi.eqB_ll, Mi.eqB_int, Mi.eqB_str, Mi.eqB_bl, Mi.eqB_non, Mi.eqK_ii, Mi.eqK_ss, Mi.eqK_bb, Mi.eqK_nn, Mi.eqK_ni, Mi.eqK_in, Mi.eqK_ns, Mi.eqK_sn, Mi.eqK_is, Mi.eqK_si, Mi.eqK_nt, Mi.eqK_nl, Mi.eqB_tn, Mi.eqB_ln, Mi.eqLs_nil, Mi.eqLs_nc, Mi.eqLs_cn, Mi.eqLs_cc, Mi.itE_int, Mi.itE_str, Mi.itE_bl, Mi.itE_non, Mi.appT, Mi.asB, Mi.mMakeK, Mi.mDic, Option.bind_some, Mi.rng2, sm, show ((100 : Int) - 2).toNat = 98 from rfl, e, isP_f hp]
  · rw [← rngL_map] at e
    by_cases h1 : 1 < v
    · have hp : Prm v := ⟨h1, fun d d1 d2 d3 => by
        refine a d (List.mem_map.mpr ⟨(d - 2).toNat, List.mem_range.mpr ?_, by omega⟩) ⟨d2, d3⟩
        rcases Int.lt_or_le d 100 with z | z
        · omega
        · have := Int.mul_le_mul z z (by omega) (by omega)
          omega⟩
      simp only [Mi.runM, Mi.runI, Mi.runR, Mi.outF, Mi.outI, Mi.outR, Mi.startE, Mi.bnd, Mi.ret, Mi.lift, Mi.fail, Mi.mVar, Mi.mC, Mi.mBin, Mi.mBinN, Mi.mUn, Mi.mFld, Mi.mFrz, Mi.mB, Mi.tru, Mi.mAnd, Mi.mOr, Mi.mNot, Mi.mAndV, Mi.mOrV, Mi.mNotV, Mi.mIf, Mi.mChain, Mi.mNil, Mi.mCons, Mi.mTup, Mi.mLst, Mi.mCB, Mi.mCBn, Mi.mIdxV, Mi.mSkip, Mi.thenF, Mi.mSeq, Mi.sto, Mi.mAsg, Mi.mAsgN, Mi.two, Mi.mPar, Mi.mDrop, Mi.mRet, Mi.mRetN, Mi.mRetV, Mi.mIfS, Mi.againF, Mi.gV, Mi.gsN, Mi.gsC, Mi.gT, Mi.mAsgT, Mi.tgt, Mi.mCall, Mi.frzR, Mi.newR, Mi.mCallN, Mi.recv, Mi.mMeth, Mi.mMethN, Mi.mMake, Mi.callR, Mi.mCallR, Mi.newM, Mi.mCallRN, Mi.mApp, Mi.mRev, Mi.setAt, Mi.mSetV, Mi.mSetF, Mi.mAug, Mi.one, Mi.mRaise, Mi.mRaise0, Mi.mTry, Mi.noEx, Mi.endX, Mi.inX, Mi.mTryAs, Mi.mXf, Mi.dI, Mi.dIc, Mi.dAdd, Mi.dSub, Mi.dLt, Mi.dLe, Mi.dGt, Mi.dGe, Mi.dMul, Mi.dDiv, Mi.dMod, Mi.dPow, Mi.dNeg, Mi.sEq, Mi.ofB, Mi.dEq, Mi.dNe, Mi.isNon, Mi.dIsN, Mi.dNotN, Mi.dInt, Mi.dI1, Mi.dI2, Mi.dAbs, Mi.dMin, Mi.dMax, Mi.dGcd, Mi.dLen1, Mi.dLen, Mi.mLenV, Mi.mIsi, Mi.isub, Mi.D.tn, Mi.dIx, Mi.opC, Mi.negC, Mi.eqC, Mi.ipC, Mi.Rv.d, Mi.mNoP, Mi.asI, Mi.mPart, Mi.mSlL, Mi.asL, Mi.asQ, Mi.mItQ, Mi.mItA, Mi.mFor, Mi.putD, List.map_cons, List.map_nil, List.length_cons, List.length_nil, List.replicate, List.cons_append, List.nil_append, List.getElem?_cons_zero, List.getElem?_cons_succ, List.set_cons_zero, List.set_cons_succ, Nat.sub_self, Nat.reduceAdd, Nat.reduceSub, Nat.reduceEqDiff, List.reverse_cons, id, Bool.not_true, Bool.not_false, if_true, if_false, Bool.false_eq_true, reduceIte, true_and, and_true, and_self, Option.toList, List.all_cons, List.all_nil, Bool.and_true, Bool.true_and, Bool.and_self, decide_true, decide_false, decide_eq_true_eq, reduceCtorEq, Mi.bo_pl, Mi.bo_ow, Mi.bo_rf, Mi.bo_un, Mi.sa_ow, Mi.sa_rf, Mi.sa_pl, Mi.oa_un, Mi.oa_pl, Mi.oa_ow, Mi.co_ow, Mi.co_rf, Mi.co_pl, Mi.st_ow, Mi.st_rf, Mi.lv_ow, Mi.lv_rf, Mi.lv_pl, Mi.ne_un, Mi.ne_pl, Mi.ne_ow, Mi.ne_rf, Mi.ne_se, Mi.ne_ex, Mi.th_un, Mi.th_pl, Mi.ie_ex, Mi.xf_ex, ne_eq, not_false_eq_true, not_true_eq_false, Mi.clr, Mi.putS, Option.isSome_some, Option.some.injEq, Int.reduceEq, Int.reduceNe, Int.reduceLT, Int.reduceLE, Nat.reduceLT, Nat.reduceLeDiff, decide_not, Bool.not_eq_true, Bool.decide_eq_true, Mi.ib_t, Mi.ib_f, Mi.mkR_ex, Mi.bO_s, Mi.rO_f, Mi.rO_t, Mi.dEqA_eq, Mi.eqN_0, Mi.eqN_1, Mi.eqN_2, Mi.eqN_3, Mi.eqB_ins, Mi.eqB_tt, Mi.eqB_ll, Mi.eqB_int, Mi.eqB_str, Mi.eqB_bl, Mi.eqB_non, Mi.eqK_ii, Mi.eqK_ss, Mi.eqK_bb, Mi.eqK_nn, Mi.eqK_ni, Mi.eqK_in, Mi.eqK_ns, Mi.eqK_sn, Mi.eqK_is, Mi.eqK_si, Mi.eqK_nt, Mi.eqK_nl, Mi.eqB_tn, Mi.eqB_ln, Mi.eqLs_nil, Mi.eqLs_nc, Mi.eqLs_cn, Mi.eqLs_cc, Mi.itE_int, Mi.itE_str, Mi.itE_bl, Mi.itE_non, Mi.appT, Mi.asB, Mi.mMakeK, Mi.mDic, Option.bind_some, Mi.rng2, sm, show ((100 : Int) - 2).toNat = 98 from rfl, e, h1, isP_t hp]
    · simp only [Mi.runM, Mi.runI, Mi.runR, Mi.outF, Mi.outI, Mi.outR, Mi.startE, Mi.bnd, Mi.ret, Mi.lift, Mi.fail, Mi.mVar, Mi.mC, Mi.mBin, Mi.mBinN, Mi.mUn, Mi.mFld, Mi.mFrz, Mi.mB, Mi.tru, Mi.mAnd, Mi.mOr, Mi.mNot, Mi.mAndV, Mi.mOrV, Mi.mNotV, Mi.mIf, Mi.mChain, Mi.mNil, Mi.mCons, Mi.mTup, Mi.mLst, Mi.mCB, Mi.mCBn, Mi.mIdxV, Mi.mSkip, Mi.thenF, Mi.mSeq, Mi.sto, Mi.mAsg, Mi.mAsgN, Mi.two, Mi.mPar, Mi.mDrop, Mi.mRet, Mi.mRetN, Mi.mRetV, Mi.mIfS, Mi.againF, Mi.gV, Mi.gsN, Mi.gsC, Mi.gT, Mi.mAsgT, Mi.tgt, Mi.mCall, Mi.frzR, Mi.newR, Mi.mCallN, Mi.recv, Mi.mMeth, Mi.mMethN, Mi.mMake, Mi.callR, Mi.mCallR, Mi.newM, Mi.mCallRN, Mi.mApp, Mi.mRev, Mi.setAt, Mi.mSetV, Mi.mSetF, Mi.mAug, Mi.one, Mi.mRaise, Mi.mRaise0, Mi.mTry, Mi.noEx, Mi.endX, Mi.inX, Mi.mTryAs, Mi.mXf, Mi.dI, Mi.dIc, Mi.dAdd, Mi.dSub, Mi.dLt, Mi.dLe, Mi.dGt, Mi.dGe, Mi.dMul, Mi.dDiv, Mi.dMod, Mi.dPow, Mi.dNeg, Mi.sEq, Mi.ofB, Mi.dEq, Mi.dNe, Mi.isNon, Mi.dIsN, Mi.dNotN, Mi.dInt, Mi.dI1, Mi.dI2, Mi.dAbs, Mi.dMin, Mi.dMax, Mi.dGcd, Mi.dLen1, Mi.dLen, Mi.mLenV, Mi.mIsi, Mi.isub, Mi.D.tn, Mi.dIx, Mi.opC, Mi.negC, Mi.eqC, Mi.ipC, Mi.Rv.d, Mi.mNoP, Mi.asI, Mi.mPart, Mi.mSlL, Mi.asL, Mi.asQ, Mi.mItQ, Mi.mItA, Mi.mFor, Mi.putD, List.map_cons, List.map_nil, List.length_cons, List.length_nil, List.replicate, List.cons_append, List.nil_append, List.getElem?_cons_zero, List.getElem?_cons_succ, List.set_cons_zero, List.set_cons_succ, Nat.sub_self, Nat.reduceAdd, Nat.reduceSub, Nat.reduceEqDiff, List.reverse_cons, id, Bool.not_true, Bool.not_false, if_true, if_false, Bool.false_eq_true, reduceIte, true_and, and_true, and_self, Option.toList, List.all_cons, List.all_nil, Bool.and_true, Bool.true_and, Bool.and_self, decide_true, decide_false, decide_eq_true_eq, reduceCtorEq, Mi.bo_pl, Mi.bo_ow, Mi.bo_rf, Mi.bo_un, Mi.sa_ow, Mi.sa_rf, Mi.sa_pl, Mi.oa_un, Mi.oa_pl, Mi.oa_ow, Mi.co_ow, Mi.co_rf, Mi.co_pl, Mi.st_ow, Mi.st_rf, Mi.lv_ow, Mi.lv_rf, Mi.lv_pl, Mi.ne_un, Mi.ne_pl, Mi.ne_ow, Mi.ne_rf, Mi.ne_se, Mi.ne_ex, Mi.th_un, Mi.th_pl, Mi.ie_ex, Mi.xf_ex, ne_eq, not_false_eq_true, not_true_eq_false, Mi.clr, Mi.putS, Option.isSome_some, Option.some.injEq, Int.reduceEq, Int.reduceNe, Int.reduceLT, Int.reduceLE, Nat.reduceLT, Nat.reduceLeDiff, decide_not, Bool.not_eq_true, Bool.decide_eq_true, Mi.ib_t, Mi.ib_f, Mi.mkR_ex, Mi.bO_s, Mi.rO_f, Mi.rO_t, Mi.dEqA_eq, Mi.eqN_0, Mi.eqN_1, Mi.eqN_2, Mi.eqN_3, Mi.eqB_ins, Mi.eqB_tt, Mi.eqB_ll, Mi.eqB_int, Mi.eqB_str, Mi.eqB_bl, Mi.eqB_non, Mi.eqK_ii, Mi.eqK_ss, Mi.eqK_bb, Mi.eqK_nn, Mi.eqK_ni, Mi.eqK_in, Mi.eqK_ns, Mi.eqK_sn, Mi.eqK_is, Mi.eqK_si, Mi.eqK_nt, Mi.eqK_nl, Mi.eqB_tn, Mi.eqB_ln, Mi.eqLs_nil, Mi.eqLs_nc, Mi.eqLs_cn, Mi.eqLs_cc, Mi.itE_int, Mi.itE_str, Mi.itE_bl, Mi.itE_non, Mi.appT, Mi.asB, Mi.mMakeK, Mi.mDic, Option.bind_some, Mi.rng2, sm, show ((100 : Int) - 2).toNat = 98 from rfl, e, h1, isP_f (not_prm_lt (by omega : v < 2))]
theorem prm_small {p : Int} (h1 : 1 < p) (h : p < 25) (h2 : ¬ p % 2 = 0 ∨ p < 4) (h3 : ¬ p % 3 = 0 ∨ p < 9) (h4 : ¬ p % 4 = 0 ∨ p < 16) : Prm p := ⟨h1, fun d d1 d2 d3 => by
  have hd : d < 5 := by
    rcases Int.lt_or_le d 5 with z | z
    · exact z
    · have := Int.mul_le_mul z z (by omega) (by omega)
      omega
  have : d = 2 ∨ d = 3 ∨ d = 4 := by omega
  rcases this with rfl | rfl | rfl <;> omega⟩
theorem lp_loop : ∀ (l : List D) (s : Dz) (k v : Int) (u : Sl), okAsg (some u) = true → v ≤ 9973 →
    (∃ (p : Int) (u' : Sl), FOk p ∧ forL (gV 3) lb__law_prime_0 l [.rf s.c, .pl (.int k), .pl (.int v), u] = .ok (.rt (.pl (.int p))) [.rf s.c, .pl (.int k), .pl (.int p), u']) ∨
    (∃ (p : Int) (u' : Sl), forL (gV 3) lb__law_prime_0 l [.rf s.c, .pl (.int k), .pl (.int v), u] = .ok .nx [.rf s.c, .pl (.int k), .pl (.int p), u'])
  | [], s, k, v, u, _, _ => .inr ⟨v, u, rfl⟩
  | d :: l, s, k, v, u, hu, hv => by
    have hp := e_law_is_prime (by omega : v < 10000)
    by_cases h : Prm v
    · refine .inl ⟨v, .pl d, .inr ⟨h, hv⟩, ?_⟩
      have e1 : lb__law_prime_0 [.rf s.c, .pl (.int k), .pl (.int v), .pl d] = .ok (.rt (.pl (.int v))) [.rf s.c, .pl (.int k), .pl (.int v), .pl d] := by unfold lb__law_prime_0; simp only [Mi.runM, Mi.runI, Mi.runR, Mi.outF, Mi.outI, Mi.outR, Mi.startE, Mi.bnd, Mi.ret, Mi.lift, Mi.fail, Mi.mVar, Mi.mC, Mi.mBin, Mi.mBinN, Mi.mUn, Mi.mFld, Mi.mFrz, Mi.mB, Mi.tru, Mi.mAnd, Mi.mOr, Mi.mNot, Mi.mAndV, Mi.mOrV, Mi.mNotV, Mi.mIf, Mi.mChain, Mi.mNil, Mi.mCons, Mi.mTup, Mi.mLst, Mi.mCB, Mi.mCBn, Mi.mIdxV, Mi.mSkip, Mi.thenF, Mi.mSeq, Mi.sto, Mi.mAsg, Mi.mAsgN, Mi.two, Mi.mPar, Mi.mDrop, Mi.mRet, Mi.mRetN, Mi.mRetV, Mi.mIfS, Mi.againF, Mi.gV, Mi.gsN, Mi.gsC, Mi.gT, Mi.mAsgT, Mi.tgt, Mi.mCall, Mi.frzR, Mi.newR, Mi.mCallN, Mi.recv, Mi.mMeth, Mi.mMethN, Mi.mMake, Mi.callR, Mi.mCallR, Mi.newM, Mi.mCallRN, Mi.mApp, Mi.mRev, Mi.setAt, Mi.mSetV, Mi.mSetF, Mi.mAug, Mi.one, Mi.mRaise, Mi.mRaise0, Mi.mTry, Mi.noEx, Mi.endX, Mi.inX, Mi.mTryAs, Mi.mXf, Mi.dI, Mi.dIc, Mi.dAdd, Mi.dSub, Mi.dLt, Mi.dLe, Mi.dGt, Mi.dGe, Mi.dMul, Mi.dDiv, Mi.dMod, Mi.dPow, Mi.dNeg, Mi.sEq, Mi.ofB, Mi.dEq, Mi.dNe, Mi.isNon, Mi.dIsN, Mi.dNotN, Mi.dInt, Mi.dI1, Mi.dI2, Mi.dAbs, Mi.dMin, Mi.dMax, Mi.dGcd, Mi.dLen1, Mi.dLen, Mi.mLenV, Mi.mIsi, Mi.isub, Mi.D.tn, Mi.dIx, Mi.opC, Mi.negC, Mi.eqC, Mi.ipC, Mi.Rv.d, Mi.mNoP, Mi.asI, Mi.mPart, Mi.mSlL, Mi.asL, Mi.asQ, Mi.mItQ, Mi.mItA, Mi.mFor, Mi.putD, List.map_cons, List.map_nil, List.length_cons, List.length_nil, List.replicate, List.cons_append, List.nil_append, List.getElem?_cons_zero, List.getElem?_cons_succ, List.set_cons_zero, List.set_cons_succ, Nat.sub_self, Nat.reduceAdd, Nat.reduceSub, Nat.reduceEqDiff, List.reverse_cons, id, Bool.not_true, Bool.not_false, if_true, if_false, Bool.false_eq_true, reduceIte, true_and, and_true, and_self, Option.toList, List.all_cons, List.all_nil, Bool.and_true, Bool.true_and, Bool.and_self, decide_true, decide_false, decide_eq_true_eq, reduceCtorEq, Mi.bo_pl, Mi.bo_ow, Mi.bo_rf, Mi.bo_un, Mi.sa_ow, Mi.sa_rf, Mi.sa_pl, Mi.oa_un, Mi.oa_pl, Mi.oa_ow, Mi.co_ow, Mi.co_rf, Mi.co_pl, Mi.st_ow, Mi.st_rf, Mi.lv_ow, Mi.lv_rf, Mi.lv_pl, Mi.ne_un, Mi.ne_pl, Mi.ne_ow, Mi.ne_rf, Mi.ne_se, Mi.ne_ex, Mi.th_un, Mi.th_pl, Mi.ie_ex, Mi.xf_ex, ne_eq, not_false_eq_true, not_true_eq_false, Mi.clr, Mi.putS, Option.isSome_some, Option.some.injEq, Int.reduceEq, Int.reduceNe, Int.reduceLT, Int.reduceLE, Nat.reduceLT, Nat.reduceLeDiff, decide_not, Bool.not_eq_true, Bool.decide_eq_true, Mi.ib_t, Mi.ib_f, Mi.mkR_ex, Mi.bO_s, Mi.rO_f, Mi.rO_t, Mi.dEqA_eq, Mi.eqN_0, Mi.eqN_1, Mi.eqN_2, Mi.eqN_3, Mi.eqB_ins, Mi.eqB_tt, Mi.eqB_ll, Mi.eqB_int, Mi.eqB_str, Mi.eqB_bl, Mi.eqB_non, Mi.eqK_ii, Mi.eqK_ss, Mi.eqK_bb, Mi.eqK_nn, Mi.eqK_ni, Mi.eqK_in, Mi.eqK_ns, Mi.eqK_sn, Mi.eqK_is, Mi.eqK_si, Mi.eqK_nt, Mi.eqK_nl, Mi.eqB_tn, Mi.eqB_ln, Mi.eqLs_nil, Mi.eqLs_nc, Mi.eqLs_cn, Mi.eqLs_cc, Mi.itE_int, Mi.itE_str, Mi.itE_bl, Mi.itE_non, Mi.appT, Mi.asB, Mi.mMakeK, Mi.mDic, Option.bind_some, hp, isP_t h]
      simp only [Mi.runM, Mi.runI, Mi.runR, Mi.outF, Mi.outI, Mi.outR, Mi.startE, Mi.bnd, Mi.ret, Mi.lift, Mi.fail, Mi.mVar, Mi.mC, Mi.mBin, Mi.mBinN, Mi.mUn, Mi.mFld, Mi.mFrz, Mi.mB, Mi.tru, Mi.mAnd, Mi.mOr, Mi.mNot, Mi.mAndV, Mi.mOrV, Mi.mNotV, Mi.mIf, Mi.mChain, Mi.mNil, Mi.mCons, Mi.mTup, Mi.mLst, Mi.mCB, Mi.mCBn, Mi.mIdxV, Mi.mSkip, Mi.thenF, Mi.mSeq, Mi.sto, Mi.mAsg, Mi.mAsgN, Mi.two, Mi.mPar, Mi.mDrop, Mi.mRet, Mi.mRetN, Mi.mRetV, Mi.mIfS, Mi.againF, Mi.gV, Mi.gsN, Mi.gsC, Mi.gT, Mi.mAsgT, Mi.tgt, Mi.mCall, Mi.frzR, Mi.newR, Mi.mCallN, Mi.recv, Mi.mMeth, Mi.mMethN, Mi.mMake, Mi.callR, Mi.mCallR, Mi.newM, Mi.mCallRN, Mi.mApp, Mi.mRev, Mi.setAt, Mi.mSetV, Mi.mSetF, Mi.mAug, Mi.one, Mi.mRaise, Mi.mRaise0, Mi.mTry, Mi.noEx, Mi.endX, Mi.inX, Mi.mTryAs, Mi.mXf, Mi.dI, Mi.dIc, Mi.dAdd, Mi.dSub, Mi.dLt, Mi.dLe, Mi.dGt, Mi.dGe, Mi.dMul, Mi.dDiv, Mi.dMod, Mi.dPow, Mi.dNeg, Mi.sEq, Mi.ofB, Mi.dEq, Mi.dNe, Mi.isNon, Mi.dIsN, Mi.dNotN, Mi.dInt, Mi.dI1, Mi.dI2, Mi.dAbs, Mi.dMin, Mi.dMax, Mi.dGcd, Mi.dLen1, Mi.dLen, Mi.mLenV, Mi.mIsi, Mi.isub, Mi.D.tn, Mi.dIx, Mi.opC, Mi.negC, Mi.eqC, Mi.ipC, Mi.Rv.d, Mi.mNoP, Mi.asI, Mi.mPart, Mi.mSlL, Mi.asL, Mi.asQ, Mi.mItQ, Mi.mItA, Mi.mFor, Mi.putD, List.map_cons, List.map_nil, List.length_cons, List.length_nil, List.replicate, List.cons_append, List.nil_append, List.getElem?_cons_zero, List.getElem?_cons_succ, List.set_cons_zero, List.set_cons_succ, Nat.sub_self, Nat.reduceAdd, Nat.reduceSub, Nat.reduceEqDiff, List.reverse_cons, id, Bool.not_true, Bool.not_false, if_true, if_false, Bool.false_eq_true, reduceIte, true_and, and_true, and_self, Option.toList, List.all_cons, List.all_nil, Bool.and_true, Bool.true_and, Bool.and_self, decide_true, decide_false, decide_eq_true_eq, reduceCtorEq, Mi.bo_pl, Mi.bo_ow, Mi.bo_rf, Mi.bo_un, Mi.sa_ow, Mi.sa_rf, Mi.sa_pl, Mi.oa_un, Mi.oa_pl, Mi.oa_ow, Mi.co_ow, Mi.co_rf, Mi.co_pl, Mi.st_ow, Mi.st_rf, Mi.lv_ow, Mi.lv_rf, Mi.lv_pl, Mi.ne_un, Mi.ne_pl, Mi.ne_ow, Mi.ne_rf, Mi.ne_se, Mi.ne_ex, Mi.th_un, Mi.th_pl, Mi.ie_ex, Mi.xf_ex, ne_eq, not_false_eq_true, not_true_eq_false, Mi.clr, Mi.putS, Option.isSome_some, Option.some.injEq, Int.reduceEq, Int.reduceNe, Int.reduceLT, Int.reduceLE, Nat.reduceLT, Nat.reduceLeDiff, decide_not, Bool.not_eq_true, Bool.decide_eq_true, Mi.ib_t, Mi.ib_f, Mi.mkR_ex, Mi.bO_s, Mi.rO_f, Mi.rO_t, Mi.dEqA_eq, Mi.eqN_0, Mi.eqN_1, Mi.eqN_2, Mi.eqN_3, Mi.eqB_ins, Mi.eqB_tt, Mi.eqB_ll, Mi.eqB_int, Mi.eqB_str, Mi.eqB_bl, Mi.eqB_non, Mi.eqK_ii, Mi.eqK_ss, Mi.eqK_bb, Mi.eqK_nn, Mi.eqK_ni, Mi.eqK_in, Mi.eqK_ns, Mi.eqK_sn, Mi.eqK_is, Mi.eqK_si, Mi.eqK_nt, Mi.eqK_nl, Mi.eqB_tn, Mi.eqB_ln, Mi.eqLs_nil, Mi.eqLs_nc, Mi.eqLs_cn, Mi.eqLs_cc, Mi.itE_int, Mi.itE_str, Mi.itE_bl, Mi.itE_non, Mi.appT, Mi.asB, Mi.mMakeK, Mi.mDic, Option.bind_some, Mi.forL, hu, e1]
    · have e1 : lb__law_prime_0 [.rf s.c, .pl (.int k), .pl (.int v), .pl d] = .ok .nx [.rf s.c, .pl (.int k), .pl (.int (v - 1)), .pl d] := by unfold lb__law_prime_0; simp only [Mi.runM, Mi.runI, Mi.runR, Mi.outF, Mi.outI, Mi.outR, Mi.startE, Mi.bnd, Mi.ret, Mi.lift, Mi.fail, Mi.mVar, Mi.mC, Mi.mBin, Mi.mBinN, Mi.mUn, Mi.mFld, Mi.mFrz, Mi.mB, Mi.tru, Mi.mAnd, Mi.mOr, Mi.mNot, Mi.mAndV, Mi.mOrV, Mi.mNotV, Mi.mIf, Mi.mChain, Mi.mNil, Mi.mCons, Mi.mTup, Mi.mLst, Mi.mCB, Mi.mCBn, Mi.mIdxV, Mi.mSkip, Mi.thenF, Mi.mSeq, Mi.sto, Mi.mAsg, Mi.mAsgN, Mi.two, Mi.mPar, Mi.mDrop, Mi.mRet, Mi.mRetN, Mi.mRetV, Mi.mIfS, Mi.againF, Mi.gV, Mi.gsN, Mi.gsC, Mi.gT, Mi.mAsgT, Mi.tgt, Mi.mCall, Mi.frzR, Mi.newR, Mi.mCallN, Mi.recv, Mi.mMeth, Mi.mMethN, Mi.mMake, Mi.callR, Mi.mCallR, Mi.newM, Mi.mCallRN, Mi.mApp, Mi.mRev, Mi.setAt, Mi.mSetV, Mi.mSetF, Mi.mAug, Mi.one, Mi.mRaise, Mi.mRaise0, Mi.mTry, Mi.noEx, Mi.endX, Mi.inX, Mi.mTryAs, Mi.mXf, Mi.dI, Mi.dIc, Mi.dAdd, Mi.dSub, Mi.dLt, Mi.dLe, Mi.dGt, Mi.dGe, Mi.dMul, Mi.dDiv, Mi.dMod, Mi.dPow, Mi.dNeg, Mi.sEq, Mi.ofB, Mi.dEq, Mi.dNe, Mi.isNon, Mi.dIsN, Mi.dNotN, Mi.dInt, Mi.dI1, Mi.dI2, Mi.dAbs, Mi.dMin, Mi.dMax, Mi.dGcd, Mi.dLen1, Mi.dLen, Mi.mLenV, Mi.mIsi, Mi.isub, Mi.D.tn, Mi.dIx, Mi.opC, Mi.negC, Mi.eqC, Mi.ipC, Mi.Rv.d, Mi.mNoP, Mi.asI, Mi.mPart, Mi.mSlL, Mi.asL, Mi.asQ, Mi.mItQ, Mi.mItA, Mi.mFor, Mi.putD, List.map_cons, List.map_nil, List.length_cons, List.length_nil, List.replicate, List.cons_append, List.nil_append, List.getElem?_cons_zero, List.getElem?_cons_succ, List.set_cons_zero, List.set_cons_succ, Nat.sub_self, Nat.reduceAdd, Nat.reduceSub, Nat.reduceEqDiff, List.reverse_cons, id, Bool.not_true, Bool.not_false, if_true, if_false, Bool.false_eq_true, reduceIte, true_and, and_true, and_self, Option.toList, List.all_cons, List.all_nil, Bool.and_true, Bool.true_and, Bool.and_self, decide_true, decide_false, decide_eq_true_eq, reduceCtorEq, Mi.bo_pl, Mi.bo_ow, Mi.bo_rf, Mi.bo_un, Mi.sa_ow, Mi.sa_rf, Mi.sa_pl, Mi.oa_un, Mi.oa_pl, Mi.oa_ow, Mi.co_ow, Mi.co_rf, Mi.co_pl, Mi.st_ow, Mi.st_rf, Mi.lv_ow, Mi.lv_rf, Mi.lv_pl, Mi.ne_un, Mi.ne_pl, Mi.ne_ow, Mi.ne_rf, Mi.ne_se, Mi.ne_ex, Mi.th_un, Mi.th_pl, Mi.ie_ex, Mi.xf_ex, ne_eq, not_false_eq_true, not_true_eq_false, Mi.clr, Mi.putS, Option.isSome_some, Option.some.injEq, Int.reduceEq, Int.reduceNe, Int.reduceLT, Int.reduceLE, Nat.reduceLT, Nat.reduceLeDiff, decide_not, Bool.not_eq_true, Bool.decide_eq_true, Mi.ib_t, Mi.ib_f, Mi.mkR_ex, Mi.bO_s, Mi.rO_f, Mi.rO_t, Mi.dEqA_eq, Mi.eqN_0, Mi.eqN_1, Mi.eqN_2, Mi.eqN_3, Mi.eqB_ins, Mi.eqB_tt, Mi.eqB_ll, Mi.eqB_int, Mi.eqB_str, Mi.eqB_bl, Mi.eqB_non, Mi.eqK_ii, Mi.eqK_ss, Mi.eqK_bb, Mi.eqK_nn, Mi.eqK_ni, Mi.eqK_in, Mi.eqK_ns, Mi.eqK_sn, Mi.eqK_is, Mi.eqK_si, Mi.eqK_nt, Mi.eqK_nl, Mi.eqB_tn, Mi.eqB_ln, Mi.eqLs_nil, Mi.eqLs_nc, Mi.eqLs_cn, Mi.eqLs_cc, Mi.itE_int, Mi.itE_str, Mi.itE_bl, Mi.itE_non, Mi.appT, Mi.asB, Mi.mMakeK, Mi.mDic, Option.bind_some, hp, isP_f h]
      rcases lp_loop l s k (v - 1) (.pl d) rfl (by omega) with ⟨p, u', a, e⟩ | ⟨p, u', e⟩
      · refine .inl ⟨p, u', a, ?_⟩
        simp only [Mi.runM, Mi.runI, Mi.runR, Mi.outF, Mi.outI, Mi.outR, Mi.startE, Mi.bnd, Mi.ret, Mi.lift, Mi.fail, Mi.mVar, Mi.mC, Mi.mBin, Mi.mBinN, Mi.mUn, Mi.mFld, Mi.mFrz, Mi.mB, Mi.tru, Mi.mAnd, Mi.mOr, Mi.mNot, Mi.mAndV, Mi.mOrV, Mi.mNotV, Mi.mIf, Mi.mChain, Mi.mNil, Mi.mCons, Mi.mTup, Mi.mLst, Mi.mCB, Mi.mCBn, Mi.mIdxV, Mi.mSkip, Mi.thenF, Mi.mSeq, Mi.sto, Mi.mAsg, Mi.mAsgN, Mi.two, Mi.mPar, Mi.mDrop, Mi.mRet, Mi.mRetN, Mi.mRetV, Mi.mIfS, Mi.againF, Mi.gV, Mi.gsN, Mi.gsC, Mi.gT, Mi.mAsgT, Mi.tgt, Mi.mCall, Mi.frzR, Mi.newR, Mi.mCallN, Mi.recv, Mi.mMeth, Mi.mMethN, Mi.mMake, Mi.callR, Mi.mCallR, Mi.newM, Mi.mCallRN, Mi.mApp, Mi.mRev, Mi.setAt, Mi.mSetV, Mi.mSetF, Mi.mAug, Mi.one, Mi.mRaise, Mi.mRaise0, Mi.mTry, Mi.noEx, Mi.endX, Mi.inX, Mi.mTryAs, Mi.mXf, Mi.dI, Mi.dIc, Mi.dAdd, Mi.dSub, Mi.dLt, Mi.dLe, Mi.dGt, Mi.dGe, Mi.dMul, Mi.dDiv, Mi.dMod, Mi.dPow, Mi.dNeg, Mi.sEq, Mi.ofB, Mi.dEq, Mi.dNe, Mi.isNon, Mi.dIsN, Mi.dNotN, Mi.dInt, Mi.dI1, Mi.dI2, Mi.dAbs, Mi.dMin, Mi.dMax, Mi.dGcd, Mi.dLen1, Mi.dLen, Mi.mLenV, Mi.mIsi, Mi.isub, Mi.D.tn, Mi.dIx, Mi.opC, Mi.negC, Mi.eqC, Mi.ipC, Mi.Rv.d, Mi.mNoP, Mi.asI, Mi.mPart, Mi.mSlL, Mi.asL, Mi.asQ, Mi.mItQ, Mi.mItA, Mi.mFor, Mi.putD, List.map_cons, List.map_nil, List.length_cons, List.length_nil, List.replicate, List.cons_append, List.nil_append, List.getElem?_cons_zero, List.getElem?_cons_succ, List.set_cons_zero, List.set_cons_succ, Nat.sub_self, Nat.reduceAdd, Nat.reduceSub, Nat.reduceEqDiff, List.reverse_cons, id, Bool.not_true, Bool.not_false, if_true, if_false, Bool.false_eq_true, reduceIte, true_and, and_true, and_self, Option.toList, List.all_cons, List.all_nil, Bool.and_true, Bool.true_and, Bool.and_self, decide_true, decide_false, decide_eq_true_eq, reduceCtorEq, Mi.bo_pl, Mi.bo_ow, Mi.bo_rf, Mi.bo_un, Mi.sa_ow, Mi.sa_rf, Mi.sa_pl, Mi.oa_un, Mi.oa_pl, Mi.oa_ow, Mi.co_ow, Mi.co_rf, Mi.co_pl, Mi.st_ow, Mi.st_rf, Mi.lv_ow, Mi.lv_rf, Mi.lv_pl, Mi.ne_un, Mi.ne_pl, Mi.ne_ow, Mi.ne_rf, Mi.ne_se, Mi.ne_ex, Mi.th_un, Mi.th_pl, Mi.ie_ex, Mi.xf_ex, ne_eq, not_false_eq_true, not_true_eq_false, Mi.clr, Mi.putS, Option.isSome_some, Option.some.injEq, Int.reduceEq, Int.reduceNe, Int.reduceLT, Int.reduceLE, Nat.reduceLT, Nat.reduceLeDiff, decide_not, Bool.not_eq_true, Bool.decide_eq_true, Mi.ib_t, Mi.ib_f, Mi.mkR_ex, Mi.bO_s, Mi.rO_f, Mi.rO_t, Mi.dEqA_eq, Mi.eqN_0, Mi.eqN_1, Mi.eqN_2, Mi.eqN_3, Mi.eqB_ins, Mi.eqB_tt, Mi.eqB_ll, Mi.eqB_int, Mi.eqB_str, Mi.eqB_bl, Mi.eqB_non, Mi.eqK_ii, Mi.eqK_ss, Mi.eqK_bb, Mi.eqK_nn, Mi.eqK_ni, Mi.eqK_in, Mi.eqK_ns, Mi.eqK_sn, Mi.eqK_is, Mi.eqK_si, Mi.eqK_nt, Mi.eqK_nl, Mi.eqB_tn, Mi.eqB_ln, Mi.eqLs_nil, Mi.eqLs_nc, Mi.eqLs_cn, Mi.eqLs_cc, Mi.itE_int, Mi.itE_str, Mi.itE_bl, Mi.itE_non, Mi.appT, Mi.asB, Mi.mMakeK, Mi.mDic, Option.bind_some, Mi.forL, hu, e1, e]
      · refine .inr ⟨p, u', ?_⟩
        simp only [Mi.runM, Mi.runI, Mi.runR, Mi.outF, Mi.outI, Mi.outR, Mi.startE, Mi.bnd, Mi.ret, Mi.lift, Mi.fail, Mi.mVar, Mi.mC, Mi.mBin, Mi.mBinN, Mi.mUn, Mi.mFld, Mi.mFrz, Mi.mB, Mi.tru, Mi.mAnd, Mi.mOr, Mi.mNot, Mi.mAndV, Mi.mOrV, Mi.mNotV, Mi.mIf, Mi.mChain, Mi.mNil, Mi.mCons, Mi.mTup, Mi.mLst, Mi.mCB, Mi.mCBn, Mi.mIdxV, Mi.mSkip, Mi.thenF, Mi.mSeq, Mi.sto, Mi.mAsg, Mi.mAsgN, Mi.two, Mi.mPar, Mi.mDrop, Mi.mRet, Mi.mRetN, Mi.mRetV, Mi.mIfS, Mi.againF, Mi.gV, Mi.gsN, Mi.gsC, Mi.gT, Mi.mAsgT, Mi.tgt, Mi.mCall, Mi.frzR, Mi.newR, Mi.mCallN, Mi.recv, Mi.mMeth, Mi.mMethN, Mi.mMake, Mi.callR, Mi.mCallR, Mi.newM, Mi.mCallRN, Mi.mApp, Mi.mRev, Mi.setAt, Mi.mSetV, Mi.mSetF, Mi.mAug, Mi.one, Mi.mRaise, Mi.mRaise0, Mi.mTry, Mi.noEx, Mi.endX, Mi.inX, Mi.mTryAs, Mi.mXf, Mi.dI, Mi.dIc, Mi.dAdd, Mi.dSub, Mi.dLt, Mi.dLe, Mi.dGt, Mi.dGe, Mi.dMul, Mi.dDiv, Mi.dMod, Mi.dPow, Mi.dNeg, Mi.sEq, Mi.ofB, Mi.dEq, Mi.dNe, Mi.isNon, Mi.dIsN, Mi.dNotN, Mi.dInt, Mi.dI1, Mi.dI2, Mi.dAbs, Mi.dMin, Mi.dMax, Mi.dGcd, Mi.dLen1, Mi.dLen, Mi.mLenV, Mi.mIsi, Mi.isub, Mi.D.tn, Mi.dIx, Mi.opC, Mi.negC, Mi.eqC, Mi.ipC, Mi.Rv.d, Mi.mNoP, Mi.asI, Mi.mPart, Mi.mSlL, Mi.asL, Mi.asQ, Mi.mItQ, Mi.mItA, Mi.mFor, Mi.putD, List.map_cons, List.map_nil, List.length_cons, List.length_nil, List.replicate, List.cons_append, List.nil_append, List.getElem?_cons_zero, List.getElem?_cons_succ, List.set_cons_zero, List.set_cons_succ, Nat.sub_self, Nat.reduceAdd, Nat.reduceSub, Nat.reduceEqDiff, List.reverse_cons, id, Bool.not_true, Bool.not_false, if_true, if_false, Bool.false_eq_true, reduceIte, true_and, and_true, and_self, Option.toList, List.all_cons, List.all_nil, Bool.and_true, Bool.true_and, Bool.and_self, decide_true, decide_false, decide_eq_true_eq, reduceCtorEq, Mi.bo_pl, Mi.bo_ow, Mi.bo_rf, Mi.bo_un, Mi.sa_ow, Mi.sa_rf, Mi.sa_pl, Mi.oa_un, Mi.oa_pl, Mi.oa_ow, Mi.co_ow, Mi.co_rf, Mi.co_pl, Mi.st_ow, Mi.st_rf, Mi.lv_ow, Mi.lv_rf, Mi.lv_pl, Mi.ne_un, Mi.ne_pl, Mi.ne_ow, Mi.ne_rf, Mi.ne_se, Mi.ne_ex, Mi.th_un, Mi.th_pl, Mi.ie_ex, Mi.xf_ex, ne_eq, not_false_eq_true, not_true_eq_false, Mi.clr, Mi.putS, Option.isSome_some, Option.some.injEq, Int.reduceEq, Int.reduceNe, Int.reduceLT, Int.reduceLE, Nat.reduceLT, Nat.reduceLeDiff, decide_not, Bool.not_eq_true, Bool.decide_eq_true, Mi.ib_t, Mi.ib_f, Mi.mkR_ex, Mi.bO_s, Mi.rO_f, Mi.rO_t, Mi.dEqA_eq, Mi.eqN_0, Mi.eqN_1, Mi.eqN_2, Mi.eqN_3, Mi.eqB_ins, Mi.eqB_tt, Mi.eqB_ll, Mi.eqB_int, Mi.eqB_str, Mi.eqB_bl, Mi.eqB_non, Mi.eqK_ii, Mi.eqK_ss, Mi.eqK_bb, Mi.eqK_nn, Mi.eqK_ni, Mi.eqK_in, Mi.eqK_ns, Mi.eqK_sn, Mi.eqK_is, Mi.eqK_si, Mi.eqK_nt, Mi.eqK_nl, Mi.eqB_tn, Mi.eqB_ln, Mi.eqLs_nil, Mi.eqLs_nc, Mi.eqLs_cn, Mi.eqLs_cc, Mi.itE_int, Mi.itE_str, Mi.itE_bl, Mi.itE_non, Mi.appT, Mi.asB, Mi.mMakeK, Mi.mDic, Option.bind_some, Mi.forL, hu, e1, e]
theorem six (k : Int) (h0 : 0 ≤ k) (h1 : k < 6) : ∃ p, FOk p ∧ listAt [.int 2, .int 3, .int 5, .int 7, .int 11, .int 13] k = .ok (.int p) := by
  have : k = 0 ∨ k = 1 ∨ k = 2 ∨ k = 3 ∨ k = 4 ∨ k = 5 := by omega
  rcases this with rfl | rfl | rfl | rfl | rfl | rfl
  · exact ⟨2, .inr ⟨prm_small (by decide) (by decide) (by decide) (by decide) (by decide), by decide⟩, rfl⟩
  · exact ⟨3, .inr ⟨prm_small (by decide) (by decide) (by decide) (by decide) (by decide), by decide⟩, rfl⟩
  · exact ⟨5, .inr ⟨prm_small (by decide) (by decide) (by decide) (by decide) (by decide), by decide⟩, rfl⟩
  · exact ⟨7, .inr ⟨prm_small (by decide) (by decide) (by decide) (by decide) (by decide), by decide⟩, rfl⟩
  · exact ⟨11, .inr ⟨prm_small (by decide) (by decide) (by decide) (by decide) (by decide), by decide⟩, rfl⟩
  · exact ⟨13, .inr ⟨prm_small (by decide) (by decide) (by decide) (by decide) (by decide), by decide⟩, rfl⟩
theorem prime_ex (s : Dz) : ∃ (p : Int) (s' : Dz), FOk p ∧ m__law_prime s.c [] = some (.pl (.int p), s'.c) := by
  have a0 := draw_lo s (many := 6) (by decide)
  have a1 := draw_hi s (many := 6) (by decide)
  have ea := e_draw s (many := 6) (by decide)
  generalize (draw s 6).1 = k at a0 a1 ea
  generalize (draw s 6).2 = s1 at ea
  unfold m__law_prime b__law_prime
  by_cases h1 : k < 2
  · exact ⟨0, s1, .inl rfl, by simp only [Mi.runM, Mi.runI, Mi.runR, Mi.outF, Mi.outI, Mi.outR, Mi.startE, Mi.bnd, Mi.ret, Mi.lift, Mi.fail, Mi.mVar, Mi.mC, Mi.mBin, Mi.mBinN, Mi.mUn, Mi.mFld, Mi.mFrz, Mi.mB, Mi.tru, Mi.mAnd, Mi.mOr, Mi.mNot, Mi.mAndV, Mi.mOrV, Mi.mNotV, Mi.mIf, Mi.mChain, Mi.mNil, Mi.mCons, Mi.mTup, Mi.mLst, Mi.mCB, Mi.mCBn, Mi.mIdxV, Mi.mSkip, Mi.thenF, Mi.mSeq, Mi.sto, Mi.mAsg, Mi.mAsgN, Mi.two, Mi.mPar, Mi.mDrop, Mi.mRet, Mi.mRetN, Mi.mRetV, Mi.mIfS, Mi.againF, Mi.gV, Mi.gsN, Mi.gsC, Mi.gT, Mi.mAsgT, Mi.tgt, Mi.mCall, Mi.frzR, Mi.newR, Mi.mCallN, Mi.recv, Mi.mMeth, Mi.mMethN, Mi.mMake, Mi.callR, Mi.mCallR, Mi.newM, Mi.mCallRN, Mi.mApp, Mi.mRev, Mi.setAt, Mi.mSetV, Mi.mSetF, Mi.mAug, Mi.one, Mi.mRaise, Mi.mRaise0, Mi.mTry, Mi.noEx, Mi.endX, Mi.inX, Mi.mTryAs, Mi.mXf, Mi.dI, Mi.dIc, Mi.dAdd, Mi.dSub, Mi.dLt, Mi.dLe, Mi.dGt, Mi.dGe, Mi.dMul, Mi.dDiv, Mi.dMod, Mi.dPow, Mi.dNeg, Mi.sEq, Mi.ofB, Mi.dEq, Mi.dNe, Mi.isNon, Mi.dIsN, Mi.dNotN, Mi.dInt, Mi.dI1, Mi.dI2, Mi.dAbs, Mi.dMin, Mi.dMax, Mi.dGcd, Mi.dLen1, Mi.dLen, Mi.mLenV, Mi.mIsi, Mi.isub, Mi.D.tn, Mi.dIx, Mi.opC, Mi.negC, Mi.eqC, Mi.ipC, Mi.Rv.d, Mi.mNoP, Mi.asI, Mi.mPart, Mi.mSlL, Mi.asL, Mi.asQ, Mi.mItQ, Mi.mItA, Mi.mFor, Mi.putD, List.map_cons, List.map_nil, List.length_cons, List.length_nil, List.replicate, List.cons_append, List.nil_append, List.getElem?_cons_zero, List.getElem?_cons_succ, List.set_cons_zero, List.set_cons_succ, Nat.sub_self, Nat.reduceAdd, Nat.reduceSub, Nat.reduceEqDiff, List.reverse_cons, id, Bool.not_true, Bool.not_false, if_true, if_false, Bool.false_eq_true, reduceIte, true_and, and_true, and_self, Option.toList, List.all_cons, List.all_nil, Bool.and_true, Bool.true_and, Bool.and_self, decide_true, decide_false, decide_eq_true_eq, reduceCtorEq, Mi.bo_pl, Mi.bo_ow, Mi.bo_rf, Mi.bo_un, Mi.sa_ow, Mi.sa_rf, Mi.sa_pl, Mi.oa_un, Mi.oa_pl, Mi.oa_ow, Mi.co_ow, Mi.co_rf, Mi.co_pl, Mi.st_ow, Mi.st_rf, Mi.lv_ow, Mi.lv_rf, Mi.lv_pl, Mi.ne_un, Mi.ne_pl, Mi.ne_ow, Mi.ne_rf, Mi.ne_se, Mi.ne_ex, Mi.th_un, Mi.th_pl, Mi.ie_ex, Mi.xf_ex, ne_eq, not_false_eq_true, not_true_eq_false, Mi.clr, Mi.putS, Option.isSome_some, Option.some.injEq, Int.reduceEq, Int.reduceNe, Int.reduceLT, Int.reduceLE, Nat.reduceLT, Nat.reduceLeDiff, decide_not, Bool.not_eq_true, Bool.decide_eq_true, Mi.ib_t, Mi.ib_f, Mi.mkR_ex, Mi.bO_s, Mi.rO_f, Mi.rO_t, Mi.dEqA_eq, Mi.eqN_0, Mi.eqN_1, Mi.eqN_2, Mi.eqN_3, Mi.eqB_ins, Mi.eqB_tt, Mi.eqB_ll, Mi.eqB_int, Mi.eqB_str, Mi.eqB_bl, Mi.eqB_non, Mi.eqK_ii, Mi.eqK_ss, Mi.eqK_bb, Mi.eqK_nn, Mi.eqK_ni, Mi.eqK_in, Mi.eqK_ns, Mi.eqK_sn, Mi.eqK_is, Mi.eqK_si, Mi.eqK_nt, Mi.eqK_nl, Mi.eqB_tn, Mi.eqB_ln, Mi.eqLs_nil, Mi.eqLs_nc, Mi.eqLs_cn, Mi.eqLs_cc, Mi.itE_int, Mi.itE_str, Mi.itE_bl, Mi.itE_non, Mi.appT, Mi.asB, Mi.mMakeK, Mi.mDic, Option.bind_some, ea, h1]⟩
  by_cases h2 : k < 5
  · have b0 := draw_lo s1 (many := 6) (by decide)
    have b1 := draw_hi s1 (many := 6) (by decide)
    have eb := e_draw s1 (many := 6) (by decide)
    obtain ⟨p, hp, e⟩ := six _ b0 b1
    exact ⟨p, (draw s1 6).2, hp, by simp only [Mi.runM, Mi.runI, Mi.runR, Mi.outF, Mi.outI, Mi.outR, Mi.startE, Mi.bnd, Mi.ret, Mi.lift, Mi.fail, Mi.mVar, Mi.mC, Mi.mBin, Mi.mBinN, Mi.mUn, Mi.mFld, Mi.mFrz, Mi.mB, Mi.tru, Mi.mAnd, Mi.mOr, Mi.mNot, Mi.mAndV, Mi.mOrV, Mi.mNotV, Mi.mIf, Mi.mChain, Mi.mNil, Mi.mCons, Mi.mTup, Mi.mLst, Mi.mCB, Mi.mCBn, Mi.mIdxV, Mi.mSkip, Mi.thenF, Mi.mSeq, Mi.sto, Mi.mAsg, Mi.mAsgN, Mi.two, Mi.mPar, Mi.mDrop, Mi.mRet, Mi.mRetN, Mi.mRetV, Mi.mIfS, Mi.againF, Mi.gV, Mi.gsN, Mi.gsC, Mi.gT, Mi.mAsgT, Mi.tgt, Mi.mCall, Mi.frzR, Mi.newR, Mi.mCallN, Mi.recv, Mi.mMeth, Mi.mMethN, Mi.mMake, Mi.callR, Mi.mCallR, Mi.newM, Mi.mCallRN, Mi.mApp, Mi.mRev, Mi.setAt, Mi.mSetV, Mi.mSetF, Mi.mAug, Mi.one, Mi.mRaise, Mi.mRaise0, Mi.mTry, Mi.noEx, Mi.endX, Mi.inX, Mi.mTryAs, Mi.mXf, Mi.dI, Mi.dIc, Mi.dAdd, Mi.dSub, Mi.dLt, Mi.dLe, Mi.dGt, Mi.dGe, Mi.dMul, Mi.dDiv, Mi.dMod, Mi.dPow, Mi.dNeg, Mi.sEq, Mi.ofB, Mi.dEq, Mi.dNe, Mi.isNon, Mi.dIsN, Mi.dNotN, Mi.dInt, Mi.dI1, Mi.dI2, Mi.dAbs, Mi.dMin, Mi.dMax, Mi.dGcd, Mi.dLen1, Mi.dLen, Mi.mLenV, Mi.mIsi, Mi.isub, Mi.D.tn, Mi.dIx, Mi.opC, Mi.negC, Mi.eqC, Mi.ipC, Mi.Rv.d, Mi.mNoP, Mi.asI, Mi.mPart, Mi.mSlL, Mi.asL, Mi.asQ, Mi.mItQ, Mi.mItA, Mi.mFor, Mi.putD, List.map_cons, List.map_nil, List.length_cons, List.length_nil, List.replicate, List.cons_append, List.nil_append, List.getElem?_cons_zero, List.getElem?_cons_succ, List.set_cons_zero, List.set_cons_succ, Nat.sub_self, Nat.reduceAdd, Nat.reduceSub, Nat.reduceEqDiff, List.reverse_cons, id, Bool.not_true, Bool.not_false, if_true, if_false, Bool.false_eq_true, reduceIte, true_and, and_true, and_self, Option.toList, List.all_cons, List.all_nil, Bool.and_true, Bool.true_and, Bool.and_self, decide_true, decide_false, decide_eq_true_eq, reduceCtorEq, Mi.bo_pl, Mi.bo_ow, Mi.bo_rf, Mi.bo_un, Mi.sa_ow, Mi.sa_rf, Mi.sa_pl, Mi.oa_un, Mi.oa_pl, Mi.oa_ow, Mi.co_ow, Mi.co_rf, Mi.co_pl, Mi.st_ow, Mi.st_rf, Mi.lv_ow, Mi.lv_rf, Mi.lv_pl, Mi.ne_un, Mi.ne_pl, Mi.ne_ow, Mi.ne_rf, Mi.ne_se, Mi.ne_ex, Mi.th_un, Mi.th_pl, Mi.ie_ex, Mi.xf_ex, ne_eq, not_false_eq_true, not_true_eq_false, Mi.clr, Mi.putS, Option.isSome_some, Option.some.injEq, Int.reduceEq, Int.reduceNe, Int.reduceLT, Int.reduceLE, Nat.reduceLT, Nat.reduceLeDiff, decide_not, Bool.not_eq_true, Bool.decide_eq_true, Mi.ib_t, Mi.ib_f, Mi.mkR_ex, Mi.bO_s, Mi.rO_f, Mi.rO_t, Mi.dEqA_eq, Mi.eqN_0, Mi.eqN_1, Mi.eqN_2, Mi.eqN_3, Mi.eqB_ins, Mi.eqB_tt, Mi.eqB_ll, Mi.eqB_int, Mi.eqB_str, Mi.eqB_bl, Mi.eqB_non, Mi.eqK_ii, Mi.eqK_ss, Mi.eqK_bb, Mi.eqK_nn, Mi.eqK_ni, Mi.eqK_in, Mi.eqK_ns, Mi.eqK_sn, Mi.eqK_is, Mi.eqK_si, Mi.eqK_nt, Mi.eqK_nl, Mi.eqB_tn, Mi.eqB_ln, Mi.eqLs_nil, Mi.eqLs_nc, Mi.eqLs_cn, Mi.eqLs_cc, Mi.itE_int, Mi.itE_str, Mi.itE_bl, Mi.itE_non, Mi.appT, Mi.asB, Mi.mMakeK, Mi.mDic, Option.bind_some, ea, h1, h2, eb, e]⟩
  have b0 := draw_lo s1 (many := 9972) (by decide)
  have b1 := draw_hi s1 (many := 9972) (by decide)
  have eb := e_draw s1 (many := 9972) (by decide)
  generalize (draw s1 9972).1 = r at b0 b1 eb
  generalize (draw s1 9972).2 = s2 at eb
  have sm : small 40 = true := by decide
  rcases lp_loop (rngL 0 40) s2 k (2 + r) .un rfl (by omega) with ⟨p, u', hp, e⟩ | ⟨p, u', e⟩
  · exact ⟨p, s2, hp, by simp only [Mi.runM, Mi.runI, Mi.runR, Mi.outF, Mi.outI, Mi.outR, Mi.startE, Mi.bnd, Mi.ret, Mi.lift, Mi.fail, Mi.mVar, Mi.mC, Mi.mBin, Mi.mBinN, Mi.mUn, Mi.mFld, Mi.mFrz, Mi.mB, Mi.tru, Mi.mAnd, Mi.mOr, Mi.mNot, Mi.mAndV, Mi.mOrV, Mi.mNotV, Mi.mIf, Mi.mChain, Mi.mNil, Mi.mCons, Mi.mTup, Mi.mLst, Mi.mCB, Mi.mCBn, Mi.mIdxV, Mi.mSkip, Mi.thenF, Mi.mSeq, Mi.sto, Mi.mAsg, Mi.mAsgN, Mi.two, Mi.mPar, Mi.mDrop, Mi.mRet, Mi.mRetN, Mi.mRetV, Mi.mIfS, Mi.againF, Mi.gV, Mi.gsN, Mi.gsC, Mi.gT, Mi.mAsgT, Mi.tgt, Mi.mCall, Mi.frzR, Mi.newR, Mi.mCallN, Mi.recv, Mi.mMeth, Mi.mMethN, Mi.mMake, Mi.callR, Mi.mCallR, Mi.newM, Mi.mCallRN, Mi.mApp, Mi.mRev, Mi.setAt, Mi.mSetV, Mi.mSetF, Mi.mAug, Mi.one, Mi.mRaise, Mi.mRaise0, Mi.mTry, Mi.noEx, Mi.endX, Mi.inX, Mi.mTryAs, Mi.mXf, Mi.dI, Mi.dIc, Mi.dAdd, Mi.dSub, Mi.dLt, Mi.dLe, Mi.dGt, Mi.dGe, Mi.dMul, Mi.dDiv, Mi.dMod, Mi.dPow, Mi.dNeg, Mi.sEq, Mi.ofB, Mi.dEq, Mi.dNe, Mi.isNon, Mi.dIsN, Mi.dNotN, Mi.dInt, Mi.dI1, Mi.dI2, Mi.dAbs, Mi.dMin, Mi.dMax, Mi.dGcd, Mi.dLen1, Mi.dLen, Mi.mLenV, Mi.mIsi, Mi.isub, Mi.D.tn, Mi.dIx, Mi.opC, Mi.negC, Mi.eqC, Mi.ipC, Mi.Rv.d, Mi.mNoP, Mi.asI, Mi.mPart, Mi.mSlL, Mi.asL, Mi.asQ, Mi.mItQ, Mi.mItA, Mi.mFor, Mi.putD, List.map_cons, List.map_nil, List.length_cons, List.length_nil, List.replicate, List.cons_append, List.nil_append, List.getElem?_cons_zero, List.getElem?_cons_succ, List.set_cons_zero, List.set_cons_succ, Nat.sub_self, Nat.reduceAdd, Nat.reduceSub, Nat.reduceEqDiff, List.reverse_cons, id, Bool.not_true, Bool.not_false, if_true, if_false, Bool.false_eq_true, reduceIte, true_and, and_true, and_self, Option.toList, List.all_cons, List.all_nil, Bool.and_true, Bool.true_and, Bool.and_self, decide_true, decide_false, decide_eq_true_eq, reduceCtorEq, Mi.bo_pl, Mi.bo_ow, Mi.bo_rf, Mi.bo_un, Mi.sa_ow, Mi.sa_rf, Mi.sa_pl, Mi.oa_un, Mi.oa_pl, Mi.oa_ow, Mi.co_ow, Mi.co_rf, Mi.co_pl, Mi.st_ow, Mi.st_rf, Mi.lv_ow, Mi.lv_rf, Mi.lv_pl, Mi.ne_un, Mi.ne_pl, Mi.ne_ow, Mi.ne_rf, Mi.ne_se, Mi.ne_ex, Mi.th_un, Mi.th_pl, Mi.ie_ex, Mi.xf_ex, ne_eq, not_false_eq_true, not_true_eq_false, Mi.clr, Mi.putS, Option.isSome_some, Option.some.injEq, Int.reduceEq, Int.reduceNe, Int.reduceLT, Int.reduceLE, Nat.reduceLT, Nat.reduceLeDiff, decide_not, Bool.not_eq_true, Bool.decide_eq_true, Mi.ib_t, Mi.ib_f, Mi.mkR_ex, Mi.bO_s, Mi.rO_f, Mi.rO_t, Mi.dEqA_eq, Mi.eqN_0, Mi.eqN_1, Mi.eqN_2, Mi.eqN_3, Mi.eqB_ins, Mi.eqB_tt, Mi.eqB_ll, Mi.eqB_int, Mi.eqB_str, Mi.eqB_bl, Mi.eqB_non, Mi.eqK_ii, Mi.eqK_ss, Mi.eqK_bb, Mi.eqK_nn, Mi.eqK_ni, Mi.eqK_in, Mi.eqK_ns, Mi.eqK_sn, Mi.eqK_is, Mi.eqK_si, Mi.eqK_nt, Mi.eqK_nl, Mi.eqB_tn, Mi.eqB_ln, Mi.eqLs_nil, Mi.eqLs_nc, Mi.eqLs_cn, Mi.eqLs_cc, Mi.itE_int, Mi.itE_str, Mi.itE_bl, Mi.itE_non, Mi.appT, Mi.asB, Mi.mMakeK, Mi.mDic, Option.bind_some, ea, h1, h2, eb, Mi.rng1, sm, show (40 : Int).toNat = 40 from rfl, e]⟩
  · exact ⟨2, s2, .inr ⟨prm_small (by decide) (by decide) (by decide) (by decide) (by decide), by decide⟩, by simp only [Mi.runM, Mi.runI, Mi.runR, Mi.outF, Mi.outI, Mi.outR, Mi.startE, Mi.bnd, Mi.ret, Mi.lift, Mi.fail, Mi.mVar, Mi.mC, Mi.mBin, Mi.mBinN, Mi.mUn, Mi.mFld, Mi.mFrz, Mi.mB, Mi.tru, Mi.mAnd, Mi.mOr, Mi.mNot, Mi.mAndV, Mi.mOrV, Mi.mNotV, Mi.mIf, Mi.mChain, Mi.mNil, Mi.mCons, Mi.mTup, Mi.mLst, Mi.mCB, Mi.mCBn, Mi.mIdxV, Mi.mSkip, Mi.thenF, Mi.mSeq, Mi.sto, Mi.mAsg, Mi.mAsgN, Mi.two, Mi.mPar, Mi.mDrop, Mi.mRet, Mi.mRetN, Mi.mRetV, Mi.mIfS, Mi.againF, Mi.gV, Mi.gsN, Mi.gsC, Mi.gT, Mi.mAsgT, Mi.tgt, Mi.mCall, Mi.frzR, Mi.newR, Mi.mCallN, Mi.recv, Mi.mMeth, Mi.mMethN, Mi.mMake, Mi.callR, Mi.mCallR, Mi.newM, Mi.mCallRN, Mi.mApp, Mi.mRev, Mi.setAt, Mi.mSetV, Mi.mSetF, Mi.mAug, Mi.one, Mi.mRaise, Mi.mRaise0, Mi.mTry, Mi.noEx, Mi.endX, Mi.inX, Mi.mTryAs, Mi.mXf, Mi.dI, Mi.dIc, Mi.dAdd, Mi.dSub, Mi.dLt, Mi.dLe, Mi.dGt, Mi.dGe, Mi.dMul, Mi.dDiv, Mi.dMod, Mi.dPow, Mi.dNeg, Mi.sEq, Mi.ofB, Mi.dEq, Mi.dNe, Mi.isNon, Mi.dIsN, Mi.dNotN, Mi.dInt, Mi.dI1, Mi.dI2, Mi.dAbs, Mi.dMin, Mi.dMax, Mi.dGcd, Mi.dLen1, Mi.dLen, Mi.mLenV, Mi.mIsi, Mi.isub, Mi.D.tn, Mi.dIx, Mi.opC, Mi.negC, Mi.eqC, Mi.ipC, Mi.Rv.d, Mi.mNoP, Mi.asI, Mi.mPart, Mi.mSlL, Mi.asL, Mi.asQ, Mi.mItQ, Mi.mItA, Mi.mFor, Mi.putD, List.map_cons, List.map_nil, List.length_cons, List.length_nil, List.replicate, List.cons_append, List.nil_append, List.getElem?_cons_zero, List.getElem?_cons_succ, List.set_cons_zero, List.set_cons_succ, Nat.sub_self, Nat.reduceAdd, Nat.reduceSub, Nat.reduceEqDiff, List.reverse_cons, id, Bool.not_true, Bool.not_false, if_true, if_false, Bool.false_eq_true, reduceIte, true_and, and_true, and_self, Option.toList, List.all_cons, List.all_nil, Bool.and_true, Bool.true_and, Bool.and_self, decide_true, decide_false, decide_eq_true_eq, reduceCtorEq, Mi.bo_pl, Mi.bo_ow, Mi.bo_rf, Mi.bo_un, Mi.sa_ow, Mi.sa_rf, Mi.sa_pl, Mi.oa_un, Mi.oa_pl, Mi.oa_ow, Mi.co_ow, Mi.co_rf, Mi.co_pl, Mi.st_ow, Mi.st_rf, Mi.lv_ow, Mi.lv_rf, Mi.lv_pl, Mi.ne_un, Mi.ne_pl, Mi.ne_ow, Mi.ne_rf, Mi.ne_se, Mi.ne_ex, Mi.th_un, Mi.th_pl, Mi.ie_ex, Mi.xf_ex, ne_eq, not_false_eq_true, not_true_eq_false, Mi.clr, Mi.putS, Option.isSome_some, Option.some.injEq, Int.reduceEq, Int.reduceNe, Int.reduceLT, Int.reduceLE, Nat.reduceLT, Nat.reduceLeDiff, decide_not, Bool.not_eq_true, Bool.decide_eq_true, Mi.ib_t, Mi.ib_f, Mi.mkR_ex, Mi.bO_s, Mi.rO_f, Mi.rO_t, Mi.dEqA_eq, Mi.eqN_0, Mi.eqN_1, Mi.eqN_2, Mi.eqN_3, Mi.eqB_ins, Mi.eqB_tt, Mi.eqB_ll, Mi.eqB_int, Mi.eqB_str, Mi.eqB_bl, Mi.eqB_non, Mi.eqK_ii, Mi.eqK_ss, Mi.eqK_bb, Mi.eqK_nn, Mi.eqK_ni, Mi.eqK_in, Mi.eqK_ns, Mi.eqK_sn, Mi.eqK_is, Mi.eqK_si, Mi.eqK_nt, Mi.eqK_nl, Mi.eqB_tn, Mi.eqB_ln, Mi.eqLs_nil, Mi.eqLs_nc, Mi.eqLs_cn, Mi.eqLs_cc, Mi.itE_int, Mi.itE_str, Mi.itE_bl, Mi.itE_non, Mi.appT, Mi.asB, Mi.mMakeK, Mi.mDic, Option.bind_some, ea, h1, h2, eb, Mi.rng1, sm, show (40 : Int).toNat = 40 from rfl, e]⟩
end Mi

namespace Mi
open PySem
theorem xs_No : Sx.xsub "NoNumber" "NoNumber" = true := rfl
theorem xs_Nf : Sx.xsub "NoField" "NoField" = true := rfl
abbrev refd : D := .tup [.str "refused", .int 0]
abbrev made (d : D) : D := .tup [.str "made", d]
section
variable {p : Int} {a b d : D}
theorem called_x (h : m_Field_number [fD p, d] = .ex "NoNumber" none) : m__law_called [fD p, d] = .ok (.pl refd) := by
  unfold m__law_called b__law_called
  simp only [Mi.runM, Mi.runI, Mi.runR, Mi.outF, Mi.outI, Mi.outR, Mi.startE, Mi.bnd, Mi.ret, Mi.lift, Mi.fail, Mi.mVar, Mi.mC, Mi.mBin, Mi.mBinN, Mi.mUn, Mi.mFld, Mi.mFrz, Mi.mB, Mi.tru, Mi.mAnd, Mi.mOr, Mi.mNot, Mi.mAndV, Mi.mOrV, Mi.mNotV, Mi.mIf, Mi.mChain, Mi.mNil, Mi.mCons, Mi.mTup, Mi.mLst, Mi.mCB, Mi.mCBn, Mi.mIdxV, Mi.mSkip, Mi.thenF, Mi.mSeq, Mi.sto, Mi.mAsg, Mi.mAsgN, Mi.two, Mi.mPar, Mi.mDrop, Mi.mRet, Mi.mRetN, Mi.mRetV, Mi.mIfS, Mi.againF, Mi.gV, Mi.gsN, Mi.gsC, Mi.gT, Mi.mAsgT, Mi.tgt, Mi.mCall, Mi.frzR, Mi.newR, Mi.mCallN, Mi.mMeth, Mi.mMethN, Mi.mMake, Mi.callR, Mi.mCallR, Mi.newM, Mi.mCallRN, Mi.mApp, Mi.mRev, Mi.setAt, Mi.mSetV, Mi.mSetF, Mi.mAug, Mi.one, Mi.mRaise, Mi.mRaise0, Mi.mTry, Mi.noEx, Mi.endX, Mi.inX, Mi.mTryAs, Mi.mXf, Mi.dI, Mi.dIc, Mi.dAdd, Mi.dSub, Mi.dLt, Mi.dLe, Mi.dGt, Mi.dGe, Mi.dMul, Mi.dDiv, Mi.dMod, Mi.dPow, Mi.dNeg, Mi.sEq, Mi.ofB, Mi.dEq, Mi.dNe, Mi.isNon, Mi.dIsN, Mi.dNotN, Mi.dInt, Mi.dI1, Mi.dI2, Mi.dAbs, Mi.dMin, Mi.dMax, Mi.dGcd, Mi.dLen1, Mi.dLen, Mi.mLenV, Mi.mIsi, Mi.isub, Mi.D.tn, Mi.dIx, Mi.opC, Mi.negC, Mi.eqC, Mi.ipC, Mi.Rv.d, Mi.mNoP, Mi.asI, Mi.mPart, Mi.mSlL, Mi.asL, Mi.asQ, Mi.mItQ, Mi.mItA, Mi.mFor, Mi.putD, List.map_cons, List.map_nil, List.length_cons, List.length_nil, List.replicate, List.cons_append, List.nil_append, List.getElem?_cons_zero, List.getElem?_cons_succ, List.set_cons_zero, List.set_cons_succ, Nat.sub_self, Nat.reduceAdd, Nat.reduceSub, Nat.reduceEqDiff, List.reverse_cons, id, Bool.not_true, Bool.not_false, if_true, if_false, Bool.false_eq_true, reduceIte, true_and, and_true, and_self, Option.toList, List.all_cons, List.all_nil, Bool.and_true, Bool.true_and, Bool.and_self, decide_true, decide_false, decide_eq_true_eq, reduceCtorEq, Mi.bo_pl, Mi.bo_ow, Mi.bo_rf, Mi.bo_un, Mi.sa_ow, Mi.sa_rf, Mi.sa_pl, Mi.oa_un, Mi.oa_pl, Mi.oa_ow, Mi.co_ow, Mi.co_rf, Mi.co_pl, Mi.st_ow, Mi.st_rf, Mi.lv_ow, Mi.lv_rf, Mi.lv_pl, Mi.ne_un, Mi.ne_pl, Mi.ne_ow, Mi.ne_rf, Mi.ne_se, Mi.ne_ex, Mi.th_un, Mi.th_pl, Mi.ie_ex, Mi.xf_ex, ne_eq, not_false_eq_true, not_true_eq_false, Mi.clr, Mi.putS, Option.isSome_some, Option.some.injEq, Int.reduceEq, Int.reduceNe, Int.reduceLT, Int.reduceLE, Nat.reduceLT, Nat.reduceLeDiff, decide_not, Bool.not_eq_true, Bool.decide_eq_true, Mi.ib_t, Mi.ib_f, Mi.mkR_ex, Mi.bO_s, Mi.rO_f, Mi.rO_t, Mi.dEqA_eq, Mi.eqN_0, Mi.eqN_1, Mi.eqN_2, Mi.eqN_3, Mi.eqB_ins, Mi.eqB_tt, Mi.eqB_ll, Mi.eqB_int, Mi.eqB_str, Mi.eqB_bl, Mi.eqB_non, Mi.eqK_ii, Mi.eqK_ss, Mi.eqK_bb, Mi.eqK_nn, Mi.eqK_ni, Mi.eqK_in, Mi.eqK_ns, Mi.eqK_sn, Mi.eqK_is, Mi.eqK_si, Mi.eqK_nt, Mi.eqK_nl, Mi.eqB_tn, Mi.eqB_ln, Mi.eqLs_nil, Mi.eqLs_nc, Mi.eqLs_cn, Mi.eqLs_cc, Mi.itE_int, Mi.itE_str, Mi.itE_bl, Mi.itE_non, Mi.appT, Mi.asB, Mi.mMakeK, Mi.mDic, Option.bind_some, recv_Fn, h, xs_No]
theorem called_ok (h : m_Field_number [fD p, d] = .ok (.pl a)) : m__law_called [fD p, d] = .ok (.pl (made a)) := by
  unfold m__law_called b__law_called
  simp only [Mi.runM, Mi.runI, Mi.runR, Mi.outF, Mi.outI, Mi.outR, Mi.startE, Mi.bnd, Mi.ret, Mi.lift, Mi.fail, Mi.mVar, Mi.mC, Mi.mBin, Mi.mBinN, Mi.mUn, Mi.mFld, Mi.mFrz, Mi.mB, Mi.tru, Mi.mAnd, Mi.mOr, Mi.mNot, Mi.mAndV, Mi.mOrV, Mi.mNotV, Mi.mIf, Mi.mChain, Mi.mNil, Mi.mCons, Mi.mTup, Mi.mLst, Mi.mCB, Mi.mCBn, Mi.mIdxV, Mi.mSkip, Mi.thenF, Mi.mSeq, Mi.sto, Mi.mAsg, Mi.mAsgN, Mi.two, Mi.mPar, Mi.mDrop, Mi.mRet, Mi.mRetN, Mi.mRetV, Mi.mIfS, Mi.againF, Mi.gV, Mi.gsN, Mi.gsC, Mi.gT, Mi.mAsgT, Mi.tgt, Mi.mCall, Mi.frzR, Mi.newR, Mi.mCallN, Mi.mMeth, Mi.mMethN, Mi.mMake, Mi.callR, Mi.mCallR, Mi.newM, Mi.mCallRN, Mi.mApp, Mi.mRev, Mi.setAt, Mi.mSetV, Mi.mSetF, Mi.mAug, Mi.one, Mi.mRaise, Mi.mRaise0, Mi.mTry, Mi.noEx, Mi.endX, Mi.inX, Mi.mTryAs, Mi.mXf, Mi.dI, Mi.dIc, Mi.dAdd, Mi.dSub, Mi.dLt, Mi.dLe, Mi.dGt, Mi.dGe, Mi.dMul, Mi.dDiv, Mi.dMod, Mi.dPow, Mi.dNeg, Mi.sEq, Mi.ofB, Mi.dEq, Mi.dNe, Mi.isNon, Mi.dIsN, Mi.dNotN, Mi.dInt, Mi.dI1, Mi.dI2, Mi.dAbs, Mi.dMin, Mi.dMax, Mi.dGcd, Mi.dLen1, Mi.dLen, Mi.mLenV, Mi.mIsi, Mi.isub, Mi.D.tn, Mi.dIx, Mi.opC, Mi.negC, Mi.eqC, Mi.ipC, Mi.Rv.d, Mi.mNoP, Mi.asI, Mi.mPart, Mi.mSlL, Mi.asL, Mi.asQ, Mi.mItQ, Mi.mItA, Mi.mFor, Mi.putD, List.map_cons, List.map_nil, List.length_cons, List.length_nil, List.replicate, List.cons_append, List.nil_append, List.getElem?_cons_zero, List.getElem?_cons_succ, List.set_cons_zero, List.set_cons_succ, Nat.sub_self, Nat.reduceAdd, Nat.reduceSub, Nat.reduceEqDiff, List.reverse_cons, id, Bool.not_true, Bool.not_false, if_true, if_false, Bool.false_eq_true, reduceIte, true_and, and_true, and_self, Option.toList, List.all_cons, List.all_nil, Bool.and_true, Bool.true_and, Bool.and_self, decide_true, decide_false, decide_eq_true_eq, reduceCtorEq, Mi.bo_pl, Mi.bo_ow, Mi.bo_rf, Mi.bo_un, Mi.sa_ow, Mi.sa_rf, Mi.sa_pl, Mi.oa_un, Mi.oa_pl, Mi.oa_ow, Mi.co_ow, Mi.co_rf, Mi.co_pl, Mi.st_ow, Mi.st_rf, Mi.lv_ow, Mi.lv_rf, Mi.lv_pl, Mi.ne_un, Mi.ne_pl, Mi.ne_ow, Mi.ne_rf, Mi.ne_se, Mi.ne_ex, Mi.th_un, Mi.th_pl, Mi.ie_ex, Mi.xf_ex, ne_eq, not_false_eq_true, not_true_eq_false, Mi.clr, Mi.putS, Option.isSome_some, Option.some.injEq, Int.reduceEq, Int.reduceNe, Int.reduceLT, Int.reduceLE, Nat.reduceLT, Nat.reduceLeDiff, decide_not, Bool.not_eq_true, Bool.decide_eq_true, Mi.ib_t, Mi.ib_f, Mi.mkR_ex, Mi.bO_s, Mi.rO_f, Mi.rO_t, Mi.dEqA_eq, Mi.eqN_0, Mi.eqN_1, Mi.eqN_2, Mi.eqN_3, Mi.eqB_ins, Mi.eqB_tt, Mi.eqB_ll, Mi.eqB_int, Mi.eqB_str, Mi.eqB_bl, Mi.eqB_non, Mi.eqK_ii, Mi.eqK_ss, Mi.eqK_bb, Mi.eqK_nn, Mi.eqK_ni, Mi.eqK_in, Mi.eqK_ns, Mi.eqK_sn, Mi.eqK_is, Mi.eqK_si, Mi.eqK_nt, Mi.eqK_nl, Mi.eqB_tn, Mi.eqB_ln, Mi.eqLs_nil, Mi.eqLs_nc, Mi.eqLs_cn, Mi.eqLs_cc, Mi.itE_int, Mi.itE_str, Mi.itE_bl, Mi.itE_non, Mi.appT, Mi.asB, Mi.mMakeK, Mi.mDic, Option.bind_some, recv_Fn, h]
theorem divided_x (h : m_Field_over [fD p, a, b] = .ex "NoNumber" none) : m__law_divided [fD p, a, b] = .ok (.pl refd) := by
  unfold m__law_divided b__law_divided
  simp only [Mi.runM, Mi.runI, Mi.runR, Mi.outF, Mi.outI, Mi.outR, Mi.startE, Mi.bnd, Mi.ret, Mi.lift, Mi.fail, Mi.mVar, Mi.mC, Mi.mBin, Mi.mBinN, Mi.mUn, Mi.mFld, Mi.mFrz, Mi.mB, Mi.tru, Mi.mAnd, Mi.mOr, Mi.mNot, Mi.mAndV, Mi.mOrV, Mi.mNotV, Mi.mIf, Mi.mChain, Mi.mNil, Mi.mCons, Mi.mTup, Mi.mLst, Mi.mCB, Mi.mCBn, Mi.mIdxV, Mi.mSkip, Mi.thenF, Mi.mSeq, Mi.sto, Mi.mAsg, Mi.mAsgN, Mi.two, Mi.mPar, Mi.mDrop, Mi.mRet, Mi.mRetN, Mi.mRetV, Mi.mIfS, Mi.againF, Mi.gV, Mi.gsN, Mi.gsC, Mi.gT, Mi.mAsgT, Mi.tgt, Mi.mCall, Mi.frzR, Mi.newR, Mi.mCallN, Mi.mMeth, Mi.mMethN, Mi.mMake, Mi.callR, Mi.mCallR, Mi.newM, Mi.mCallRN, Mi.mApp, Mi.mRev, Mi.setAt, Mi.mSetV, Mi.mSetF, Mi.mAug, Mi.one, Mi.mRaise, Mi.mRaise0, Mi.mTry, Mi.noEx, Mi.endX, Mi.inX, Mi.mTryAs, Mi.mXf, Mi.dI, Mi.dIc, Mi.dAdd, Mi.dSub, Mi.dLt, Mi.dLe, Mi.dGt, Mi.dGe, Mi.dMul, Mi.dDiv, Mi.dMod, Mi.dPow, Mi.dNeg, Mi.sEq, Mi.ofB, Mi.dEq, Mi.dNe, Mi.isNon, Mi.dIsN, Mi.dNotN, Mi.dInt, Mi.dI1, Mi.dI2, Mi.dAbs, Mi.dMin, Mi.dMax, Mi.dGcd, Mi.dLen1, Mi.dLen, Mi.mLenV, Mi.mIsi, Mi.isub, Mi.D.tn, Mi.dIx, Mi.opC, Mi.negC, Mi.eqC, Mi.ipC, Mi.Rv.d, Mi.mNoP, Mi.asI, Mi.mPart, Mi.mSlL, Mi.asL, Mi.asQ, Mi.mItQ, Mi.mItA, Mi.mFor, Mi.putD, List.map_cons, List.map_nil, List.length_cons, List.length_nil, List.replicate, List.cons_append, List.nil_append, List.getElem?_cons_zero, List.getElem?_cons_succ, List.set_cons_zero, List.set_cons_succ, Nat.sub_self, Nat.reduceAdd, Nat.reduceSub, Nat.reduceEqDiff, List.reverse_cons, id, Bool.not_true, Bool.not_false, if_true, if_false, Bool.false_eq_true, reduceIte, true_and, and_true, and_self, Option.toList, List.all_cons, List.all_nil, Bool.and_true, Bool.true_and, Bool.and_self, decide_true, decide_false, decide_eq_true_eq, reduceCtorEq, Mi.bo_pl, Mi.bo_ow, Mi.bo_rf, Mi.bo_un, Mi.sa_ow, Mi.sa_rf, Mi.sa_pl, Mi.oa_un, Mi.oa_pl, Mi.oa_ow, Mi.co_ow, Mi.co_rf, Mi.co_pl, Mi.st_ow, Mi.st_rf, Mi.lv_ow, Mi.lv_rf, Mi.lv_pl, Mi.ne_un, Mi.ne_pl, Mi.ne_ow, Mi.ne_rf, Mi.ne_se, Mi.ne_ex, Mi.th_un, Mi.th_pl, Mi.ie_ex, Mi.xf_ex, ne_eq, not_false_eq_true, not_true_eq_false, Mi.clr, Mi.putS, Option.isSome_some, Option.some.injEq, Int.reduceEq, Int.reduceNe, Int.reduceLT, Int.reduceLE, Nat.reduceLT, Nat.reduceLeDiff, decide_not, Bool.not_eq_true, Bool.decide_eq_true, Mi.ib_t, Mi.ib_f, Mi.mkR_ex, Mi.bO_s, Mi.rO_f, Mi.rO_t, Mi.dEqA_eq, Mi.eqN_0, Mi.eqN_1, Mi.eqN_2, Mi.eqN_3, Mi.eqB_ins, Mi.eqB_tt, Mi.eqB_ll, Mi.eqB_int, Mi.eqB_str, Mi.eqB_bl, Mi.eqB_non, Mi.eqK_ii, Mi.eqK_ss, Mi.eqK_bb, Mi.eqK_nn, Mi.eqK_ni, Mi.eqK_in, Mi.eqK_ns, Mi.eqK_sn, Mi.eqK_is, Mi.eqK_si, Mi.eqK_nt, Mi.eqK_nl, Mi.eqB_tn, Mi.eqB_ln, Mi.eqLs_nil, Mi.eqLs_nc, Mi.eqLs_cn, Mi.eqLs_cc, Mi.itE_int, Mi.itE_str, Mi.itE_bl, Mi.itE_non, Mi.appT, Mi.asB, Mi.mMakeK, Mi.mDic, Option.bind_some, recv_Fo, h, xs_No]
theorem num_int (h : FOk p) (i : Int) : ∃ d, m_Field_number [fD p, .int i] = .ok (.pl d) ∧ (i = 0 → (p = 0 ∧ d = rD 0) ∨ (PF p ∧ d = .int 0)) := by
  rcases h.cases with rfl | h
  · exact ⟨_, e_numI0 i, fun z => .inl ⟨rfl, by rw [z]; rfl⟩⟩
  · exact ⟨_, e_numI h i, fun z => .inr ⟨h, by rw [z, Int.zero_emod]⟩⟩
theorem str_body (h : FOk p) (i : Int) {u : Sl} (hu : okAsg (some u) = true) (h1 : isIntD d = false) (h2 : isub d.tn (.c "Ratio") = false) : lb__law_strange_0 [.pl (fD p), .pl (.int i), .pl d] = .ok .nx [.pl (fD p), .pl (.int i), .pl d] := by
  have e1 := called_x (p := p) (e_numX h1 h2)
  have e2 := divided_x (b := .int i) (e_over1 (p := p) (e_numX h1 h2))
  obtain ⟨x, hx, _⟩ := num_int h i
  have e3 := divided_x (e_over2 hx (e_numX h1 h2))
  unfold lb__law_strange_0
  simp only [Mi.runM, Mi.runI, Mi.runR, Mi.outF, Mi.outI, Mi.outR, Mi.startE, Mi.bnd, Mi.ret, Mi.lift, Mi.fail, Mi.mVar, Mi.mC, Mi.mBin, Mi.mBinN, Mi.mUn, Mi.mFld, Mi.mFrz, Mi.mB, Mi.tru, Mi.mAnd, Mi.mOr, Mi.mNot, Mi.mAndV, Mi.mOrV, Mi.mNotV, Mi.mIf, Mi.mChain, Mi.mNil, Mi.mCons, Mi.mTup, Mi.mLst, Mi.mCB, Mi.mCBn, Mi.mIdxV, Mi.mSkip, Mi.thenF, Mi.mSeq, Mi.sto, Mi.mAsg, Mi.mAsgN, Mi.two, Mi.mPar, Mi.mDrop, Mi.mRet, Mi.mRetN, Mi.mRetV, Mi.mIfS, Mi.againF, Mi.gV, Mi.gsN, Mi.gsC, Mi.gT, Mi.mAsgT, Mi.tgt, Mi.mCall, Mi.frzR, Mi.newR, Mi.mCallN, Mi.recv, Mi.mMeth, Mi.mMethN, Mi.mMake, Mi.callR, Mi.mCallR, Mi.newM, Mi.mCallRN, Mi.mApp, Mi.mRev, Mi.setAt, Mi.mSetV, Mi.mSetF, Mi.mAug, Mi.one, Mi.mRaise, Mi.mRaise0, Mi.mTry, Mi.noEx, Mi.endX, Mi.inX, Mi.mTryAs, Mi.mXf, Mi.dI, Mi.dIc, Mi.dAdd, Mi.dSub, Mi.dLt, Mi.dLe, Mi.dGt, Mi.dGe, Mi.dMul, Mi.dDiv, Mi.dMod, Mi.dPow, Mi.dNeg, Mi.sEq, Mi.ofB, Mi.dEq, Mi.dNe, Mi.isNon, Mi.dIsN, Mi.dNotN, Mi.dInt, Mi.dI1, Mi.dI2, Mi.dAbs, Mi.dMin, Mi.dMax, Mi.dGcd, Mi.dLen1, Mi.dLen, Mi.mLenV, Mi.mIsi, Mi.isub, Mi.D.tn, Mi.dIx, Mi.opC, Mi.negC, Mi.eqC, Mi.ipC, Mi.Rv.d, Mi.mNoP, Mi.asI, Mi.mPart, Mi.mSlL, Mi.asL, Mi.asQ, Mi.mItQ, Mi.mItA, Mi.mFor, Mi.putD, List.map_cons, List.map_nil, List.length_cons, List.length_nil, List.replicate, List.cons_append, List.nil_append, List.getElem?_cons_zero, List.getElem?_cons_succ, List.set_cons_zero, List.set_cons_succ, Nat.sub_self, Nat.reduceAdd, Nat.reduceSub, Nat.reduceEqDiff, List.reverse_cons, id, Bool.not_true, Bool.not_false, if_true, if_false, Bool.false_eq_true, reduceIte, true_and, and_true, and_self, Option.toList, List.all_cons, List.all_nil, Bool.and_true, Bool.true_and, Bool.and_self, decide_true, decide_false, decide_eq_true_eq, reduceCtorEq, Mi.bo_pl, Mi.bo_ow, Mi.bo_rf, Mi.bo_un, Mi.sa_ow, Mi.sa_rf, Mi.sa_pl, Mi.oa_un, Mi.oa_pl, Mi.oa_ow, Mi.co_ow, Mi.co_rf, Mi.co_pl, Mi.st_ow, Mi.st_rf, Mi.lv_ow, Mi.lv_rf, Mi.lv_pl, Mi.ne_un, Mi.ne_pl, Mi.ne_ow, Mi.ne_rf, Mi.ne_se, Mi.ne_ex, Mi.th_un, Mi.th_pl, Mi.ie_ex, Mi.xf_ex, ne_eq, not_false_eq_true, not_true_eq_false, Mi.clr, Mi.putS, Option.isSome_some, Option.some.injEq, Int.reduceEq, Int.reduceNe, Int.reduceLT, Int.reduceLE, Nat.reduceLT, Nat.reduceLeDiff, decide_not, Bool.not_eq_true, Bool.decide_eq_true, Mi.ib_t, Mi.ib_f, Mi.mkR_ex, Mi.bO_s, Mi.rO_f, Mi.rO_t, Mi.dEqA_eq, Mi.eqN_0, Mi.eqN_1, Mi.eqN_2, Mi.eqN_3, Mi.eqB_ins, Mi.eqB_tt, Mi.eqB_ll, Mi.eqB_int, Mi.eqB_str, Mi.eqB_bl, Mi.eqB_non, Mi.eqK_ii, Mi.eqK_ss, Mi.eqK_bb, Mi.eqK_nn, Mi.eqK_ni, Mi.eqK_in, Mi.eqK_ns, Mi.eqK_sn, Mi.eqK_is, Mi.eqK_si, Mi.eqK_nt, Mi.eqK_nl, Mi.eqB_tn, Mi.eqB_ln, Mi.eqLs_nil, Mi.eqLs_nc, Mi.eqLs_cn, Mi.eqLs_cc, Mi.itE_int, Mi.itE_str, Mi.itE_bl, Mi.itE_non, Mi.appT, Mi.asB, Mi.mMakeK, Mi.mDic, Option.bind_some, e1, e2, e3]
theorem strange_ok (h : FOk p) (i : Int) : m__law_strange [fD p, .int i] = .ok (.pl (.bl true)) := by
  have lp : ∀ (l : List D), (∀ d ∈ l, isIntD d = false ∧ isub d.tn (.c "Ratio") = false) → ∀ u, okAsg (some u) = true → ∃ u', forL (gV 2) lb__law_strange_0 l [.pl (fD p), .pl (.int i), u] = .ok .nx [.pl (fD p), .pl (.int i), u'] := by
    intro l
    induction l with
    | nil => exact fun _ u _ => ⟨u, rfl⟩
    | cons d l ih =>
      intro hl u hu
      obtain ⟨q1, q2⟩ := hl d List.mem_cons_self
      obtain ⟨u', e⟩ := ih (fun x hx => hl x (List.mem_cons_of_mem _ hx)) (.pl d) rfl
      exact ⟨u', by simp only [Mi.runM, Mi.runI, Mi.runR, Mi.outF, Mi.outI, Mi.outR, Mi.startE, Mi.bnd, Mi.ret, Mi.lift, Mi.fail, Mi.mVar, Mi.mC, Mi.mBin, Mi.mBinN, Mi.mUn, Mi.mFld, Mi.mFrz, Mi.mB, Mi.tru, Mi.mAnd, Mi.mOr, Mi.mNot, Mi.mAndV, Mi.mOrV, Mi.mNotV, Mi.mIf, Mi.mChain, Mi.mNil, Mi.mCons, Mi.mTup, Mi.mLst, Mi.mCB, Mi.mCBn, Mi.mIdxV, Mi.mSkip, Mi.thenF, Mi.mSeq, Mi.sto, Mi.mAsg, Mi.mAsgN, Mi.two, Mi.mPar, Mi.mDrop, Mi.mRet, Mi.mRetN, Mi.mRetV, Mi.mIfS, Mi.againF, Mi.gV, Mi.gsN, Mi.gsC, Mi.gT, Mi.mAsgT, Mi.tgt, Mi.mCall, Mi.frzR, Mi.newR, Mi.mCallN, Mi.recv, Mi.mMeth, Mi.mMethN, Mi.mMake, Mi.callR, Mi.mCallR, Mi.newM, Mi.mCallRN, Mi.mApp, Mi.mRev, Mi.setAt, Mi.mSetV, Mi.mSetF, Mi.mAug, Mi.one, Mi.mRaise, Mi.mRaise0, Mi.mTry, Mi.noEx, Mi.endX, Mi.inX, Mi.mTryAs, Mi.mXf, Mi.dI, Mi.dIc, Mi.dAdd, Mi.dSub, Mi.dLt, Mi.dLe, Mi.dGt, Mi.dGe, Mi.dMul, Mi.dDiv, Mi.dMod, Mi.dPow, Mi.dNeg, Mi.sEq, Mi.ofB, Mi.dEq, Mi.dNe, Mi.isNon, Mi.dIsN, Mi.dNotN, Mi.dInt, Mi.dI1, Mi.dI2, Mi.dAbs, Mi.dMin, Mi.dMax, Mi.dGcd, Mi.dLen1, Mi.dLen, Mi.mLenV, Mi.mIsi, Mi.isub, Mi.D.tn, Mi.dIx, Mi.opC, Mi.negC, Mi.eqC, Mi.ipC, Mi.Rv.d, Mi.mNoP, Mi.asI, Mi.mPart, Mi.mSlL, Mi.asL, Mi.asQ, Mi.mItQ, Mi.mItA, Mi.mFor, Mi.putD, List.map_cons, List.map_nil, List.length_cons, List.length_nil, List.replicate, List.cons_append, List.nil_append, List.getElem?_cons_zero, List.getElem?_cons_succ, List.set_cons_zero, List.set_cons_succ, Nat.sub_self, Nat.reduceAdd, Nat.reduceSub, Nat.reduceEqDiff, List.reverse_cons, id, Bool.not_true, Bool.not_false, if_true, if_false, Bool.false_eq_true, reduceIte, true_and, and_true, and_self, Option.toList, List.all_cons, List.all_nil, Bool.and_true, Bool.true_and, Bool.and_self, decide_true, decide_false, decide_eq_true_eq, reduceCtorEq, Mi.bo_pl, Mi.bo_ow, Mi.bo_rf, Mi.bo_un, Mi.sa_ow, Mi.sa_rf, Mi.sa_pl, Mi.oa_un, Mi.oa_pl, Mi.oa_ow, Mi.co_ow, Mi.co_rf, Mi.co_pl, Mi.st_ow, Mi.st_rf, Mi.lv_ow, Mi.lv_rf, Mi.lv_pl, Mi.ne_un, Mi.ne_pl, Mi.ne_ow, Mi.ne_rf, Mi.ne_se, Mi.ne_ex, Mi.th_un, Mi.th_pl, Mi.ie_ex, Mi.xf_ex, ne_eq, not_false_eq_true, not_true_eq_false, Mi.clr, Mi.putS, Option.isSome_some, Option.some.injEq, Int.reduceEq, Int.reduceNe, Int.reduceLT, Int.reduceLE, Nat.reduceLT, Nat.reduceLeDiff, decide_not, Bool.not_eq_true, Bool.decide_eq_true, Mi.ib_t, Mi.ib_f, Mi.mkR_ex, Mi.bO_s, Mi.rO_f, Mi.rO_t, Mi.dEqA_eq, Mi.eqN_0, Mi.eqN_1, Mi.eqN_2, Mi.eqN_3, Mi.eqB_ins, Mi.eqB_tt, Mi.eqB_ll, Mi.eqB_int, Mi.eqB_str, Mi.eqB_bl, Mi.eqB_non, Mi.eqK_ii, Mi.eqK_ss, Mi.eqK_bb, Mi.eqK_nn, Mi.eqK_ni, Mi.eqK_in, Mi.eqK_ns, Mi.eqK_sn, Mi.eqK_is, Mi.eqK_si, Mi.eqK_nt, Mi.eqK_nl, Mi.eqB_tn, Mi.eqB_ln, Mi.eqLs_nil, Mi.eqLs_nc, Mi.eqLs_cn, Mi.eqLs_cc, Mi.itE_int, Mi.itE_str, Mi.itE_bl, Mi.itE_non, Mi.appT, Mi.asB, Mi.mMakeK, Mi.mDic, Option.bind_some, Mi.forL, hu, str_body h i hu q1 q2, e]⟩
  obtain ⟨u', e⟩ := lp [.str "1", .bl true, .non, .lst [.int 1], .tup [.int 1, .int 2], .str "", .bl false, .dic] (by
    intro d hd
    simp only [List.mem_cons, List.not_mem_nil, or_false] at hd
    rcases hd with rfl | rfl | rfl | rfl | rfl | rfl | rfl | rfl <;> exact ⟨rfl, rfl⟩) .un rfl
  have ez : m__law_divided [fD p, .int i, .int 0] = .ok (.pl refd) := by
    obtain ⟨x, hx, _⟩ := num_int h i
    obtain ⟨y, hy, z⟩ := num_int h 0
    rcases z rfl with ⟨rfl, rfl⟩ | ⟨hp, rfl⟩
    · rw [e_numI0] at hx
      cases hx
      exact divided_x (e_overQ0 (e_numI0 i) hy)
    · rw [e_numI hp] at hx
      cases hx
      exact divided_x (e_overZ0 (e_numI hp i) hy)
  unfold m__law_strange b__law_strange
  simp only [Mi.runM, Mi.runI, Mi.runR, Mi.outF, Mi.outI, Mi.outR, Mi.startE, Mi.bnd, Mi.ret, Mi.lift, Mi.fail, Mi.mVar, Mi.mC, Mi.mBin, Mi.mBinN, Mi.mUn, Mi.mFld, Mi.mFrz, Mi.mB, Mi.tru, Mi.mAnd, Mi.mOr, Mi.mNot, Mi.mAndV, Mi.mOrV, Mi.mNotV, Mi.mIf, Mi.mChain, Mi.mNil, Mi.mCons, Mi.mTup, Mi.mLst, Mi.mCB, Mi.mCBn, Mi.mIdxV, Mi.mSkip, Mi.thenF, Mi.mSeq, Mi.sto, Mi.mAsg, Mi.mAsgN, Mi.two, Mi.mPar, Mi.mDrop, Mi.mRet, Mi.mRetN, Mi.mRetV, Mi.mIfS, Mi.againF, Mi.gV, Mi.gsN, Mi.gsC, Mi.gT, Mi.mAsgT, Mi.tgt, Mi.mCall, Mi.frzR, Mi.newR, Mi.mCallN, Mi.recv, Mi.mMeth, Mi.mMethN, Mi.mMake, Mi.callR, Mi.mCallR, Mi.newM, Mi.mCallRN, Mi.mApp, Mi.mRev, Mi.setAt, Mi.mSetV, Mi.mSetF, Mi.mAug, Mi.one, Mi.mRaise, Mi.mRaise0, Mi.mTry, Mi.noEx, Mi.endX, Mi.inX, Mi.mTryAs, Mi.mXf, Mi.dI, Mi.dIc, Mi.dAdd, Mi.dSub, Mi.dLt, Mi.dLe, Mi.dGt, Mi.dGe, Mi.dMul, Mi.dDiv, Mi.dMod, Mi.dPow, Mi.dNeg, Mi.sEq, Mi.ofB, Mi.dEq, Mi.dNe, Mi.isNon, Mi.dIsN, Mi.dNotN, Mi.dInt, Mi.dI1, Mi.dI2, Mi.dAbs, Mi.dMin, Mi.dMax, Mi.dGcd, Mi.dLen1, Mi.dLen, Mi.mLenV, Mi.mIsi, Mi.isub, Mi.D.tn, Mi.dIx, Mi.opC, Mi.negC, Mi.eqC, Mi.ipC, Mi.Rv.d, Mi.mNoP, Mi.asI, Mi.mPart, Mi.mSlL, Mi.asL, Mi.asQ, Mi.mItQ, Mi.mItA, Mi.mFor, Mi.putD, List.map_cons, List.map_nil, List.length_cons, List.length_nil, List.replicate, List.cons_append, List.nil_append, List.getElem?_cons_zero, List.getElem?_cons_succ, List.set_cons_zero, List.set_cons_succ, Nat.sub_self, Nat.reduceAdd, Nat.reduceSub, Nat.reduceEqDiff, List.reverse_cons, id, Bool.not_true, Bool.not_false, if_true, if_false, Bool.false_eq_true, reduceIte, true_and, and_true, and_self, Option.toList, List.all_cons, List.all_nil, Bool.and_true, Bool.true_and, Bool.and_self, decide_true, decide_false, decide_eq_true_eq, reduceCtorEq, Mi.bo_pl, Mi.bo_ow, Mi.bo_rf, Mi.bo_un, Mi.sa_ow, Mi.sa_rf, Mi.sa_pl, Mi.oa_un, Mi.oa_pl, Mi.oa_ow, Mi.co_ow, Mi.co_rf, Mi.co_pl, Mi.st_ow, Mi.st_rf, Mi.lv_ow, Mi.lv_rf, Mi.lv_pl, Mi.ne_un, Mi.ne_pl, Mi.ne_ow, Mi.ne_rf, Mi.ne_se, Mi.ne_ex, Mi.th_un, Mi.th_pl, Mi.ie_ex, Mi.xf_ex, ne_eq, not_false_eq_true, not_true_eq_false, Mi.clr, Mi.putS, Option.isSome_some, Option.some.injEq, Int.reduceEq, Int.reduceNe, Int.reduceLT, Int.reduceLE, Nat.reduceLT, Nat.reduceLeDiff, decide_not, Bool.not_eq_true, Bool.decide_eq_true, Mi.ib_t, Mi.ib_f, Mi.mkR_ex, Mi.bO_s, Mi.rO_f, Mi.rO_t, Mi.dEqA_eq, Mi.eqN_0, Mi.eqN_1, Mi.eqN_2, Mi.eqN_3, Mi.eqB_ins, Mi.eqB_tt, Mi.eqB_ll, Mi.eqB_int, Mi.eqB_str, Mi.eqB_bl, Mi.eqB_non, Mi.eqK_ii, Mi.eqK_ss, Mi.eqK_bb, Mi.eqK_nn, Mi.eqK_ni, Mi.eqK_in, Mi.eqK_ns, Mi.eqK_sn, Mi.eqK_is, Mi.eqK_si, Mi.eqK_nt, Mi.eqK_nl, Mi.eqB_tn, Mi.eqB_ln, Mi.eqLs_nil, Mi.eqLs_nc, Mi.eqLs_cn, Mi.eqLs_cc, Mi.itE_int, Mi.itE_str, Mi.itE_bl, Mi.itE_non, Mi.appT, Mi.asB, Mi.mMakeK, Mi.mDic, Option.bind_some, e, ez]
end
section
variable {a b : Int}
theorem low (hb : b ≠ 0) : ∃ s : Int, (s = 1 ∨ s = -1) ∧ a.fdiv (Int.gcd a b) = s * (Rat.divInt a b).num ∧ b.fdiv (Int.gcd a b) = s * (Rat.divInt a b).den := by
  have e1 := Sx.rat_num (p := a) hb
  have e2 := Sx.rat_den (p := a) hb
  have g0 : (Int.gcd a b : Int) ≠ 0 := gcd_ne hb
  by_cases h : b < 0
  · rw [if_pos h] at e1 e2
    have n : ∀ x : Int, (Int.gcd a b : Int) ∣ x → x.fdiv (Int.gcd a b) = -(x.fdiv (-(Int.gcd a b : Int))) := fun x ⟨k, hk⟩ => by
      have q1 : x.fdiv (Int.gcd a b) = k := by rw [hk]; exact Int.mul_fdiv_cancel_left _ g0
      have q2 : x.fdiv (-(Int.gcd a b : Int)) = -k := by
        have : x = -(Int.gcd a b : Int) * -k := by rw [Int.neg_mul_neg]; exact hk
        rw [this]
        exact Int.mul_fdiv_cancel_left _ (by omega)
      omega
    refine ⟨-1, .inr rfl, ?_, ?_⟩
    · rw [n a (Int.gcd_dvd_left ..), e1]; omega
    · rw [n b (Int.gcd_dvd_right ..), e2]; omega
  · rw [if_neg h] at e1 e2
    exact ⟨1, .inl rfl, by rw [e1]; omega, by rw [e2]; omega⟩
theorem res_ok {p : Int} (h : PF p) {q : Rat} (hq : ¬ (q.den : Int) % p = 0) : p ∣ res p q * q.den - q.num := by
  obtain ⟨_, _, hz⟩ := zinv_ok h hq
  unfold res
  have : q.num * zinv p q.den % p * q.den - q.num = q.num * (zinv p q.den * q.den - 1) - p * (q.num * zinv p q.den / p * q.den) := by rw [Int.emod_def]; grind
  rw [this]
  exact Int.dvd_sub (Int.dvd_mul_of_dvd_right hz) (Int.dvd_mul_right ..)
theorem right0 {n : Nat} (hb : b ≠ 0) (ba : Bd n a) (bb : Bd n b) (hn : n + n ≤ 134217728) : m__law_right [.int 0, .int a, .int b, made (rD (Rat.divInt a b))] = .ok (.pl (.bl true)) := by
  have hr := RB.divInt hb ba bb
  have hd : (1 : Int) ≤ (Rat.divInt a b).den := by have := (Rat.divInt a b).den_pos; omega
  have l0 : ∀ x y : D, listAt [x, y] 0 = .ok x := fun _ _ => rfl
  have l1 : ∀ x y : D, listAt [x, y] 1 = .ok y := fun _ _ => rfl
  unfold m__law_right b__law_right
  simp only [Mi.runM, Mi.runI, Mi.runR, Mi.outF, Mi.outI, Mi.outR, Mi.startE, Mi.bnd, Mi.ret, Mi.lift, Mi.fail, Mi.mVar, Mi.mC, Mi.mBin, Mi.mBinN, Mi.mUn, Mi.mFld, Mi.mFrz, Mi.mB, Mi.tru, Mi.mAnd, Mi.mOr, Mi.mNot, Mi.mAndV, Mi.mOrV, Mi.mNotV, Mi.mIf, Mi.mChain, Mi.mNil, Mi.mCons, Mi.mTup, Mi.mLst, Mi.mCB, Mi.mCBn, Mi.mIdxV, Mi.mSkip, Mi.thenF, Mi.mSeq, Mi.sto, Mi.mAsg, Mi.mAsgN, Mi.two, Mi.mPar, Mi.mDrop, Mi.mRet, Mi.mRetN, Mi.mRetV, Mi.mIfS, Mi.againF, Mi.gV, Mi.gsN, Mi.gsC, Mi.gT, Mi.mAsgT, Mi.tgt, Mi.mCall, Mi.frzR, Mi.newR, Mi.mCallN, Mi.recv, Mi.mMeth, Mi.mMethN, Mi.mMake, Mi.callR, Mi.mCallR, Mi.newM, Mi.mCallRN, Mi.mApp, Mi.mRev, Mi.setAt, Mi.mSetV, Mi.mSetF, Mi.mAug, Mi.one, Mi.mRaise, Mi.mRaise0, Mi.mTry, Mi.noEx, Mi.endX, Mi.inX, Mi.mTryAs, Mi.mXf, Mi.dI, Mi.dIc, Mi.dAdd, Mi.dSub, Mi.dLt, Mi.dLe, Mi.dGt, Mi.dGe, Mi.dMul, Mi.dDiv, Mi.dMod, Mi.dPow, Mi.dNeg, Mi.sEq, Mi.ofB, Mi.dEq, Mi.dNe, Mi.isNon, Mi.dIsN, Mi.dNotN, Mi.dInt, Mi.dI1, Mi.dI2, Mi.dAbs, Mi.dMin, Mi.dMax, Mi.dGcd, Mi.dLen1, Mi.dLen, Mi.mLenV, Mi.mIsi, Mi.dIx, Mi.opC, Mi.negC, Mi.eqC, Mi.ipC, Mi.Rv.d, Mi.mNoP, Mi.asI, Mi.mPart, Mi.mSlL, Mi.asL, Mi.asQ, Mi.mItQ, Mi.mItA, Mi.mFor, Mi.putD, List.map_cons, List.map_nil, List.length_cons, List.length_nil, List.replicate, List.cons_append, List.nil_append, List.getElem?_cons_zero, List.getElem?_cons_succ, List.set_cons_zero, List.set_cons_succ, Nat.sub_self, Nat.reduceAdd, Nat.reduceSub, Nat.reduceEqDiff, List.reverse_cons, id, Bool.not_true, Bool.not_false, if_true, if_false, Bool.false_eq_true, reduceIte, true_and, and_true, and_self, Option.toList, List.all_cons, List.all_nil, Bool.and_true, Bool.true_and, Bool.and_self, decide_true, decide_false, decide_eq_true_eq, reduceCtorEq, Mi.bo_pl, Mi.bo_ow, Mi.bo_rf, Mi.bo_un, Mi.sa_ow, Mi.sa_rf, Mi.sa_pl, Mi.oa_un, Mi.oa_pl, Mi.oa_ow, Mi.co_ow, Mi.co_rf, Mi.co_pl, Mi.st_ow, Mi.st_rf, Mi.lv_ow, Mi.lv_rf, Mi.lv_pl, Mi.ne_un, Mi.ne_pl, Mi.ne_ow, Mi.ne_rf, Mi.ne_se, Mi.ne_ex, Mi.th_un, Mi.th_pl, Mi.ie_ex, Mi.xf_ex, ne_eq, not_false_eq_true, not_true_eq_false, Mi.clr, Mi.putS, Option.isSome_some, Option.some.injEq, Int.reduceEq, Int.reduceNe, Int.reduceLT, Int.reduceLE, Nat.reduceLT, Nat.reduceLeDiff, decide_not, Bool.not_eq_true, Bool.decide_eq_true, Mi.ib_t, Mi.ib_f, Mi.mkR_ex, Mi.bO_s, Mi.rO_f, Mi.rO_t, Mi.dEqA_eq, Mi.eqN_0, Mi.eqN_1, Mi.eqN_2, Mi.eqN_3, Mi.eqB_ins, Mi.eqB_tt, Mi.eqB_ll, Mi.eqB_int, Mi.eqB_str, Mi.eqB_bl, Mi.eqB_non, Mi.eqK_ii, Mi.eqK_ss, Mi.eqK_bb, Mi.eqK_nn, Mi.eqK_ni, Mi.eqK_in, Mi.eqK_ns, Mi.eqK_sn, Mi.eqK_is, Mi.eqK_si, Mi.eqK_nt, Mi.eqK_nl, Mi.eqB_tn, Mi.eqB_ln, Mi.eqLs_nil, Mi.eqLs_nc, Mi.eqLs_cn, Mi.eqLs_cc, Mi.itE_int, Mi.itE_str, Mi.itE_bl, Mi.itE_non, Mi.appT, Mi.asB, Mi.mMakeK, Mi.mDic, Option.bind_some, l0, l1, tn_rD, isub_RR, dFld_top, dFld_bottom, hd, hr.num.mulOk bb hn, ba.mulOk hr.den hn, cross hb]
theorem rightX {p : Int} (h : PF p) (hb : b ≠ 0) (hq : ((Rat.divInt a b).den : Int) % p = 0) : m__law_right [.int p, .int a, .int b, refd] = .ok (.pl (.bl true)) := by
  obtain ⟨s, hs, e1, e2⟩ := low (a := a) hb
  have g0 : ¬ (Int.gcd a b : Int) = 0 := gcd_ne hb
  have hz : s * ((Rat.divInt a b).den : Int) % p = 0 := Int.emod_eq_zero_of_dvd (Int.dvd_mul_of_dvd_right (Int.dvd_of_emod_eq_zero hq))
  unfold m__law_right b__law_right
  simp only [Mi.runM, Mi.runI, Mi.runR, Mi.outF, Mi.outI, Mi.outR, Mi.startE, Mi.bnd, Mi.ret, Mi.lift, Mi.fail, Mi.mVar, Mi.mC, Mi.mBin, Mi.mBinN, Mi.mUn, Mi.mFld, Mi.mFrz, Mi.mB, Mi.tru, Mi.mAnd, Mi.mOr, Mi.mNot, Mi.mAndV, Mi.mOrV, Mi.mNotV, Mi.mIf, Mi.mChain, Mi.mNil, Mi.mCons, Mi.mTup, Mi.mLst, Mi.mCB, Mi.mCBn, Mi.mIdxV, Mi.mSkip, Mi.thenF, Mi.mSeq, Mi.sto, Mi.mAsg, Mi.mAsgN, Mi.two, Mi.mPar, Mi.mDrop, Mi.mRet, Mi.mRetN, Mi.mRetV, Mi.mIfS, Mi.againF, Mi.gV, Mi.gsN, Mi.gsC, Mi.gT, Mi.mAsgT, Mi.tgt, Mi.mCall, Mi.frzR, Mi.newR, Mi.mCallN, Mi.recv, Mi.mMeth, Mi.mMethN, Mi.mMake, Mi.callR, Mi.mCallR, Mi.newM, Mi.mCallRN, Mi.mApp, Mi.mRev, Mi.setAt, Mi.mSetV, Mi.mSetF, Mi.mAug, Mi.one, Mi.mRaise, Mi.mRaise0, Mi.mTry, Mi.noEx, Mi.endX, Mi.inX, Mi.mTryAs, Mi.mXf, Mi.dI, Mi.dIc, Mi.dAdd, Mi.dSub, Mi.dLt, Mi.dLe, Mi.dGt, Mi.dGe, Mi.dMul, Mi.dDiv, Mi.dMod, Mi.dPow, Mi.dNeg, Mi.sEq, Mi.ofB, Mi.dEq, Mi.dNe, Mi.isNon, Mi.dIsN, Mi.dNotN, Mi.dInt, Mi.dI1, Mi.dI2, Mi.dAbs, Mi.dMin, Mi.dMax, Mi.dGcd, Mi.dLen1, Mi.dLen, Mi.mLenV, Mi.mIsi, Mi.isub, Mi.D.tn, Mi.dIx, Mi.opC, Mi.negC, Mi.eqC, Mi.ipC, Mi.Rv.d, Mi.mNoP, Mi.asI, Mi.mPart, Mi.mSlL, Mi.asL, Mi.asQ, Mi.mItQ, Mi.mItA, Mi.mFor, Mi.putD, List.map_cons, List.map_nil, List.length_cons, List.length_nil, List.replicate, List.cons_append, List.nil_append, List.getElem?_cons_zero, List.getElem?_cons_succ, List.set_cons_zero, List.set_cons_succ, Nat.sub_self, Nat.reduceAdd, Nat.reduceSub, Nat.reduceEqDiff, List.reverse_cons, id, Bool.not_true, Bool.not_false, if_true, if_false, Bool.false_eq_true, reduceIte, true_and, and_true, and_self, Option.toList, List.all_cons, List.all_nil, Bool.and_true, Bool.true_and, Bool.and_self, decide_true, decide_false, decide_eq_true_eq, reduceCtorEq, Mi.bo_pl, Mi.bo_ow, Mi.bo_rf, Mi.bo_un, Mi.sa_ow, Mi.sa_rf, Mi.sa_pl, Mi.oa_un, Mi.oa_pl, Mi.oa_ow, Mi.co_ow, Mi.co_rf, Mi.co_pl, Mi.st_ow, Mi.st_rf, Mi.lv_ow, Mi.lv_rf, Mi.lv_pl, Mi.ne_un, Mi.ne_pl, Mi.ne_ow, Mi.ne_rf, Mi.ne_se, Mi.ne_ex, Mi.th_un, Mi.th_pl, Mi.ie_ex, Mi.xf_ex, ne_eq, not_false_eq_true, not_true_eq_false, Mi.clr, Mi.putS, Option.isSome_some, Option.some.injEq, Int.reduceEq, Int.reduceNe, Int.reduceLT, Int.reduceLE, Nat.reduceLT, Nat.reduceLeDiff, decide_not, Bool.not_eq_true, Bool.decide_eq_true, Mi.ib_t, Mi.ib_f, Mi.mkR_ex, Mi.bO_s, Mi.rO_f, Mi.rO_t, Mi.dEqA_eq, Mi.eqN_0, Mi.eqN_1, Mi.eqN_2, Mi.eqN_3, Mi.eqB_ins, Mi.eqB_tt, Mi.eqB_ll, Mi.eqB_int, Mi.eqB_str, Mi.eqB_bl, Mi.eqB_non, Mi.eqK_ii, Mi.eqK_ss, Mi.eqK_bb, Mi.eqK_nn, Mi.eqK_ni, Mi.eqK_in, Mi.eqK_ns, Mi.eqK_sn, Mi.eqK_is, Mi.eqK_si, Mi.eqK_nt, Mi.eqK_nl, Mi.eqB_tn, Mi.eqB_ln, Mi.eqLs_nil, Mi.eqLs_nc, Mi.eqLs_cn, Mi.eqLs_cc, Mi.itE_int, Mi.itE_str, Mi.itE_bl, Mi.itE_non, Mi.appT, Mi.asB, Mi.mMakeK, Mi.mDic, Option.bind_some, h.ne, e_gcd, g0, iDiv_eq, e1, e2, iMod_eq, fmod_pos h.pos, hz]
theorem rightZ {p : Int} (h : PF p) (hb : b ≠ 0) (hq : ¬ ((Rat.divInt a b).den : Int) % p = 0) : m__law_right [.int p, .int a, .int b, made (.int (res p (Rat.divInt a b)))] = .ok (.pl (.bl true)) := by
  obtain ⟨s, hs, e1, e2⟩ := low (a := a) hb
  have g0 : ¬ (Int.gcd a b : Int) = 0 := gcd_ne hb
  have hz : ¬ s * ((Rat.divInt a b).den : Int) % p = 0 := fun z => hq (by
    have := Int.dvd_of_emod_eq_zero z
    refine Int.emod_eq_zero_of_dvd ?_
    rcases hs with rfl | rfl
    · rwa [Int.one_mul] at this
    · rw [Int.neg_mul, Int.one_mul] at this; exact Int.dvd_neg.mp this)
  have l0 : ∀ x y : D, listAt [x, y] 0 = .ok x := fun _ _ => rfl
  have l1 : ∀ x y : D, listAt [x, y] 1 = .ok y := fun _ _ => rfl
  have r0 := res_lo h (Rat.divInt a b)
  have r1 := res_hi h (Rat.divInt a b)
  have hl := h.le
  have mo : ∀ x, mulOk (res p (Rat.divInt a b)) x = true := fun x => mulOk_l (by omega) (by omega)
  have fin : (res p (Rat.divInt a b) * (s * ((Rat.divInt a b).den : Int)) - s * (Rat.divInt a b).num) % p = 0 := by
    have : res p (Rat.divInt a b) * (s * ((Rat.divInt a b).den : Int)) - s * (Rat.divInt a b).num = s * (res p (Rat.divInt a b) * (Rat.divInt a b).den - (Rat.divInt a b).num) := by grind
    rw [this]
    exact Int.emod_eq_zero_of_dvd (Int.dvd_mul_of_dvd_right (res_ok h hq))
  unfold m__law_right b__law_right
  simp only [Mi.runM, Mi.runI, Mi.runR, Mi.outF, Mi.outI, Mi.outR, Mi.startE, Mi.bnd, Mi.ret, Mi.lift, Mi.fail, Mi.mVar, Mi.mC, Mi.mBin, Mi.mBinN, Mi.mUn, Mi.mFld, Mi.mFrz, Mi.mB, Mi.tru, Mi.mAnd, Mi.mOr, Mi.mNot, Mi.mAndV, Mi.mOrV, Mi.mNotV, Mi.mIf, Mi.mChain, Mi.mNil, Mi.mCons, Mi.mTup, Mi.mLst, Mi.mCB, Mi.mCBn, Mi.mIdxV, Mi.mSkip, Mi.thenF, Mi.mSeq, Mi.sto, Mi.mAsg, Mi.mAsgN, Mi.two, Mi.mPar, Mi.mDrop, Mi.mRet, Mi.mRetN, Mi.mRetV, Mi.mIfS, Mi.againF, Mi.gV, Mi.gsN, Mi.gsC, Mi.gT, Mi.mAsgT, Mi.tgt, Mi.mCall, Mi.frzR, Mi.newR, Mi.mCallN, Mi.recv, Mi.mMeth, Mi.mMethN, Mi.mMake, Mi.callR, Mi.mCallR, Mi.newM, Mi.mCallRN, Mi.mApp, Mi.mRev, Mi.setAt, Mi.mSetV, Mi.mSetF, Mi.mAug, Mi.one, Mi.mRaise, Mi.mRaise0, Mi.mTry, Mi.noEx, Mi.endX, Mi.inX, Mi.mTryAs, Mi.mXf, Mi.dI, Mi.dIc, Mi.dAdd, Mi.dSub, Mi.dLt, Mi.dLe, Mi.dGt, Mi.dGe, Mi.dMul, Mi.dDiv, Mi.dMod, Mi.dPow, Mi.dNeg, Mi.sEq, Mi.ofB, Mi.dEq, Mi.dNe, Mi.isNon, Mi.dIsN, Mi.dNotN, Mi.dInt, Mi.dI1, Mi.dI2, Mi.dAbs, Mi.dMin, Mi.dMax, Mi.dGcd, Mi.dLen1, Mi.dLen, Mi.mLenV, Mi.mIsi, Mi.isub, Mi.D.tn, Mi.dIx, Mi.opC, Mi.negC, Mi.eqC, Mi.ipC, Mi.Rv.d, Mi.mNoP, Mi.asI, Mi.mPart, Mi.mSlL, Mi.asL, Mi.asQ, Mi.mItQ, Mi.mItA, Mi.mFor, Mi.putD, List.map_cons, List.map_nil, List.length_cons, List.length_nil, List.replicate, List.cons_append, List.nil_append, List.getElem?_cons_zero, List.getElem?_cons_succ, List.set_cons_zero, List.set_cons_succ, Nat.sub_self, Nat.reduceAdd, Nat.reduceSub, Nat.reduceEqDiff, List.reverse_cons, id, Bool.not_true, Bool.not_false, if_true, if_false, Bool.false_eq_true, reduceIte, true_and, and_true, and_self, Option.toList, List.all_cons, List.all_nil, Bool.and_true, Bool.true_and, Bool.and_self, decide_true, decide_false, decide_eq_true_eq, reduceCtorEq, Mi.bo_pl, Mi.bo_ow, Mi.bo_rf, Mi.bo_un, Mi.sa_ow, Mi.sa_rf, Mi.sa_pl, Mi.oa_un, Mi.oa_pl, Mi.oa_ow, Mi.co_ow, Mi.co_rf, Mi.co_pl, Mi.st_ow, Mi.st_rf, Mi.lv_ow, Mi.lv_rf, Mi.lv_pl, Mi.ne_un, Mi.ne_pl, Mi.ne_ow, Mi.ne_rf, Mi.ne_se, Mi.ne_ex, Mi.th_un, Mi.th_pl, Mi.ie_ex, Mi.xf_ex, ne_eq, not_false_eq_true, not_true_eq_false, Mi.clr, Mi.putS, Option.isSome_some, Option.some.injEq, Int.reduceEq, Int.reduceNe, Int.reduceLT, Int.reduceLE, Nat.reduceLT, Nat.reduceLeDiff, decide_not, Bool.not_eq_true, Bool.decide_eq_true, Mi.ib_t, Mi.ib_f, Mi.mkR_ex, Mi.bO_s, Mi.rO_f, Mi.rO_t, Mi.dEqA_eq, Mi.eqN_0, Mi.eqN_1, Mi.eqN_2, Mi.eqN_3, Mi.eqB_ins, Mi.eqB_tt, Mi.eqB_ll, Mi.eqB_int, Mi.eqB_str, Mi.eqB_bl, Mi.eqB_non, Mi.eqK_ii, Mi.eqK_ss, Mi.eqK_bb, Mi.eqK_nn, Mi.eqK_ni, Mi.eqK_in, Mi.eqK_ns, Mi.eqK_sn, Mi.eqK_is, Mi.eqK_si, Mi.eqK_nt, Mi.eqK_nl, Mi.eqB_tn, Mi.eqB_ln, Mi.eqLs_nil, Mi.eqLs_nc, Mi.eqLs_cn, Mi.eqLs_cc, Mi.itE_int, Mi.itE_str, Mi.itE_bl, Mi.itE_non, Mi.appT, Mi.asB, Mi.mMakeK, Mi.mDic, Option.bind_some, h.ne, e_gcd, g0, iDiv_eq, e1, e2, iMod_eq, fmod_pos h.pos, hz, l0, l1, e_law_is_integer, isIntD_int, r0, r1, mo, fin]
end
end Mi

namespace Mi
open PySem
def TF (T : Tab) : Prop := ∀ ds, appT T "Field" ds = asB (m_Field___eq__ ds)
theorem tf_F : TF T_Field := fun ds => by simp only [T_Field, appT, if_true]
theorem TF.ff {T : Tab} {g : D → D → Option Bool} (h : TF T) {p q : Int} : eqB T g (fD p) (fD q) = some (decide (p = q)) := by
  show appT T "Field" [fD p, fD q] = _
  rw [h, e_Feq]; rfl
theorem TF.fi {T : Tab} {g : D → D → Option Bool} (h : TF T) {p i : Int} : eqB T g (fD p) (.int i) = some false := by
  show appT T "Field" [fD p, .int i] = _
  rw [h, e_FeqX rfl]; rfl
theorem fok7 : FOk 7 := .inr ⟨prm_small (by decide) (by decide) (by decide) (by decide) (by decide), by decide⟩
theorem fok0 : FOk 0 := .inl rfl
def rt : Out Fl → Prop
  | .ok (.rt (.pl (.bl true))) _ => True
  | _ => False
section
variable {p : Int} {s0 s1 s2 s3 s4 s7 s8 s9 s10 s11 s12 s13 : Sl}
theorem st17 (h : FOk p) : lr_law_17 [s0, s1, s2, s3, s4, .pl (.int p), .pl (fD p), s7, s8, s9, s10, s11, s12, s13] = .ok (.rt (.pl (.bl true))) [s0, s1, s2, s3, s4, .pl (.int p), .pl (fD p), s7, s8, s9, s10, s11, s12, s13] := by
  have e7 : decide (decide ((7 : Int) = p) = decide (p = 7)) = true := by
    exact decide_eq_true (decide_eq_decide.mpr ⟨Eq.symm, Eq.symm⟩)
  have e0 : decide (decide (p = 0) = decide (p = 0)) = true := decide_eq_true rfl
  unfold lr_law_17
  simp only [Mi.runM, Mi.runI, Mi.runR, Mi.outF, Mi.outI, Mi.outR, Mi.startE, Mi.bnd, Mi.ret, Mi.lift, Mi.fail, Mi.mVar, Mi.mC, Mi.mBin, Mi.mBinN, Mi.mUn, Mi.mFld, Mi.mFrz, Mi.mB, Mi.tru, Mi.mAnd, Mi.mOr, Mi.mNot, Mi.mAndV, Mi.mOrV, Mi.mNotV, Mi.mIf, Mi.mChain, Mi.mNil, Mi.mCons, Mi.mTup, Mi.mLst, Mi.mCB, Mi.mCBn, Mi.mIdxV, Mi.mSkip, Mi.thenF, Mi.mSeq, Mi.sto, Mi.mAsg, Mi.mAsgN, Mi.two, Mi.mPar, Mi.mDrop, Mi.mRet, Mi.mRetN, Mi.mRetV, Mi.mIfS, Mi.againF, Mi.gV, Mi.gsN, Mi.gsC, Mi.gT, Mi.mAsgT, Mi.tgt, Mi.mCall, Mi.frzR, Mi.newR, Mi.mCallN, Mi.recv, Mi.mMeth, Mi.mMethN, Mi.mMake, Mi.callR, Mi.mCallR, Mi.newM, Mi.mCallRN, Mi.mApp, Mi.mRev, Mi.setAt, Mi.mSetV, Mi.mSetF, Mi.mAug, Mi.one, Mi.mRaise, Mi.mRaise0, Mi.mTry, Mi.noEx, Mi.endX, Mi.inX, Mi.mTryAs, Mi.mXf, Mi.dI, Mi.dIc, Mi.dAdd, Mi.dSub, Mi.dLt, Mi.dLe, Mi.dGt, Mi.dGe, Mi.dMul, Mi.dDiv, Mi.dMod, Mi.dPow, Mi.dNeg, Mi.sEq, Mi.ofB, Mi.dEq, Mi.dNe, Mi.isNon, Mi.dIsN, Mi.dNotN, Mi.dInt, Mi.dI1, Mi.dI2, Mi.dAbs, Mi.dMin, Mi.dMax, Mi.dGcd, Mi.dLen1, Mi.dLen, Mi.mLenV, Mi.mIsi, Mi.isub, Mi.D.tn, Mi.dIx, Mi.opC, Mi.negC, Mi.eqC, Mi.ipC, Mi.Rv.d, Mi.mNoP, Mi.asI, Mi.mPart, Mi.mSlL, Mi.asL, Mi.asQ, Mi.mItQ, Mi.mItA, Mi.mFor, Mi.putD, List.map_cons, List.map_nil, List.length_cons, List.length_nil, List.replicate, List.cons_append, List.nil_append, List.getElem?_cons_zero, List.getElem?_cons_succ, List.set_cons_zero, List.set_cons_succ, Nat.sub_self, Nat.reduceAdd, Nat.reduceSub, Nat.reduceEqDiff, List.reverse_cons, id, Bool.not_true, Bool.not_false, if_true, if_false, Bool.false_eq_true, reduceIte, true_and, and_true, and_self, Option.toList, List.all_cons, List.all_nil, Bool.and_true, Bool.true_and, Bool.and_self, decide_true, decide_false, decide_eq_true_eq, reduceCtorEq, Mi.bo_pl, Mi.bo_ow, Mi.bo_rf, Mi.bo_un, Mi.sa_ow, Mi.sa_rf, Mi.sa_pl, Mi.oa_un, Mi.oa_pl, Mi.oa_ow, Mi.co_ow, Mi.co_rf, Mi.co_pl, Mi.st_ow, Mi.st_rf, Mi.lv_ow, Mi.lv_rf, Mi.lv_pl, Mi.ne_un, Mi.ne_pl, Mi.ne_ow, Mi.ne_rf, Mi.ne_se, Mi.ne_ex, Mi.th_un, Mi.th_pl, Mi.ie_ex, Mi.xf_ex, ne_eq, not_false_eq_true, not_true_eq_false, Mi.clr, Mi.putS, Option.isSome_some, Option.some.injEq, Int.reduceEq, Int.reduceNe, Int.reduceLT, Int.reduceLE, Nat.reduceLT, Nat.reduceLeDiff, decide_not, Bool.not_eq_true, Bool.decide_eq_true, Mi.ib_t, Mi.ib_f, Mi.mkR_ex, Mi.bO_s, Mi.rO_f, Mi.rO_t, Mi.dEqA_eq, Mi.eqN_0, Mi.eqN_1, Mi.eqN_2, Mi.eqN_3, Mi.eqB_ins, Mi.eqB_tt, Mi.eqB_ll, Mi.eqB_int, Mi.eqB_str, Mi.eqB_bl, Mi.eqB_non, Mi.eqK_ii, Mi.eqK_ss, Mi.eqK_bb, Mi.eqK_nn, Mi.eqK_ni, Mi.eqK_in, Mi.eqK_ns, Mi.eqK_sn, Mi.eqK_is, Mi.eqK_si, Mi.eqK_nt, Mi.eqK_nl, Mi.eqB_tn, Mi.eqB_ln, Mi.eqLs_nil, Mi.eqLs_nc, Mi.eqLs_cn, Mi.eqLs_cc, Mi.itE_int, Mi.itE_str, Mi.itE_bl, Mi.itE_non, Mi.appT, Mi.asB, Mi.mMakeK, Mi.mDic, Option.bind_some, e_Finit fok7, e_Finit fok0, mkR_fD, tf_F.ff, tf_F.fi, e7, e0]
theorem st16 (h : FOk p) : lr_law_16 [s0, s1, s2, s3, s4, .pl (.int p), .pl (fD p), s7, s8, s9, s10, s11, s12, s13] = .ok (.rt (.pl (.bl true))) [s0, s1, s2, s3, s4, .pl (.int p), .pl (fD p), s7, s8, s9, s10, s11, s12, s13] := by
  unfold lr_law_16
  simp only [Mi.runM, Mi.runI, Mi.runR, Mi.outF, Mi.outI, Mi.outR, Mi.startE, Mi.bnd, Mi.ret, Mi.lift, Mi.fail, Mi.mVar, Mi.mC, Mi.mBin, Mi.mBinN, Mi.mUn, Mi.mFld, Mi.mFrz, Mi.mB, Mi.tru, Mi.mAnd, Mi.mOr, Mi.mNot, Mi.mAndV, Mi.mOrV, Mi.mNotV, Mi.mIf, Mi.mChain, Mi.mNil, Mi.mCons, Mi.mTup, Mi.mLst, Mi.mCB, Mi.mCBn, Mi.mIdxV, Mi.mSkip, Mi.thenF, Mi.mSeq, Mi.sto, Mi.mAsg, Mi.mAsgN, Mi.two, Mi.mPar, Mi.mDrop, Mi.mRet, Mi.mRetN, Mi.mRetV, Mi.mIfS, Mi.againF, Mi.gV, Mi.gsN, Mi.gsC, Mi.gT, Mi.mAsgT, Mi.tgt, Mi.mCall, Mi.frzR, Mi.newR, Mi.mCallN, Mi.recv, Mi.mMeth, Mi.mMethN, Mi.mMake, Mi.callR, Mi.mCallR, Mi.newM, Mi.mCallRN, Mi.mApp, Mi.mRev, Mi.setAt, Mi.mSetV, Mi.mSetF, Mi.mAug, Mi.one, Mi.mRaise, Mi.mRaise0, Mi.mTry, Mi.noEx, Mi.endX, Mi.inX, Mi.mTryAs, Mi.mXf, Mi.dI, Mi.dIc, Mi.dAdd, Mi.dSub, Mi.dLt, Mi.dLe, Mi.dGt, Mi.dGe, Mi.dMul, Mi.dDiv, Mi.dMod, Mi.dPow, Mi.dNeg, Mi.sEq, Mi.ofB, Mi.dEq, Mi.dNe, Mi.isNon, Mi.dIsN, Mi.dNotN, Mi.dInt, Mi.dI1, Mi.dI2, Mi.dAbs, Mi.dMin, Mi.dMax, Mi.dGcd, Mi.dLen1, Mi.dLen, Mi.mLenV, Mi.mIsi, Mi.isub, Mi.D.tn, Mi.dIx, Mi.opC, Mi.negC, Mi.eqC, Mi.ipC, Mi.Rv.d, Mi.mNoP, Mi.asI, Mi.mPart, Mi.mSlL, Mi.asL, Mi.asQ, Mi.mItQ, Mi.mItA, Mi.mFor, Mi.putD, List.map_cons, List.map_nil, List.length_cons, List.length_nil, List.replicate, List.cons_append, List.nil_append, List.getElem?_cons_zero, List.getElem?_cons_succ, List.set_cons_zero, List.set_cons_succ, Nat.sub_self, Nat.reduceAdd, Nat.reduceSub, Nat.reduceEqDiff, List.reverse_cons, id, Bool.not_true, Bool.not_false, if_true, if_false, Bool.false_eq_true, reduceIte, true_and, and_true, and_self, Option.toList, List.all_cons, List.all_nil, Bool.and_true, Bool.true_and, Bool.and_self, decide_true, decide_false, decide_eq_true_eq, reduceCtorEq, Mi.bo_pl, Mi.bo_ow, Mi.bo_rf, Mi.bo_un, Mi.sa_ow, Mi.sa_rf, Mi.sa_pl, Mi.oa_un, Mi.oa_pl, Mi.oa_ow, Mi.co_ow, Mi.co_rf, Mi.co_pl, Mi.st_ow, Mi.st_rf, Mi.lv_ow, Mi.lv_rf, Mi.lv_pl, Mi.ne_un, Mi.ne_pl, Mi.ne_ow, Mi.ne_rf, Mi.ne_se, Mi.ne_ex, Mi.th_un, Mi.th_pl, Mi.ie_ex, Mi.xf_ex, ne_eq, not_false_eq_true, not_true_eq_false, Mi.clr, Mi.putS, Option.isSome_some, Option.some.injEq, Int.reduceEq, Int.reduceNe, Int.reduceLT, Int.reduceLE, Nat.reduceLT, Nat.reduceLeDiff, decide_not, Bool.not_eq_true, Bool.decide_eq_true, Mi.ib_t, Mi.ib_f, Mi.mkR_ex, Mi.bO_s, Mi.rO_f, Mi.rO_t, Mi.dEqA_eq, Mi.eqN_0, Mi.eqN_1, Mi.eqN_2, Mi.eqN_3, Mi.eqB_ins, Mi.eqB_tt, Mi.eqB_ll, Mi.eqB_int, Mi.eqB_str, Mi.eqB_bl, Mi.eqB_non, Mi.eqK_ii, Mi.eqK_ss, Mi.eqK_bb, Mi.eqK_nn, Mi.eqK_ni, Mi.eqK_in, Mi.eqK_ns, Mi.eqK_sn, Mi.eqK_is, Mi.eqK_si, Mi.eqK_nt, Mi.eqK_nl, Mi.eqB_tn, Mi.eqB_ln, Mi.eqLs_nil, Mi.eqLs_nc, Mi.eqLs_cn, Mi.eqLs_cc, Mi.itE_int, Mi.itE_str, Mi.itE_bl, Mi.itE_non, Mi.appT, Mi.asB, Mi.mMakeK, Mi.mDic, Option.bind_some, e_Finit0, e_Finit fok0, e_Finit h, mkR_fD, tf_F.ff, dFld_prime, st17 h, BEq.rfl]
theorem la0 (x y : D) : listAt [x, y] 0 = .ok x := rfl
theorem la1 (x y : D) : listAt [x, y] 1 = .ok y := rfl
theorem s_rm : decide (Str.ofString "refused" = Str.ofString "made") = false := by decide
theorem RB.div {n m : Nat} {x y : Rat} (hx : RB n x) (hy : RB m y) (h0 : y ≠ 0) : RB (n + m) (x / y) := by
  rw [← q_div h0]
  exact RB.divInt (Int.mul_ne_zero (den_ne x) (num_ne h0)) (hx.num.mul hy.den) (hx.den.mul hy.num)
variable {a b c d : Int}
theorem st15q (hb : b ≠ 0) (hd : d ≠ 0) (ba : Bd 124 a) (bb : Bd 124 b) (bc : Bd 124 c) (bd : Bd 124 d) (hs : okAsg (some s13) = true) :
    ∃ u, lr_law_15 [s0, s1, s2, s3, s4, .pl (.int 0), .pl (fD 0), .pl (made (rD (Rat.divInt a b))), .pl (made (rD (Rat.divInt c d))), .pl (.int a), .pl (.int b), .pl (.int c), .pl (.int d), s13] = .ok (.rt (.pl (.bl true))) [s0, s1, s2, s3, s4, .pl (.int 0), .pl (fD 0), .pl (made (rD (Rat.divInt a b))), .pl (made (rD (Rat.divInt c d))), .pl (.int a), .pl (.int b), .pl (.int c), .pl (.int d), u] := by
  have hx := RB.divInt hb ba bb
  have hy := RB.divInt hd bc bd
  unfold lr_law_15
  by_cases h0 : Rat.divInt c d = 0
  · have h1 : decide (Rat.divInt c d = ((0 : Int) : Rat)) = true := decide_eq_true h0
    have e1 := divided_x (e_overQ0 (e_numR0 (Rat.divInt a b)) (by rw [← h0]; exact e_numR0 (Rat.divInt c d)))
    exact ⟨s13, by simp only [Mi.runM, Mi.runI, Mi.runR, Mi.outF, Mi.outI, Mi.outR, Mi.startE, Mi.bnd, Mi.ret, Mi.lift, Mi.fail, Mi.mVar, Mi.mC, Mi.mBin, Mi.mBinN, Mi.mUn, Mi.mFld, Mi.mFrz, Mi.mB, Mi.tru, Mi.mAnd, Mi.mOr, Mi.mNot, Mi.mAndV, Mi.mOrV, Mi.mNotV, Mi.mIf, Mi.mChain, Mi.mNil, Mi.mCons, Mi.mTup, Mi.mLst, Mi.mCB, Mi.mCBn, Mi.mIdxV, Mi.mSkip, Mi.thenF, Mi.mSeq, Mi.sto, Mi.mAsg, Mi.mAsgN, Mi.two, Mi.mPar, Mi.mDrop, Mi.mRet, Mi.mRetN, Mi.mRetV, Mi.mIfS, Mi.againF, Mi.gV, Mi.gsN, Mi.gsC, Mi.gT, Mi.mAsgT, Mi.tgt, Mi.mCall, Mi.frzR, Mi.newR, Mi.mCallN, Mi.recv, Mi.mMeth, Mi.mMethN, Mi.mMake, Mi.callR, Mi.mCallR, Mi.newM, Mi.mCallRN, Mi.mApp, Mi.mRev, Mi.setAt, Mi.mSetV, Mi.mSetF, Mi.mAug, Mi.one, Mi.mRaise, Mi.mRaise0, Mi.mTry, Mi.noEx, Mi.endX, Mi.inX, Mi.mTryAs, Mi.mXf, Mi.dI, Mi.dIc, Mi.dAdd, Mi.dSub, Mi.dLt, Mi.dLe, Mi.dGt, Mi.dGe, Mi.dMul, Mi.dDiv, Mi.dMod, Mi.dPow, Mi.dNeg, Mi.sEq, Mi.ofB, Mi.dEq, Mi.dNe, Mi.isNon, Mi.dIsN, Mi.dNotN, Mi.dInt, Mi.dI1, Mi.dI2, Mi.dAbs, Mi.dMin, Mi.dMax, Mi.dGcd, Mi.dLen1, Mi.dLen, Mi.mLenV, Mi.mIsi, Mi.isub, Mi.D.tn, Mi.dIx, Mi.opC, Mi.negC, Mi.eqC, Mi.ipC, Mi.Rv.d, Mi.mNoP, Mi.asI, Mi.mPart, Mi.mSlL, Mi.asL, Mi.asQ, Mi.mItQ, Mi.mItA, Mi.mFor, Mi.putD, List.map_cons, List.map_nil, List.length_cons, List.length_nil, List.replicate, List.cons_append, List.nil_append, List.getElem?_cons_zero, List.getElem?_cons_succ, List.set_cons_zero, List.set_cons_succ, Nat.sub_self, Nat.reduceAdd, Nat.reduceSub, Nat.reduceEqDiff, List.reverse_cons, id, Bool.not_true, Bool.not_false, if_true, if_false, Bool.false_eq_true, reduceIte, true_and, and_true, and_self, Option.toList, List.all_cons, List.all_nil, Bool.and_true, Bool.true_and, Bool.and_self, decide_true, decide_false, decide_eq_true_eq, reduceCtorEq, Mi.bo_pl, Mi.bo_ow, Mi.bo_rf, Mi.bo_un, Mi.sa_ow, Mi.sa_rf, Mi.sa_pl, Mi.oa_un, Mi.oa_pl, Mi.oa_ow, Mi.co_ow, Mi.co_rf, Mi.co_pl, Mi.st_ow, Mi.st_rf, Mi.lv_ow, Mi.lv_rf, Mi.lv_pl, Mi.ne_un, Mi.ne_pl, Mi.ne_ow, Mi.ne_rf, Mi.ne_se, Mi.ne_ex, Mi.th_un, Mi.th_pl, Mi.ie_ex, Mi.xf_ex, ne_eq, not_false_eq_true, not_true_eq_false, Mi.clr, Mi.putS, Option.isSome_some, Option.some.injEq, Int.reduceEq, Int.reduceNe, Int.reduceLT, Int.reduceLE, Nat.reduceLT, Nat.reduceLeDiff, decide_not, Bool.not_eq_true, Bool.decide_eq_true, Mi.ib_t, Mi.ib_f, Mi.mkR_ex, Mi.bO_s, Mi.rO_f, Mi.rO_t, Mi.dEqA_eq, Mi.eqN_0, Mi.eqN_1, Mi.eqN_2, Mi.eqN_3, Mi.eqB_ins, Mi.eqB_tt, Mi.eqB_ll, Mi.eqB_int, Mi.eqB_str, Mi.eqB_bl, Mi.eqB_non, Mi.eqK_ii, Mi.eqK_ss, Mi.eqK_bb, Mi.eqK_nn, Mi.eqK_ni, Mi.eqK_in, Mi.eqK_ns, Mi.eqK_sn, Mi.eqK_is, Mi.eqK_si, Mi.eqK_nt, Mi.eqK_nl, Mi.eqB_tn, Mi.eqB_ln, Mi.eqLs_nil, Mi.eqLs_nc, Mi.eqLs_cn, Mi.eqLs_cc, Mi.itE_int, Mi.itE_str, Mi.itE_bl, Mi.itE_non, Mi.appT, Mi.asB, Mi.mMakeK, Mi.mDic, Option.bind_some, la0, la1, tr_R.ri, h1, e_init hb, e_init hd, mkR_rF, e1, st16 fok0]⟩
  · have h1 : decide (Rat.divInt c d = ((0 : Int) : Rat)) = false := decide_eq_false h0
    have e1 := e_overQ (e_numR0 (Rat.divInt a b)) (e_numR0 (Rat.divInt c d)) h0 hx hy (by decide)
    have hz := hx.div hy h0
    have e2 := o_mul (mR := m_Ratio___rmul__) hz hy (by decide)
    have e3 : Rat.divInt a b / Rat.divInt c d * Rat.divInt c d = Rat.divInt a b := Rat.div_mul_cancel h0
    rw [e3] at e2
    exact ⟨.pl (rD (Rat.divInt a b / Rat.divInt c d)), by simp only [Mi.runM, Mi.runI, Mi.runR, Mi.outF, Mi.outI, Mi.outR, Mi.startE, Mi.bnd, Mi.ret, Mi.lift, Mi.fail, Mi.mVar, Mi.mC, Mi.mBin, Mi.mBinN, Mi.mUn, Mi.mFld, Mi.mFrz, Mi.mB, Mi.tru, Mi.mAnd, Mi.mOr, Mi.mNot, Mi.mAndV, Mi.mOrV, Mi.mNotV, Mi.mIf, Mi.mChain, Mi.mNil, Mi.mCons, Mi.mTup, Mi.mLst, Mi.mCB, Mi.mCBn, Mi.mIdxV, Mi.mSkip, Mi.thenF, Mi.mSeq, Mi.sto, Mi.mAsg, Mi.mAsgN, Mi.two, Mi.mPar, Mi.mDrop, Mi.mRet, Mi.mRetN, Mi.mRetV, Mi.mIfS, Mi.againF, Mi.gV, Mi.gsN, Mi.gsC, Mi.gT, Mi.mAsgT, Mi.tgt, Mi.mCall, Mi.frzR, Mi.newR, Mi.mCallN, Mi.mMeth, Mi.mMethN, Mi.mMake, Mi.callR, Mi.mCallR, Mi.newM, Mi.mCallRN, Mi.mApp, Mi.mRev, Mi.setAt, Mi.mSetV, Mi.mSetF, Mi.mAug, Mi.one, Mi.mRaise, Mi.mRaise0, Mi.mTry, Mi.noEx, Mi.endX, Mi.inX, Mi.mTryAs, Mi.mXf, Mi.dI, Mi.dIc, Mi.dAdd, Mi.dSub, Mi.dLt, Mi.dLe, Mi.dGt, Mi.dGe, Mi.dMul, Mi.dDiv, Mi.dMod, Mi.dPow, Mi.dNeg, Mi.sEq, Mi.ofB, Mi.dEq, Mi.dNe, Mi.isNon, Mi.dIsN, Mi.dNotN, Mi.dInt, Mi.dI1, Mi.dI2, Mi.dAbs, Mi.dMin, Mi.dMax, Mi.dGcd, Mi.dLen1, Mi.dLen, Mi.mLenV, Mi.mIsi, Mi.isub, Mi.D.tn, Mi.dIx, Mi.negC, Mi.eqC, Mi.ipC, Mi.Rv.d, Mi.mNoP, Mi.asI, Mi.mPart, Mi.mSlL, Mi.asL, Mi.asQ, Mi.mItQ, Mi.mItA, Mi.mFor, Mi.putD, List.map_cons, List.map_nil, List.length_cons, List.length_nil, List.replicate, List.cons_append, List.nil_append, List.getElem?_cons_zero, List.getElem?_cons_succ, List.set_cons_zero, List.set_cons_succ, Nat.sub_self, Nat.reduceAdd, Nat.reduceSub, Nat.reduceEqDiff, List.reverse_cons, id, Bool.not_true, Bool.not_false, if_true, if_false, Bool.false_eq_true, reduceIte, true_and, and_true, and_self, Option.toList, List.all_cons, List.all_nil, Bool.and_true, Bool.true_and, Bool.and_self, decide_true, decide_false, decide_eq_true_eq, reduceCtorEq, Mi.bo_pl, Mi.bo_ow, Mi.bo_rf, Mi.bo_un, Mi.sa_ow, Mi.sa_rf, Mi.sa_pl, Mi.oa_un, Mi.oa_pl, Mi.oa_ow, Mi.co_ow, Mi.co_rf, Mi.co_pl, Mi.st_ow, Mi.st_rf, Mi.lv_ow, Mi.lv_rf, Mi.lv_pl, Mi.ne_un, Mi.ne_pl, Mi.ne_ow, Mi.ne_rf, Mi.ne_se, Mi.ne_ex, Mi.th_un, Mi.th_pl, Mi.ie_ex, Mi.xf_ex, ne_eq, not_false_eq_true, not_true_eq_false, Mi.clr, Mi.putS, Option.isSome_some, Option.some.injEq, Int.reduceEq, Int.reduceNe, Int.reduceLT, Int.reduceLE, Nat.reduceLT, Nat.reduceLeDiff, decide_not, Bool.not_eq_true, Bool.decide_eq_true, Mi.ib_t, Mi.ib_f, Mi.mkR_ex, Mi.bO_s, Mi.rO_f, Mi.rO_t, Mi.dEqA_eq, Mi.eqN_0, Mi.eqN_1, Mi.eqN_2, Mi.eqN_3, Mi.eqB_ins, Mi.eqB_tt, Mi.eqB_ll, Mi.eqB_int, Mi.eqB_str, Mi.eqB_bl, Mi.eqB_non, Mi.eqK_ii, Mi.eqK_ss, Mi.eqK_bb, Mi.eqK_nn, Mi.eqK_ni, Mi.eqK_in, Mi.eqK_ns, Mi.eqK_sn, Mi.eqK_is, Mi.eqK_si, Mi.eqK_nt, Mi.eqK_nl, Mi.eqB_tn, Mi.eqB_ln, Mi.eqLs_nil, Mi.eqLs_nc, Mi.eqLs_cn, Mi.eqLs_cc, Mi.itE_int, Mi.itE_str, Mi.itE_bl, Mi.itE_non, Mi.appT, Mi.asB, Mi.mMakeK, Mi.mDic, Option.bind_some, recv_Fo, recv_Fn, la0, la1, tr_R.ri, tr_R.rr, h1, e_init hb, e_init hd, mkR_rF, e1, e2, hs, e_numR0, st16 fok0]⟩
/-- what _law_called says of a fraction -/
def told (p : Int) (q : Rat) (t : D) : Prop := (p = 0 ∧ t = made (rD q)) ∨ (PF p ∧ ¬ (q.den : Int) % p = 0 ∧ t = made (.int (res p q))) ∨ (PF p ∧ (q.den : Int) % p = 0 ∧ t = refd)
theorem told_ex (h : FOk p) (q : Rat) : ∃ t, told p q t ∧ m__law_called [fD p, rD q] = .ok (.pl t) := by
  rcases h.cases with rfl | h
  · exact ⟨_, .inl ⟨rfl, rfl⟩, called_ok (e_numR0 q)⟩
  · by_cases hq : (q.den : Int) % p = 0
    · exact ⟨_, .inr (.inr ⟨h, hq, rfl⟩), called_x (e_numRx h q hq)⟩
    · exact ⟨_, .inr (.inl ⟨h, hq, rfl⟩), called_ok (e_numR h q hq)⟩
theorem right_told {t : D} (ht : told p (Rat.divInt a b) t) (hb : b ≠ 0) (ba : Bd 124 a) (bb : Bd 124 b) : m__law_right [.int p, .int a, .int b, t] = .ok (.pl (.bl true)) := by
  rcases ht with ⟨rfl, rfl⟩ | ⟨h, hq, rfl⟩ | ⟨h, hq, rfl⟩
  · exact right0 hb ba bb (by decide)
  · exact rightZ h hb hq
  · exact rightX h hb hq
theorem z_back (h : PF p) {x y : Int} (hx : 0 ≤ x) (hx2 : x < p) (hy : ¬ y % p = 0) : (x * zinv p y % p) * y % p = x := by
  obtain ⟨_, _, hz⟩ := zinv_ok h hy
  have h1 : p ∣ (x * zinv p y % p) * y - x := by
    have : (x * zinv p y % p) * y - x = x * (zinv p y * y - 1) - p * (x * zinv p y / p * y) := by rw [Int.emod_def]; grind
    rw [this]
    exact Int.dvd_sub (Int.dvd_mul_of_dvd_right hz) (Int.dvd_mul_right ..)
  refine eq_of_dvd (Int.emod_nonneg _ h.ne) (Int.emod_lt_of_pos _ h.pos) hx hx2 ?_
  have : (x * zinv p y % p) * y % p - x = ((x * zinv p y % p) * y - x) - p * ((x * zinv p y % p) * y / p) := by rw [Int.emod_def ((x * zinv p y % p) * y)]; omega
  rw [this]
  exact Int.dvd_sub h1 (Int.dvd_mul_right ..)
theorem st15z (h : PF p) {t1 t2 : D} (h1 : told p (Rat.divInt a b) t1) (h2 : told p (Rat.divInt c d) t2) (hb : b ≠ 0) (hd : d ≠ 0) (hs : okAsg (some s13) = true) :
    ∃ u, lr_law_15 [s0, s1, s2, s3, s4, .pl (.int p), .pl (fD p), .pl t1, .pl t2, .pl (.int a), .pl (.int b), .pl (.int c), .pl (.int d), s13] = .ok (.rt (.pl (.bl true))) [s0, s1, s2, s3, s4, .pl (.int p), .pl (fD p), .pl t1, .pl t2, .pl (.int a), .pl (.int b), .pl (.int c), .pl (.int d), u] := by
  have hf : FOk p := .inr ⟨h.pr, h.le⟩
  unfold lr_law_15
  rcases h1 with ⟨z, _⟩ | ⟨_, hq, rfl⟩ | ⟨_, hq, rfl⟩
  · exact absurd z h.ne
  · rcases h2 with ⟨z, _⟩ | ⟨_, hr, rfl⟩ | ⟨_, hr, rfl⟩
    · exact absurd z h.ne
    · have x0 := res_lo h (Rat.divInt a b)
      have x1 := res_hi h (Rat.divInt a b)
      have y0 := res_lo h (Rat.divInt c d)
      have y1 := res_hi h (Rat.divInt c d)
      have n1 := e_numR h _ hq
      have n2 := e_numR h _ hr
      generalize res p (Rat.divInt a b) = x at x0 x1 n1
      generalize res p (Rat.divInt c d) = y at y0 y1 n2
      by_cases hy : y = 0
      · subst hy
        have e1 := divided_x (e_overZ0 n1 n2)
        exact ⟨s13, by simp only [Mi.runM, Mi.runI, Mi.runR, Mi.outF, Mi.outI, Mi.outR, Mi.startE, Mi.bnd, Mi.ret, Mi.lift, Mi.fail, Mi.mVar, Mi.mC, Mi.mBin, Mi.mBinN, Mi.mUn, Mi.mFld, Mi.mFrz, Mi.mB, Mi.tru, Mi.mAnd, Mi.mOr, Mi.mNot, Mi.mAndV, Mi.mOrV, Mi.mNotV, Mi.mIf, Mi.mChain, Mi.mNil, Mi.mCons, Mi.mTup, Mi.mLst, Mi.mCB, Mi.mCBn, Mi.mIdxV, Mi.mSkip, Mi.thenF, Mi.mSeq, Mi.sto, Mi.mAsg, Mi.mAsgN, Mi.two, Mi.mPar, Mi.mDrop, Mi.mRet, Mi.mRetN, Mi.mRetV, Mi.mIfS, Mi.againF, Mi.gV, Mi.gsN, Mi.gsC, Mi.gT, Mi.mAsgT, Mi.tgt, Mi.mCall, Mi.frzR, Mi.newR, Mi.mCallN, Mi.recv, Mi.mMeth, Mi.mMethN, Mi.mMake, Mi.callR, Mi.mCallR, Mi.newM, Mi.mCallRN, Mi.mApp, Mi.mRev, Mi.setAt, Mi.mSetV, Mi.mSetF, Mi.mAug, Mi.one, Mi.mRaise, Mi.mRaise0, Mi.mTry, Mi.noEx, Mi.endX, Mi.inX, Mi.mTryAs, Mi.mXf, Mi.dI, Mi.dIc, Mi.dAdd, Mi.dSub, Mi.dLt, Mi.dLe, Mi.dGt, Mi.dGe, Mi.dMul, Mi.dDiv, Mi.dMod, Mi.dPow, Mi.dNeg, Mi.sEq, Mi.ofB, Mi.dEq, Mi.dNe, Mi.isNon, Mi.dIsN, Mi.dNotN, Mi.dInt, Mi.dI1, Mi.dI2, Mi.dAbs, Mi.dMin, Mi.dMax, Mi.dGcd, Mi.dLen1, Mi.dLen, Mi.mLenV, Mi.mIsi, Mi.isub, Mi.D.tn, Mi.dIx, Mi.opC, Mi.negC, Mi.eqC, Mi.ipC, Mi.Rv.d, Mi.mNoP, Mi.asI, Mi.mPart, Mi.mSlL, Mi.asL, Mi.asQ, Mi.mItQ, Mi.mItA, Mi.mFor, Mi.putD, List.map_cons, List.map_nil, List.length_cons, List.length_nil, List.replicate, List.cons_append, List.nil_append, List.getElem?_cons_zero, List.getElem?_cons_succ, List.set_cons_zero, List.set_cons_succ, Nat.sub_self, Nat.reduceAdd, Nat.reduceSub, Nat.reduceEqDiff, List.reverse_cons, id, Bool.not_true, Bool.not_false, if_true, if_false, Bool.false_eq_true, reduceIte, true_and, and_true, and_self, Option.toList, List.all_cons, List.all_nil, Bool.and_true, Bool.true_and, Bool.and_self, decide_true, decide_false, decide_eq_true_eq, reduceCtorEq, Mi.bo_pl, Mi.bo_ow, Mi.bo_rf, Mi.bo_un, Mi.sa_ow, Mi.sa_rf, Mi.sa_pl, Mi.oa_un, Mi.oa_pl, Mi.oa_ow, Mi.co_ow, Mi.co_rf, Mi.co_pl, Mi.st_ow, Mi.st_rf, Mi.lv_ow, Mi.lv_rf, Mi.lv_pl, Mi.ne_un, Mi.ne_pl, Mi.ne_ow, Mi.ne_rf, Mi.ne_se, Mi.ne_ex, Mi.th_un, Mi.th_pl, Mi.ie_ex, Mi.xf_ex, ne_eq, not_false_eq_true, not_true_eq_false, Mi.clr, Mi.putS, Option.isSome_some, Option.some.injEq, Int.reduceEq, Int.reduceNe, Int.reduceLT, Int.reduceLE, Nat.reduceLT, Nat.reduceLeDiff, decide_not, Bool.not_eq_true, Bool.decide_eq_true, Mi.ib_t, Mi.ib_f, Mi.mkR_ex, Mi.bO_s, Mi.rO_f, Mi.rO_t, Mi.dEqA_eq, Mi.eqN_0, Mi.eqN_1, Mi.eqN_2, Mi.eqN_3, Mi.eqB_ins, Mi.eqB_tt, Mi.eqB_ll, Mi.eqB_int, Mi.eqB_str, Mi.eqB_bl, Mi.eqB_non, Mi.eqK_ii, Mi.eqK_ss, Mi.eqK_bb, Mi.eqK_nn, Mi.eqK_ni, Mi.eqK_in, Mi.eqK_ns, Mi.eqK_sn, Mi.eqK_is, Mi.eqK_si, Mi.eqK_nt, Mi.eqK_nl, Mi.eqB_tn, Mi.eqB_ln, Mi.eqLs_nil, Mi.eqLs_nc, Mi.eqLs_cn, Mi.eqLs_cc, Mi.itE_int, Mi.itE_str, Mi.itE_bl, Mi.itE_non, Mi.appT, Mi.asB, Mi.mMakeK, Mi.mDic, Option.bind_some, la0, la1, e_init hb, e_init hd, mkR_rF, e1, st16 hf]⟩
      · have hy2 : ¬ y % p = 0 := by rw [Int.emod_eq_of_lt y0 y1]; exact hy
        have e1 := e_overZ h n1 n2 hy2
        have zb := z_back h x0 x1 hy2
        have w0 := Int.emod_nonneg (x * zinv p y) h.ne
        have w1 := Int.emod_lt_of_pos (x * zinv p y) h.pos
        generalize x * zinv p y % p = w at e1 zb w0 w1
        have hl := h.le
        have mo : mulOk w y = true := mulOk_l (by omega) (by omega)
        have e2 := e_numI h (w * y)
        rw [zb] at e2
        have e3 := e_numI h w
        rw [Int.emod_eq_of_lt w0 w1] at e3
        exact ⟨.pl (.int w), by simp only [Mi.runM, Mi.runI, Mi.runR, Mi.outF, Mi.outI, Mi.outR, Mi.startE, Mi.bnd, Mi.ret, Mi.lift, Mi.fail, Mi.mVar, Mi.mC, Mi.mBin, Mi.mBinN, Mi.mUn, Mi.mFld, Mi.mFrz, Mi.mB, Mi.tru, Mi.mAnd, Mi.mOr, Mi.mNot, Mi.mAndV, Mi.mOrV, Mi.mNotV, Mi.mIf, Mi.mChain, Mi.mNil, Mi.mCons, Mi.mTup, Mi.mLst, Mi.mCB, Mi.mCBn, Mi.mIdxV, Mi.mSkip, Mi.thenF, Mi.mSeq, Mi.sto, Mi.mAsg, Mi.mAsgN, Mi.two, Mi.mPar, Mi.mDrop, Mi.mRet, Mi.mRetN, Mi.mRetV, Mi.mIfS, Mi.againF, Mi.gV, Mi.gsN, Mi.gsC, Mi.gT, Mi.mAsgT, Mi.tgt, Mi.mCall, Mi.frzR, Mi.newR, Mi.mCallN, Mi.mMeth, Mi.mMethN, Mi.mMake, Mi.callR, Mi.mCallR, Mi.newM, Mi.mCallRN, Mi.mApp, Mi.mRev, Mi.setAt, Mi.mSetV, Mi.mSetF, Mi.mAug, Mi.one, Mi.mRaise, Mi.mRaise0, Mi.mTry, Mi.noEx, Mi.endX, Mi.inX, Mi.mTryAs, Mi.mXf, Mi.dI, Mi.dIc, Mi.dAdd, Mi.dSub, Mi.dLt, Mi.dLe, Mi.dGt, Mi.dGe, Mi.dMul, Mi.dDiv, Mi.dMod, Mi.dPow, Mi.dNeg, Mi.sEq, Mi.ofB, Mi.dEq, Mi.dNe, Mi.isNon, Mi.dIsN, Mi.dNotN, Mi.dInt, Mi.dI1, Mi.dI2, Mi.dAbs, Mi.dMin, Mi.dMax, Mi.dGcd, Mi.dLen1, Mi.dLen, Mi.mLenV, Mi.mIsi, Mi.isub, Mi.D.tn, Mi.dIx, Mi.opC, Mi.negC, Mi.eqC, Mi.ipC, Mi.Rv.d, Mi.mNoP, Mi.asI, Mi.mPart, Mi.mSlL, Mi.asL, Mi.asQ, Mi.mItQ, Mi.mItA, Mi.mFor, Mi.putD, List.map_cons, List.map_nil, List.length_cons, List.length_nil, List.replicate, List.cons_append, List.nil_append, List.getElem?_cons_zero, List.getElem?_cons_succ, List.set_cons_zero, List.set_cons_succ, Nat.sub_self, Nat.reduceAdd, Nat.reduceSub, Nat.reduceEqDiff, List.reverse_cons, id, Bool.not_true, Bool.not_false, if_true, if_false, Bool.false_eq_true, reduceIte, true_and, and_true, and_self, Option.toList, List.all_cons, List.all_nil, Bool.and_true, Bool.true_and, Bool.and_self, decide_true, decide_false, decide_eq_true_eq, reduceCtorEq, Mi.bo_pl, Mi.bo_ow, Mi.bo_rf, Mi.bo_un, Mi.sa_ow, Mi.sa_rf, Mi.sa_pl, Mi.oa_un, Mi.oa_pl, Mi.oa_ow, Mi.co_ow, Mi.co_rf, Mi.co_pl, Mi.st_ow, Mi.st_rf, Mi.lv_ow, Mi.lv_rf, Mi.lv_pl, Mi.ne_un, Mi.ne_pl, Mi.ne_ow, Mi.ne_rf, Mi.ne_se, Mi.ne_ex, Mi.th_un, Mi.th_pl, Mi.ie_ex, Mi.xf_ex, ne_eq, not_false_eq_true, not_true_eq_false, Mi.clr, Mi.putS, Option.isSome_some, Option.some.injEq, Int.reduceEq, Int.reduceNe, Int.reduceLT, Int.reduceLE, Nat.reduceLT, Nat.reduceLeDiff, decide_not, Bool.not_eq_true, Bool.decide_eq_true, Mi.ib_t, Mi.ib_f, Mi.mkR_ex, Mi.bO_s, Mi.rO_f, Mi.rO_t, Mi.dEqA_eq, Mi.eqN_0, Mi.eqN_1, Mi.eqN_2, Mi.eqN_3, Mi.eqB_ins, Mi.eqB_tt, Mi.eqB_ll, Mi.eqB_int, Mi.eqB_str, Mi.eqB_bl, Mi.eqB_non, Mi.eqK_ii, Mi.eqK_ss, Mi.eqK_bb, Mi.eqK_nn, Mi.eqK_ni, Mi.eqK_in, Mi.eqK_ns, Mi.eqK_sn, Mi.eqK_is, Mi.eqK_si, Mi.eqK_nt, Mi.eqK_nl, Mi.eqB_tn, Mi.eqB_ln, Mi.eqLs_nil, Mi.eqLs_nc, Mi.eqLs_cn, Mi.eqLs_cc, Mi.itE_int, Mi.itE_str, Mi.itE_bl, Mi.itE_non, Mi.appT, Mi.asB, Mi.mMakeK, Mi.mDic, Option.bind_some, recv_Fo, recv_Fn, la0, la1, hy, e_init hb, e_init hd, mkR_rF, e1, e2, e3, mo, hs, st16 hf]⟩
    · have e1 := divided_x (e_over2 (e_numR h _ hq) (e_numRx h _ hr))
      exact ⟨s13, by simp only [Mi.runM, Mi.runI, Mi.runR, Mi.outF, Mi.outI, Mi.outR, Mi.startE, Mi.bnd, Mi.ret, Mi.lift, Mi.fail, Mi.mVar, Mi.mC, Mi.mBin, Mi.mBinN, Mi.mUn, Mi.mFld, Mi.mFrz, Mi.mB, Mi.tru, Mi.mAnd, Mi.mOr, Mi.mNot, Mi.mAndV, Mi.mOrV, Mi.mNotV, Mi.mIf, Mi.mChain, Mi.mNil, Mi.mCons, Mi.mTup, Mi.mLst, Mi.mCB, Mi.mCBn, Mi.mIdxV, Mi.mSkip, Mi.thenF, Mi.mSeq, Mi.sto, Mi.mAsg, Mi.mAsgN, Mi.two, Mi.mPar, Mi.mDrop, Mi.mRet, Mi.mRetN, Mi.mRetV, Mi.mIfS, Mi.againF, Mi.gV, Mi.gsN, Mi.gsC, Mi.gT, Mi.mAsgT, Mi.tgt, Mi.mCall, Mi.frzR, Mi.newR, Mi.mCallN, Mi.recv, Mi.mMeth, Mi.mMethN, Mi.mMake, Mi.callR, Mi.mCallR, Mi.newM, Mi.mCallRN, Mi.mApp, Mi.mRev, Mi.setAt, Mi.mSetV, Mi.mSetF, Mi.mAug, Mi.one, Mi.mRaise, Mi.mRaise0, Mi.mTry, Mi.noEx, Mi.endX, Mi.inX, Mi.mTryAs, Mi.mXf, Mi.dI, Mi.dIc, Mi.dAdd, Mi.dSub, Mi.dLt, Mi.dLe, Mi.dGt, Mi.dGe, Mi.dMul, Mi.dDiv, Mi.dMod, Mi.dPow, Mi.dNeg, Mi.sEq, Mi.ofB, Mi.dEq, Mi.dNe, Mi.isNon, Mi.dIsN, Mi.dNotN, Mi.dInt, Mi.dI1, Mi.dI2, Mi.dAbs, Mi.dMin, Mi.dMax, Mi.dGcd, Mi.dLen1, Mi.dLen, Mi.mLenV, Mi.mIsi, Mi.isub, Mi.D.tn, Mi.dIx, Mi.opC, Mi.negC, Mi.eqC, Mi.ipC, Mi.Rv.d, Mi.mNoP, Mi.asI, Mi.mPart, Mi.mSlL, Mi.asL, Mi.asQ, Mi.mItQ, Mi.mItA, Mi.mFor, Mi.putD, List.map_cons, List.map_nil, List.length_cons, List.length_nil, List.replicate, List.cons_append, List.nil_append, List.getElem?_cons_zero, List.getElem?_cons_succ, List.set_cons_zero, List.set_cons_succ, Nat.sub_self, Nat.reduceAdd, Nat.reduceSub, Nat.reduceEqDiff, List.reverse_cons, id, Bool.not_true, Bool.not_false, if_true, if_false, Bool.false_eq_true, reduceIte, true_and, and_true, and_self, Option.toList, List.all_cons, List.all_nil, Bool.and_true, Bool.true_and, Bool.and_self, decide_true, decide_false, decide_eq_true_eq, reduceCtorEq, Mi.bo_pl, Mi.bo_ow, Mi.bo_rf, Mi.bo_un, Mi.sa_ow, Mi.sa_rf, Mi.sa_pl, Mi.oa_un, Mi.oa_pl, Mi.oa_ow, Mi.co_ow, Mi.co_rf, Mi.co_pl, Mi.st_ow, Mi.st_rf, Mi.lv_ow, Mi.lv_rf, Mi.lv_pl, Mi.ne_un, Mi.ne_pl, Mi.ne_ow, Mi.ne_rf, Mi.ne_se, Mi.ne_ex, Mi.th_un, Mi.th_pl, Mi.ie_ex, Mi.xf_ex, ne_eq, not_false_eq_true, not_true_eq_false, Mi.clr, Mi.putS, Option.isSome_some, Option.some.injEq, Int.reduceEq, Int.reduceNe, Int.reduceLT, Int.reduceLE, Nat.reduceLT, Nat.reduceLeDiff, decide_not, Bool.not_eq_true, Bool.decide_eq_true, Mi.ib_t, Mi.ib_f, Mi.mkR_ex, Mi.bO_s, Mi.rO_f, Mi.rO_t, Mi.dEqA_eq, Mi.eqN_0, Mi.eqN_1, Mi.eqN_2, Mi.eqN_3, Mi.eqB_ins, Mi.eqB_tt, Mi.eqB_ll, Mi.eqB_int, Mi.eqB_str, Mi.eqB_bl, Mi.eqB_non, Mi.eqK_ii, Mi.eqK_ss, Mi.eqK_bb, Mi.eqK_nn, Mi.eqK_ni, Mi.eqK_in, Mi.eqK_ns, Mi.eqK_sn, Mi.eqK_is, Mi.eqK_si, Mi.eqK_nt, Mi.eqK_nl, Mi.eqB_tn, Mi.eqB_ln, Mi.eqLs_nil, Mi.eqLs_nc, Mi.eqLs_cn, Mi.eqLs_cc, Mi.itE_int, Mi.itE_str, Mi.itE_bl, Mi.itE_non, Mi.appT, Mi.asB, Mi.mMakeK, Mi.mDic, Option.bind_some, la0, la1, s_rm, e_init hb, e_init hd, mkR_rF, e1, st16 hf]⟩
  · have e1 := divided_x (b := rD (Rat.divInt c d)) (e_over1 (e_numRx h _ hq))
    exact ⟨s13, by simp only [Mi.runM, Mi.runI, Mi.runR, Mi.outF, Mi.outI, Mi.outR, Mi.startE, Mi.bnd, Mi.ret, Mi.lift, Mi.fail, Mi.mVar, Mi.mC, Mi.mBin, Mi.mBinN, Mi.mUn, Mi.mFld, Mi.mFrz, Mi.mB, Mi.tru, Mi.mAnd, Mi.mOr, Mi.mNot, Mi.mAndV, Mi.mOrV, Mi.mNotV, Mi.mIf, Mi.mChain, Mi.mNil, Mi.mCons, Mi.mTup, Mi.mLst, Mi.mCB, Mi.mCBn, Mi.mIdxV, Mi.mSkip, Mi.thenF, Mi.mSeq, Mi.sto, Mi.mAsg, Mi.mAsgN, Mi.two, Mi.mPar, Mi.mDrop, Mi.mRet, Mi.mRetN, Mi.mRetV, Mi.mIfS, Mi.againF, Mi.gV, Mi.gsN, Mi.gsC, Mi.gT, Mi.mAsgT, Mi.tgt, Mi.mCall, Mi.frzR, Mi.newR, Mi.mCallN, Mi.recv, Mi.mMeth, Mi.mMethN, Mi.mMake, Mi.callR, Mi.mCallR, Mi.newM, Mi.mCallRN, Mi.mApp, Mi.mRev, Mi.setAt, Mi.mSetV, Mi.mSetF, Mi.mAug, Mi.one, Mi.mRaise, Mi.mRaise0, Mi.mTry, Mi.noEx, Mi.endX, Mi.inX, Mi.mTryAs, Mi.mXf, Mi.dI, Mi.dIc, Mi.dAdd, Mi.dSub, Mi.dLt, Mi.dLe, Mi.dGt, Mi.dGe, Mi.dMul, Mi.dDiv, Mi.dMod, Mi.dPow, Mi.dNeg, Mi.sEq, Mi.ofB, Mi.dEq, Mi.dNe, Mi.isNon, Mi.dIsN, Mi.dNotN, Mi.dInt, Mi.dI1, Mi.dI2, Mi.dAbs, Mi.dMin, Mi.dMax, Mi.dGcd, Mi.dLen1, Mi.dLen, Mi.mLenV, Mi.mIsi, Mi.isub, Mi.D.tn, Mi.dIx, Mi.opC, Mi.negC, Mi.eqC, Mi.ipC, Mi.Rv.d, Mi.mNoP, Mi.asI, Mi.mPart, Mi.mSlL, Mi.asL, Mi.asQ, Mi.mItQ, Mi.mItA, Mi.mFor, Mi.putD, List.map_cons, List.map_nil, List.length_cons, List.length_nil, List.replicate, List.cons_append, List.nil_append, List.getElem?_cons_zero, List.getElem?_cons_succ, List.set_cons_zero, List.set_cons_succ, Nat.sub_self, Nat.reduceAdd, Nat.reduceSub, Nat.reduceEqDiff, List.reverse_cons, id, Bool.not_true, Bool.not_false, if_true, if_false, Bool.false_eq_true, reduceIte, true_and, and_true, and_self, Option.toList, List.all_cons, List.all_nil, Bool.and_true, Bool.true_and, Bool.and_self, decide_true, decide_false, decide_eq_true_eq, reduceCtorEq, Mi.bo_pl, Mi.bo_ow, Mi.bo_rf, Mi.bo_un, Mi.sa_ow, Mi.sa_rf, Mi.sa_pl, Mi.oa_un, Mi.oa_pl, Mi.oa_ow, Mi.co_ow, Mi.co_rf, Mi.co_pl, Mi.st_ow, Mi.st_rf, Mi.lv_ow, Mi.lv_rf, Mi.lv_pl, Mi.ne_un, Mi.ne_pl, Mi.ne_ow, Mi.ne_rf, Mi.ne_se, Mi.ne_ex, Mi.th_un, Mi.th_pl, Mi.ie_ex, Mi.xf_ex, ne_eq, not_false_eq_true, not_true_eq_false, Mi.clr, Mi.putS, Option.isSome_some, Option.some.injEq, Int.reduceEq, Int.reduceNe, Int.reduceLT, Int.reduceLE, Nat.reduceLT, Nat.reduceLeDiff, decide_not, Bool.not_eq_true, Bool.decide_eq_true, Mi.ib_t, Mi.ib_f, Mi.mkR_ex, Mi.bO_s, Mi.rO_f, Mi.rO_t, Mi.dEqA_eq, Mi.eqN_0, Mi.eqN_1, Mi.eqN_2, Mi.eqN_3, Mi.eqB_ins, Mi.eqB_tt, Mi.eqB_ll, Mi.eqB_int, Mi.eqB_str, Mi.eqB_bl, Mi.eqB_non, Mi.eqK_ii, Mi.eqK_ss, Mi.eqK_bb, Mi.eqK_nn, Mi.eqK_ni, Mi.eqK_in, Mi.eqK_ns, Mi.eqK_sn, Mi.eqK_is, Mi.eqK_si, Mi.eqK_nt, Mi.eqK_nl, Mi.eqB_tn, Mi.eqB_ln, Mi.eqLs_nil, Mi.eqLs_nc, Mi.eqLs_cn, Mi.eqLs_cc, Mi.itE_int, Mi.itE_str, Mi.itE_bl, Mi.itE_non, Mi.appT, Mi.asB, Mi.mMakeK, Mi.mDic, Option.bind_some, la0, la1, s_rm, e_init hb, e_init hd, mkR_rF, e1, st16 hf]⟩
end
end Mi

namespace Mi
open PySem
section
variable {p a b c d : Int} {s0 s1 s2 s3 s4 s7 s8 s9 s10 s11 s12 s13 : Sl}
theorem divInt_one (i : Int) : Rat.divInt i 1 = (i : Rat) := by rw [show (1 : Int) = ((1 : Nat) : Int) from rfl, Rat.divInt_ofNat, ← Rat.mk_eq_mkRat i 1 (by decide) (by simp)]; rfl
theorem told_int (h : FOk p) (i : Int) : ∃ t, told p (Rat.divInt i 1) t ∧ m__law_called [fD p, .int i] = .ok (.pl t) := by
  rcases h.cases with rfl | h
  · exact ⟨_, .inl ⟨rfl, by rw [divInt_one]⟩, called_ok (e_numI0 i)⟩
  · have h1 := h.pr.1
    have z1 : zinv p 1 = 1 := zinv_of (by decide) (by omega) ⟨0, by omega⟩
    refine ⟨_, .inr (.inl ⟨h, ?_, ?_⟩), called_ok (e_numI h i)⟩
    · rw [divInt_one]
      show ¬ ((1 : Nat) : Int) % p = 0
      rw [Int.emod_eq_of_lt (by decide) (by omega)]
      decide
    · rw [divInt_one]
      unfold res
      show _ = made (.int (i * zinv p ((1 : Nat) : Int) % p))
      rw [show ((1 : Nat) : Int) = 1 from rfl, z1, Int.mul_one]
theorem st13 (h : FOk p) {t1 t2 : D} (h1 : told p (Rat.divInt a b) t1) (h2 : told p (Rat.divInt c d) t2) (hb : b ≠ 0) (hd : d ≠ 0) (ba : Bd 124 a) (bb : Bd 124 b) (bc : Bd 124 c) (bd : Bd 124 d) (hs : okAsg (some s13) = true) :
    ∃ ρ, lr_law_13 [s0, s1, s2, s3, s4, .pl (.int p), .pl (fD p), .pl t1, .pl t2, .pl (.int a), .pl (.int b), .pl (.int c), .pl (.int d), s13] = .ok (.rt (.pl (.bl true))) ρ := by
  have r1 := right_told h1 hb ba bb
  have r2 := right_told h2 hd bc bd
  obtain ⟨t, ht, e1⟩ := told_int h a
  have r3 := right_told ht (by decide) ba (by unfold Bd; decide)
  have r4 := strange_ok h a
  have r5 : ∃ u, lr_law_15 [s0, s1, s2, s3, s4, .pl (.int p), .pl (fD p), .pl t1, .pl t2, .pl (.int a), .pl (.int b), .pl (.int c), .pl (.int d), s13] = .ok (.rt (.pl (.bl true))) [s0, s1, s2, s3, s4, .pl (.int p), .pl (fD p), .pl t1, .pl t2, .pl (.int a), .pl (.int b), .pl (.int c), .pl (.int d), u] := by
    rcases h.cases with rfl | h
    · rcases h1 with ⟨_, rfl⟩ | ⟨z, _⟩ | ⟨z, _⟩
      · rcases h2 with ⟨_, rfl⟩ | ⟨z, _⟩ | ⟨z, _⟩
        · exact st15q hb hd ba bb bc bd hs
        · exact absurd rfl z.ne
        · exact absurd rfl z.ne
      · exact absurd rfl z.ne
      · exact absurd rfl z.ne
    · exact st15z h h1 h2 hb hd hs
  obtain ⟨u, r5⟩ := r5
  unfold lr_law_13 lr_law_14
  exact ⟨_, by simp only [Mi.runM, Mi.runI, Mi.runR, Mi.outF, Mi.outI, Mi.outR, Mi.startE, Mi.bnd, Mi.ret, Mi.lift, Mi.fail, Mi.mVar, Mi.mC, Mi.mBin, Mi.mBinN, Mi.mUn, Mi.mFld, Mi.mFrz, Mi.mB, Mi.tru, Mi.mAnd, Mi.mOr, Mi.mNot, Mi.mAndV, Mi.mOrV, Mi.mNotV, Mi.mIf, Mi.mChain, Mi.mNil, Mi.mCons, Mi.mTup, Mi.mLst, Mi.mCB, Mi.mCBn, Mi.mIdxV, Mi.mSkip, Mi.thenF, Mi.mSeq, Mi.sto, Mi.mAsg, Mi.mAsgN, Mi.two, Mi.mPar, Mi.mDrop, Mi.mRet, Mi.mRetN, Mi.mRetV, Mi.mIfS, Mi.againF, Mi.gV, Mi.gsN, Mi.gsC, Mi.gT, Mi.mAsgT, Mi.tgt, Mi.mCall, Mi.frzR, Mi.newR, Mi.mCallN, Mi.recv, Mi.mMeth, Mi.mMethN, Mi.mMake, Mi.callR, Mi.mCallR, Mi.newM, Mi.mCallRN, Mi.mApp, Mi.mRev, Mi.setAt, Mi.mSetV, Mi.mSetF, Mi.mAug, Mi.one, Mi.mRaise, Mi.mRaise0, Mi.mTry, Mi.noEx, Mi.endX, Mi.inX, Mi.mTryAs, Mi.mXf, Mi.dI, Mi.dIc, Mi.dAdd, Mi.dSub, Mi.dLt, Mi.dLe, Mi.dGt, Mi.dGe, Mi.dMul, Mi.dDiv, Mi.dMod, Mi.dPow, Mi.dNeg, Mi.sEq, Mi.ofB, Mi.dEq, Mi.dNe, Mi.isNon, Mi.dIsN, Mi.dNotN, Mi.dInt, Mi.dI1, Mi.dI2, Mi.dAbs, Mi.dMin, Mi.dMax, Mi.dGcd, Mi.dLen1, Mi.dLen, Mi.mLenV, Mi.mIsi, Mi.isub, Mi.D.tn, Mi.dIx, Mi.opC, Mi.negC, Mi.eqC, Mi.ipC, Mi.Rv.d, Mi.mNoP, Mi.asI, Mi.mPart, Mi.mSlL, Mi.asL, Mi.asQ, Mi.mItQ, Mi.mItA, Mi.mFor, Mi.putD, List.map_cons, List.map_nil, List.length_cons, List.length_nil, List.replicate, List.cons_append, List.nil_append, List.getElem?_cons_zero, List.getElem?_cons_succ, List.set_cons_zero, List.set_cons_succ, Nat.sub_self, Nat.reduceAdd, Nat.reduceSub, Nat.reduceEqDiff, List.reverse_cons, id, Bool.not_true, Bool.not_false, if_true, if_false, Bool.false_eq_true, reduceIte, true_and, and_true, and_self, Option.toList, List.all_cons, List.all_nil, Bool.and_true, Bool.true_and, Bool.and_self, decide_true, decide_false, decide_eq_true_eq, reduceCtorEq, Mi.bo_pl, Mi.bo_ow, Mi.bo_rf, Mi.bo_un, Mi.sa_ow, Mi.sa_rf, Mi.sa_pl, Mi.oa_un, Mi.oa_pl, Mi.oa_ow, Mi.co_ow, Mi.co_rf, Mi.co_pl, Mi.st_ow, Mi.st_rf, Mi.lv_ow, Mi.lv_rf, Mi.lv_pl, Mi.ne_un, Mi.ne_pl, Mi.ne_ow, Mi.ne_rf, Mi.ne_se, Mi.ne_ex, Mi.th_un, Mi.th_pl, Mi.ie_ex, Mi.xf_ex, ne_eq, not_false_eq_true, not_true_eq_false, Mi.clr, Mi.putS, Option.isSome_some, Option.some.injEq, Int.reduceEq, Int.reduceNe, Int.reduceLT, Int.reduceLE, Nat.reduceLT, Nat.reduceLeDiff, decide_not, Bool.not_eq_true, Bool.decide_eq_true, Mi.ib_t, Mi.ib_f, Mi.mkR_ex, Mi.bO_s, Mi.rO_f, Mi.rO_t, Mi.dEqA_eq, Mi.eqN_0, Mi.eqN_1, Mi.eqN_2, Mi.eqN_3, Mi.eqB_ins, Mi.eqB_tt, Mi.eqB_ll, Mi.eqB_int, Mi.eqB_str, Mi.eqB_bl, Mi.eqB_non, Mi.eqK_ii, Mi.eqK_ss, Mi.eqK_bb, Mi.eqK_nn, Mi.eqK_ni, Mi.eqK_in, Mi.eqK_ns, Mi.eqK_sn, Mi.eqK_is, Mi.eqK_si, Mi.eqK_nt, Mi.eqK_nl, Mi.eqB_tn, Mi.eqB_ln, Mi.eqLs_nil, Mi.eqLs_nc, Mi.eqLs_cn, Mi.eqLs_cc, Mi.itE_int, Mi.itE_str, Mi.itE_bl, Mi.itE_non, Mi.appT, Mi.asB, Mi.mMakeK, Mi.mDic, Option.bind_some, r1, r2, r3, r4, e1, r5]; rfl⟩
theorem nz (b : Int) (bb : Bd 124 b) : ∃ b', b' ≠ 0 ∧ Bd 124 b' ∧ (if b = 0 then (1 : Int) else b) = b' := by
  by_cases h : b = 0
  · exact ⟨1, by decide, by unfold Bd; decide, by rw [if_pos h]⟩
  · exact ⟨b, h, bb, by rw [if_neg h]⟩
theorem st9 (h : FOk p) (ba : Bd 124 a) (bb : Bd 124 b) (bc : Bd 124 c) (bd : Bd 124 d) :
    ∃ ρ, lr_law_9 [s0, s1, s2, s3, s4, .pl (.int p), .pl (fD p), .un, .un, .pl (.int a), .pl (.int b), .pl (.int c), .pl (.int d), .un] = .ok (.rt (.pl (.bl true))) ρ := by
  have fin : ∀ b d : Int, b ≠ 0 → d ≠ 0 → Bd 124 b → Bd 124 d → ∃ ρ, lr_law_11 [s0, s1, s2, s3, s4, .pl (.int p), .pl (fD p), .un, .un, .pl (.int a), .pl (.int b), .pl (.int c), .pl (.int d), .un] = .ok (.rt (.pl (.bl true))) ρ := fun b d hb hd bb bd => by
    obtain ⟨t1, h1, e1⟩ := told_ex h (Rat.divInt a b)
    obtain ⟨t2, h2, e2⟩ := told_ex h (Rat.divInt c d)
    obtain ⟨ρ, e⟩ := st13 (s0 := s0) (s1 := s1) (s2 := s2) (s3 := s3) (s4 := s4) (s13 := .un) h h1 h2 hb hd ba bb bc bd rfl
    unfold lr_law_11 lr_law_12
    exact ⟨ρ, by simp only [Mi.runM, Mi.runI, Mi.runR, Mi.outF, Mi.outI, Mi.outR, Mi.startE, Mi.bnd, Mi.ret, Mi.lift, Mi.fail, Mi.mVar, Mi.mC, Mi.mBin, Mi.mBinN, Mi.mUn, Mi.mFld, Mi.mFrz, Mi.mB, Mi.tru, Mi.mAnd, Mi.mOr, Mi.mNot, Mi.mAndV, Mi.mOrV, Mi.mNotV, Mi.mIf, Mi.mChain, Mi.mNil, Mi.mCons, Mi.mTup, Mi.mLst, Mi.mCB, Mi.mCBn, Mi.mIdxV, Mi.mSkip, Mi.thenF, Mi.mSeq, Mi.sto, Mi.mAsg, Mi.mAsgN, Mi.two, Mi.mPar, Mi.mDrop, Mi.mRet, Mi.mRetN, Mi.mRetV, Mi.mIfS, Mi.againF, Mi.gV, Mi.gsN, Mi.gsC, Mi.gT, Mi.mAsgT, Mi.tgt, Mi.mCall, Mi.frzR, Mi.newR, Mi.mCallN, Mi.recv, Mi.mMeth, Mi.mMethN, Mi.mMake, Mi.callR, Mi.mCallR, Mi.newM, Mi.mCallRN, Mi.mApp, Mi.mRev, Mi.setAt, Mi.mSetV, Mi.mSetF, Mi.mAug, Mi.one, Mi.mRaise, Mi.mRaise0, Mi.mTry, Mi.noEx, Mi.endX, Mi.inX, Mi.mTryAs, Mi.mXf, Mi.dI, Mi.dIc, Mi.dAdd, Mi.dSub, Mi.dLt, Mi.dLe, Mi.dGt, Mi.dGe, Mi.dMul, Mi.dDiv, Mi.dMod, Mi.dPow, Mi.dNeg, Mi.sEq, Mi.ofB, Mi.dEq, Mi.dNe, Mi.isNon, Mi.dIsN, Mi.dNotN, Mi.dInt, Mi.dI1, Mi.dI2, Mi.dAbs, Mi.dMin, Mi.dMax, Mi.dGcd, Mi.dLen1, Mi.dLen, Mi.mLenV, Mi.mIsi, Mi.isub, Mi.D.tn, Mi.dIx, Mi.opC, Mi.negC, Mi.eqC, Mi.ipC, Mi.Rv.d, Mi.mNoP, Mi.asI, Mi.mPart, Mi.mSlL, Mi.asL, Mi.asQ, Mi.mItQ, Mi.mItA, Mi.mFor, Mi.putD, List.map_cons, List.map_nil, List.length_cons, List.length_nil, List.replicate, List.cons_append, List.nil_append, List.getElem?_cons_zero, List.getElem?_cons_succ, List.set_cons_zero, List.set_cons_succ, Nat.sub_self, Nat.reduceAdd, Nat.reduceSub, Nat.reduceEqDiff, List.reverse_cons, id, Bool.not_true, Bool.not_false, if_true, if_false, Bool.false_eq_true, reduceIte, true_and, and_true, and_self, Option.toList, List.all_cons, List.all_nil, Bool.and_true, Bool.true_and, Bool.and_self, decide_true, decide_false, decide_eq_true_eq, reduceCtorEq, Mi.bo_pl, Mi.bo_ow, Mi.bo_rf, Mi.bo_un, Mi.sa_ow, Mi.sa_rf, Mi.sa_pl, Mi.oa_un, Mi.oa_pl, Mi.oa_ow, Mi.co_ow, Mi.co_rf, Mi.co_pl, Mi.st_ow, Mi.st_rf, Mi.lv_ow, Mi.lv_rf, Mi.lv_pl, Mi.ne_un, Mi.ne_pl, Mi.ne_ow, Mi.ne_rf, Mi.ne_se, Mi.ne_ex, Mi.th_un, Mi.th_pl, Mi.ie_ex, Mi.xf_ex, ne_eq, not_false_eq_true, not_true_eq_false, Mi.clr, Mi.putS, Option.isSome_some, Option.some.injEq, Int.reduceEq, Int.reduceNe, Int.reduceLT, Int.reduceLE, Nat.reduceLT, Nat.reduceLeDiff, decide_not, Bool.not_eq_true, Bool.decide_eq_true, Mi.ib_t, Mi.ib_f, Mi.mkR_ex, Mi.bO_s, Mi.rO_f, Mi.rO_t, Mi.dEqA_eq, Mi.eqN_0, Mi.eqN_1, Mi.eqN_2, Mi.eqN_3, Mi.eqB_ins, Mi.eqB_tt, Mi.eqB_ll, Mi.eqB_int, Mi.eqB_str, Mi.eqB_bl, Mi.eqB_non, Mi.eqK_ii, Mi.eqK_ss, Mi.eqK_bb, Mi.eqK_nn, Mi.eqK_ni, Mi.eqK_in, Mi.eqK_ns, Mi.eqK_sn, Mi.eqK_is, Mi.eqK_si, Mi.eqK_nt, Mi.eqK_nl, Mi.eqB_tn, Mi.eqB_ln, Mi.eqLs_nil, Mi.eqLs_nc, Mi.eqLs_cn, Mi.eqLs_cc, Mi.itE_int, Mi.itE_str, Mi.itE_bl, Mi.itE_non, Mi.appT, Mi.asB, Mi.mMakeK, Mi.mDic, Option.bind_some, e_init hb, e_init hd, mkR_rF, e1, e2, e]⟩
  unfold lr_law_9 lr_law_10
  have b1 : Bd 124 (1 : Int) := by unfold Bd; decide
  by_cases hb : b = 0
  · by_cases hd : d = 0
    · obtain ⟨ρ, e⟩ := fin 1 1 (by decide) (by decide) b1 b1
      exact ⟨ρ, by simp only [Mi.runM, Mi.runI, Mi.runR, Mi.outF, Mi.outI, Mi.outR, Mi.startE, Mi.bnd, Mi.ret, Mi.lift, Mi.fail, Mi.mVar, Mi.mC, Mi.mBin, Mi.mBinN, Mi.mUn, Mi.mFld, Mi.mFrz, Mi.mB, Mi.tru, Mi.mAnd, Mi.mOr, Mi.mNot, Mi.mAndV, Mi.mOrV, Mi.mNotV, Mi.mIf, Mi.mChain, Mi.mNil, Mi.mCons, Mi.mTup, Mi.mLst, Mi.mCB, Mi.mCBn, Mi.mIdxV, Mi.mSkip, Mi.thenF, Mi.mSeq, Mi.sto, Mi.mAsg, Mi.mAsgN, Mi.two, Mi.mPar, Mi.mDrop, Mi.mRet, Mi.mRetN, Mi.mRetV, Mi.mIfS, Mi.againF, Mi.gV, Mi.gsN, Mi.gsC, Mi.gT, Mi.mAsgT, Mi.tgt, Mi.mCall, Mi.frzR, Mi.newR, Mi.mCallN, Mi.recv, Mi.mMeth, Mi.mMethN, Mi.mMake, Mi.callR, Mi.mCallR, Mi.newM, Mi.mCallRN, Mi.mApp, Mi.mRev, Mi.setAt, Mi.mSetV, Mi.mSetF, Mi.mAug, Mi.one, Mi.mRaise, Mi.mRaise0, Mi.mTry, Mi.noEx, Mi.endX, Mi.inX, Mi.mTryAs, Mi.mXf, Mi.dI, Mi.dIc, Mi.dAdd, Mi.dSub, Mi.dLt, Mi.dLe, Mi.dGt, Mi.dGe, Mi.dMul, Mi.dDiv, Mi.dMod, Mi.dPow, Mi.dNeg, Mi.sEq, Mi.ofB, Mi.dEq, Mi.dNe, Mi.isNon, Mi.dIsN, Mi.dNotN, Mi.dInt, Mi.dI1, Mi.dI2, Mi.dAbs, Mi.dMin, Mi.dMax, Mi.dGcd, Mi.dLen1, Mi.dLen, Mi.mLenV, Mi.mIsi, Mi.isub, Mi.D.tn, Mi.dIx, Mi.opC, Mi.negC, Mi.eqC, Mi.ipC, Mi.Rv.d, Mi.mNoP, Mi.asI, Mi.mPart, Mi.mSlL, Mi.asL, Mi.asQ, Mi.mItQ, Mi.mItA, Mi.mFor, Mi.putD, List.map_cons, List.map_nil, List.length_cons, List.length_nil, List.replicate, List.cons_append, List.nil_append, List.getElem?_cons_zero, List.getElem?_cons_succ, List.set_cons_zero, List.set_cons_succ, Nat.sub_self, Nat.reduceAdd, Nat.reduceSub, Nat.reduceEqDiff, List.reverse_cons, id, Bool.not_true, Bool.not_false, if_true, if_false, Bool.false_eq_true, reduceIte, true_and, and_true, and_self, Option.toList, List.all_cons, List.all_nil, Bool.and_true, Bool.true_and, Bool.and_self, decide_true, decide_false, decide_eq_true_eq, reduceCtorEq, Mi.bo_pl, Mi.bo_ow, Mi.bo_rf, Mi.bo_un, Mi.sa_ow, Mi.sa_rf, Mi.sa_pl, Mi.oa_un, Mi.oa_pl, Mi.oa_ow, Mi.co_ow, Mi.co_rf, Mi.co_pl, Mi.st_ow, Mi.st_rf, Mi.lv_ow, Mi.lv_rf, Mi.lv_pl, Mi.ne_un, Mi.ne_pl, Mi.ne_ow, Mi.ne_rf, Mi.ne_se, Mi.ne_ex, Mi.th_un, Mi.th_pl, Mi.ie_ex, Mi.xf_ex, ne_eq, not_false_eq_true, not_true_eq_false, Mi.clr, Mi.putS, Option.isSome_some, Option.some.injEq, Int.reduceEq, Int.reduceNe, Int.reduceLT, Int.reduceLE, Nat.reduceLT, Nat.reduceLeDiff, decide_not, Bool.not_eq_true, Bool.decide_eq_true, Mi.ib_t, Mi.ib_f, Mi.mkR_ex, Mi.bO_s, Mi.rO_f, Mi.rO_t, Mi.dEqA_eq, Mi.eqN_0, Mi.eqN_1, Mi.eqN_2, Mi.eqN_3, Mi.eqB_ins, Mi.eqB_tt, Mi.eqB_ll, Mi.eqB_int, Mi.eqB_str, Mi.eqB_bl, Mi.eqB_non, Mi.eqK_ii, Mi.eqK_ss, Mi.eqK_bb, Mi.eqK_nn, Mi.eqK_ni, Mi.eqK_in, Mi.eqK_ns, Mi.eqK_sn, Mi.eqK_is, Mi.eqK_si, Mi.eqK_nt, Mi.eqK_nl, Mi.eqB_tn, Mi.eqB_ln, Mi.eqLs_nil, Mi.eqLs_nc, Mi.eqLs_cn, Mi.eqLs_cc, Mi.itE_int, Mi.itE_str, Mi.itE_bl, Mi.itE_non, Mi.appT, Mi.asB, Mi.mMakeK, Mi.mDic, Option.bind_some, hb, hd, e]⟩
    · obtain ⟨ρ, e⟩ := fin 1 d (by decide) hd b1 bd
      exact ⟨ρ, by simp only [Mi.runM, Mi.runI, Mi.runR, Mi.outF, Mi.outI, Mi.outR, Mi.startE, Mi.bnd, Mi.ret, Mi.lift, Mi.fail, Mi.mVar, Mi.mC, Mi.mBin, Mi.mBinN, Mi.mUn, Mi.mFld, Mi.mFrz, Mi.mB, Mi.tru, Mi.mAnd, Mi.mOr, Mi.mNot, Mi.mAndV, Mi.mOrV, Mi.mNotV, Mi.mIf, Mi.mChain, Mi.mNil, Mi.mCons, Mi.mTup, Mi.mLst, Mi.mCB, Mi.mCBn, Mi.mIdxV, Mi.mSkip, Mi.thenF, Mi.mSeq, Mi.sto, Mi.mAsg, Mi.mAsgN, Mi.two, Mi.mPar, Mi.mDrop, Mi.mRet, Mi.mRetN, Mi.mRetV, Mi.mIfS, Mi.againF, Mi.gV, Mi.gsN, Mi.gsC, Mi.gT, Mi.mAsgT, Mi.tgt, Mi.mCall, Mi.frzR, Mi.newR, Mi.mCallN, Mi.recv, Mi.mMeth, Mi.mMethN, Mi.mMake, Mi.callR, Mi.mCallR, Mi.newM, Mi.mCallRN, Mi.mApp, Mi.mRev, Mi.setAt, Mi.mSetV, Mi.mSetF, Mi.mAug, Mi.one, Mi.mRaise, Mi.mRaise0, Mi.mTry, Mi.noEx, Mi.endX, Mi.inX, Mi.mTryAs, Mi.mXf, Mi.dI, Mi.dIc, Mi.dAdd, Mi.dSub, Mi.dLt, Mi.dLe, Mi.dGt, Mi.dGe, Mi.dMul, Mi.dDiv, Mi.dMod, Mi.dPow, Mi.dNeg, Mi.sEq, Mi.ofB, Mi.dEq, Mi.dNe, Mi.isNon, Mi.dIsN, Mi.dNotN, Mi.dInt, Mi.dI1, Mi.dI2, Mi.dAbs, Mi.dMin, Mi.dMax, Mi.dGcd, Mi.dLen1, Mi.dLen, Mi.mLenV, Mi.mIsi, Mi.isub, Mi.D.tn, Mi.dIx, Mi.opC, Mi.negC, Mi.eqC, Mi.ipC, Mi.Rv.d, Mi.mNoP, Mi.asI, Mi.mPart, Mi.mSlL, Mi.asL, Mi.asQ, Mi.mItQ, Mi.mItA, Mi.mFor, Mi.putD, List.map_cons, List.map_nil, List.length_cons, List.length_nil, List.replicate, List.cons_append, List.nil_append, List.getElem?_cons_zero, List.getElem?_cons_succ, List.set_cons_zero, List.set_cons_succ, Nat.sub_self, Nat.reduceAdd, Nat.reduceSub, Nat.reduceEqDiff, List.reverse_cons, id, Bool.not_true, Bool.not_false, if_true, if_false, Bool.false_eq_true, reduceIte, true_and, and_true, and_self, Option.toList, List.all_cons, List.all_nil, Bool.and_true, Bool.true_and, Bool.and_self, decide_true, decide_false, decide_eq_true_eq, reduceCtorEq, Mi.bo_pl, Mi.bo_ow, Mi.bo_rf, Mi.bo_un, Mi.sa_ow, Mi.sa_rf, Mi.sa_pl, Mi.oa_un, Mi.oa_pl, Mi.oa_ow, Mi.co_ow, Mi.co_rf, Mi.co_pl, Mi.st_ow, Mi.st_rf, Mi.lv_ow, Mi.lv_rf, Mi.lv_pl, Mi.ne_un, Mi.ne_pl, Mi.ne_ow, Mi.ne_rf, Mi.ne_se, Mi.ne_ex, Mi.th_un, Mi.th_pl, Mi.ie_ex, Mi.xf_ex, ne_eq, not_false_eq_true, not_true_eq_false, Mi.clr, Mi.putS, Option.isSome_some, Option.some.injEq, Int.reduceEq, Int.reduceNe, Int.reduceLT, Int.reduceLE, Nat.reduceLT, Nat.reduceLeDiff, decide_not, Bool.not_eq_true, Bool.decide_eq_true, Mi.ib_t, Mi.ib_f, Mi.mkR_ex, Mi.bO_s, Mi.rO_f, Mi.rO_t, Mi.dEqA_eq, Mi.eqN_0, Mi.eqN_1, Mi.eqN_2, Mi.eqN_3, Mi.eqB_ins, Mi.eqB_tt, Mi.eqB_ll, Mi.eqB_int, Mi.eqB_str, Mi.eqB_bl, Mi.eqB_non, Mi.eqK_ii, Mi.eqK_ss, Mi.eqK_bb, Mi.eqK_nn, Mi.eqK_ni, Mi.eqK_in, Mi.eqK_ns, Mi.eqK_sn, Mi.eqK_is, Mi.eqK_si, Mi.eqK_nt, Mi.eqK_nl, Mi.eqB_tn, Mi.eqB_ln, Mi.eqLs_nil, Mi.eqLs_nc, Mi.eqLs_cn, Mi.eqLs_cc, Mi.itE_int, Mi.itE_str, Mi.itE_bl, Mi.itE_non, Mi.appT, Mi.asB, Mi.mMakeK, Mi.mDic, Option.bind_some, hb, hd, e]⟩
  · by_cases hd : d = 0
    · obtain ⟨ρ, e⟩ := fin b 1 hb (by decide) bb b1
      exact ⟨ρ, by simp only [Mi.runM, Mi.runI, Mi.runR, Mi.outF, Mi.outI, Mi.outR, Mi.startE, Mi.bnd, Mi.ret, Mi.lift, Mi.fail, Mi.mVar, Mi.mC, Mi.mBin, Mi.mBinN, Mi.mUn, Mi.mFld, Mi.mFrz, Mi.mB, Mi.tru, Mi.mAnd, Mi.mOr, Mi.mNot, Mi.mAndV, Mi.mOrV, Mi.mNotV, Mi.mIf, Mi.mChain, Mi.mNil, Mi.mCons, Mi.mTup, Mi.mLst, Mi.mCB, Mi.mCBn, Mi.mIdxV, Mi.mSkip, Mi.thenF, Mi.mSeq, Mi.sto, Mi.mAsg, Mi.mAsgN, Mi.two, Mi.mPar, Mi.mDrop, Mi.mRet, Mi.mRetN, Mi.mRetV, Mi.mIfS, Mi.againF, Mi.gV, Mi.gsN, Mi.gsC, Mi.gT, Mi.mAsgT, Mi.tgt, Mi.mCall, Mi.frzR, Mi.newR, Mi.mCallN, Mi.recv, Mi.mMeth, Mi.mMethN, Mi.mMake, Mi.callR, Mi.mCallR, Mi.newM, Mi.mCallRN, Mi.mApp, Mi.mRev, Mi.setAt, Mi.mSetV, Mi.mSetF, Mi.mAug, Mi.one, Mi.mRaise, Mi.mRaise0, Mi.mTry, Mi.noEx, Mi.endX, Mi.inX, Mi.mTryAs, Mi.mXf, Mi.dI, Mi.dIc, Mi.dAdd, Mi.dSub, Mi.dLt, Mi.dLe, Mi.dGt, Mi.dGe, Mi.dMul, Mi.dDiv, Mi.dMod, Mi.dPow, Mi.dNeg, Mi.sEq, Mi.ofB, Mi.dEq, Mi.dNe, Mi.isNon, Mi.dIsN, Mi.dNotN, Mi.dInt, Mi.dI1, Mi.dI2, Mi.dAbs, Mi.dMin, Mi.dMax, Mi.dGcd, Mi.dLen1, Mi.dLen, Mi.mLenV, Mi.mIsi, Mi.isub, Mi.D.tn, Mi.dIx, Mi.opC, Mi.negC, Mi.eqC, Mi.ipC, Mi.Rv.d, Mi.mNoP, Mi.asI, Mi.mPart, Mi.mSlL, Mi.asL, Mi.asQ, Mi.mItQ, Mi.mItA, Mi.mFor, Mi.putD, List.map_cons, List.map_nil, List.length_cons, List.length_nil, List.replicate, List.cons_append, List.nil_append, List.getElem?_cons_zero, List.getElem?_cons_succ, List.set_cons_zero, List.set_cons_succ, Nat.sub_self, Nat.reduceAdd, Nat.reduceSub, Nat.reduceEqDiff, List.reverse_cons, id, Bool.not_true, Bool.not_false, if_true, if_false, Bool.false_eq_true, reduceIte, true_and, and_true, and_self, Option.toList, List.all_cons, List.all_nil, Bool.and_true, Bool.true_and, Bool.and_self, decide_true, decide_false, decide_eq_true_eq, reduceCtorEq, Mi.bo_pl, Mi.bo_ow, Mi.bo_rf, Mi.bo_un, Mi.sa_ow, Mi.sa_rf, Mi.sa_pl, Mi.oa_un, Mi.oa_pl, Mi.oa_ow, Mi.co_ow, Mi.co_rf, Mi.co_pl, Mi.st_ow, Mi.st_rf, Mi.lv_ow, Mi.lv_rf, Mi.lv_pl, Mi.ne_un, Mi.ne_pl, Mi.ne_ow, Mi.ne_rf, Mi.ne_se, Mi.ne_ex, Mi.th_un, Mi.th_pl, Mi.ie_ex, Mi.xf_ex, ne_eq, not_false_eq_true, not_true_eq_false, Mi.clr, Mi.putS, Option.isSome_some, Option.some.injEq, Int.reduceEq, Int.reduceNe, Int.reduceLT, Int.reduceLE, Nat.reduceLT, Nat.reduceLeDiff, decide_not, Bool.not_eq_true, Bool.decide_eq_true, Mi.ib_t, Mi.ib_f, Mi.mkR_ex, Mi.bO_s, Mi.rO_f, Mi.rO_t, Mi.dEqA_eq, Mi.eqN_0, Mi.eqN_1, Mi.eqN_2, Mi.eqN_3, Mi.eqB_ins, Mi.eqB_tt, Mi.eqB_ll, Mi.eqB_int, Mi.eqB_str, Mi.eqB_bl, Mi.eqB_non, Mi.eqK_ii, Mi.eqK_ss, Mi.eqK_bb, Mi.eqK_nn, Mi.eqK_ni, Mi.eqK_in, Mi.eqK_ns, Mi.eqK_sn, Mi.eqK_is, Mi.eqK_si, Mi.eqK_nt, Mi.eqK_nl, Mi.eqB_tn, Mi.eqB_ln, Mi.eqLs_nil, Mi.eqLs_nc, Mi.eqLs_cn, Mi.eqLs_cc, Mi.itE_int, Mi.itE_str, Mi.itE_bl, Mi.itE_non, Mi.appT, Mi.asB, Mi.mMakeK, Mi.mDic, Option.bind_some, hb, hd, e]⟩
    · obtain ⟨ρ, e⟩ := fin b d hb hd bb bd
      exact ⟨ρ, by simp only [Mi.runM, Mi.runI, Mi.runR, Mi.outF, Mi.outI, Mi.outR, Mi.startE, Mi.bnd, Mi.ret, Mi.lift, Mi.fail, Mi.mVar, Mi.mC, Mi.mBin, Mi.mBinN, Mi.mUn, Mi.mFld, Mi.mFrz, Mi.mB, Mi.tru, Mi.mAnd, Mi.mOr, Mi.mNot, Mi.mAndV, Mi.mOrV, Mi.mNotV, Mi.mIf, Mi.mChain, Mi.mNil, Mi.mCons, Mi.mTup, Mi.mLst, Mi.mCB, Mi.mCBn, Mi.mIdxV, Mi.mSkip, Mi.thenF, Mi.mSeq, Mi.sto, Mi.mAsg, Mi.mAsgN, Mi.two, Mi.mPar, Mi.mDrop, Mi.mRet, Mi.mRetN, Mi.mRetV, Mi.mIfS, Mi.againF, Mi.gV, Mi.gsN, Mi.gsC, Mi.gT, Mi.mAsgT, Mi.tgt, Mi.mCall, Mi.frzR, Mi.newR, Mi.mCallN, Mi.recv, Mi.mMeth, Mi.mMethN, Mi.mMake, Mi.callR, Mi.mCallR, Mi.newM, Mi.mCallRN, Mi.mApp, Mi.mRev, Mi.setAt, Mi.mSetV, Mi.mSetF, Mi.mAug, Mi.one, Mi.mRaise, Mi.mRaise0, Mi.mTry, Mi.noEx, Mi.endX, Mi.inX, Mi.mTryAs, Mi.mXf, Mi.dI, Mi.dIc, Mi.dAdd, Mi.dSub, Mi.dLt, Mi.dLe, Mi.dGt, Mi.dGe, Mi.dMul, Mi.dDiv, Mi.dMod, Mi.dPow, Mi.dNeg, Mi.sEq, Mi.ofB, Mi.dEq, Mi.dNe, Mi.isNon, Mi.dIsN, Mi.dNotN, Mi.dInt, Mi.dI1, Mi.dI2, Mi.dAbs, Mi.dMin, Mi.dMax, Mi.dGcd, Mi.dLen1, Mi.dLen, Mi.mLenV, Mi.mIsi, Mi.isub, Mi.D.tn, Mi.dIx, Mi.opC, Mi.negC, Mi.eqC, Mi.ipC, Mi.Rv.d, Mi.mNoP, Mi.asI, Mi.mPart, Mi.mSlL, Mi.asL, Mi.asQ, Mi.mItQ, Mi.mItA, Mi.mFor, Mi.putD, List.map_cons, List.map_nil, List.length_cons, List.length_nil, List.replicate, List.cons_append, List.nil_append, List.getElem?_cons_zero, List.getElem?_cons_succ, List.set_cons_zero, List.set_cons_succ, Nat.sub_self, Nat.reduceAdd, Nat.reduceSub, Nat.reduceEqDiff, List.reverse_cons, id, Bool.not_true, Bool.not_false, if_true, if_false, Bool.false_eq_true, reduceIte, true_and, and_true, and_self, Option.toList, List.all_cons, List.all_nil, Bool.and_true, Bool.true_and, Bool.and_self, decide_true, decide_false, decide_eq_true_eq, reduceCtorEq, Mi.bo_pl, Mi.bo_ow, Mi.bo_rf, Mi.bo_un, Mi.sa_ow, Mi.sa_rf, Mi.sa_pl, Mi.oa_un, Mi.oa_pl, Mi.oa_ow, Mi.co_ow, Mi.co_rf, Mi.co_pl, Mi.st_ow, Mi.st_rf, Mi.lv_ow, Mi.lv_rf, Mi.lv_pl, Mi.ne_un, Mi.ne_pl, Mi.ne_ow, Mi.ne_rf, Mi.ne_se, Mi.ne_ex, Mi.th_un, Mi.th_pl, Mi.ie_ex, Mi.xf_ex, ne_eq, not_false_eq_true, not_true_eq_false, Mi.clr, Mi.putS, Option.isSome_some, Option.some.injEq, Int.reduceEq, Int.reduceNe, Int.reduceLT, Int.reduceLE, Nat.reduceLT, Nat.reduceLeDiff, decide_not, Bool.not_eq_true, Bool.decide_eq_true, Mi.ib_t, Mi.ib_f, Mi.mkR_ex, Mi.bO_s, Mi.rO_f, Mi.rO_t, Mi.dEqA_eq, Mi.eqN_0, Mi.eqN_1, Mi.eqN_2, Mi.eqN_3, Mi.eqB_ins, Mi.eqB_tt, Mi.eqB_ll, Mi.eqB_int, Mi.eqB_str, Mi.eqB_bl, Mi.eqB_non, Mi.eqK_ii, Mi.eqK_ss, Mi.eqK_bb, Mi.eqK_nn, Mi.eqK_ni, Mi.eqK_in, Mi.eqK_ns, Mi.eqK_sn, Mi.eqK_is, Mi.eqK_si, Mi.eqK_nt, Mi.eqK_nl, Mi.eqB_tn, Mi.eqB_ln, Mi.eqLs_nil, Mi.eqLs_nc, Mi.eqLs_cn, Mi.eqLs_cc, Mi.itE_int, Mi.itE_str, Mi.itE_bl, Mi.itE_non, Mi.appT, Mi.asB, Mi.mMakeK, Mi.mDic, Option.bind_some, hb, hd, e]⟩
theorem st5 (s : Dz) : ∃ ρ, lr_law_5 [s0, .ow s.c, s2, s3, s4, .un, .un, .un, .un, .un, .un, .un, .un, .un] = .ok (.rt (.pl (.bl true))) ρ := by
  obtain ⟨p, t1, h, e1⟩ := prime_ex s
  obtain ⟨a, t2, ba, e2⟩ := great_ex t1
  obtain ⟨b, t3, bb, e3⟩ := great_ex t2
  obtain ⟨c, t4, bc, e4⟩ := great_ex t3
  obtain ⟨d, t5, bd, e5⟩ := great_ex t4
  obtain ⟨ρ, e⟩ := st9 (s0 := s0) (s1 := .ow t5.c) (s2 := s2) (s3 := s3) (s4 := s4) h ba bb bc bd
  unfold lr_law_5 lr_law_6 lr_law_7 lr_law_8
  exact ⟨ρ, by simp only [Mi.runM, Mi.runI, Mi.runR, Mi.outF, Mi.outI, Mi.outR, Mi.startE, Mi.bnd, Mi.ret, Mi.lift, Mi.fail, Mi.mVar, Mi.mC, Mi.mBin, Mi.mBinN, Mi.mUn, Mi.mFld, Mi.mFrz, Mi.mB, Mi.tru, Mi.mAnd, Mi.mOr, Mi.mNot, Mi.mAndV, Mi.mOrV, Mi.mNotV, Mi.mIf, Mi.mChain, Mi.mNil, Mi.mCons, Mi.mTup, Mi.mLst, Mi.mCB, Mi.mCBn, Mi.mIdxV, Mi.mSkip, Mi.thenF, Mi.mSeq, Mi.sto, Mi.mAsg, Mi.mAsgN, Mi.two, Mi.mPar, Mi.mDrop, Mi.mRet, Mi.mRetN, Mi.mRetV, Mi.mIfS, Mi.againF, Mi.gV, Mi.gsN, Mi.gsC, Mi.gT, Mi.mAsgT, Mi.tgt, Mi.mCall, Mi.frzR, Mi.newR, Mi.mCallN, Mi.recv, Mi.mMeth, Mi.mMethN, Mi.mMake, Mi.callR, Mi.mCallR, Mi.newM, Mi.mCallRN, Mi.mApp, Mi.mRev, Mi.setAt, Mi.mSetV, Mi.mSetF, Mi.mAug, Mi.one, Mi.mRaise, Mi.mRaise0, Mi.mTry, Mi.noEx, Mi.endX, Mi.inX, Mi.mTryAs, Mi.mXf, Mi.dI, Mi.dIc, Mi.dAdd, Mi.dSub, Mi.dLt, Mi.dLe, Mi.dGt, Mi.dGe, Mi.dMul, Mi.dDiv, Mi.dMod, Mi.dPow, Mi.dNeg, Mi.sEq, Mi.ofB, Mi.dEq, Mi.dNe, Mi.isNon, Mi.dIsN, Mi.dNotN, Mi.dInt, Mi.dI1, Mi.dI2, Mi.dAbs, Mi.dMin, Mi.dMax, Mi.dGcd, Mi.dLen1, Mi.dLen, Mi.mLenV, Mi.mIsi, Mi.isub, Mi.D.tn, Mi.dIx, Mi.opC, Mi.negC, Mi.eqC, Mi.ipC, Mi.Rv.d, Mi.mNoP, Mi.asI, Mi.mPart, Mi.mSlL, Mi.asL, Mi.asQ, Mi.mItQ, Mi.mItA, Mi.mFor, Mi.putD, List.map_cons, List.map_nil, List.length_cons, List.length_nil, List.replicate, List.cons_append, List.nil_append, List.getElem?_cons_zero, List.getElem?_cons_succ, List.set_cons_zero, List.set_cons_succ, Nat.sub_self, Nat.reduceAdd, Nat.reduceSub, Nat.reduceEqDiff, List.reverse_cons, id, Bool.not_true, Bool.not_false, if_true, if_false, Bool.false_eq_true, reduceIte, true_and, and_true, and_self, Option.toList, List.all_cons, List.all_nil, Bool.and_true, Bool.true_and, Bool.and_self, decide_true, decide_false, decide_eq_true_eq, reduceCtorEq, Mi.bo_pl, Mi.bo_ow, Mi.bo_rf, Mi.bo_un, Mi.sa_ow, Mi.sa_rf, Mi.sa_pl, Mi.oa_un, Mi.oa_pl, Mi.oa_ow, Mi.co_ow, Mi.co_rf, Mi.co_pl, Mi.st_ow, Mi.st_rf, Mi.lv_ow, Mi.lv_rf, Mi.lv_pl, Mi.ne_un, Mi.ne_pl, Mi.ne_ow, Mi.ne_rf, Mi.ne_se, Mi.ne_ex, Mi.th_un, Mi.th_pl, Mi.ie_ex, Mi.xf_ex, ne_eq, not_false_eq_true, not_true_eq_false, Mi.clr, Mi.putS, Option.isSome_some, Option.some.injEq, Int.reduceEq, Int.reduceNe, Int.reduceLT, Int.reduceLE, Nat.reduceLT, Nat.reduceLeDiff, decide_not, Bool.not_eq_true, Bool.decide_eq_true, Mi.ib_t, Mi.ib_f, Mi.mkR_ex, Mi.bO_s, Mi.rO_f, Mi.rO_t, Mi.dEqA_eq, Mi.eqN_0, Mi.eqN_1, Mi.eqN_2, Mi.eqN_3, Mi.eqB_ins, Mi.eqB_tt, Mi.eqB_ll, Mi.eqB_int, Mi.eqB_str, Mi.eqB_bl, Mi.eqB_non, Mi.eqK_ii, Mi.eqK_ss, Mi.eqK_bb, Mi.eqK_nn, Mi.eqK_ni, Mi.eqK_in, Mi.eqK_ns, Mi.eqK_sn, Mi.eqK_is, Mi.eqK_si, Mi.eqK_nt, Mi.eqK_nl, Mi.eqB_tn, Mi.eqB_ln, Mi.eqLs_nil, Mi.eqLs_nc, Mi.eqLs_cn, Mi.eqLs_cc, Mi.itE_int, Mi.itE_str, Mi.itE_bl, Mi.itE_non, Mi.appT, Mi.asB, Mi.mMakeK, Mi.mDic, Option.bind_some, e1, e_Finit h, mkR_fD, e2, e3, e4, e5, e]⟩
end
end Mi

namespace Mi
open PySem
section
variable {v : Int} {s0 s1 s2 s3 s4 : Sl}
theorem field_ok (h : FOk v) : m__law_field [.int v] = .ok (.pl (fD v)) := by
  unfold m__law_field b__law_field
  simp only [Mi.runM, Mi.runI, Mi.runR, Mi.outF, Mi.outI, Mi.outR, Mi.startE, Mi.bnd, Mi.ret, Mi.lift, Mi.fail, Mi.mVar, Mi.mC, Mi.mBin, Mi.mBinN, Mi.mUn, Mi.mFld, Mi.mFrz, Mi.mB, Mi.tru, Mi.mAnd, Mi.mOr, Mi.mNot, Mi.mAndV, Mi.mOrV, Mi.mNotV, Mi.mIf, Mi.mChain, Mi.mNil, Mi.mCons, Mi.mTup, Mi.mLst, Mi.mCB, Mi.mCBn, Mi.mIdxV, Mi.mSkip, Mi.thenF, Mi.mSeq, Mi.sto, Mi.mAsg, Mi.mAsgN, Mi.two, Mi.mPar, Mi.mDrop, Mi.mRet, Mi.mRetN, Mi.mRetV, Mi.mIfS, Mi.againF, Mi.gV, Mi.gsN, Mi.gsC, Mi.gT, Mi.mAsgT, Mi.tgt, Mi.mCall, Mi.frzR, Mi.newR, Mi.mCallN, Mi.recv, Mi.mMeth, Mi.mMethN, Mi.mMake, Mi.callR, Mi.mCallR, Mi.newM, Mi.mCallRN, Mi.mApp, Mi.mRev, Mi.setAt, Mi.mSetV, Mi.mSetF, Mi.mAug, Mi.one, Mi.mRaise, Mi.mRaise0, Mi.mTry, Mi.noEx, Mi.endX, Mi.inX, Mi.mTryAs, Mi.mXf, Mi.dI, Mi.dIc, Mi.dAdd, Mi.dSub, Mi.dLt, Mi.dLe, Mi.dGt, Mi.dGe, Mi.dMul, Mi.dDiv, Mi.dMod, Mi.dPow, Mi.dNeg, Mi.sEq, Mi.ofB, Mi.dEq, Mi.dNe, Mi.isNon, Mi.dIsN, Mi.dNotN, Mi.dInt, Mi.dI1, Mi.dI2, Mi.dAbs, Mi.dMin, Mi.dMax, Mi.dGcd, Mi.dLen1, Mi.dLen, Mi.mLenV, Mi.mIsi, Mi.isub, Mi.D.tn, Mi.dIx, Mi.opC, Mi.negC, Mi.eqC, Mi.ipC, Mi.Rv.d, Mi.mNoP, Mi.asI, Mi.mPart, Mi.mSlL, Mi.asL, Mi.asQ, Mi.mItQ, Mi.mItA, Mi.mFor, Mi.putD, List.map_cons, List.map_nil, List.length_cons, List.length_nil, List.replicate, List.cons_append, List.nil_append, List.getElem?_cons_zero, List.getElem?_cons_succ, List.set_cons_zero, List.set_cons_succ, Nat.sub_self, Nat.reduceAdd, Nat.reduceSub, Nat.reduceEqDiff, List.reverse_cons, id, Bool.not_true, Bool.not_false, if_true, if_false, Bool.false_eq_true, reduceIte, true_and, and_true, and_self, Option.toList, List.all_cons, List.all_nil, Bool.and_true, Bool.true_and, Bool.and_self, decide_true, decide_false, decide_eq_true_eq, reduceCtorEq, Mi.bo_pl, Mi.bo_ow, Mi.bo_rf, Mi.bo_un, Mi.sa_ow, Mi.sa_rf, Mi.sa_pl, Mi.oa_un, Mi.oa_pl, Mi.oa_ow, Mi.co_ow, Mi.co_rf, Mi.co_pl, Mi.st_ow, Mi.st_rf, Mi.lv_ow, Mi.lv_rf, Mi.lv_pl, Mi.ne_un, Mi.ne_pl, Mi.ne_ow, Mi.ne_rf, Mi.ne_se, Mi.ne_ex, Mi.th_un, Mi.th_pl, Mi.ie_ex, Mi.xf_ex, ne_eq, not_false_eq_true, not_true_eq_false, Mi.clr, Mi.putS, Option.isSome_some, Option.some.injEq, Int.reduceEq, Int.reduceNe, Int.reduceLT, Int.reduceLE, Nat.reduceLT, Nat.reduceLeDiff, decide_not, Bool.not_eq_true, Bool.decide_eq_true, Mi.ib_t, Mi.ib_f, Mi.mkR_ex, Mi.bO_s, Mi.rO_f, Mi.rO_t, Mi.dEqA_eq, Mi.eqN_0, Mi.eqN_1, Mi.eqN_2, Mi.eqN_3, Mi.eqB_ins, Mi.eqB_tt, Mi.eqB_ll, Mi.eqB_int, Mi.eqB_str, Mi.eqB_bl, Mi.eqB_non, Mi.eqK_ii, Mi.eqK_ss, Mi.eqK_bb, Mi.eqK_nn, Mi.eqK_ni, Mi.eqK_in, Mi.eqK_ns, Mi.eqK_sn, Mi.eqK_is, Mi.eqK_si, Mi.eqK_nt, Mi.eqK_nl, Mi.eqB_tn, Mi.eqB_ln, Mi.eqLs_nil, Mi.eqLs_nc, Mi.eqLs_cn, Mi.eqLs_cc, Mi.itE_int, Mi.itE_str, Mi.itE_bl, Mi.itE_non, Mi.appT, Mi.asB, Mi.mMakeK, Mi.mDic, Option.bind_some, e_Finit h, mkR_fD]
theorem field_x (h : ¬ FOk v) : m__law_field [.int v] = .ok (.pl .non) := by
  unfold m__law_field b__law_field
  simp only [Mi.runM, Mi.runI, Mi.runR, Mi.outF, Mi.outI, Mi.outR, Mi.startE, Mi.bnd, Mi.ret, Mi.lift, Mi.fail, Mi.mVar, Mi.mC, Mi.mBin, Mi.mBinN, Mi.mUn, Mi.mFld, Mi.mFrz, Mi.mB, Mi.tru, Mi.mAnd, Mi.mOr, Mi.mNot, Mi.mAndV, Mi.mOrV, Mi.mNotV, Mi.mIf, Mi.mChain, Mi.mNil, Mi.mCons, Mi.mTup, Mi.mLst, Mi.mCB, Mi.mCBn, Mi.mIdxV, Mi.mSkip, Mi.thenF, Mi.mSeq, Mi.sto, Mi.mAsg, Mi.mAsgN, Mi.two, Mi.mPar, Mi.mDrop, Mi.mRet, Mi.mRetN, Mi.mRetV, Mi.mIfS, Mi.againF, Mi.gV, Mi.gsN, Mi.gsC, Mi.gT, Mi.mAsgT, Mi.tgt, Mi.mCall, Mi.frzR, Mi.newR, Mi.mCallN, Mi.recv, Mi.mMeth, Mi.mMethN, Mi.mMake, Mi.callR, Mi.mCallR, Mi.newM, Mi.mCallRN, Mi.mApp, Mi.mRev, Mi.setAt, Mi.mSetV, Mi.mSetF, Mi.mAug, Mi.one, Mi.mRaise, Mi.mRaise0, Mi.mTry, Mi.noEx, Mi.endX, Mi.inX, Mi.mTryAs, Mi.mXf, Mi.dI, Mi.dIc, Mi.dAdd, Mi.dSub, Mi.dLt, Mi.dLe, Mi.dGt, Mi.dGe, Mi.dMul, Mi.dDiv, Mi.dMod, Mi.dPow, Mi.dNeg, Mi.sEq, Mi.ofB, Mi.dEq, Mi.dNe, Mi.isNon, Mi.dIsN, Mi.dNotN, Mi.dInt, Mi.dI1, Mi.dI2, Mi.dAbs, Mi.dMin, Mi.dMax, Mi.dGcd, Mi.dLen1, Mi.dLen, Mi.mLenV, Mi.mIsi, Mi.isub, Mi.D.tn, Mi.dIx, Mi.opC, Mi.negC, Mi.eqC, Mi.ipC, Mi.Rv.d, Mi.mNoP, Mi.asI, Mi.mPart, Mi.mSlL, Mi.asL, Mi.asQ, Mi.mItQ, Mi.mItA, Mi.mFor, Mi.putD, List.map_cons, List.map_nil, List.length_cons, List.length_nil, List.replicate, List.cons_append, List.nil_append, List.getElem?_cons_zero, List.getElem?_cons_succ, List.set_cons_zero, List.set_cons_succ, Nat.sub_self, Nat.reduceAdd, Nat.reduceSub, Nat.reduceEqDiff, List.reverse_cons, id, Bool.not_true, Bool.not_false, if_true, if_false, Bool.false_eq_true, reduceIte, true_and, and_true, and_self, Option.toList, List.all_cons, List.all_nil, Bool.and_true, Bool.true_and, Bool.and_self, decide_true, decide_false, decide_eq_true_eq, reduceCtorEq, Mi.bo_pl, Mi.bo_ow, Mi.bo_rf, Mi.bo_un, Mi.sa_ow, Mi.sa_rf, Mi.sa_pl, Mi.oa_un, Mi.oa_pl, Mi.oa_ow, Mi.co_ow, Mi.co_rf, Mi.co_pl, Mi.st_ow, Mi.st_rf, Mi.lv_ow, Mi.lv_rf, Mi.lv_pl, Mi.ne_un, Mi.ne_pl, Mi.ne_ow, Mi.ne_rf, Mi.ne_se, Mi.ne_ex, Mi.th_un, Mi.th_pl, Mi.ie_ex, Mi.xf_ex, ne_eq, not_false_eq_true, not_true_eq_false, Mi.clr, Mi.putS, Option.isSome_some, Option.some.injEq, Int.reduceEq, Int.reduceNe, Int.reduceLT, Int.reduceLE, Nat.reduceLT, Nat.reduceLeDiff, decide_not, Bool.not_eq_true, Bool.decide_eq_true, Mi.ib_t, Mi.ib_f, Mi.mkR_ex, Mi.bO_s, Mi.rO_f, Mi.rO_t, Mi.dEqA_eq, Mi.eqN_0, Mi.eqN_1, Mi.eqN_2, Mi.eqN_3, Mi.eqB_ins, Mi.eqB_tt, Mi.eqB_ll, Mi.eqB_int, Mi.eqB_str, Mi.eqB_bl, Mi.eqB_non, Mi.eqK_ii, Mi.eqK_ss, Mi.eqK_bb, Mi.eqK_nn, Mi.eqK_ni, Mi.eqK_in, Mi.eqK_ns, Mi.eqK_sn, Mi.eqK_is, Mi.eqK_si, Mi.eqK_nt, Mi.eqK_nl, Mi.eqB_tn, Mi.eqB_ln, Mi.eqLs_nil, Mi.eqLs_nc, Mi.eqLs_cn, Mi.eqLs_cc, Mi.itE_int, Mi.itE_str, Mi.itE_bl, Mi.itE_non, Mi.appT, Mi.asB, Mi.mMakeK, Mi.mDic, Option.bind_some, e_FinitX h, xs_Nf]
theorem field_d {d : D} (h : isIntD d = false) : m__law_field [d] = .ok (.pl .non) := by
  unfold m__law_field b__law_field
  simp only [Mi.runM, Mi.runI, Mi.runR, Mi.outF, Mi.outI, Mi.outR, Mi.startE, Mi.bnd, Mi.ret, Mi.lift, Mi.fail, Mi.mVar, Mi.mC, Mi.mBin, Mi.mBinN, Mi.mUn, Mi.mFld, Mi.mFrz, Mi.mB, Mi.tru, Mi.mAnd, Mi.mOr, Mi.mNot, Mi.mAndV, Mi.mOrV, Mi.mNotV, Mi.mIf, Mi.mChain, Mi.mNil, Mi.mCons, Mi.mTup, Mi.mLst, Mi.mCB, Mi.mCBn, Mi.mIdxV, Mi.mSkip, Mi.thenF, Mi.mSeq, Mi.sto, Mi.mAsg, Mi.mAsgN, Mi.two, Mi.mPar, Mi.mDrop, Mi.mRet, Mi.mRetN, Mi.mRetV, Mi.mIfS, Mi.againF, Mi.gV, Mi.gsN, Mi.gsC, Mi.gT, Mi.mAsgT, Mi.tgt, Mi.mCall, Mi.frzR, Mi.newR, Mi.mCallN, Mi.recv, Mi.mMeth, Mi.mMethN, Mi.mMake, Mi.callR, Mi.mCallR, Mi.newM, Mi.mCallRN, Mi.mApp, Mi.mRev, Mi.setAt, Mi.mSetV, Mi.mSetF, Mi.mAug, Mi.one, Mi.mRaise, Mi.mRaise0, Mi.mTry, Mi.noEx, Mi.endX, Mi.inX, Mi.mTryAs, Mi.mXf, Mi.dI, Mi.dIc, Mi.dAdd, Mi.dSub, Mi.dLt, Mi.dLe, Mi.dGt, Mi.dGe, Mi.dMul, Mi.dDiv, Mi.dMod, Mi.dPow, Mi.dNeg, Mi.sEq, Mi.ofB, Mi.dEq, Mi.dNe, Mi.isNon, Mi.dIsN, Mi.dNotN, Mi.dInt, Mi.dI1, Mi.dI2, Mi.dAbs, Mi.dMin, Mi.dMax, Mi.dGcd, Mi.dLen1, Mi.dLen, Mi.mLenV, Mi.mIsi, Mi.isub, Mi.D.tn, Mi.dIx, Mi.opC, Mi.negC, Mi.eqC, Mi.ipC, Mi.Rv.d, Mi.mNoP, Mi.asI, Mi.mPart, Mi.mSlL, Mi.asL, Mi.asQ, Mi.mItQ, Mi.mItA, Mi.mFor, Mi.putD, List.map_cons, List.map_nil, List.length_cons, List.length_nil, List.replicate, List.cons_append, List.nil_append, List.getElem?_cons_zero, List.getElem?_cons_succ, List.set_cons_zero, List.set_cons_succ, Nat.sub_self, Nat.reduceAdd, Nat.reduceSub, Nat.reduceEqDiff, List.reverse_cons, id, Bool.not_true, Bool.not_false, if_true, if_false, Bool.false_eq_true, reduceIte, true_and, and_true, and_self, Option.toList, List.all_cons, List.all_nil, Bool.and_true, Bool.true_and, Bool.and_self, decide_true, decide_false, decide_eq_true_eq, reduceCtorEq, Mi.bo_pl, Mi.bo_ow, Mi.bo_rf, Mi.bo_un, Mi.sa_ow, Mi.sa_rf, Mi.sa_pl, Mi.oa_un, Mi.oa_pl, Mi.oa_ow, Mi.co_ow, Mi.co_rf, Mi.co_pl, Mi.st_ow, Mi.st_rf, Mi.lv_ow, Mi.lv_rf, Mi.lv_pl, Mi.ne_un, Mi.ne_pl, Mi.ne_ow, Mi.ne_rf, Mi.ne_se, Mi.ne_ex, Mi.th_un, Mi.th_pl, Mi.ie_ex, Mi.xf_ex, ne_eq, not_false_eq_true, not_true_eq_false, Mi.clr, Mi.putS, Option.isSome_some, Option.some.injEq, Int.reduceEq, Int.reduceNe, Int.reduceLT, Int.reduceLE, Nat.reduceLT, Nat.reduceLeDiff, decide_not, Bool.not_eq_true, Bool.decide_eq_true, Mi.ib_t, Mi.ib_f, Mi.mkR_ex, Mi.bO_s, Mi.rO_f, Mi.rO_t, Mi.dEqA_eq, Mi.eqN_0, Mi.eqN_1, Mi.eqN_2, Mi.eqN_3, Mi.eqB_ins, Mi.eqB_tt, Mi.eqB_ll, Mi.eqB_int, Mi.eqB_str, Mi.eqB_bl, Mi.eqB_non, Mi.eqK_ii, Mi.eqK_ss, Mi.eqK_bb, Mi.eqK_nn, Mi.eqK_ni, Mi.eqK_in, Mi.eqK_ns, Mi.eqK_sn, Mi.eqK_is, Mi.eqK_si, Mi.eqK_nt, Mi.eqK_nl, Mi.eqB_tn, Mi.eqB_ln, Mi.eqLs_nil, Mi.eqLs_nc, Mi.eqLs_cn, Mi.eqLs_cc, Mi.itE_int, Mi.itE_str, Mi.itE_bl, Mi.itE_non, Mi.appT, Mi.asB, Mi.mMakeK, Mi.mDic, Option.bind_some, e_FinitD h, xs_Nf]
theorem th_loop {s2 s3 : Sl} (s : Dz) : ∀ (l : List D), (∀ d ∈ l, isIntD d = false) → ∀ u, okAsg (some u) = true → ∃ u', okAsg (some u') = true ∧ forL (gV 4) lb_law_13 l [s0, .ow s.c, s2, s3, u, .un, .un, .un, .un, .un, .un, .un, .un, .un] = .ok .nx [s0, .ow s.c, s2, s3, u', .un, .un, .un, .un, .un, .un, .un, .un, .un]
  | [], _, u, hu => ⟨u, hu, rfl⟩
  | d :: l, h, u, hu => by
    have e0 := field_d (h d List.mem_cons_self)
    have e1 : lb_law_13 [s0, .ow s.c, s2, s3, .pl d, .un, .un, .un, .un, .un, .un, .un, .un, .un] = .ok .nx [s0, .ow s.c, s2, s3, .pl d, .un, .un, .un, .un, .un, .un, .un, .un, .un] := by unfold lb_law_13; simp only [Mi.runM, Mi.runI, Mi.runR, Mi.outF, Mi.outI, Mi.outR, Mi.startE, Mi.bnd, Mi.ret, Mi.lift, Mi.fail, Mi.mVar, Mi.mC, Mi.mBin, Mi.mBinN, Mi.mUn, Mi.mFld, Mi.mFrz, Mi.mB, Mi.tru, Mi.mAnd, Mi.mOr, Mi.mNot, Mi.mAndV, Mi.mOrV, Mi.mNotV, Mi.mIf, Mi.mChain, Mi.mNil, Mi.mCons, Mi.mTup, Mi.mLst, Mi.mCB, Mi.mCBn, Mi.mIdxV, Mi.mSkip, Mi.thenF, Mi.mSeq, Mi.sto, Mi.mAsg, Mi.mAsgN, Mi.two, Mi.mPar, Mi.mDrop, Mi.mRet, Mi.mRetN, Mi.mRetV, Mi.mIfS, Mi.againF, Mi.gV, Mi.gsN, Mi.gsC, Mi.gT, Mi.mAsgT, Mi.tgt, Mi.mCall, Mi.frzR, Mi.newR, Mi.mCallN, Mi.recv, Mi.mMeth, Mi.mMethN, Mi.mMake, Mi.callR, Mi.mCallR, Mi.newM, Mi.mCallRN, Mi.mApp, Mi.mRev, Mi.setAt, Mi.mSetV, Mi.mSetF, Mi.mAug, Mi.one, Mi.mRaise, Mi.mRaise0, Mi.mTry, Mi.noEx, Mi.endX, Mi.inX, Mi.mTryAs, Mi.mXf, Mi.dI, Mi.dIc, Mi.dAdd, Mi.dSub, Mi.dLt, Mi.dLe, Mi.dGt, Mi.dGe, Mi.dMul, Mi.dDiv, Mi.dMod, Mi.dPow, Mi.dNeg, Mi.sEq, Mi.ofB, Mi.dEq, Mi.dNe, Mi.isNon, Mi.dIsN, Mi.dNotN, Mi.dInt, Mi.dI1, Mi.dI2, Mi.dAbs, Mi.dMin, Mi.dMax, Mi.dGcd, Mi.dLen1, Mi.dLen, Mi.mLenV, Mi.mIsi, Mi.isub, Mi.D.tn, Mi.dIx, Mi.opC, Mi.negC, Mi.eqC, Mi.ipC, Mi.Rv.d, Mi.mNoP, Mi.asI, Mi.mPart, Mi.mSlL, Mi.asL, Mi.asQ, Mi.mItQ, Mi.mItA, Mi.mFor, Mi.putD, List.map_cons, List.map_nil, List.length_cons, List.length_nil, List.replicate, List.cons_append, List.nil_append, List.getElem?_cons_zero, List.getElem?_cons_succ, List.set_cons_zero, List.set_cons_succ, Nat.sub_self, Nat.reduceAdd, Nat.reduceSub, Nat.reduceEqDiff, List.reverse_cons, id, Bool.not_true, Bool.not_false, if_true, if_false, Bool.false_eq_true, reduceIte, true_and, and_true, and_self, Option.toList, List.all_cons, List.all_nil, Bool.and_true, Bool.true_and, Bool.and_self, decide_true, decide_false, decide_eq_true_eq, reduceCtorEq, Mi.bo_pl, Mi.bo_ow, Mi.bo_rf, Mi.bo_un, Mi.sa_ow, Mi.sa_rf, Mi.sa_pl, Mi.oa_un, Mi.oa_pl, Mi.oa_ow, Mi.co_ow, Mi.co_rf, Mi.co_pl, Mi.st_ow, Mi.st_rf, Mi.lv_ow, Mi.lv_rf, Mi.lv_pl, Mi.ne_un, Mi.ne_pl, Mi.ne_ow, Mi.ne_rf, Mi.ne_se, Mi.ne_ex, Mi.th_un, Mi.th_pl, Mi.ie_ex, Mi.xf_ex, ne_eq, not_false_eq_true, not_true_eq_false, Mi.clr, Mi.putS, Option.isSome_some, Option.some.injEq, Int.reduceEq, Int.reduceNe, Int.reduceLT, Int.reduceLE, Nat.reduceLT, Nat.reduceLeDiff, decide_not, Bool.not_eq_true, Bool.decide_eq_true, Mi.ib_t, Mi.ib_f, Mi.mkR_ex, Mi.bO_s, Mi.rO_f, Mi.rO_t, Mi.dEqA_eq, Mi.eqN_0, Mi.eqN_1, Mi.eqN_2, Mi.eqN_3, Mi.eqB_ins, Mi.eqB_tt, Mi.eqB_ll, Mi.eqB_int, Mi.eqB_str, Mi.eqB_bl, Mi.eqB_non, Mi.eqK_ii, Mi.eqK_ss, Mi.eqK_bb, Mi.eqK_nn, Mi.eqK_ni, Mi.eqK_in, Mi.eqK_ns, Mi.eqK_sn, Mi.eqK_is, Mi.eqK_si, Mi.eqK_nt, Mi.eqK_nl, Mi.eqB_tn, Mi.eqB_ln, Mi.eqLs_nil, Mi.eqLs_nc, Mi.eqLs_cn, Mi.eqLs_cc, Mi.itE_int, Mi.itE_str, Mi.itE_bl, Mi.itE_non, Mi.appT, Mi.asB, Mi.mMakeK, Mi.mDic, Option.bind_some, e0]
    obtain ⟨u', hu', e⟩ := th_loop s l (fun x hx => h x (List.mem_cons_of_mem _ hx)) (.pl d) rfl
    exact ⟨u', hu', by simp only [Mi.runM, Mi.runI, Mi.runR, Mi.outF, Mi.outI, Mi.outR, Mi.startE, Mi.bnd, Mi.ret, Mi.lift, Mi.fail, Mi.mVar, Mi.mC, Mi.mBin, Mi.mBinN, Mi.mUn, Mi.mFld, Mi.mFrz, Mi.mB, Mi.tru, Mi.mAnd, Mi.mOr, Mi.mNot, Mi.mAndV, Mi.mOrV, Mi.mNotV, Mi.mIf, Mi.mChain, Mi.mNil, Mi.mCons, Mi.mTup, Mi.mLst, Mi.mCB, Mi.mCBn, Mi.mIdxV, Mi.mSkip, Mi.thenF, Mi.mSeq, Mi.sto, Mi.mAsg, Mi.mAsgN, Mi.two, Mi.mPar, Mi.mDrop, Mi.mRet, Mi.mRetN, Mi.mRetV, Mi.mIfS, Mi.againF, Mi.gV, Mi.gsN, Mi.gsC, Mi.gT, Mi.mAsgT, Mi.tgt, Mi.mCall, Mi.frzR, Mi.newR, Mi.mCallN, Mi.recv, Mi.mMeth, Mi.mMethN, Mi.mMake, Mi.callR, Mi.mCallR, Mi.newM, Mi.mCallRN, Mi.mApp, Mi.mRev, Mi.setAt, Mi.mSetV, Mi.mSetF, Mi.mAug, Mi.one, Mi.mRaise, Mi.mRaise0, Mi.mTry, Mi.noEx, Mi.endX, Mi.inX, Mi.mTryAs, Mi.mXf, Mi.dI, Mi.dIc, Mi.dAdd, Mi.dSub, Mi.dLt, Mi.dLe, Mi.dGt, Mi.dGe, Mi.dMul, Mi.dDiv, Mi.dMod, Mi.dPow, Mi.dNeg, Mi.sEq, Mi.ofB, Mi.dEq, Mi.dNe, Mi.isNon, Mi.dIsN, Mi.dNotN, Mi.dInt, Mi.dI1, Mi.dI2, Mi.dAbs, Mi.dMin, Mi.dMax, Mi.dGcd, Mi.dLen1, Mi.dLen, Mi.mLenV, Mi.mIsi, Mi.isub, Mi.D.tn, Mi.dIx, Mi.opC, Mi.negC, Mi.eqC, Mi.ipC, Mi.Rv.d, Mi.mNoP, Mi.asI, Mi.mPart, Mi.mSlL, Mi.asL, Mi.asQ, Mi.mItQ, Mi.mItA, Mi.mFor, Mi.putD, List.map_cons, List.map_nil, List.length_cons, List.length_nil, List.replicate, List.cons_append, List.nil_append, List.getElem?_cons_zero, List.getElem?_cons_succ, List.set_cons_zero, List.set_cons_succ, Nat.sub_self, Nat.reduceAdd, Nat.reduceSub, Nat.reduceEqDiff, List.reverse_cons, id, Bool.not_true, Bool.not_false, if_true, if_false, Bool.false_eq_true, reduceIte, true_and, and_true, and_self, Option.toList, List.all_cons, List.all_nil, Bool.and_true, Bool.true_and, Bool.and_self, decide_true, decide_false, decide_eq_true_eq, reduceCtorEq, Mi.bo_pl, Mi.bo_ow, Mi.bo_rf, Mi.bo_un, Mi.sa_ow, Mi.sa_rf, Mi.sa_pl, Mi.oa_un, Mi.oa_pl, Mi.oa_ow, Mi.co_ow, Mi.co_rf, Mi.co_pl, Mi.st_ow, Mi.st_rf, Mi.lv_ow, Mi.lv_rf, Mi.lv_pl, Mi.ne_un, Mi.ne_pl, Mi.ne_ow, Mi.ne_rf, Mi.ne_se, Mi.ne_ex, Mi.th_un, Mi.th_pl, Mi.ie_ex, Mi.xf_ex, ne_eq, not_false_eq_true, not_true_eq_false, Mi.clr, Mi.putS, Option.isSome_some, Option.some.injEq, Int.reduceEq, Int.reduceNe, Int.reduceLT, Int.reduceLE, Nat.reduceLT, Nat.reduceLeDiff, decide_not, Bool.not_eq_true, Bool.decide_eq_true, Mi.ib_t, Mi.ib_f, Mi.mkR_ex, Mi.bO_s, Mi.rO_f, Mi.rO_t, Mi.dEqA_eq, Mi.eqN_0, Mi.eqN_1, Mi.eqN_2, Mi.eqN_3, Mi.eqB_ins, Mi.eqB_tt, Mi.eqB_ll, Mi.eqB_int, Mi.eqB_str, Mi.eqB_bl, Mi.eqB_non, Mi.eqK_ii, Mi.eqK_ss, Mi.eqK_bb, Mi.eqK_nn, Mi.eqK_ni, Mi.eqK_in, Mi.eqK_ns, Mi.eqK_sn, Mi.eqK_is, Mi.eqK_si, Mi.eqK_nt, Mi.eqK_nl, Mi.eqB_tn, Mi.eqB_ln, Mi.eqLs_nil, Mi.eqLs_nc, Mi.eqLs_cn, Mi.eqLs_cc, Mi.itE_int, Mi.itE_str, Mi.itE_bl, Mi.itE_non, Mi.appT, Mi.asB, Mi.mMakeK, Mi.mDic, Option.bind_some, Mi.forL, hu, e1]; exact e⟩
theorem th_six (q : Rat) : ∀ d ∈ [D.str "2", .bl true, .bl false, .non, .lst [.int 3], rD q], isIntD d = false := by
  intro d hd
  simp only [List.mem_cons, List.not_mem_nil, or_false] at hd
  rcases hd with h | h | h | h | h | h
  · subst h; rfl
  · subst h; rfl
  · subst h; rfl
  · subst h; rfl
  · subst h; rfl
  · subst h; exact isIntD_rD _
theorem st4 {s2 s3 : Sl} (s : Dz) : ∃ ρ, lr_law_4 [s0, .ow s.c, s2, s3, .un, .un, .un, .un, .un, .un, .un, .un, .un, .un] = .ok (.rt (.pl (.bl true))) ρ := by
  obtain ⟨q, hq⟩ : ∃ q, m_Ratio___init___1 [.int 3] = .ok (rF q) := ⟨_, e_init1 3⟩
  obtain ⟨u', hu', e⟩ := th_loop (s0 := s0) (s2 := s2) (s3 := s3) s _ (th_six q) .un rfl
  obtain ⟨ρ, e2⟩ := st5 (s0 := s0) (s2 := s2) (s3 := s3) (s4 := u') s
  unfold lr_law_4
  exact ⟨ρ, by simp only [Mi.runM, Mi.runI, Mi.runR, Mi.outF, Mi.outI, Mi.outR, Mi.startE, Mi.bnd, Mi.ret, Mi.lift, Mi.fail, Mi.mVar, Mi.mC, Mi.mBin, Mi.mBinN, Mi.mUn, Mi.mFld, Mi.mFrz, Mi.mB, Mi.tru, Mi.mAnd, Mi.mOr, Mi.mNot, Mi.mAndV, Mi.mOrV, Mi.mNotV, Mi.mIf, Mi.mChain, Mi.mNil, Mi.mCons, Mi.mTup, Mi.mLst, Mi.mCB, Mi.mCBn, Mi.mIdxV, Mi.mSkip, Mi.thenF, Mi.mSeq, Mi.sto, Mi.mAsg, Mi.mAsgN, Mi.two, Mi.mPar, Mi.mDrop, Mi.mRet, Mi.mRetN, Mi.mRetV, Mi.mIfS, Mi.againF, Mi.gV, Mi.gsN, Mi.gsC, Mi.gT, Mi.mAsgT, Mi.tgt, Mi.mCall, Mi.frzR, Mi.newR, Mi.mCallN, Mi.recv, Mi.mMeth, Mi.mMethN, Mi.mMake, Mi.callR, Mi.mCallR, Mi.newM, Mi.mCallRN, Mi.mApp, Mi.mRev, Mi.setAt, Mi.mSetV, Mi.mSetF, Mi.mAug, Mi.one, Mi.mRaise, Mi.mRaise0, Mi.mTry, Mi.noEx, Mi.endX, Mi.inX, Mi.mTryAs, Mi.mXf, Mi.dI, Mi.dIc, Mi.dAdd, Mi.dSub, Mi.dLt, Mi.dLe, Mi.dGt, Mi.dGe, Mi.dMul, Mi.dDiv, Mi.dMod, Mi.dPow, Mi.dNeg, Mi.sEq, Mi.ofB, Mi.dEq, Mi.dNe, Mi.isNon, Mi.dIsN, Mi.dNotN, Mi.dInt, Mi.dI1, Mi.dI2, Mi.dAbs, Mi.dMin, Mi.dMax, Mi.dGcd, Mi.dLen1, Mi.dLen, Mi.mLenV, Mi.mIsi, Mi.isub, Mi.D.tn, Mi.dIx, Mi.opC, Mi.negC, Mi.eqC, Mi.ipC, Mi.Rv.d, Mi.mNoP, Mi.asI, Mi.mPart, Mi.mSlL, Mi.asL, Mi.asQ, Mi.mItQ, Mi.mItA, Mi.mFor, Mi.putD, List.map_cons, List.map_nil, List.length_cons, List.length_nil, List.replicate, List.cons_append, List.nil_append, List.getElem?_cons_zero, List.getElem?_cons_succ, List.set_cons_zero, List.set_cons_succ, Nat.sub_self, Nat.reduceAdd, Nat.reduceSub, Nat.reduceEqDiff, List.reverse_cons, id, Bool.not_true, Bool.not_false, if_true, if_false, Bool.false_eq_true, reduceIte, true_and, and_true, and_self, Option.toList, List.all_cons, List.all_nil, Bool.and_true, Bool.true_and, Bool.and_self, decide_true, decide_false, decide_eq_true_eq, reduceCtorEq, Mi.bo_pl, Mi.bo_ow, Mi.bo_rf, Mi.bo_un, Mi.sa_ow, Mi.sa_rf, Mi.sa_pl, Mi.oa_un, Mi.oa_pl, Mi.oa_ow, Mi.co_ow, Mi.co_rf, Mi.co_pl, Mi.st_ow, Mi.st_rf, Mi.lv_ow, Mi.lv_rf, Mi.lv_pl, Mi.ne_un, Mi.ne_pl, Mi.ne_ow, Mi.ne_rf, Mi.ne_se, Mi.ne_ex, Mi.th_un, Mi.th_pl, Mi.ie_ex, Mi.xf_ex, ne_eq, not_false_eq_true, not_true_eq_false, Mi.clr, Mi.putS, Option.isSome_some, Option.some.injEq, Int.reduceEq, Int.reduceNe, Int.reduceLT, Int.reduceLE, Nat.reduceLT, Nat.reduceLeDiff, decide_not, Bool.not_eq_true, Bool.decide_eq_true, Mi.ib_t, Mi.ib_f, Mi.mkR_ex, Mi.bO_s, Mi.rO_f, Mi.rO_t, Mi.dEqA_eq, Mi.eqN_0, Mi.eqN_1, Mi.eqN_2, Mi.eqN_3, Mi.eqB_ins, Mi.eqB_tt, Mi.eqB_ll, Mi.eqB_int, Mi.eqB_str, Mi.eqB_bl, Mi.eqB_non, Mi.eqK_ii, Mi.eqK_ss, Mi.eqK_bb, Mi.eqK_nn, Mi.eqK_ni, Mi.eqK_in, Mi.eqK_ns, Mi.eqK_sn, Mi.eqK_is, Mi.eqK_si, Mi.eqK_nt, Mi.eqK_nl, Mi.eqB_tn, Mi.eqB_ln, Mi.eqLs_nil, Mi.eqLs_nc, Mi.eqLs_cn, Mi.eqLs_cc, Mi.itE_int, Mi.itE_str, Mi.itE_bl, Mi.itE_non, Mi.appT, Mi.asB, Mi.mMakeK, Mi.mDic, Option.bind_some, hq, mkR_rF, e, e2]⟩
abbrev G2 (s0 : Sl) (v : Int) (s : Dz) : Prop := ∃ ρ, lr_law_2 [s0, .ow s.c, .pl (.int v), .un, .un, .un, .un, .un, .un, .un, .un, .un, .un, .un] = .ok (.rt (.pl (.bl true))) ρ
theorem st2a (s : Dz) (hz : v = 0) : G2 s0 v s := by
  have h : FOk v := .inl hz
  have h0 : (v = 0) = True := eq_true hz
  clear hz
  obtain ⟨ρ, e2⟩ := st4 (s0 := s0) (s2 := .pl (.int v)) (s3 := .pl (fD v)) s
  have n1 : isNon (fD v) = false := rfl
  unfold G2 lr_law_2 lr_law_3
  exact ⟨ρ, by simp only [Mi.runM, Mi.runI, Mi.runR, Mi.outF, Mi.outI, Mi.outR, Mi.startE, Mi.bnd, Mi.ret, Mi.lift, Mi.fail, Mi.mVar, Mi.mC, Mi.mBin, Mi.mBinN, Mi.mUn, Mi.mFld, Mi.mFrz, Mi.mB, Mi.tru, Mi.mAnd, Mi.mOr, Mi.mNot, Mi.mAndV, Mi.mOrV, Mi.mNotV, Mi.mIf, Mi.mChain, Mi.mNil, Mi.mCons, Mi.mTup, Mi.mLst, Mi.mCB, Mi.mCBn, Mi.mIdxV, Mi.mSkip, Mi.thenF, Mi.mSeq, Mi.sto, Mi.mAsg, Mi.mAsgN, Mi.two, Mi.mPar, Mi.mDrop, Mi.mRet, Mi.mRetN, Mi.mRetV, Mi.mIfS, Mi.againF, Mi.gV, Mi.gsN, Mi.gsC, Mi.gT, Mi.mAsgT, Mi.tgt, Mi.mCall, Mi.frzR, Mi.newR, Mi.mCallN, Mi.recv, Mi.mMeth, Mi.mMethN, Mi.mMake, Mi.callR, Mi.mCallR, Mi.newM, Mi.mCallRN, Mi.mApp, Mi.mRev, Mi.setAt, Mi.mSetV, Mi.mSetF, Mi.mAug, Mi.one, Mi.mRaise, Mi.mRaise0, Mi.mTry, Mi.noEx, Mi.endX, Mi.inX, Mi.mTryAs, Mi.mXf, Mi.dI, Mi.dIc, Mi.dAdd, Mi.dSub, Mi.dLt, Mi.dLe, Mi.dGt, Mi.dGe, Mi.dMul, Mi.dDiv, Mi.dMod, Mi.dPow, Mi.dNeg, Mi.sEq, Mi.ofB, Mi.dEq, Mi.dNe, Mi.dIsN, Mi.dNotN, Mi.dInt, Mi.dI1, Mi.dI2, Mi.dAbs, Mi.dMin, Mi.dMax, Mi.dGcd, Mi.dLen1, Mi.dLen, Mi.mLenV, Mi.mIsi, Mi.isub, Mi.D.tn, Mi.dIx, Mi.opC, Mi.negC, Mi.eqC, Mi.ipC, Mi.Rv.d, Mi.mNoP, Mi.asI, Mi.mPart, Mi.mSlL, Mi.asL, Mi.asQ, Mi.mItQ, Mi.mItA, Mi.mFor, Mi.putD, List.map_cons, List.map_nil, List.length_cons, List.length_nil, List.replicate, List.cons_append, List.nil_append, List.getElem?_cons_zero, List.getElem?_cons_succ, List.set_cons_zero, List.set_cons_succ, Nat.sub_self, Nat.reduceAdd, Nat.reduceSub, Nat.reduceEqDiff, List.reverse_cons, id, Bool.not_true, Bool.not_false, if_true, if_false, Bool.false_eq_true, reduceIte, true_and, and_true, and_self, Option.toList, List.all_cons, List.all_nil, Bool.and_true, Bool.true_and, Bool.and_self, decide_true, decide_false, decide_eq_true_eq, reduceCtorEq, Mi.bo_pl, Mi.bo_ow, Mi.bo_rf, Mi.bo_un, Mi.sa_ow, Mi.sa_rf, Mi.sa_pl, Mi.oa_un, Mi.oa_pl, Mi.oa_ow, Mi.co_ow, Mi.co_rf, Mi.co_pl, Mi.st_ow, Mi.st_rf, Mi.lv_ow, Mi.lv_rf, Mi.lv_pl, Mi.ne_un, Mi.ne_pl, Mi.ne_ow, Mi.ne_rf, Mi.ne_se, Mi.ne_ex, Mi.th_un, Mi.th_pl, Mi.ie_ex, Mi.xf_ex, ne_eq, not_false_eq_true, not_true_eq_false, Mi.clr, Mi.putS, Option.isSome_some, Option.some.injEq, Int.reduceEq, Int.reduceNe, Int.reduceLT, Int.reduceLE, Nat.reduceLT, Nat.reduceLeDiff, decide_not, Bool.not_eq_true, Bool.decide_eq_true, Mi.ib_t, Mi.ib_f, Mi.mkR_ex, Mi.bO_s, Mi.rO_f, Mi.rO_t, Mi.dEqA_eq, Mi.eqN_0, Mi.eqN_1, Mi.eqN_2, Mi.eqN_3, Mi.eqB_ins, Mi.eqB_tt, Mi.eqB_ll, Mi.eqB_int, Mi.eqB_str, Mi.eqB_bl, Mi.eqB_non, Mi.eqK_ii, Mi.eqK_ss, Mi.eqK_bb, Mi.eqK_nn, Mi.eqK_ni, Mi.eqK_in, Mi.eqK_ns, Mi.eqK_sn, Mi.eqK_is, Mi.eqK_si, Mi.eqK_nt, Mi.eqK_nl, Mi.eqB_tn, Mi.eqB_ln, Mi.eqLs_nil, Mi.eqLs_nc, Mi.eqLs_cn, Mi.eqLs_cc, Mi.itE_int, Mi.itE_str, Mi.itE_bl, Mi.itE_non, Mi.appT, Mi.asB, Mi.mMakeK, Mi.mDic, Option.bind_some, n1, show isNon .non = true from rfl, field_ok h, e_Finit h, mkR_fD, dFld_prime, tf_F.ff, h0, e2]⟩
theorem st2b (s : Dz) (hp : PF v) : G2 s0 v s := by
  have h : FOk v := .inr ⟨hp.pr, hp.le⟩
  obtain ⟨ρ, e2⟩ := st4 (s0 := s0) (s2 := .pl (.int v)) (s3 := .pl (fD v)) s
  have n1 : isNon (fD v) = false := rfl
  have p1 := hp.pr.1
  have p2 := hp.le
  have p3 : (2 : Int) ≤ v := by omega
  have p4 : v < 10000 := by omega
  unfold G2 lr_law_2 lr_law_3
  exact ⟨ρ, by simp only [Mi.runM, Mi.runI, Mi.runR, Mi.outF, Mi.outI, Mi.outR, Mi.startE, Mi.bnd, Mi.ret, Mi.lift, Mi.fail, Mi.mVar, Mi.mC, Mi.mBin, Mi.mBinN, Mi.mUn, Mi.mFld, Mi.mFrz, Mi.mB, Mi.tru, Mi.mAnd, Mi.mOr, Mi.mNot, Mi.mAndV, Mi.mOrV, Mi.mNotV, Mi.mIf, Mi.mChain, Mi.mNil, Mi.mCons, Mi.mTup, Mi.mLst, Mi.mCB, Mi.mCBn, Mi.mIdxV, Mi.mSkip, Mi.thenF, Mi.mSeq, Mi.sto, Mi.mAsg, Mi.mAsgN, Mi.two, Mi.mPar, Mi.mDrop, Mi.mRet, Mi.mRetN, Mi.mRetV, Mi.mIfS, Mi.againF, Mi.gV, Mi.gsN, Mi.gsC, Mi.gT, Mi.mAsgT, Mi.tgt, Mi.mCall, Mi.frzR, Mi.newR, Mi.mCallN, Mi.recv, Mi.mMeth, Mi.mMethN, Mi.mMake, Mi.callR, Mi.mCallR, Mi.newM, Mi.mCallRN, Mi.mApp, Mi.mRev, Mi.setAt, Mi.mSetV, Mi.mSetF, Mi.mAug, Mi.one, Mi.mRaise, Mi.mRaise0, Mi.mTry, Mi.noEx, Mi.endX, Mi.inX, Mi.mTryAs, Mi.mXf, Mi.dI, Mi.dIc, Mi.dAdd, Mi.dSub, Mi.dLt, Mi.dLe, Mi.dGt, Mi.dGe, Mi.dMul, Mi.dDiv, Mi.dMod, Mi.dPow, Mi.dNeg, Mi.sEq, Mi.ofB, Mi.dEq, Mi.dNe, Mi.dIsN, Mi.dNotN, Mi.dInt, Mi.dI1, Mi.dI2, Mi.dAbs, Mi.dMin, Mi.dMax, Mi.dGcd, Mi.dLen1, Mi.dLen, Mi.mLenV, Mi.mIsi, Mi.isub, Mi.D.tn, Mi.dIx, Mi.opC, Mi.negC, Mi.eqC, Mi.ipC, Mi.Rv.d, Mi.mNoP, Mi.asI, Mi.mPart, Mi.mSlL, Mi.asL, Mi.asQ, Mi.mItQ, Mi.mItA, Mi.mFor, Mi.putD, List.map_cons, List.map_nil, List.length_cons, List.length_nil, List.replicate, List.cons_append, List.nil_append, List.getElem?_cons_zero, List.getElem?_cons_succ, List.set_cons_zero, List.set_cons_succ, Nat.sub_self, Nat.reduceAdd, Nat.reduceSub, Nat.reduceEqDiff, List.reverse_cons, id, Bool.not_true, Bool.not_false, if_true, if_false, Bool.false_eq_true, reduceIte, true_and, and_true, and_self, Option.toList, List.all_cons, List.all_nil, Bool.and_true, Bool.true_and, Bool.and_self, decide_true, decide_false, decide_eq_true_eq, reduceCtorEq, Mi.bo_pl, Mi.bo_ow, Mi.bo_rf, Mi.bo_un, Mi.sa_ow, Mi.sa_rf, Mi.sa_pl, Mi.oa_un, Mi.oa_pl, Mi.oa_ow, Mi.co_ow, Mi.co_rf, Mi.co_pl, Mi.st_ow, Mi.st_rf, Mi.lv_ow, Mi.lv_rf, Mi.lv_pl, Mi.ne_un, Mi.ne_pl, Mi.ne_ow, Mi.ne_rf, Mi.ne_se, Mi.ne_ex, Mi.th_un, Mi.th_pl, Mi.ie_ex, Mi.xf_ex, ne_eq, not_false_eq_true, not_true_eq_false, Mi.clr, Mi.putS, Option.isSome_some, Option.some.injEq, Int.reduceEq, Int.reduceNe, Int.reduceLT, Int.reduceLE, Nat.reduceLT, Nat.reduceLeDiff, decide_not, Bool.not_eq_true, Bool.decide_eq_true, Mi.ib_t, Mi.ib_f, Mi.mkR_ex, Mi.bO_s, Mi.rO_f, Mi.rO_t, Mi.dEqA_eq, Mi.eqN_0, Mi.eqN_1, Mi.eqN_2, Mi.eqN_3, Mi.eqB_ins, Mi.eqB_tt, Mi.eqB_ll, Mi.eqB_int, Mi.eqB_str, Mi.eqB_bl, Mi.eqB_non, Mi.eqK_ii, Mi.eqK_ss, Mi.eqK_bb, Mi.eqK_nn, Mi.eqK_ni, Mi.eqK_in, Mi.eqK_ns, Mi.eqK_sn, Mi.eqK_is, Mi.eqK_si, Mi.eqK_nt, Mi.eqK_nl, Mi.eqB_tn, Mi.eqB_ln, Mi.eqLs_nil, Mi.eqLs_nc, Mi.eqLs_cn, Mi.eqLs_cc, Mi.itE_int, Mi.itE_str, Mi.itE_bl, Mi.itE_non, Mi.appT, Mi.asB, Mi.mMakeK, Mi.mDic, Option.bind_some, n1, show isNon .non = true from rfl, field_ok h, e_Finit h, mkR_fD, dFld_prime, tf_F.ff, hp.ne, p3, p2, e_law_is_prime p4, isP_t hp.pr, e2]⟩
theorem st2c (s : Dz) (hv : v < 10200) (h : ¬ FOk v) (h1 : (2 : Int) ≤ v) (h2 : v ≤ 9973) : G2 s0 v s := by
  have h0 : ¬ v = 0 := fun z => h (.inl z)
  obtain ⟨ρ, e2⟩ := st4 (s0 := s0) (s2 := .pl (.int v)) (s3 := .pl .non) s
  have hp : ¬ Prm v := fun z => h (.inr ⟨z, h2⟩)
  have p4 : v < 10000 := by omega
  unfold G2 lr_law_2 lr_law_3
  exact ⟨ρ, by simp only [Mi.runM, Mi.runI, Mi.runR, Mi.outF, Mi.outI, Mi.outR, Mi.startE, Mi.bnd, Mi.ret, Mi.lift, Mi.fail, Mi.mVar, Mi.mC, Mi.mBin, Mi.mBinN, Mi.mUn, Mi.mFld, Mi.mFrz, Mi.mB, Mi.tru, Mi.mAnd, Mi.mOr, Mi.mNot, Mi.mAndV, Mi.mOrV, Mi.mNotV, Mi.mIf, Mi.mChain, Mi.mNil, Mi.mCons, Mi.mTup, Mi.mLst, Mi.mCB, Mi.mCBn, Mi.mIdxV, Mi.mSkip, Mi.thenF, Mi.mSeq, Mi.sto, Mi.mAsg, Mi.mAsgN, Mi.two, Mi.mPar, Mi.mDrop, Mi.mRet, Mi.mRetN, Mi.mRetV, Mi.mIfS, Mi.againF, Mi.gV, Mi.gsN, Mi.gsC, Mi.gT, Mi.mAsgT, Mi.tgt, Mi.mCall, Mi.frzR, Mi.newR, Mi.mCallN, Mi.recv, Mi.mMeth, Mi.mMethN, Mi.mMake, Mi.callR, Mi.mCallR, Mi.newM, Mi.mCallRN, Mi.mApp, Mi.mRev, Mi.setAt, Mi.mSetV, Mi.mSetF, Mi.mAug, Mi.one, Mi.mRaise, Mi.mRaise0, Mi.mTry, Mi.noEx, Mi.endX, Mi.inX, Mi.mTryAs, Mi.mXf, Mi.dI, Mi.dIc, Mi.dAdd, Mi.dSub, Mi.dLt, Mi.dLe, Mi.dGt, Mi.dGe, Mi.dMul, Mi.dDiv, Mi.dMod, Mi.dPow, Mi.dNeg, Mi.sEq, Mi.ofB, Mi.dEq, Mi.dNe, Mi.isNon, Mi.dIsN, Mi.dNotN, Mi.dInt, Mi.dI1, Mi.dI2, Mi.dAbs, Mi.dMin, Mi.dMax, Mi.dGcd, Mi.dLen1, Mi.dLen, Mi.mLenV, Mi.mIsi, Mi.isub, Mi.D.tn, Mi.dIx, Mi.opC, Mi.negC, Mi.eqC, Mi.ipC, Mi.Rv.d, Mi.mNoP, Mi.asI, Mi.mPart, Mi.mSlL, Mi.asL, Mi.asQ, Mi.mItQ, Mi.mItA, Mi.mFor, Mi.putD, List.map_cons, List.map_nil, List.length_cons, List.length_nil, List.replicate, List.cons_append, List.nil_append, List.getElem?_cons_zero, List.getElem?_cons_succ, List.set_cons_zero, List.set_cons_succ, Nat.sub_self, Nat.reduceAdd, Nat.reduceSub, Nat.reduceEqDiff, List.reverse_cons, id, Bool.not_true, Bool.not_false, if_true, if_false, Bool.false_eq_true, reduceIte, true_and, and_true, and_self, Option.toList, List.all_cons, List.all_nil, Bool.and_true, Bool.true_and, Bool.and_self, decide_true, decide_false, decide_eq_true_eq, reduceCtorEq, Mi.bo_pl, Mi.bo_ow, Mi.bo_rf, Mi.bo_un, Mi.sa_ow, Mi.sa_rf, Mi.sa_pl, Mi.oa_un, Mi.oa_pl, Mi.oa_ow, Mi.co_ow, Mi.co_rf, Mi.co_pl, Mi.st_ow, Mi.st_rf, Mi.lv_ow, Mi.lv_rf, Mi.lv_pl, Mi.ne_un, Mi.ne_pl, Mi.ne_ow, Mi.ne_rf, Mi.ne_se, Mi.ne_ex, Mi.th_un, Mi.th_pl, Mi.ie_ex, Mi.xf_ex, ne_eq, not_false_eq_true, not_true_eq_false, Mi.clr, Mi.putS, Option.isSome_some, Option.some.injEq, Int.reduceEq, Int.reduceNe, Int.reduceLT, Int.reduceLE, Nat.reduceLT, Nat.reduceLeDiff, decide_not, Bool.not_eq_true, Bool.decide_eq_true, Mi.ib_t, Mi.ib_f, Mi.mkR_ex, Mi.bO_s, Mi.rO_f, Mi.rO_t, Mi.dEqA_eq, Mi.eqN_0, Mi.eqN_1, Mi.eqN_2, Mi.eqN_3, Mi.eqB_ins, Mi.eqB_tt, Mi.eqB_ll, Mi.eqB_int, Mi.eqB_str, Mi.eqB_bl, Mi.eqB_non, Mi.eqK_ii, Mi.eqK_ss, Mi.eqK_bb, Mi.eqK_nn, Mi.eqK_ni, Mi.eqK_in, Mi.eqK_ns, Mi.eqK_sn, Mi.eqK_is, Mi.eqK_si, Mi.eqK_nt, Mi.eqK_nl, Mi.eqB_tn, Mi.eqB_ln, Mi.eqLs_nil, Mi.eqLs_nc, Mi.eqLs_cn, Mi.eqLs_cc, Mi.itE_int, Mi.itE_str, Mi.itE_bl, Mi.itE_non, Mi.appT, Mi.asB, Mi.mMakeK, Mi.mDic, Option.bind_some, field_x h, h0, h1, h2, e_law_is_prime p4, isP_f hp, e2]⟩
theorem st2d (s : Dz) (h : ¬ FOk v) (h2 : ¬ v ≤ 9973) : G2 s0 v s := by
  have h0 : ¬ v = 0 := fun z => h (.inl z)
  obtain ⟨ρ, e2⟩ := st4 (s0 := s0) (s2 := .pl (.int v)) (s3 := .pl .non) s
  have h1 : (2 : Int) ≤ v := by omega
  unfold G2 lr_law_2 lr_law_3
  exact ⟨ρ, by simp only [Mi.runM, Mi.runI, Mi.runR, Mi.outF, Mi.outI, Mi.outR, Mi.startE, Mi.bnd, Mi.ret, Mi.lift, Mi.fail, Mi.mVar, Mi.mC, Mi.mBin, Mi.mBinN, Mi.mUn, Mi.mFld, Mi.mFrz, Mi.mB, Mi.tru, Mi.mAnd, Mi.mOr, Mi.mNot, Mi.mAndV, Mi.mOrV, Mi.mNotV, Mi.mIf, Mi.mChain, Mi.mNil, Mi.mCons, Mi.mTup, Mi.mLst, Mi.mCB, Mi.mCBn, Mi.mIdxV, Mi.mSkip, Mi.thenF, Mi.mSeq, Mi.sto, Mi.mAsg, Mi.mAsgN, Mi.two, Mi.mPar, Mi.mDrop, Mi.mRet, Mi.mRetN, Mi.mRetV, Mi.mIfS, Mi.againF, Mi.gV, Mi.gsN, Mi.gsC, Mi.gT, Mi.mAsgT, Mi.tgt, Mi.mCall, Mi.frzR, Mi.newR, Mi.mCallN, Mi.recv, Mi.mMeth, Mi.mMethN, Mi.mMake, Mi.callR, Mi.mCallR, Mi.newM, Mi.mCallRN, Mi.mApp, Mi.mRev, Mi.setAt, Mi.mSetV, Mi.mSetF, Mi.mAug, Mi.one, Mi.mRaise, Mi.mRaise0, Mi.mTry, Mi.noEx, Mi.endX, Mi.inX, Mi.mTryAs, Mi.mXf, Mi.dI, Mi.dIc, Mi.dAdd, Mi.dSub, Mi.dLt, Mi.dLe, Mi.dGt, Mi.dGe, Mi.dMul, Mi.dDiv, Mi.dMod, Mi.dPow, Mi.dNeg, Mi.sEq, Mi.ofB, Mi.dEq, Mi.dNe, Mi.isNon, Mi.dIsN, Mi.dNotN, Mi.dInt, Mi.dI1, Mi.dI2, Mi.dAbs, Mi.dMin, Mi.dMax, Mi.dGcd, Mi.dLen1, Mi.dLen, Mi.mLenV, Mi.mIsi, Mi.isub, Mi.D.tn, Mi.dIx, Mi.opC, Mi.negC, Mi.eqC, Mi.ipC, Mi.Rv.d, Mi.mNoP, Mi.asI, Mi.mPart, Mi.mSlL, Mi.asL, Mi.asQ, Mi.mItQ, Mi.mItA, Mi.mFor, Mi.putD, List.map_cons, List.map_nil, List.length_cons, List.length_nil, List.replicate, List.cons_append, List.nil_append, List.getElem?_cons_zero, List.getElem?_cons_succ, List.set_cons_zero, List.set_cons_succ, Nat.sub_self, Nat.reduceAdd, Nat.reduceSub, Nat.reduceEqDiff, List.reverse_cons, id, Bool.not_true, Bool.not_false, if_true, if_false, Bool.false_eq_true, reduceIte, true_and, and_true, and_self, Option.toList, List.all_cons, List.all_nil, Bool.and_true, Bool.true_and, Bool.and_self, decide_true, decide_false, decide_eq_true_eq, reduceCtorEq, Mi.bo_pl, Mi.bo_ow, Mi.bo_rf, Mi.bo_un, Mi.sa_ow, Mi.sa_rf, Mi.sa_pl, Mi.oa_un, Mi.oa_pl, Mi.oa_ow, Mi.co_ow, Mi.co_rf, Mi.co_pl, Mi.st_ow, Mi.st_rf, Mi.lv_ow, Mi.lv_rf, Mi.lv_pl, Mi.ne_un, Mi.ne_pl, Mi.ne_ow, Mi.ne_rf, Mi.ne_se, Mi.ne_ex, Mi.th_un, Mi.th_pl, Mi.ie_ex, Mi.xf_ex, ne_eq, not_false_eq_true, not_true_eq_false, Mi.clr, Mi.putS, Option.isSome_some, Option.some.injEq, Int.reduceEq, Int.reduceNe, Int.reduceLT, Int.reduceLE, Nat.reduceLT, Nat.reduceLeDiff, decide_not, Bool.not_eq_true, Bool.decide_eq_true, Mi.ib_t, Mi.ib_f, Mi.mkR_ex, Mi.bO_s, Mi.rO_f, Mi.rO_t, Mi.dEqA_eq, Mi.eqN_0, Mi.eqN_1, Mi.eqN_2, Mi.eqN_3, Mi.eqB_ins, Mi.eqB_tt, Mi.eqB_ll, Mi.eqB_int, Mi.eqB_str, Mi.eqB_bl, Mi.eqB_non, Mi.eqK_ii, Mi.eqK_ss, Mi.eqK_bb, Mi.eqK_nn, Mi.eqK_ni, Mi.eqK_in, Mi.eqK_ns, Mi.eqK_sn, Mi.eqK_is, Mi.eqK_si, Mi.eqK_nt, Mi.eqK_nl, Mi.eqB_tn, Mi.eqB_ln, Mi.eqLs_nil, Mi.eqLs_nc, Mi.eqLs_cn, Mi.eqLs_cc, Mi.itE_int, Mi.itE_str, Mi.itE_bl, Mi.itE_non, Mi.appT, Mi.asB, Mi.mMakeK, Mi.mDic, Option.bind_some, field_x h, h0, h1, h2, e2]⟩
theorem st2e (s : Dz) (h : ¬ FOk v) (h1 : ¬ (2 : Int) ≤ v) : G2 s0 v s := by
  have h0 : ¬ v = 0 := fun z => h (.inl z)
  obtain ⟨ρ, e2⟩ := st4 (s0 := s0) (s2 := .pl (.int v)) (s3 := .pl .non) s
  unfold G2 lr_law_2 lr_law_3
  exact ⟨ρ, by simp only [Mi.runM, Mi.runI, Mi.runR, Mi.outF, Mi.outI, Mi.outR, Mi.startE, Mi.bnd, Mi.ret, Mi.lift, Mi.fail, Mi.mVar, Mi.mC, Mi.mBin, Mi.mBinN, Mi.mUn, Mi.mFld, Mi.mFrz, Mi.mB, Mi.tru, Mi.mAnd, Mi.mOr, Mi.mNot, Mi.mAndV, Mi.mOrV, Mi.mNotV, Mi.mIf, Mi.mChain, Mi.mNil, Mi.mCons, Mi.mTup, Mi.mLst, Mi.mCB, Mi.mCBn, Mi.mIdxV, Mi.mSkip, Mi.thenF, Mi.mSeq, Mi.sto, Mi.mAsg, Mi.mAsgN, Mi.two, Mi.mPar, Mi.mDrop, Mi.mRet, Mi.mRetN, Mi.mRetV, Mi.mIfS, Mi.againF, Mi.gV, Mi.gsN, Mi.gsC, Mi.gT, Mi.mAsgT, Mi.tgt, Mi.mCall, Mi.frzR, Mi.newR, Mi.mCallN, Mi.recv, Mi.mMeth, Mi.mMethN, Mi.mMake, Mi.callR, Mi.mCallR, Mi.newM, Mi.mCallRN, Mi.mApp, Mi.mRev, Mi.setAt, Mi.mSetV, Mi.mSetF, Mi.mAug, Mi.one, Mi.mRaise, Mi.mRaise0, Mi.mTry, Mi.noEx, Mi.endX, Mi.inX, Mi.mTryAs, Mi.mXf, Mi.dI, Mi.dIc, Mi.dAdd, Mi.dSub, Mi.dLt, Mi.dLe, Mi.dGt, Mi.dGe, Mi.dMul, Mi.dDiv, Mi.dMod, Mi.dPow, Mi.dNeg, Mi.sEq, Mi.ofB, Mi.dEq, Mi.dNe, Mi.isNon, Mi.dIsN, Mi.dNotN, Mi.dInt, Mi.dI1, Mi.dI2, Mi.dAbs, Mi.dMin, Mi.dMax, Mi.dGcd, Mi.dLen1, Mi.dLen, Mi.mLenV, Mi.mIsi, Mi.isub, Mi.D.tn, Mi.dIx, Mi.opC, Mi.negC, Mi.eqC, Mi.ipC, Mi.Rv.d, Mi.mNoP, Mi.asI, Mi.mPart, Mi.mSlL, Mi.asL, Mi.asQ, Mi.mItQ, Mi.mItA, Mi.mFor, Mi.putD, List.map_cons, List.map_nil, List.length_cons, List.length_nil, List.replicate, List.cons_append, List.nil_append, List.getElem?_cons_zero, List.getElem?_cons_succ, List.set_cons_zero, List.set_cons_succ, Nat.sub_self, Nat.reduceAdd, Nat.reduceSub, Nat.reduceEqDiff, List.reverse_cons, id, Bool.not_true, Bool.not_false, if_true, if_false, Bool.false_eq_true, reduceIte, true_and, and_true, and_self, Option.toList, List.all_cons, List.all_nil, Bool.and_true, Bool.true_and, Bool.and_self, decide_true, decide_false, decide_eq_true_eq, reduceCtorEq, Mi.bo_pl, Mi.bo_ow, Mi.bo_rf, Mi.bo_un, Mi.sa_ow, Mi.sa_rf, Mi.sa_pl, Mi.oa_un, Mi.oa_pl, Mi.oa_ow, Mi.co_ow, Mi.co_rf, Mi.co_pl, Mi.st_ow, Mi.st_rf, Mi.lv_ow, Mi.lv_rf, Mi.lv_pl, Mi.ne_un, Mi.ne_pl, Mi.ne_ow, Mi.ne_rf, Mi.ne_se, Mi.ne_ex, Mi.th_un, Mi.th_pl, Mi.ie_ex, Mi.xf_ex, ne_eq, not_false_eq_true, not_true_eq_false, Mi.clr, Mi.putS, Option.isSome_some, Option.some.injEq, Int.reduceEq, Int.reduceNe, Int.reduceLT, Int.reduceLE, Nat.reduceLT, Nat.reduceLeDiff, decide_not, Bool.not_eq_true, Bool.decide_eq_true, Mi.ib_t, Mi.ib_f, Mi.mkR_ex, Mi.bO_s, Mi.rO_f, Mi.rO_t, Mi.dEqA_eq, Mi.eqN_0, Mi.eqN_1, Mi.eqN_2, Mi.eqN_3, Mi.eqB_ins, Mi.eqB_tt, Mi.eqB_ll, Mi.eqB_int, Mi.eqB_str, Mi.eqB_bl, Mi.eqB_non, Mi.eqK_ii, Mi.eqK_ss, Mi.eqK_bb, Mi.eqK_nn, Mi.eqK_ni, Mi.eqK_in, Mi.eqK_ns, Mi.eqK_sn, Mi.eqK_is, Mi.eqK_si, Mi.eqK_nt, Mi.eqK_nl, Mi.eqB_tn, Mi.eqB_ln, Mi.eqLs_nil, Mi.eqLs_nc, Mi.eqLs_cn, Mi.eqLs_cc, Mi.itE_int, Mi.itE_str, Mi.itE_bl, Mi.itE_non, Mi.appT, Mi.asB, Mi.mMakeK, Mi.mDic, Option.bind_some, field_x h, h0, h1, e2]⟩
theorem st2 (s : Dz) (hv : v < 10200) : G2 s0 v s := by
  by_cases h : FOk v
  · rcases h.cases with hz | hp
    · exact st2a s hz
    · exact st2b s hp
  · by_cases h1 : (2 : Int) ≤ v
    · by_cases h2 : v ≤ 9973
      · exact st2c s hv h h1 h2
      · exact st2d s h h2
    · exact st2e s h h1
end
theorem law_true (ns : List Int) (_hl : ns.length ≤ 63) : m_law [.lst (ns.map D.int)] = .ok (.pl (.bl true)) := by
  obtain ⟨s, e⟩ := e_state ns
  have ea := e_draw s (many := 10230) (by decide)
  have a1 := draw_hi s (many := 10230) (by decide)
  generalize (draw s 10230).1 = r at a1 ea
  generalize (draw s 10230).2 = s1 at ea
  obtain ⟨ρ, e2⟩ := st2 (v := r - 30) (s0 := .pl (.lst (ns.map D.int))) s1 (by omega)
  unfold m_law b_law lr_law_1
  simp only [Mi.runM, Mi.runI, Mi.runR, Mi.outF, Mi.outI, Mi.outR, Mi.startE, Mi.bnd, Mi.ret, Mi.lift, Mi.fail, Mi.mVar, Mi.mC, Mi.mBin, Mi.mBinN, Mi.mUn, Mi.mFld, Mi.mFrz, Mi.mB, Mi.tru, Mi.mAnd, Mi.mOr, Mi.mNot, Mi.mAndV, Mi.mOrV, Mi.mNotV, Mi.mIf, Mi.mChain, Mi.mNil, Mi.mCons, Mi.mTup, Mi.mLst, Mi.mCB, Mi.mCBn, Mi.mIdxV, Mi.mSkip, Mi.thenF, Mi.mSeq, Mi.sto, Mi.mAsg, Mi.mAsgN, Mi.two, Mi.mPar, Mi.mDrop, Mi.mRet, Mi.mRetN, Mi.mRetV, Mi.mIfS, Mi.againF, Mi.gV, Mi.gsN, Mi.gsC, Mi.gT, Mi.mAsgT, Mi.tgt, Mi.mCall, Mi.frzR, Mi.newR, Mi.mCallN, Mi.recv, Mi.mMeth, Mi.mMethN, Mi.mMake, Mi.callR, Mi.mCallR, Mi.newM, Mi.mCallRN, Mi.mApp, Mi.mRev, Mi.setAt, Mi.mSetV, Mi.mSetF, Mi.mAug, Mi.one, Mi.mRaise, Mi.mRaise0, Mi.mTry, Mi.noEx, Mi.endX, Mi.inX, Mi.mTryAs, Mi.mXf, Mi.dI, Mi.dIc, Mi.dAdd, Mi.dSub, Mi.dLt, Mi.dLe, Mi.dGt, Mi.dGe, Mi.dMul, Mi.dDiv, Mi.dMod, Mi.dPow, Mi.dNeg, Mi.sEq, Mi.ofB, Mi.dEq, Mi.dNe, Mi.isNon, Mi.dIsN, Mi.dNotN, Mi.dInt, Mi.dI1, Mi.dI2, Mi.dAbs, Mi.dMin, Mi.dMax, Mi.dGcd, Mi.dLen1, Mi.dLen, Mi.mLenV, Mi.mIsi, Mi.isub, Mi.D.tn, Mi.dIx, Mi.opC, Mi.negC, Mi.eqC, Mi.ipC, Mi.Rv.d, Mi.mNoP, Mi.asI, Mi.mPart, Mi.mSlL, Mi.asL, Mi.asQ, Mi.mItQ, Mi.mItA, Mi.mFor, Mi.putD, List.map_cons, List.map_nil, List.length_cons, List.length_nil, List.replicate, List.cons_append, List.nil_append, List.getElem?_cons_zero, List.getElem?_cons_succ, List.set_cons_zero, List.set_cons_succ, Nat.sub_self, Nat.reduceAdd, Nat.reduceSub, Nat.reduceEqDiff, List.reverse_cons, id, Bool.not_true, Bool.not_false, if_true, if_false, Bool.false_eq_true, reduceIte, true_and, and_true, and_self, Option.toList, List.all_cons, List.all_nil, Bool.and_true, Bool.true_and, Bool.and_self, decide_true, decide_false, decide_eq_true_eq, reduceCtorEq, Mi.bo_pl, Mi.bo_ow, Mi.bo_rf, Mi.bo_un, Mi.sa_ow, Mi.sa_rf, Mi.sa_pl, Mi.oa_un, Mi.oa_pl, Mi.oa_ow, Mi.co_ow, Mi.co_rf, Mi.co_pl, Mi.st_ow, Mi.st_rf, Mi.lv_ow, Mi.lv_rf, Mi.lv_pl, Mi.ne_un, Mi.ne_pl, Mi.ne_ow, Mi.ne_rf, Mi.ne_se, Mi.ne_ex, Mi.th_un, Mi.th_pl, Mi.ie_ex, Mi.xf_ex, ne_eq, not_false_eq_true, not_true_eq_false, Mi.clr, Mi.putS, Option.isSome_some, Option.some.injEq, Int.reduceEq, Int.reduceNe, Int.reduceLT, Int.reduceLE, Nat.reduceLT, Nat.reduceLeDiff, decide_not, Bool.not_eq_true, Bool.decide_eq_true, Mi.ib_t, Mi.ib_f, Mi.mkR_ex, Mi.bO_s, Mi.rO_f, Mi.rO_t, Mi.dEqA_eq, Mi.eqN_0, Mi.eqN_1, Mi.eqN_2, Mi.eqN_3, Mi.eqB_ins, Mi.eqB_tt, Mi.eqB_ll, Mi.eqB_int, Mi.eqB_str, Mi.eqB_bl, Mi.eqB_non, Mi.eqK_ii, Mi.eqK_ss, Mi.eqK_bb, Mi.eqK_nn, Mi.eqK_ni, Mi.eqK_in, Mi.eqK_ns, Mi.eqK_sn, Mi.eqK_is, Mi.eqK_si, Mi.eqK_nt, Mi.eqK_nl, Mi.eqB_tn, Mi.eqB_ln, Mi.eqLs_nil, Mi.eqLs_nc, Mi.eqLs_cn, Mi.eqLs_cc, Mi.itE_int, Mi.itE_str, Mi.itE_bl, Mi.itE_non, Mi.appT, Mi.asB, Mi.mMakeK, Mi.mDic, Option.bind_some, e, ea, e2]
end Mi

namespace Sx
open PySem PySem.Spec PyProof.Rows L2
abbrev R : PySem.W.OpenRow := PySem.W.OpenLaw.row PySem.Challenge.rw_seriessquares_k04_fields
abbrev hk : PySem.W.Hook := hookM 4 fa fn fz
def ob (s : PySem.W.SharedT) : AlM := obsMG 4 fa fn fz (HandSHeadRun.getT s)
theorem ob_eq (s : PySem.W.SharedT) : ob s = hk.obs s.abs := obsMG_eq (HandSHeadRun.getT_eq s)
theorem run (w : World) : GH.RunEqG R (PySem.W.view R.prog [30]) hk ob 4000 4000 loose w := by
  show (_ : Option _) = _
  kernel_rfl
theorem facts {w : World} {K : PySem.W.Frag} {h : Heap} {mg : Str → Option Value} {f : Addr} (X : K.In h) (G : h.Ns mainGlobals mg) (hfa : mg ("law" : Str) = some (.ref f)) (c : SaysM fa fn fz K) :
    ∃ (fd : FuncData) (sp : Sp), (∀ (s : Shared) (v : Value), BindsTo s fd ⟨[v], []⟩ [("_law_script", v)]) ∧ (∀ (H : Hp) (li : Addr) (ns : List Int), ns.length ≤ 63 → SqL K H li (ns.map V.int) → sp [.ref li] H (fun v _ => v = .bl true) fun _ _ _ => False) ∧
      ∀ base : Heap, K.In base → base.Ns mainGlobals mg → FnOk PP w K mg base (L2.CX PP w) 39 f fd ["_law_script"] sp := by
  have : Sy K := ⟨c⟩
  have M := mg_mk X G
  obtain ⟨fd, F⟩ := def_law (K := K)
  have e := hfa.symm.trans (g_law M)
  cases e
  have b := FunD.bindsA (ps := ["_law_script"]) F fun _ _ _ _ _ _ us hl => match us, hl with | [_], _ => rfl
  refine ⟨fd, Mi.spM K Mi.m_law, fun s v => b s [v] rfl, fun H li ns hl hS => ⟨[.lst (ns.map Mi.D.int)], .cons (.lst hS (Mi.IsL.ints ns)) .nil, ?_⟩, fun base _ _ => Mi.fok_law M F⟩
  rw [Mi.law_true ns hl]
  exact fun v H2 _ hv => hv.bl_eq
end Sx
open PySem PySem.W PySem.Calls PyProof.Rows
theorem PySem.Challenge.cw_seriessquares_k04_fields_holds : PySem.Challenge.rw_seriessquares_k04_fields.Holds := by
  w_on; o_law
  refine GH.head_anyG (r := OpenLaw.row PySem.Challenge.rw_seriessquares_k04_fields) (q := view (OpenLaw.row PySem.Challenge.rw_seriessquares_k04_fields).prog [30]) (H := Sx.hk) (ob := Sx.ob) (M1 := 4000) (M2 := 4000) (loose := Sx.loose) (d := HandSHeadRun.topDef (OpenLaw.row PySem.Challenge.rw_seriessquares_k04_fields).prog 30) (kwd := []) Sx.ob_eq
    Sx.run (by kernel_rfl) (by kernel_rfl) (by kernel_rfl) (by rfl) (by first | assumption | decide +kernel) (by decide +kernel) ⟨rfl, rfl, rfl, rfl, rfl, by decide +kernel⟩ ?hw ?hc
  case hw => w_witness2
  case hc =>
    refine Sx.walk_x (law := PySem.Challenge.rw_seriessquares_k04_fields) (lim := 63) (lev := 39) (x := "_law_script") rfl (by decide) (by kernel_rfl) ⟨rfl, by decide, by decide⟩ ?F
    intro w mg fa h Y G hmg0
    obtain ⟨K, KX, c⟩ := Y
    have hmg : mg ("law" : PySem.Str) = some (.ref fa) := by
      have e : (HandSHeadRun.topDef (OpenLaw.row PySem.Challenge.rw_seriessquares_k04_fields).prog 30).name = ("law" : PySem.Str) := by kernel_rfl
      rw [← e]
      exact hmg0
    obtain ⟨fd, sp, hb, hs, hF⟩ := Sx.facts (w := w) KX G hmg c
    exact ⟨K, fd, sp, KX, hb, hs, hF⟩
