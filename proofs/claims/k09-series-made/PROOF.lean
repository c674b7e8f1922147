import PyProof.Rows.All
import Wide.All
import OpenK.AllK
import Wide.FinOn
import KE.KStateDown
import Lean
import HandS.Base
import HandS.Call
import HandS.Ends
import HandS.More
import HandS.Words
import HandS.WordsExc
import HandS.Defaults
import HandS.Head0
import HandS.Head1
import HandS.Head2
import HandS.HeadEnd
import HandS.HeadHook1
import HandS.HeadHook2
import KE.KExcSuper
import KE.KExcIs
import HandS.ForMost
import HandS.ForExc
import HandS.ExcInit
import HandS.ExcField
import HandS.ExcIs
import HandS.IsInst
import HandS.Wide
import HandS.Gcd
import HandS.MakeKw
import HandS.MakeKwOnly
import HandS.Flow
import HandS.CallSlots
import HandS.Evl
import KE.KOpsOwn
import HandS.Small
import HandS.OwnEq
import PyProof.NeKinds
import PyProof.InstNe
import HandS.Iter
import KE.GoesMore
import HandS.ClsMeth
import HandS.Star
import HandS.Style
import HandS.Deep
import HandS.TupAny
import PyProof.InstSpecial
import PyProof.Rows.SeqMore
import PySem.Challenge.RW_seriessquares_k09_series_made
import KE.IntBitsLaws
set_option Elab.async false
set_option linter.all false
set_option maxRecDepth 100000
set_option maxHeartbeats 0
/-! A head for a top that opens with imports: the opening and the top by one run over trees. -/
noncomputable section
namespace GH
open PySem PySem.W PySem.Calls PyProof.Rows HandSHeadRun
/-- the opening, to its end -/
def impF (st : SharedT → Thread → Option (SharedT × Thread)) : Nat → SharedT → Thread → Option SharedT
  | 0, _, _ => none
  | m + 1, s, t => match t.atExitBegin with
    | some [] => some s
    | some (_ :: _) => none
    | none => match st s t with
      | some (s', t') => frS s' fun s' => impF st m s' t'
      | none => none
theorem impF_ok {tb : String → Option Builtin} {p : Program} {w : World} : ∀ {m : Nat} {s s' : SharedT} {t : Thread}, impF (stepT (denote tb) p w) m s t = some s' → importEnds tb p w m s.abs t = some s'.abs
  | 0, _, _, _, h => by cases h
  | m + 1, s, s', t, h => by
    unfold impF at h
    unfold importEnds
    cases ht : t.atExitBegin with
    | some l =>
      rw [ht] at h
      cases l with
      | nil =>
        have h' : some s = some s' := h
        cases h'
        rfl
      | cons a r =>
        have h' : (none : Option SharedT) = some s' := h
        cases h'
    | none =>
      rw [ht] at h
      have h2 : (match stepT (denote tb) p w s t with
          | some (s', t') => frS s' fun s' => impF (stepT (denote tb) p w) m s' t'
          | none => none) = some s' := h
      cases hs : stepT (denote tb) p w s t with
      | none =>
        rw [hs] at h2
        cases h2
      | some r =>
        obtain ⟨s2, t2⟩ := r
        rw [hs] at h2
        have h3 : (frS s2 fun s' => impF (stepT (denote tb) p w) m s' t2) = some s' := h2
        rw [frS_eq] at h3
        have q := impF_ok h3
        show (match step (denote tb) p w s.abs t with
          | .go s' t' => importEnds tb p w m s' t'
          | .halt _ _ => none) = some s'.abs
        rw [stepT_spec hs]
        exact q
/-- a state as a tree -/
def toT (s : Shared) : Option SharedT := match putAll s.heap.objs.toList .nil 0 with
  | some (t, n) => some ⟨t, n, s.heap.life, s.gens, s.drawn, s.toks, s.os⟩
  | none => none
theorem toT_ok {s : Shared} {t : SharedT} (h : toT s = some t) : t.abs = s := by
  unfold toT at h
  cases e : putAll s.heap.objs.toList .nil 0 with
  | none =>
    rw [e] at h
    cases h
  | some r =>
    obtain ⟨tr, n⟩ := r
    rw [e] at h
    have h' : some (⟨tr, n, s.heap.life, s.gens, s.drawn, s.toks, s.os⟩ : SharedT) = some t := h
    cases h'
    show (⟨absHeap tr n s.heap.life, s.gens, s.drawn, s.toks, s.os⟩ : Shared) = s
    rw [putAll_heap e]
def openG (st : SharedT → Thread → Option (SharedT × Thread)) (M : Nat) (p : Program) : Option Shared :=
  (toT (start (opening p)).1).bind fun s0 => (impF st M s0 (start (opening p)).2).bind fun s => fenceModules? p s.abs
def topG (st : SharedT → Thread → Option (SharedT × Thread)) (M : Nat) (p : Program) (s₀ : Shared) : Option SharedT :=
  match s₀.heap.isNs mainGlobals && s₀.gens.size == 0 with
  | true => (toT s₀).bind fun t => frS t fun t => goF st t.n (s₀.heap.nsMap mainGlobals "__annotations__") M t (topStub p)
  | false => none
theorem openG_ok {M N : Nat} {p : Program} {w : World} {s : Shared} (le : Nat.ble M N = true) (h : openG (stepT (denote treeTable) (opening p) w) M p = some s) : fencedOpening treeTable p w N = some s := by
  unfold openG at h
  obtain ⟨s0, h0, h1⟩ := Option.bind_eq_some_iff.mp h
  obtain ⟨s1, h2, h3⟩ := Option.bind_eq_some_iff.mp h1
  have e := impF_ok h2
  rw [toT_ok h0] at e
  have m := importEnds_mono (N - M) _ _ _ _ e
  rw [show M + (N - M) = N by have := Nat.le_of_ble_eq_true le; omega] at m
  unfold fencedOpening
  rw [m]
  exact h3
theorem topG_ok {M N : Nat} {p : Program} {w : World} {s₀ : Shared} {s : SharedT} (le : Nat.ble M N = true) (h : topG (stepT (denote treeTable) p w) M p s₀ = some s) (l : looksF p s₀.heap s.abs = true) : topFrom treeTable p w N s₀ = some s.abs := by
  unfold topG at h
  unfold topFrom
  cases e : (s₀.heap.isNs mainGlobals && s₀.gens.size == 0) with
  | false =>
    rw [e] at h
    cases h
  | true =>
    rw [e] at h
    have h1 : ((toT s₀).bind fun t => frS t fun t => goF (stepT (denote treeTable) p w) t.n (s₀.heap.nsMap mainGlobals "__annotations__") M t (topStub p)) = some s := h
    obtain ⟨t, h2, h3⟩ := Option.bind_eq_some_iff.mp h1
    rw [frS_eq] at h3
    have q := goF_ok h3
    have et := toT_ok h2
    have en : t.n = s₀.heap.objs.size := by
      rw [← et]
      exact (absHeap_size t.tree t.n t.life).symm
    rw [et, en] at q
    have r := topRun_mono (N - M) _ _ _ _ q
    rw [show M + (N - M) = N by have := Nat.le_of_ble_eq_true le; omega] at r
    show (topRun treeTable p w s₀.heap.objs.size (s₀.heap.nsMap mainGlobals "__annotations__") N s₀ (topStub p)).bind _ = _
    rw [r]
    show (match staticsOk (importedModules p.main.body) s₀.heap s.abs.heap && namesBound p s.abs.heap && gensDone s.abs && laidKept s₀.heap s.abs.heap with | true => some s.abs | false => none) = _
    have l' : (staticsOk (importedModules p.main.body) s₀.heap s.abs.heap && namesBound p s.abs.heap && gensDone s.abs && laidKept s₀.heap s.abs.heap) = true := l
    rw [l']
/-- the run's equation at a world -/
def RunEqG (r : OpenRow) (q : Program) (H : Hook) (ob : SharedT → H.α) (M1 M2 : Nat) (loose : List PySem.Str) (w : World) : Prop :=
  ((openG (stepQ (denQ tabQ) (opening r.prog) w) M1 r.prog).bind fun s₀ => (topG (stepQ (denQ tabQ) r.prog w) M2 r.prog s₀).map fun s => (looksF r.prog s₀.heap s.abs, seenQ q loose (importedModules r.prog.main.body) (fun s => xlAt q [] s && recOk r.toRowW.records s) s.abs, ob s)) = some (true, openGood q loose, H.val w)
theorem head_anyG {r : OpenRow} {q : Program} {H : Hook} {ob : SharedT → H.α} {M1 M2 : Nat} {loose : List PySem.Str} {d : DefRec} {kwd : List (PySem.Str × PySem.Expr)} (ho : ∀ s : SharedT, ob s = H.obs s.abs)
    (run : ∀ w, RunEqG r q H ob M1 M2 loose w)
    (hdef : defOf q r.name = some (d, kwd)) (hp : r.prog.theDef r.name = some (d.params, d.body, d.scope)) (hk : kwWritten? d.params.kwonlyargs d.params.kw_defaults = some kwd)
    (hwr : (!r.writes || r.records.isEmpty) = true) (k1 : r.wellSaid = true) (ok : (chainsOk q && opensWell r.prog && (frees r.toRowW && r.within.isEmpty)) = true) (hb : r.prog.bare) (hw : r.toRowW.promised)
    (call : WalkO q loose (XL q []) H.says r.toRowW d kwd fun f vs => PySem.call f vs) : r.Holds := by
  have left : LeftO r.prog q loose (fun s => xlAt q [] s && recOk r.toRowW.records s) H.obs H.val (M1 + M2) true := fun w => by
    have z := run w
    unfold RunEqG at z
    rw [← stepQ_eq, ← denQ_eq, ← tabQ_eq] at z
    obtain ⟨s₀, z1, z2⟩ := Option.bind_eq_some_iff.mp z
    obtain ⟨s, z3, z4⟩ := Option.map_eq_some_iff.mp z2
    obtain ⟨l1, l2, l3⟩ : _ ∧ _ ∧ _ := by simpa only [Prod.mk.injEq] using z4
    have a := openG_ok (N := M1 + M2) (Nat.ble_eq_true_of_le (by omega)) z1
    have t := topG_ok (N := M1 + M2) (Nat.ble_eq_true_of_le (by omega)) z3 l1
    unfold openEnds
    rw [a]
    show (topFrom treeTable r.prog w (M1 + M2) s₀).map _ = _
    rw [t]
    rw [← seenQ_eq] at l2
    rw [ho s] at l3
    exact congrArg some (Prod.ext l2 l3)
  exact holds_open (r := r) (q := q) (loose := loose) (XP := XL q []) (YP := H.says) (d := d) (kwd := kwd) left H.of H.keeps (fun s z => xl_of s (Bool.and_eq_true_iff.mp z).1) XL.keeps hdef hp hk (fun s z => recFacts_of (Bool.and_eq_true_iff.mp z).2) hwr k1 ok hb hw call
end GH
end

namespace Sx
open PySem PySem.Spec PyProof.Rows L2 PySem.Calls
/-! ### an own exception whose __init__ says super().__init__(x); self.f = x -/
def iA (fld : Str) (p1 p2 : Pos) : Arguments := { posonlyargs := [], args := [{ arg := "self", annotation := none, pos := p1 }, { arg := fld, annotation := none, pos := p2 }], vararg := none, kwonlyargs := [], kw_defaults := [], kwarg := none, defaults := [] }
def iB (fld : Str) (q1 q2 q3 q4 q5 q6 q7 q8 q9 q10 : Pos) : List Stmt :=
  [.Expr (.Call (.Attribute (.Call (.Name "super" q1) [] [] q2) "__init__" q3) [.Name fld q4] [] q5) q6, .Assign [.Attribute (.Name "self" q7) fld q8] (.Name fld q9) q10]
structure SupC (P : Program) (K : PySem.W.Frag) (C fI : Addr) (fld : Str) : Prop where
  o : OexC K C
  no : PySem.W.findIn K (.ref C) fld = some none
  si : PySem.W.ks_superIn K C C "__init__" = some (some (.builtin "ValueError.__init__"))
  sv : PySem.W.subIn K (.ref C) (.type "ValueError") = some true
  mr : PySem.W.mroIn K C (.ref C) = some true
  sup : PySem.W.nsIn K mainGlobals "super" = some none
  top : (P.main.scope.names.lookup ("super" : Str)).isSome = false
  opq : PySem.W.nsIn K cStatics "thirdparty.any" = some none
  fdb : (fld == ("__debug__" : Str)) = false
  fn : ∃ (oc : Value) (od : Option Addr) (qual : Str) (kV doc pm : Value) (an : Option Addr) (cda : Addr) (ct : Value) (osl : Array (Option Value)) (cc : Addr) (sc : Scope) (p1 p2 q1 q2 q3 q4 q5 q6 q7 q8 q9 q10 : Pos),
    K.lookup fI = some ⟨oc, od, .func (PySem.W.ksFn "__init__" qual (iA fld p1 p2) (iB fld q1 q2 q3 q4 q5 q6 q7 q8 q9 q10) sc .none kV doc pm an (.ref cda) ct cc), osl⟩ ∧ PySem.W.codeIn K (.ref cda) qual = true ∧
    (∃ cl cld csl, K.lookup cc = some ⟨cl, cld, .cell (some (.ref C)), csl⟩) ∧
    (∃ ccl cdd vs ccs file tf, K.lookup cda = some ⟨ccl, cdd, .fields vs, ccs⟩ ∧ vs[2]? = some (.str file tf) ∧ ((P.main.file : Str) == file) = true) ∧
    sc.names.lookup ("super" : Str) = some .globalImplicit ∧ sc.names.lookup ("__class__" : Str) = some .free ∧ sc.names.lookup ("self" : Str) = some .local ∧ sc.names.lookup fld = some .local ∧ ((fld == ("self" : Str)) = false) ∧
    sc.kind = .function ∧ sc.isCoroutine = false ∧ sc.isGenerator = false ∧ (∀ x ∈ sc.names, x.2 ≠ .cell) ∧
    (∀ u1 u2 : Value, bindArgs (PySem.W.ksFn "__init__" qual (iA fld p1 p2) (iB fld q1 q2 q3 q4 q5 q6 q7 q8 q9 q10) sc .none kV doc pm an (.ref cda) ct cc) ⟨[u1, u2], []⟩ = pure [(("self" : Str), u1), (fld, u2)]) ∧
    ∃ pl : Sem Bool, ∀ env : Env, eval (.Call (.Attribute (.Call (.Name "super" q1) [] [] q2) "__init__" q3) [.Name fld q4] [] q5) env = (do
      let ov ← attributeBase (.Call (.Name "super" q1) [] [] q2) "__init__" env (eval (.Call (.Name "super" q1) [] [] q2) env)
      standAt q3.atName
      let (f, first) ← holding [ov] (getMethod ov "__init__" pl)
      callWith q5 f first (backTo q5 (starEach [.Name fld q4] env)) [])
/-- its promise -/
def spExcI (C : Addr) (fld : Str) : Sp := fun vs H Q _ => ∃ (a : Addr) (v : V), vs = [.ref a, v] ∧ H a = some (exo a C none) ∧ ∀ dx, H dx = none → dx ≠ a → Q .non (upd (upd H dx (exd dx [(fld, v)])) a (exo a C (some dx)))
theorem fn_sup {P : Program} {w : World} {K : PySem.W.Frag} {mg : Str → Option Value} {base : Heap} {CX : CXT} {C fI : Addr} {fld : Str} (T : SupC P K C fI fld) : FnR P w K mg base CX 2 fI (spExcI C fld) := by
  intro A outer s H us vs Q E hr e0 r hsp
  obtain ⟨x, v, ev, ea, hq⟩ := hsp
  subst ev
  obtain ⟨u1, u, eu, r1, ru⟩ := vals2 r
  subst eu
  obtain rfl : u1 = Value.ref x := r1
  obtain ⟨oc, od, qual, kV, doc, pm, an, cda, ct, osl, cc, sc, p1, p2, q1, q2, q3, q4, q5, q6, q7, q8, q9, q10, lk, hcd, ⟨cl, cld, csl, hcell⟩, ⟨ccl, cdd, cvs, ccs, file, tf, hcode, hvs, hfile⟩, hks, hkc, hkself, hkf, hfs, hk, hco, hgen, hnc, hbind, pl, hev⟩ := T.fn
  obtain ⟨nm, q, N, bs, bm, sn, sub, ab, col, dd, k0, k1, k2, k3, k5, hC, hbm⟩ := T.o.cls
  have KX : K.In s.heap := e0.mod.kin.keeps fun b o e => (e0.bs b o e).1
  have lim : s.heap.NoLimit := e0.mod.nolimit.keeps fun b o e => (e0.bs b o e).1
  have hcl : PySem.W.clsIn K C = some { name := nm, bases := bs, mro := .ref C :: bm, ns := N, qualname := q, hasDict := true, slotNames := sn, subclasses := sub, abstract := ab, collection := col, hasDel := false } := by unfold PySem.W.clsIn; rw [hC] <;> rfl
  obtain ⟨t1, hx⟩ := exo_at e0.hok ea
  have hxs : x < s.heap.objs.size := Heap.lt_size hx
  have hne : ¬ (("self" : Str) = fld) := fun z => by rw [← z] at hfs; simp at hfs
  refine ks_codeAny_call_defAt (fd := PySem.W.ksFn "__init__" qual (iA fld p1 p2) (iB fld q1 q2 q3 q4 q5 q6 q7 q8 q9 q10) sc .none kV doc pm an (.ref cda) ct cc) (body := iB fld q1 q2 q3 q4 q5 q6 q7 q8 q9 q10) (binds := [(("self" : Str), .ref x), (fld, u)])
    hr.depth (KX _ _ lk) rfl lim (PySem.W.codeRec_of KX hcd) rfl (BindsTo.of_eq (hbind _ _)) hnc (fun y hy => ?_) (fun h₁ hns hk₁ => ?_) hco hgen hk
  · rcases List.mem_cons.mp hy with rfl | hy
    · exact hkself
    · rcases List.mem_cons.mp hy with rfl | hy
      · exact hkf
      · cases hy
  · show PySem.wpAt (model P w) (A.deeper (PySem.W.ksEnv qual sc s.heap.objs.size fI (.ref cda) cc)) (.func (iB fld q1 q2 q3 q4 q5 q6 q7 q8 q9 q10) (PySem.W.ksEnv qual sc s.heap.objs.size fI (.ref cda) cc))
      (execs (iB fld q1 q2 q3 q4 q5 q6 q7 q8 q9 q10) (PySem.W.ksEnv qual sc s.heap.objs.size fI (.ref cda) cc)) _ _ _
    have X1 : K.In h₁ := KX.keeps hk₁
    have mgs : mg "super" = none := PySem.W.mg_none_of e0.mod.kin e0.mod.glob T.sup
    obtain ⟨mb, hmb, hbb⟩ := e0.mod.blt
    have kb : ∀ b o, base.get? b = some o → h₁.get? b = some o := fun b o e => hk₁ b o (e0.bs b o e).1
    have lself : ([(("self" : Str), Value.ref x), (fld, u)] : List (Str × Value)).reverse.lookup ("self" : Str) = some (Value.ref x) := by
      show List.lookup ("self" : Str) [(fld, u), (("self" : Str), Value.ref x)] = _
      have e : ((("self" : Str)) == fld) = false := by simpa using hne
      simp [List.lookup, e]
    have lfld : ([(("self" : Str), Value.ref x), (fld, u)] : List (Str × Value)).reverse.lookup fld = some u := by
      show List.lookup fld [(fld, u), (("self" : Str), Value.ref x)] = _
      simp [List.lookup]
    refine ks_wpAt_execs_cons (ks_wpAt_Expr_any (ks_wpAt_MethodCall (pl := pl) ?_ (hev _)) (by simp [interactive, hk]))
    refine ks_wpAt_super_base (f := fI) (cc := cda) hks hkc (by decide +kernel) rfl (hk₁ _ _ (KX _ _ lk)) rfl rfl rfl (hk₁ _ _ (KX _ _ hcode)) rfl hvs hfile T.top ?_
    refine PySem.W.ks_loadName_global hk hks (loadGlobal_builtin (env := PySem.W.ksEnv qual sc s.heap.objs.size fI (.ref cda) cc) (e0.mod.glob.keeps kb) mgs (hmb.keeps kb) ((hbb _ (by decide +kernel)).trans (by first | boot_by_name | rfl | kernel_rfl)) ⟨rfl, ?_⟩)
    refine wpAny_loadName_free hk hkc rfl ⟨_, X1 _ _ hcell, rfl⟩ ?_
    refine wpAny_loadName_local hk hkself hns lself ?_
    have hD1 : h₁.get? C = some _ := X1 _ _ hC
    have hx1 := hk₁ _ _ hx
    have I1 : PySem.W.InstAt h₁ x _ C none := ⟨hx1, rfl, rfl, trivial⟩
    refine ks_wpAny_isType_cls hD1 rfl ⟨rfl, ?_⟩
    refine ks_wpAny_call_super hD1 rfl hx1 rfl (fun c e => by cases e) (PySem.W.looks_mroIn X1 T.mr) (fun h₂ hso k₂ => ?_)
    have X2 : K.In h₂ := X1.keeps k₂
    have hx2 := k₂ _ _ hx1
    have I2 : PySem.W.InstAt h₂ x _ C none := ⟨hx2, rfl, rfl, trivial⟩
    have hI : PySem.W.Looks (model P w) h₂ (isInstance (.ref x) (.type "ValueError")) true := I2.type.andThen (PySem.W.looks_subIn X2 T.sv)
    have hsi : PySem.W.alongIn K "__init__" ((((.ref C :: bm : List Value)).dropWhile (· != .ref C)).drop 1) = some (some (.builtin "ValueError.__init__")) := by
      have z := T.si
      unfold PySem.W.ks_superIn at z
      rw [hcl] at z
      exact z
    refine PySem.W.kxs_getMethod PySem.W.kxs_ValueError hso (PySem.W.looks_opaque X2 T.opq) (l₀ := .ref C :: bm) (fun A Q E s k q => wpAny_bind ((PySem.W.looks_clsIn X2 hcl) A _ E s k (wpAny_pure q))) rfl X2 hsi hI (PySem.W.ks_ne X2 I2 hcl) (by decide +kernel) ?_
    have k₃ : ∀ b o, h₂.get? b = some o → (h₂.push (PySem.W.kxs_mw "ValueError.__init__" x)).get? b = some o := fun b o e => Heap.get?_push_of_some _ e
    have hu3 : (h₂.push (PySem.W.kxs_mw "ValueError.__init__" x)).get? h₂.objs.size = some (PySem.W.kxs_mw "ValueError.__init__" x) := Heap.get?_push_size _ rfl
    have ns3 : (h₂.push (PySem.W.kxs_mw "ValueError.__init__" x)).Ns s.heap.objs.size (fun y => ([(("self" : Str), Value.ref x), (fld, u)] : List (Str × Value)).reverse.lookup y) := hns.keeps fun b o e => k₃ b o (k₂ b o e)
    refine PySem.W.kxs_callWith (i := "ValueError.__init__") (x := x) rfl (evalArgs_plain (Calls.spliced_cons (wpAny_Name (wpAny_loadName_local hk hkf ns3 lfld (Calls.spliced_nil ⟨hu3, ?_⟩)) T.fdb)))
    have X3 : K.In (h₂.push (PySem.W.kxs_mw "ValueError.__init__" x)) := X2.keeps k₃
    have hx3 := k₃ _ _ hx2
    have hC3 := X3 _ _ hC
    show wpAny (model P w) _ (call (.ref h₂.objs.size) [u]) _ _ _
    refine wpAny_call (codeAny_of_tree ?_)
    show wpAny _ _ (callAny (.ref h₂.objs.size) ⟨[u], []⟩) _ _ _
    simp only [callAny]
    refine wpAny_bind (wpAny_load hu3 ?_)
    simp only [PySem.W.kxs_mw, show (Value.type "method-wrapper" == Value.type "method" || Value.type "method-wrapper" == Value.type "builtin_function_or_method" || Value.type "method-wrapper" == Value.type "method-wrapper") = true by decide, if_true]
    refine PySem.W.KFB.if_so (by decide) ?_
    refine wpAny_bind (PySem.W.check_bound_init PySem.F.excBase_ValueError.toExcCallFacts hC3 hx3 rfl ?_)
    refine wpAny_bind (wpAny_pure (wpAny_pure ?_))
    refine ⟨plainId_quiet PySem.F.excBase_ValueError.init.plain _, codeAny_builtin PySem.F.excBase_ValueError.initEntry ?_⟩
    refine PySem.W.exc_init_tree (cls := .ref C) (t0 := t1) (dv := none) (c2 := .none) (c3 := .none) (b4 := .bool false) hx3 (by show 1 ≤ sizeLine; rw [sizeLine_eq]; decide) (fun h₄ k₄ hx4 _ => ?_)
    have nxL : s.heap.objs.size ≠ x := Nat.ne_of_gt hxs
    have X4 : K.In h₄ := fun b o e => k₄ b o (fun z => by
      have y := X3 _ _ e
      rw [z, hx3] at y
      have y2 := e0.mod.kin b o e
      have y3 := (e0.bs b o y2).2
      rw [z, ea] at y3
      cases y3) (X3 b o e)
    have ns4 : h₄.Ns s.heap.objs.size (fun y => ([(("self" : Str), Value.ref x), (fld, u)] : List (Str × Value)).reverse.lookup y) := by
      obtain ⟨o, es, ep, ho, rr⟩ := ns3
      exact ⟨o, es, ep, k₄ _ _ nxL ho, rr⟩
    show PySem.wpAt _ _ _ (execs [.Assign [.Attribute (.Name "self" q7) fld q8] (.Name fld q9) q10] _) _ _ _
    refine ks_wpAt_execs_cons (ks_wpAt_Assign_Attr (wpAt_of_wpAny (wpAny_Name (wpAny_loadName_local hk hkf ns4 lfld ?_) T.fdb)))
    refine wpAny_Name (wpAny_loadName_local hk hkself ns4 lself ?_) (by decide +kernel)
    refine PySem.W.set_plain X4 (ox := HandSPX.excO C _) (od := none) ⟨hx4, rfl, rfl, trivial⟩ T.o.sa ?_
    refine HandSPX.exc_osa X4 hx4 hcl (show HandSPX.refsVE (.ref C :: bm) = true from hbm) rfl T.no (fun h₅ tk₅ dx k₅ dn dne hx5 hn5 => ?_)
    refine wpAt_of_wpAny (wpAny_execs_nil ?_)
    have kk : ∀ b o, b ≠ x → s.heap.get? b = some o → h₅.get? b = some o := fun b o hb e => k₅ b o hb (k₄ b o hb (k₃ b o (k₂ b o (hk₁ b o e))))
    have dns : s.heap.objs.size ≤ dx := by
      obtain ⟨o, es, ep, ho, rr⟩ := ns4
      exact Nat.le_trans (Nat.le_of_lt (Heap.lt_size ho)) dn
    have hnd : H dx = none := e0.hok.fresh dns
    have nd : ∀ {b : Addr} {o : Obj}, s.heap.get? b = some o → b ≠ dx := fun {b o} q => Nat.ne_of_lt (Nat.lt_of_lt_of_le (Heap.lt_size q) dns)
    have na : ∀ {b : Addr}, H b = none → b ≠ x := fun {b} n z => by
      rw [z, ea] at n
      cases n
    have Un1 : Un (frs outer) [] H (upd (upd H dx (exd dx [(fld, v)])) x (exo x C (some dx))) s.heap h₅ := {
      keep := fun b o q n _ _ => kk b o (na n) q
      slot := fun b o q n _ _ => ⟨o.slots, kk b o (na n) q⟩
      free := fun b o q n _ => by rw [upd_ne (na n), upd_ne (nd q)]; exact n
      there := fun b o q _ => by
        by_cases hb : b = x
        · exact ⟨_, by rw [hb]; exact hx5⟩
        · exact ⟨o, kk b o hb q⟩
      tups := fun b xs q => by rw [upd_ne (at_ne ea q exo_tup), upd_ne (ne_of_none q hnd)]; exact q
      frzs := fun b o v q => by rw [upd_ne (at_ne ea q exo_frz), upd_ne (ne_of_none q hnd)]; exact q
      tbls := fun b ps q => ⟨#[], by rw [upd_ne (at_ne ea q exo_tbl), upd_ne (ne_of_none q hnd), q]; simp⟩ }
    refine ⟨.non, _, rfl, e0.bare, Un1, fun b o q => ?_, rfl, hq dx hnd dne⟩
    by_cases hb : b = x
    · subst hb
      rw [upd_same] at q
      cases q
      exact exo_ok hx5
    · rw [upd_ne hb] at q
      by_cases hd : b = dx
      · subst hd
        rw [upd_same] at q
        cases q
        exact exd_ok hn5 (relO_put (fs := []) ru fun g => True.intro)
      · rw [upd_ne hd] at q
        exact (e0.hok b o q).stay (fun c v hc z => kk c v (by
            rcases hc with hc | hc
            · rw [hc]
              exact hb
            · exact at_ne ea hc exo_own) z)
          (fun c hc => by rw [upd_ne (at_ne ea hc exo_own), upd_ne (ne_of_none hc hnd)]; exact hc) (fun c xs hc => by rw [upd_ne (at_ne ea hc exo_tup), upd_ne (ne_of_none hc hnd)]; exact hc)
end Sx

namespace Sx
open PySem PySem.Spec PyProof.Rows L2
/-! ### calls by a positional promise, what is raised wished for at the slots -/
section
variable {X : Cx} {pins : List (Addr × Obj)} {σ : L2.St} {H : Hp} {s : Shared} {k : Nat} {f C : Addr} {sp : Sp} {W : WX} {x m : Str} {p pos apos : Pos} {e o : Expr} {es : List Expr} {ta : TE} {t : TA} {pl : Sem Bool}
/-- what a def lets out: E, at any slots -/
abbrev wx (E : XK) : WX := fun cls d _ H => E cls d H
abbrev wn : WX := fun _ _ _ _ => False
theorem run_fnW {Q : VK} {us : List Value} {vs : List V} (F : FnR X.prog X.w X.K X.mg X.base (L2.CX X.prog X.w) k f sp) (hr : Room k X.A) (tk : Takes X W) (I : Inv X pins σ H s) (r : Vals vs us) (h : sp vs H Q (WE W σ)) :
    codeAny (model X.prog X.w) X.A (.call (.ref f) ⟨us, []⟩) (fun r s' => match r with | .ok (.ret v) => EP X pins σ Q v s' | .ok _ => False | .error e => X.xe e s') s := by
  refine codeAny_mono (F X.A X.stack s H us vs Q (WE W σ) hr I.env0 r h) fun r s' hq => ?_
  cases r with
  | error e => exact passAt tk σ pins H s e s' I hq
  | ok fl =>
    cases fl with
    | ret u => exact I.after hq
    | next => exact False.elim hq
    | brk => exact False.elim hq
    | cont => exact False.elim hq
def tCallW (sp : Sp) (W : WX) (t : TA) : TE := fun σ H Q => t σ H fun vs H1 => sp vs H1 Q (WE W σ)
theorem pe_fnW (F : FnR X.prog X.w X.K X.mg X.base (L2.CX X.prog X.w) k f sp) (hr : Room k X.A) (hg : Gl X x) (hm : X.mg x = some (.ref f)) (hk : PySem.W.keepIn X.K (.ref f) = true) (tk : Takes X W)
    (ha : PA X (e :: es) t) (hdb : (x == ("__debug__" : Str)) = false := by decide) (he : starEach (e :: es) X.env = (false, eval e X.env) :: starEach es X.env := by rfl) (hpl : (backTo pos (starEach es X.env)).any (·.1) = false := by rfl) :
    PE X (.Call (.Name x p) (e :: es) [] pos) (tCallW sp W t) := by
  refine ⟨fun pins s σ H Q I h => ?_⟩
  refine wpAny_Call_Name_kw (ld_glob I hg hm ?_ hdb)
  refine PySem.W.callWith_K (h₀ := X.base) I.ok.mod.kin hk (thn (ha.run pos pins s σ H _ I h) fun us s1 ⟨vs, H1, I1, r, q⟩ => ⟨I1.kIn, ?_⟩) he hpl
  exact wpAny_call (run_fnW F hr tk I1 r q)
theorem pe_fnW0 (F : FnR X.prog X.w X.K X.mg X.base (L2.CX X.prog X.w) k f sp) (hr : Room k X.A) (hg : Gl X x) (hm : X.mg x = some (.ref f)) (hk : PySem.W.keepIn X.K (.ref f) = true) (tk : Takes X W)
    (hdb : (x == ("__debug__" : Str)) = false := by decide) : PE X (.Call (.Name x p) [] [] pos) (tCallW sp W tNil) := by
  refine ⟨fun pins s σ H Q I h => ?_⟩
  refine wpAny_Call_Name_kw (ld_glob I hg hm ?_ hdb)
  exact PySem.W.callWith_K0 I.kIn hk (wpAny_call (run_fnW (us := []) (vs := []) F hr tk I .nil h))
def tMethW (C : Addr) (m : Str) (sp : Sp) (W : WX) (ta : TE) (t : TA) : TE := fun σ H Q => ta σ H fun x H1 => ∃ a dx fs, x = .ref a ∧ H1 a = some (.ins C dx fs) ∧ fs.lookup m = none ∧ t σ H1 fun vs H2 => sp (x :: vs) H2 Q (WE W σ)
theorem pe_meW (he : PE X o ta) (c : Cls X.K C) (hm : Meth X.K C m f) (F : FnR X.prog X.w X.K X.mg X.base (L2.CX X.prog X.w) k f sp) (hr : Room k X.A) (tk : Takes X W) (ha : PA X (e :: es) t)
    (hst : starEach (e :: es) X.env = (false, eval e X.env) :: starEach es X.env := by rfl) (hpl : (backTo pos (starEach es X.env)).any (·.1) = false := by rfl)
    (ht : eval (.Call (.Attribute o m apos) (e :: es) [] pos) X.env = (do
      let ov ← eval o X.env
      standAt apos.atName
      let (f, first) ← holding [ov] (getMethod ov m pl)
      callWith pos f first (backTo pos (starEach (e :: es) X.env)) (backToKw pos (keywordEach [] X.env))) := by rfl) :
    PE X (.Call (.Attribute o m apos) (e :: es) [] pos) (tMethW C m sp W ta t) := by
  refine ⟨fun pins s σ H Q I h => ?_⟩
  refine PySem.W.methodCall_KW (pl := pl) (thn (he.run pins s σ H _ I h) fun u s1 ⟨x, H1, I1, rx, a, dx, fs, ex, ea, l, q⟩ => ?_) ht
  subst ex
  obtain rfl : u = Value.ref a := rx
  refine getmeth_ok I1 ea c hm l ?_
  refine PySem.W.callWith_K (first := [.ref a]) (h₀ := X.base) I.ok.mod.kin hm.kp (thn (ha.run pos pins s1 σ H1 _ I1 q) fun us s2 ⟨vs, H2, I2, r, q2⟩ => ⟨I2.kIn, ?_⟩) hst hpl
  exact wpAny_call (run_fnW (us := .ref a :: us) (vs := .ref a :: vs) F hr tk I2 (.cons rfl r) q2)
theorem pe_meW0 (he : PE X o ta) (c : Cls X.K C) (hm : Meth X.K C m f) (F : FnR X.prog X.w X.K X.mg X.base (L2.CX X.prog X.w) k f sp) (hr : Room k X.A) (tk : Takes X W)
    (ht : eval (.Call (.Attribute o m apos) [] [] pos) X.env = (do
      let ov ← eval o X.env
      standAt apos.atName
      let (f, first) ← holding [ov] (getMethod ov m pl)
      callWith pos f first (backTo pos (starEach [] X.env)) (backToKw pos (keywordEach [] X.env))) := by rfl) :
    PE X (.Call (.Attribute o m apos) [] [] pos) (tMethW C m sp W ta tNil) := by
  refine ⟨fun pins s σ H Q I h => ?_⟩
  refine PySem.W.methodCall_KW (pl := pl) (thn (he.run pins s σ H _ I h) fun u s1 ⟨x, H1, I1, rx, a, dx, fs, ex, ea, l, q⟩ => ?_) ht
  subst ex
  obtain rfl : u = Value.ref a := rx
  refine getmeth_ok I1 ea c hm l ?_
  exact PySem.W.callWith_K0 (first := [.ref a]) I1.kIn hm.kp (wpAny_call (run_fnW (us := [.ref a]) (vs := [.ref a]) F hr tk I1 (.cons rfl .nil) q))
/-- C(..): a new instance and its dict, then __init__ -/
def tMakeW (C : Addr) (sp : Sp) (W : WX) (t : TA) : TE := fun σ H Q => t σ H fun vs H1 => ∀ x dx, H1 x = none → H1 dx = none → dx ≠ x →
  sp (.ref x :: vs) (upd (upd H1 dx (.own x)) x (.ins C dx [])) (fun v H2 => v = .non ∧ Q (.ref x) H2) (WE W σ)
theorem run_makeW {Q : VK} {us : List Value} {vs : List V} (M : Mk X.K C f) (F : FnR X.prog X.w X.K X.mg X.base (L2.CX X.prog X.w) k f sp) (hr : Room (k + 1) X.A) (tk : Takes X W) (I : Inv X pins σ H s) (r : Vals vs us)
    (h : ∀ x dx, H x = none → H dx = none → dx ≠ x → sp (.ref x :: vs) (upd (upd H dx (.own x)) x (.ins C dx [])) (fun v H2 => v = .non ∧ Q (.ref x) H2) (WE W σ)) :
    wpAny (model X.prog X.w) X.A (call (.ref C) us) (EP X pins σ Q) X.xe s := by
  have hq := h (s.heap.objs.size + 1) s.heap.objs.size (I.hok.fresh (Nat.le_succ _)) (I.hok.fresh (Nat.le_refl _)) (Nat.ne_of_lt (Nat.lt_succ_self _))
  have I2 := Inv.made (C := C) I
  have r2 : Vals (V.ref (s.heap.objs.size + 1) :: vs) (Value.ref (s.heap.objs.size + 1) :: us) := .cons rfl r
  refine wpAny_call (make_map (f := f) I.kIn M.makes M.init (beq_iff_eq.mp M.fn) (codeAny_mono (F _ X.stack _ _ (Value.ref (s.heap.objs.size + 1) :: us) _ _ (WE W σ) (hr.make C us []) (I2.env0.make C us []) r2 hq) fun r s' hq' => ?_))
  cases r with
  | error e => exact passAt tk σ pins _ _ e s' I2 hq'
  | ok fl =>
    cases fl with
    | ret u =>
      obtain ⟨v, H', I3, rv, ev, q3⟩ := I2.after hq'
      subst ev
      exact ⟨rv, ⟨V.ref (s.heap.objs.size + 1), H', I3, rfl, q3⟩⟩
    | next => exact False.elim hq'
    | brk => exact False.elim hq'
    | cont => exact False.elim hq'
theorem pe_mkW (M : Mk X.K C f) (F : FnR X.prog X.w X.K X.mg X.base (L2.CX X.prog X.w) k f sp) (hr : Room (k + 1) X.A) (hg : Gl X x) (hm : X.mg x = some (.ref C)) (tk : Takes X W)
    (ha : PA X (e :: es) t) (hdb : (x == ("__debug__" : Str)) = false := by decide) (he : starEach (e :: es) X.env = (false, eval e X.env) :: starEach es X.env := by rfl) (hpl : (backTo pos (starEach es X.env)).any (·.1) = false := by rfl) :
    PE X (.Call (.Name x p) (e :: es) [] pos) (tMakeW C sp W t) := by
  refine ⟨fun pins s σ H Q I h => ?_⟩
  refine wpAny_Call_Name_kw (ld_glob I hg hm ?_ hdb)
  refine PySem.W.callWith_K (h₀ := X.base) I.ok.mod.kin M.kp (thn (ha.run pos pins s σ H _ I h) fun us s1 ⟨vs, H1, I1, r, q⟩ => ⟨I1.kIn, ?_⟩) he hpl
  exact run_makeW M F hr tk I1 r q
theorem pe_mkW0 (M : Mk X.K C f) (F : FnR X.prog X.w X.K X.mg X.base (L2.CX X.prog X.w) k f sp) (hr : Room (k + 1) X.A) (hg : Gl X x) (hm : X.mg x = some (.ref C)) (tk : Takes X W)
    (hdb : (x == ("__debug__" : Str)) = false := by decide) : PE X (.Call (.Name x p) [] [] pos) (tMakeW C sp W tNil) := by
  refine ⟨fun pins s σ H Q I h => ?_⟩
  refine wpAny_Call_Name_kw (ld_glob I hg hm ?_ hdb)
  exact PySem.W.callWith_K0 I.kIn M.kp (run_makeW (us := []) M F hr tk I .nil h)
end
/-! ### an exception of an own class made, its __init__ by a positional promise -/
section
variable {X : Cx} {e : Expr} {es : List Expr} {ta : TA} {p pos : Pos}
def tMkE (C : Addr) (fld : Str) (ta : TA) : L2.St → Hp → XK → Prop := fun σ H Q => ta σ H fun vs H1 => ∃ v, vs = [v] ∧ ∀ d, H1 d = none → Q (.ref C) (some d) (upd H1 d (.xd [(fld, v)]))
theorem del_upd_eq {H1 : Hp} {a d C : Addr} {o1 o2 o3 : HO} (hda : d ≠ a) (hn : H1 a = none) : upd (del (upd (upd (upd H1 a o1) d o2) a o3) a) d (.xd []) = upd H1 d (.xd []) := by
  funext b
  by_cases hb : b = d
  · rw [hb, upd_same, upd_same]
  · rw [upd_ne hb, upd_ne hb]
    by_cases ha : b = a
    · rw [ha, del_same, hn]
    · rw [del_ne ha, upd_ne ha, upd_ne hb, upd_ne ha]
theorem pmk_sup {P : Program} {x fld : Str} {C fI : Addr} (hP : X.prog = P) (T : SupC P X.K C fI fld) (iC : PySem.W.findIn X.K (.ref C) "__init__" = some (some (.ref fI))) (tI : PySem.W.typeIn X.K (.ref fI) = some (.type "function"))
    (hr : Room 3 X.A) (hg : Gl X x) (hm : X.mg x = some (.ref C)) (ha : PA X (e :: es) ta)
    (hdb : (x == ("__debug__" : Str)) = false := by decide) (he : starEach (e :: es) X.env = (false, eval e X.env) :: starEach es X.env := by rfl) (hpl : (backTo pos (starEach es X.env)).any (·.1) = false := by rfl) :
    PMk X (.Call (.Name x p) (e :: es) [] pos) (tMkE C fld ta) := by
  subst hP
  have F1 : FnR X.prog X.w X.K X.mg X.base (L2.CX X.prog X.w) 2 fI (spExcI C fld) := fn_sup T
  intro pins s σ H Q I h
  obtain ⟨nm, q, N, bs, bm, sn, sub, ab, col, dd, k0, k1, k2, k3, k5, hC, hbm⟩ := T.o.cls
  refine wpAny_Call_Name_kw (ld_glob I hg hm ?_ hdb)
  refine PySem.W.callWith_K (h₀ := X.base) I.ok.mod.kin T.o.kC (thn (ha.run pos pins s σ H _ I h) fun us s1 ⟨vs, H1, I1, r1, v, ev, q1⟩ => ⟨I1.kIn, ?_⟩) he hpl
  subst ev
  show wpAny _ _ (call (.ref C) us) _ _ _
  obtain ⟨hp, g, dr, tk, os⟩ := s1
  have hsz : hp.objs.size ≤ hp.objs.size + 1 := Nat.le_succ _
  have hn : H1 (hp.objs.size + 1) = none := I1.hok.fresh hsz
  have kk : ∀ b o, hp.get? b = some o → ((hp.push (PySem.W.kdv_tup us)).push (PySem.HandSPX.excO C hp.objs.size)).get? b = some o := fun b o e => Heap.get?_push_of_some _ (Heap.get?_push_of_some _ e)
  have hget : ((hp.push (PySem.W.kdv_tup us)).push (PySem.HandSPX.excO C hp.objs.size)).get? (hp.objs.size + 1) = some (PySem.HandSPX.excO C hp.objs.size) := by heap_get
  have I2 : Inv X pins σ (upd H1 (hp.objs.size + 1) (exo (hp.objs.size + 1) C none)) ⟨(hp.push (PySem.W.kdv_tup us)).push (PySem.HandSPX.excO C hp.objs.size), g, dr, tk, os⟩ :=
    I1.laid (t' := tk) (a := hp.objs.size + 1) (o := exo (hp.objs.size + 1) C none) (h' := (hp.push (PySem.W.kdv_tup us)).push (PySem.HandSPX.excO C hp.objs.size)) kk hsz (exo_ok hget)
  have r2 : Vals [V.ref (hp.objs.size + 1), v] (Value.ref (hp.objs.size + 1) :: us) := .cons rfl r1
  have hus : us.length ≤ sizeLine := by
    rw [← Paired.length r1, sizeLine_eq]
    exact (by decide : 1 ≤ 16777216)
  have hsp : spExcI C fld [V.ref (hp.objs.size + 1), v] (upd H1 (hp.objs.size + 1) (exo (hp.objs.size + 1) C none)) (fun v' H2 => v' = .non ∧ ∃ d, H2 = upd (upd (upd H1 (hp.objs.size + 1) (exo (hp.objs.size + 1) C none)) d (exd d [(fld, v)])) (hp.objs.size + 1) (exo (hp.objs.size + 1) C (some d)) ∧ H1 d = none ∧ d ≠ hp.objs.size + 1) (fun _ _ _ => False) :=
    ⟨_, v, rfl, upd_same, fun dx hdx hne => ⟨rfl, dx, rfl, by rw [upd_ne hne] at hdx; exact hdx, hne⟩⟩
  refine wpAny_call (PySem.HandSPX.call_own F.excBase_ValueError (fun Y => PySem.HandSPX.refsVE_contains Y bm hbm) (I1.kIn _ _ hC) (PySem.W.looks_findIn I1.kIn iC) (fun self => PySem.W.bind_fn I1.kIn self tI) hus
    (codeAny_mono (F1 _ X.stack _ _ (Value.ref (hp.objs.size + 1) :: us) _ _ (fun _ _ _ => False) (hr.make C us []) (I2.env0.make C us []) r2 hsp) fun r s' hq' => ?_))
  cases r with
  | error er =>
    obtain ⟨_, _, _, _, _, _, _, _, _, _, _, _, z⟩ := hq'
    exact z.elim
  | ok fl =>
    cases fl with
    | ret u =>
      obtain ⟨v', H2, os2, bare2, un2, hok2, rv, ev, d, eH, hd1, hda⟩ := hq'
      subst ev
      subst eH
      obtain ⟨h2, g2, d2, t2, os'⟩ := s'
      refine ⟨rv, mk_end (d := d) (fs := [(fld, v)]) (raises_own T.o.exC T.o.tyC) I1 hsz kk un2 hok2 os2 bare2 upd_same (by rw [upd_ne hda, upd_same]) hd1 ?_⟩
      have e : upd (del (upd (upd (upd H1 (hp.objs.size + 1) (exo (hp.objs.size + 1) C none)) d (exd d [(fld, v)])) (hp.objs.size + 1) (exo (hp.objs.size + 1) C (some d))) (hp.objs.size + 1)) d (.xd [(fld, v)]) = upd H1 d (.xd [(fld, v)]) := by
        funext b
        by_cases hb : b = d
        · rw [hb, upd_same, upd_same]
        · rw [upd_ne hb, upd_ne hb]
          by_cases ha : b = hp.objs.size + 1
          · rw [ha, del_same, hn]
          · rw [del_ne ha, upd_ne ha, upd_ne hb, upd_ne ha]
      rw [e]
      exact q1 d hd1
    | next => exact False.elim hq'
    | brk => exact False.elim hq'
    | cont => exact False.elim hq'
end
end Sx

namespace Sx
open PySem PySem.Spec PyProof.Rows L2
/-! ### data -/
inductive D where
  | non | bl (b : Bool) | int (i : Int) | str (x : Str) | tup (ds : List D) | lst (ds : List D) | ins (C : Str) (fs : List (Str × D)) | dic
mutual
/-- the value v is, in the heap H, the data d -/
inductive Is (K : PySem.W.Frag) (H : Hp) : V → D → Prop where
  | non : Is K H .non .non
  | bl (b : Bool) : Is K H (.bl b) (.bl b)
  | int (i : Int) : Is K H (.int i) (.int i)
  | str (x : Str) : Is K H (.str x) (.str x)
  | tup {a : Addr} {xs : List V} {ds : List D} (h : SqT K H a xs) (hs : IsL K H xs ds) : Is K H (.ref a) (.tup ds)
  | lst {a : Addr} {xs : List V} {ds : List D} (h : SqL K H a xs) (hs : IsL K H xs ds) : Is K H (.ref a) (.lst ds)
  | ins {a dx : Addr} {C : Str} {fs : List (Str × V)} {gs : List (Str × D)} (h : H a = some (.ins (He.ga K C) dx fs)) (hs : IsF K H fs gs) : Is K H (.ref a) (.ins C gs)
  | dic {a : Addr} (h : H a = some (.dK [])) : Is K H (.ref a) .dic
inductive IsL (K : PySem.W.Frag) (H : Hp) : List V → List D → Prop where
  | nil : IsL K H [] []
  | cons {v : V} {d : D} {vs : List V} {ds : List D} (h : Is K H v d) (hs : IsL K H vs ds) : IsL K H (v :: vs) (d :: ds)
inductive IsF (K : PySem.W.Frag) (H : Hp) : List (Str × V) → List (Str × D) → Prop where
  | nil : IsF K H [] []
  | cons {f : Str} {v : V} {d : D} {fs : List (Str × V)} {gs : List (Str × D)} (h : Is K H v d) (hs : IsF K H fs gs) : IsF K H ((f, v) :: fs) ((f, d) :: gs)
end
theorem Same.seqT {K : PySem.W.Frag} {H H' : Hp} {a : Addr} {xs : List V} (e : Same H H') (h : SqT K H a xs) : SqT K H' a xs := by
  rcases h with (h | ⟨o, h⟩) | h
  · exact .inl (.inl (e _ _ h))
  · exact .inl (.inr ⟨o, e _ _ h⟩)
  · exact .inr h
section
variable {K : PySem.W.Frag} {H H' : Hp}
mutual
theorem Is.mono (e : Same H H') : ∀ {v : V} {d : D}, Is K H v d → Is K H' v d
  | _, _, .non => .non
  | _, _, .bl b => .bl b
  | _, _, .int i => .int i
  | _, _, .str x => .str x
  | _, _, .tup h hs => .tup (Same.seqT e h) (IsL.mono e hs)
  | _, _, .lst h hs => .lst (Same.seq e h) (IsL.mono e hs)
  | _, _, .ins h hs => .ins (e _ _ h) (IsF.mono e hs)
  | _, _, .dic h => .dic (e _ _ h)
theorem IsL.mono (e : Same H H') : ∀ {vs : List V} {ds : List D}, IsL K H vs ds → IsL K H' vs ds
  | _, _, .nil => .nil
  | _, _, .cons h hs => .cons (Is.mono e h) (IsL.mono e hs)
theorem IsF.mono (e : Same H H') : ∀ {fs : List (Str × V)} {gs : List (Str × D)}, IsF K H fs gs → IsF K H' fs gs
  | _, _, .nil => .nil
  | _, _, .cons h hs => .cons (Is.mono e h) (IsF.mono e hs)
end
theorem IsL.length : ∀ {vs : List V} {ds : List D}, IsL K H vs ds → vs.length = ds.length
  | _, _, .nil => rfl
  | _, _, .cons _ hs => congrArg Nat.succ hs.length
theorem IsL.get : ∀ {vs : List V} {ds : List D} {i : Nat} {d : D}, IsL K H vs ds → ds[i]? = some d → ∃ v, vs[i]? = some v ∧ Is K H v d
  | _, _, _, _, .nil, e => by simp at e
  | _, _, 0, _, .cons h _, e => by simp at e; subst e; exact ⟨_, rfl, h⟩
  | _, _, i + 1, d, .cons _ hs, e => by
    obtain ⟨v, h1, h2⟩ := IsL.get (i := i) (d := d) hs (by simpa using e)
    exact ⟨v, by simpa using h1, h2⟩
theorem IsL.getV : ∀ {vs : List V} {ds : List D} {i : Nat} {v : V}, IsL K H vs ds → vs[i]? = some v → ∃ d, ds[i]? = some d ∧ Is K H v d
  | _, _, _, _, .nil, e => by simp at e
  | _, _, 0, _, .cons h _, e => by simp at e; subst e; exact ⟨_, rfl, h⟩
  | _, _, i + 1, v, .cons _ hs, e => by
    obtain ⟨d, h1, h2⟩ := IsL.getV (i := i) (v := v) hs (by simpa using e)
    exact ⟨d, by simpa using h1, h2⟩
theorem IsL.append : ∀ {vs ws : List V} {ds es : List D}, IsL K H vs ds → IsL K H ws es → IsL K H (vs ++ ws) (ds ++ es)
  | _, _, _, _, .nil, s => s
  | _, _, _, _, .cons h hs, s => .cons h (IsL.append hs s)
theorem IsL.snoc {vs : List V} {ds : List D} {v : V} {d : D} (hs : IsL K H vs ds) (h : Is K H v d) : IsL K H (vs ++ [v]) (ds ++ [d]) := hs.append (.cons h .nil)
theorem IsL.take : ∀ {vs : List V} {ds : List D} (n : Nat), IsL K H vs ds → IsL K H (vs.take n) (ds.take n)
  | _, _, 0, _ => .nil
  | _, _, _ + 1, .nil => .nil
  | _, _, n + 1, .cons h hs => .cons h (IsL.take n hs)
theorem IsL.drop : ∀ {vs : List V} {ds : List D} (n : Nat), IsL K H vs ds → IsL K H (vs.drop n) (ds.drop n)
  | _, _, 0, r => r
  | _, _, _ + 1, .nil => .nil
  | _, _, n + 1, .cons _ hs => IsL.drop n hs
theorem IsL.set {v : V} {d : D} (h : Is K H v d) : ∀ {vs : List V} {ds : List D} (n : Nat), IsL K H vs ds → IsL K H (vs.set n v) (ds.set n d)
  | _, _, _, .nil => .nil
  | _, _, 0, .cons _ hs => .cons h hs
  | _, _, n + 1, .cons q hs => .cons q (IsL.set h n hs)
theorem IsL.rev : ∀ {vs : List V} {ds : List D}, IsL K H vs ds → IsL K H vs.reverse ds.reverse
  | _, _, .nil => .nil
  | _, _, .cons h hs => by
    rw [List.reverse_cons, List.reverse_cons]
    exact (IsL.rev hs).append (.cons h .nil)
theorem IsL.ints : ∀ (ns : List Int), IsL K H (ns.map V.int) (ns.map D.int)
  | [] => .nil
  | n :: ns => .cons (.int n) (IsL.ints ns)
theorem IsL.ofInts : ∀ {vs : List V} {ns : List Int}, IsL K H vs (ns.map D.int) → vs = ns.map V.int
  | _, [], .nil => rfl
  | _, n :: ns, .cons h hs => by
    cases h
    rw [IsL.ofInts hs]
    rfl
theorem IsF.look : ∀ {fs : List (Str × V)} {gs : List (Str × D)} {f : Str} {d : D}, IsF K H fs gs → gs.lookup f = some d → ∃ v, fs.lookup f = some v ∧ Is K H v d
  | _, _, _, _, .nil, e => by cases e
  | _, _, f, d, .cons (f := g) h hs, e => by
    by_cases q : f = g
    · subst q
      simp [List.lookup] at e ⊢
      subst e
      exact h
    · have q' : (f == g) = false := by simpa using q
      simp only [List.lookup, q'] at e ⊢
      exact IsF.look hs e
theorem IsF.none : ∀ {fs : List (Str × V)} {gs : List (Str × D)} {f : Str}, IsF K H fs gs → gs.lookup f = none → fs.lookup f = none
  | _, _, _, .nil, _ => rfl
  | _, _, f, .cons (f := g) h hs, e => by
    by_cases q : f = g
    · subst q
      simp [List.lookup] at e
    · have q' : (f == g) = false := by simpa using q
      simp only [List.lookup, q'] at e ⊢
      exact IsF.none hs e
theorem Is.int_eq {v : V} {i : Int} (h : Is K H v (.int i)) : v = .int i := by cases h; rfl
theorem Is.str_eq {v : V} {i : Str} (h : Is K H v (.str i)) : v = .str i := by cases h; rfl
theorem Is.bl_eq {v : V} {i : Bool} (h : Is K H v (.bl i)) : v = .bl i := by cases h; rfl
theorem Is.non_eq {v : V} (h : Is K H v .non) : v = .non := by cases h; rfl
end
/-! ### names of classes -/
/-- a class: a built-in one, one of the text -/
inductive Tn where
  | b (n : String) | c (x : Str)
def Tn.val (K : PySem.W.Frag) : Tn → Value
  | .b n => .type n
  | .c x => .ref (He.ga K x)
abbrev D.tn : D → Tn
  | .non => .b "NoneType"
  | .bl _ => .b "bool"
  | .int _ => .b "int"
  | .str _ => .b "str"
  | .tup _ => .b "tuple"
  | .lst _ => .b "list"
  | .ins C _ => .c C
  | .dic => .b "dict"
/-! ### facts of the written part, asked by names -/
inductive Fx where
  | glo (x : Str) | free (x : Str) | int (x : Str) (i : Int) | blt (x : Str) (id : String) | cls (x : Str) | noat (x f : Str) | meth (x m : Str) | mkr (x : Str) | tyi (x : Str) | self (x : Str)
  | exm (x y : Str) (b : Bool) | kit (t c : Tn) (b : Bool) | oex (x : Str) | xf (x : Str) | sup (x fld : Str) | xis (x : Str) | keep (x : Str) | mro (x : Str) | find (x f : Str) | conI (x f : Str) (i : Int) | rows (l : List Str) | rowsX (l : List Str) | seer | noi (x : Str) | nee (x : Str)
def oexB (K : PySem.W.Frag) (C : Addr) : Bool := match K.lookup C with
  | some ⟨.type "type", _, .cls cd, sl⟩ => (match cd.mro, sl.toList with
    | .ref C' :: bm, [_, _, _, _, some (.builtin n), _] => decide (C' = C) && (decide (n = "ValueError.__new__") && (!cd.hasDel && (cd.hasDict && HandSPX.refsVE bm)))
    | _, _ => false)
  | _ => false
theorem oexB_ok {K : PySem.W.Frag} {C : Addr} (q : oexB K C = true) : ∃ nm qn N bs bm sn sub ab col dd k0 k1 k2 k3 k5, K.lookup C = some (excClassObj nm qn C N bs bm true sn sub ab col dd k0 k1 k2 k3 k5 "ValueError.__new__") ∧ HandSPX.refsVE bm = true := by
  unfold oexB at q
  split at q
  · rename_i dd cd sl ho
    split at q
    · rename_i C' bm k0 k1 k2 k3 n k5 hm hs
      simp only [Bool.and_eq_true, decide_eq_true_eq, Bool.not_eq_true'] at q
      obtain ⟨rfl, rfl, hdel, hh, ht⟩ := q
      obtain ⟨nm, bs, mro, ns, qn, hd, sn, sub, ab, col, del⟩ := cd
      dsimp only at hm hdel hh
      subst hm hdel hh
      have hsl : sl = #[k0, k1, k2, k3, some (.builtin "ValueError.__new__"), k5] := by
        obtain ⟨l⟩ := sl
        simp only at hs
        rw [hs]
      subst hsl
      exact ⟨nm, qn, ns, bs, bm, sn, sub, ab, col, dd, k0, k1, k2, k3, k5, ho, ht⟩
    · cases q
  · cases q
def eqB (a b : Option Bool) : Bool := decide (a = b)
def eqV (a b : Option Value) : Bool := decide (a = b)
/-- the def of x's __init__: its closure is the class's cell, its code object is of the file -/
def supB (K : PySem.W.Frag) (x : Str) : Bool := match K.lookup (He.ma K (He.ga K x) "__init__") with
  | some ⟨_, _, .func fd, _⟩ => (match fd.closure, fd.defaults, fd.code with
    | [(n, cc)], .none, .ref cda => decide (n = "__class__") && (PySem.W.codeIn K (.ref cda) fd.qualname && ((match K.lookup cc with
        | some ⟨_, _, .cell (some (.ref D)), _⟩ => decide (D = He.ga K x)
        | _ => false) && (match K.lookup cda with
        | some ⟨_, _, .fields vs, _⟩ => (match (vs : Array Value)[2]? with
          | some (Value.str f _) => (("/claim/cut.py" : Str) == f)
          | _ => false)
        | _ => false)))
    | _, _, _ => false)
  | _ => false
abbrev btys : List String := ["int", "bool", "str", "list", "tuple", "dict", "NoneType"]
def xsub (x y : Str) : Bool := decide (x = y) || decide (y = "SeriesError")
def seerB (K : PySem.W.Frag) : Bool := match PySem.W.nsIn K mainGlobals "__builtins__" with
  | some (some (.ref bm)) => (match K.lookup bm with
    | some o => decide (o.cls = .type "module") && decide (o.dict = some builtinsNs)
    | none => false)
  | _ => false
def Fx.ok (K : PySem.W.Frag) : Fx → Bool
  | .nee x => He.eqO (PySem.W.findIn K (.ref (He.ga K x)) "__ne__") (some (some (.builtin "object.__ne__")))
  | .noi x => PySem.W.excIn K (He.ga K x) HandSPX.veTail "ValueError.__new__"
  | .seer => PySem.W.nsOkIn K cStatics && (He.eqO (PySem.W.nsIn K cStatics "sys.audit-hooks") (some none) && (He.eqO (PySem.W.nsIn K cStatics "sys.dict") (some none) && (PySem.W.nsOkIn K sysModules && (He.eqO (PySem.W.nsIn K sysModules "_pylong") (some none) && seerB K))))
  | .rowsX l => l.all fun x => l.all fun y => (He.Fa.exm x y (xsub x y)).ok K
  | .rows l => l.all fun x => (He.Fa.cls x).ok K && ((He.eqO (PySem.W.findIn K (.ref (He.ga K x)) "__class__") (some (some (.builtin "object.__class__"))) && (He.eqO (PySem.W.specialIn K (.builtin "object.__class__") "__get__") (some (some (.builtin "getset_descriptor.__get__"))) &&
      (eqB (PySem.W.takesIn K (.builtin "object.__class__")) (some true) && eqB (PySem.W.mroIn K (He.ga K x) (.type "object")) (some true)))) && (PySem.W.selfFirst K (He.ga K x) && ((btys.all fun n => eqB (PySem.W.kitOne K (.ref (He.ga K x)) (.type n)) (some false) && eqB (PySem.W.kitOne K (.type n) (.ref (He.ga K x))) (some false)) &&
      l.all fun y => eqB (PySem.W.kitOne K (.ref (He.ga K x)) (.ref (He.ga K y))) (some (decide (x = y))) && PySem.W.notFirst K (He.ga K x) (.ref (He.ga K y)))))
  | .glo x => (He.Fa.glo x).ok K
  | .free x => (He.Fa.free x).ok K
  | .int x i => (He.Fa.int x i).ok K
  | .blt x id => He.eqO (PySem.W.nsIn K mainGlobals x) (some (some (.builtin id)))
  | .cls x => (He.Fa.cls x).ok K
  | .noat x f => (He.Fa.noat x f).ok K
  | .meth x m => (He.Fa.meth x m).ok K
  | .mkr x => (He.Fa.mkr x).ok K
  | .tyi x => He.eqO (PySem.W.findIn K (.ref (He.ga K x)) "__class__") (some (some (.builtin "object.__class__"))) && (He.eqO (PySem.W.specialIn K (.builtin "object.__class__") "__get__") (some (some (.builtin "getset_descriptor.__get__"))) &&
      (eqB (PySem.W.takesIn K (.builtin "object.__class__")) (some true) && eqB (PySem.W.mroIn K (He.ga K x) (.type "object")) (some true)))
  | .self x => PySem.W.selfFirst K (He.ga K x)
  | .exm x y b => (He.Fa.exm x y b).ok K
  | .kit t c b => eqB (PySem.W.kitOne K (t.val K) (c.val K)) (some b)
  | .oex x => oexB K (He.ga K x) && (He.eqO (PySem.W.findIn K (.ref (He.ga K x)) "__setattr__") (some (some (.builtin "object.__setattr__"))) && (eqB (PySem.W.subIn K (.ref (He.ga K x)) (.type "BaseException")) (some true) &&
      (eqV (PySem.W.typeIn K (.ref (He.ga K x))) (some (.type "type")) && PySem.W.keepIn K (.ref (He.ga K x)))))
  | .xf x => xfB K (He.ga K x)
  | .sup x fld => He.eqO (PySem.W.findIn K (.ref (He.ga K x)) fld) (some none) && (He.eqO (PySem.W.ks_superIn K (He.ga K x) (He.ga K x) "__init__") (some (some (.builtin "ValueError.__init__"))) &&
      (eqB (PySem.W.subIn K (.ref (He.ga K x)) (.type "ValueError")) (some true) && (eqB (PySem.W.mroIn K (He.ga K x) (.ref (He.ga K x))) (some true) && (He.eqO (PySem.W.nsIn K mainGlobals "super") (some none) &&
      (He.eqO (PySem.W.nsIn K cStatics "thirdparty.any") (some none) && (supB K x && (He.eqO (PySem.W.findIn K (.ref (He.ga K x)) "__init__") (some (some (.ref (He.ma K (He.ga K x) "__init__")))) && eqV (PySem.W.typeIn K (.ref (He.ma K (He.ga K x) "__init__"))) (some (.type "function")))))))))
  | .xis x => He.eqO (PySem.W.findIn K (.ref (He.ga K x)) "__class__") (some (some (.builtin "object.__class__"))) && (He.eqO (PySem.W.specialIn K (.builtin "object.__class__") "__get__") (some (some (.builtin "getset_descriptor.__get__"))) &&
      (eqB (PySem.W.takesIn K (.builtin "object.__class__")) (some true) && eqB (PySem.W.mroIn K (He.ga K x) (.type "object")) (some true)))
  | .keep x => PySem.W.keepIn K (.ref (He.ga K x))
  | .mro x => (match PySem.W.clsIn K (He.ga K x) with
    | some cd => decide (cd.mro = [.ref (He.ga K x), .type "object"])
    | none => false)
  | .find x f => He.eqO (PySem.W.findIn K (.ref (He.ga K x)) f) (some none)
  | .conI x f i => PySem.W.readsIn K (He.ga K x) (.type "type") && (He.eqO (PySem.W.specialIn K (.ref (He.ga K x)) "__getattribute__") (some (some (.builtin "type.__getattribute__"))) && (match PySem.W.findCls K (.ref (He.ga K x)) (.type "type") f with
    | some (.val (.int j t)) => decide (j = i)
    | _ => false))
theorem mro_of {K : PySem.W.Frag} {x : Str} (c : (Fx.mro x).ok K = true) : ∃ cd, PySem.W.clsIn K (He.ga K x) = some cd ∧ cd.mro = [.ref (He.ga K x), .type "object"] := by
  have c2 : (match PySem.W.clsIn K (He.ga K x) with
    | some cd => decide (cd.mro = [.ref (He.ga K x), .type "object"])
    | none => false) = true := c
  cases e : PySem.W.clsIn K (He.ga K x) with
  | none => rw [e] at c2; cases c2
  | some cd => rw [e] at c2; exact ⟨cd, rfl, of_decide_eq_true c2⟩
/-! ### the Hook -/
abbrev FnZ : Type := Option (Str × Str × Arguments × FuncBody × Scope × Addr × Addr)
def fnZ (K : PySem.W.Frag) (x : Str) : FnZ := match K.lookup (He.ma K (He.ga K x) "__init__") with
  | some ⟨_, _, .func fd, _⟩ => some (fd.name, fd.qualname, fd.params, fd.body, fd.scope, fd.globals, fd.builtins)
  | _ => none
/-- an __init__ with super(): the class, its qualified name, its text -/
structure SupD where
  at_ : Str
  qual : Str
  params : Arguments
  body : List Stmt
  scope : Scope
def SupD.val (d : SupD) : FnZ := some ("__init__", d.qual, d.params, .stmts d.body, d.scope, mainGlobals, builtinsNs)
abbrev AlM : Type := Bool × List He.FnW × List FnZ
def obsM (fa : List Fx) (fn : List He.DefD) (fz : List SupD) (K : PySem.W.Frag) : AlM := ((fa.all fun f => f.ok K) && fn.all fun d => d.ok K, fn.map fun d => He.fnW K d.at_, fz.map fun d => fnZ K d.at_)
def valM (fn : List He.DefD) (fz : List SupD) : AlM := (true, fn.map He.DefD.val, fz.map SupD.val)
def SaysM (fa : List Fx) (fn : List He.DefD) (fz : List SupD) (K : PySem.W.Frag) : Prop := obsM fa fn fz K = valM fn fz
def obsMG (n : Nat) (fa : List Fx) (fn : List He.DefD) (fz : List SupD) (g : Addr → Option Obj) : AlM := obsM fa fn fz (He.frG g (He.asD g n ++ [cStatics, sysModules]))
def hookM (n : Nat) (fa : List Fx) (fn : List He.DefD) (fz : List SupD) : PySem.W.Hook where
  α := AlM
  obs := fun s => obsMG n fa fn fz s.heap.get?
  val := fun _ => valM fn fz
  says := fun _ h => ∃ K : PySem.W.Frag, K.In h ∧ SaysM fa fn fz K
  of := fun _ _ e => ⟨_, He.frG_in, e⟩
  keeps := fun _ _ _ ⟨K, hK, c⟩ k => ⟨K, PySem.W.Frag.In.keeps hK k, c⟩
theorem obsMG_eq {n : Nat} {fa : List Fx} {fn : List He.DefD} {fz : List SupD} {g : Addr → Option Obj} {s : Shared} (h : ∀ a, g a = s.heap.get? a) : obsMG n fa fn fz g = (hookM n fa fn fz).obs s := by
  have e : g = s.heap.get? := funext h
  rw [e] <;> rfl
def fdOf (K : PySem.W.Frag) (p : Str × Option Str) : FuncData := match K.lookup (He.fAd K p) with
  | some ⟨_, _, .func fd, _⟩ => fd
  | _ => default
section
variable {fa : List Fx} {fn : List He.DefD} {fz : List SupD} {K : PySem.W.Frag}
theorem SaysM.fact (c : SaysM fa fn fz K) (i : Nat) {f : Fx} (h : fa[i]? = some f := by rfl) : f.ok K = true := by
  have c1 := (He.ba (show ((fa.all fun f => f.ok K) && fn.all fun d => d.ok K) = true from congrArg (fun z : AlM => z.1) c)).1
  exact List.all_eq_true.mp c1 f (List.mem_of_getElem? h)
theorem SaysM.def_ (c : SaysM fa fn fz K) (i : Nat) {d : He.DefD} (h : fn[i]? = some d := by rfl) : ∃ fd, FunD K d.name d.qual d.params d.body d.scope (d.dvs K) (d.kws K) (He.fAd K d.at_) fd := by
  have c2 := (He.ba (show ((fa.all fun f => f.ok K) && fn.all fun d => d.ok K) = true from congrArg (fun z : AlM => z.1) c)).2
  have e : fn.map (fun d => He.fnW K d.at_) = fn.map He.DefD.val := congrArg (fun z : AlM => z.2.1) c
  have e2 : (fn.map fun d => He.fnW K d.at_)[i]? = (fn.map He.DefD.val)[i]? := by rw [e]
  rw [List.getElem?_map, List.getElem?_map, h] at e2
  exact He.DefD.funD (Option.some.inj e2) (List.all_eq_true.mp c2 d (List.mem_of_getElem? h))
theorem SaysM.sup_ (c : SaysM fa fn fz K) (i : Nat) {d : SupD} (h : fz[i]? = some d := by rfl) : fnZ K d.at_ = d.val := by
  have e : fz.map (fun d => fnZ K d.at_) = fz.map SupD.val := congrArg (fun z : AlM => z.2.2) c
  have e2 : (fz.map fun d => fnZ K d.at_)[i]? = (fz.map SupD.val)[i]? := by rw [e]
  rw [List.getElem?_map, List.getElem?_map, h] at e2
  exact Option.some.inj e2
theorem tyi_ok {x : Str} (c : (Fx.tyi x).ok K = true) : PySem.W.findIn K (.ref (He.ga K x)) "__class__" = some (some (.builtin "object.__class__")) ∧ PySem.W.specialIn K (.builtin "object.__class__") "__get__" = some (some (.builtin "getset_descriptor.__get__")) ∧
    PySem.W.takesIn K (.builtin "object.__class__") = some true ∧ PySem.W.mroIn K (He.ga K x) (.type "object") = some true := by
  obtain ⟨c1, c⟩ := He.ba c
  obtain ⟨c2, c⟩ := He.ba c
  obtain ⟨c3, c4⟩ := He.ba c
  exact ⟨He.eqO_ok c1, He.eqO_ok c2, of_decide_eq_true c3, of_decide_eq_true c4⟩
theorem oex_ok {x : Str} (c : (Fx.oex x).ok K = true) : OexC K (He.ga K x) := by
  obtain ⟨c1, c⟩ := He.ba c
  obtain ⟨c2, c⟩ := He.ba c
  obtain ⟨c3, c⟩ := He.ba c
  obtain ⟨c4, c5⟩ := He.ba c
  exact ⟨oexB_ok c1, He.eqO_ok c2, of_decide_eq_true c3, of_decide_eq_true c4, c5⟩
theorem sup_ok {P : Program} {x fld : Str} {d : SupD} (co : (Fx.oex x).ok K = true) (c : (Fx.sup x fld).ok K = true) (e : fnZ K x = d.val) (htop : (P.main.scope.names.lookup ("super" : Str)).isSome = false) (hfile : P.main.file = "/claim/cut.py") (fdb : (fld == ("__debug__" : Str)) = false)
    (hd : ∃ p1 p2 q1 q2 q3 q4 q5 q6 q7 q8 q9 q10, d.params = iA fld p1 p2 ∧ d.body = iB fld q1 q2 q3 q4 q5 q6 q7 q8 q9 q10 ∧
      d.scope.names.lookup ("super" : Str) = some .globalImplicit ∧ d.scope.names.lookup ("__class__" : Str) = some .free ∧ d.scope.names.lookup ("self" : Str) = some .local ∧ d.scope.names.lookup fld = some .local ∧ ((fld == ("self" : Str)) = false) ∧
      d.scope.kind = .function ∧ d.scope.isCoroutine = false ∧ d.scope.isGenerator = false ∧ (∀ x ∈ d.scope.names, x.2 ≠ .cell) ∧
      (∀ (kV doc pm : Value) (an : Option Addr) (cda : Addr) (ct : Value) (cc : Addr) (u1 u2 : Value), bindArgs (PySem.W.ksFn "__init__" d.qual (iA fld p1 p2) (iB fld q1 q2 q3 q4 q5 q6 q7 q8 q9 q10) d.scope .none kV doc pm an (.ref cda) ct cc) ⟨[u1, u2], []⟩ = pure [(("self" : Str), u1), (fld, u2)]) ∧
      ∃ pl : Sem Bool, ∀ env : Env, eval (.Call (.Attribute (.Call (.Name "super" q1) [] [] q2) "__init__" q3) [.Name fld q4] [] q5) env = (do
        let ov ← attributeBase (.Call (.Name "super" q1) [] [] q2) "__init__" env (eval (.Call (.Name "super" q1) [] [] q2) env)
        standAt q3.atName
        let (f, first) ← holding [ov] (getMethod ov "__init__" pl)
        callWith q5 f first (backTo q5 (starEach [.Name fld q4] env)) [])) :
    SupC P K (He.ga K x) (He.ma K (He.ga K x) "__init__") fld ∧ PySem.W.findIn K (.ref (He.ga K x)) "__init__" = some (some (.ref (He.ma K (He.ga K x) "__init__"))) ∧ PySem.W.typeIn K (.ref (He.ma K (He.ga K x) "__init__")) = some (.type "function") := by
  obtain ⟨p1, p2, q1, q2, q3, q4, q5, q6, q7, q8, q9, q10, hpar, hbody, h1, h2, h3, h4, h5, h6, h7, h8, h9, h10, pl, h11⟩ := hd
  obtain ⟨c1, c⟩ := He.ba c
  obtain ⟨c2, c⟩ := He.ba c
  obtain ⟨c3, c⟩ := He.ba c
  obtain ⟨c4, c⟩ := He.ba c
  obtain ⟨c5, c⟩ := He.ba c
  obtain ⟨c6, c⟩ := He.ba c
  obtain ⟨c7, c⟩ := He.ba c
  obtain ⟨c8, c9⟩ := He.ba c
  refine ⟨⟨oex_ok co, He.eqO_ok c1, He.eqO_ok c2, of_decide_eq_true c3, of_decide_eq_true c4, He.eqO_ok c5, htop, He.eqO_ok c6, fdb, ?_⟩, He.eqO_ok c8, of_decide_eq_true c9⟩
  unfold fnZ at e
  unfold supB at c7
  cases lk : K.lookup (He.ma K (He.ga K x) "__init__") with
  | none =>
    rw [lk] at c7
    cases c7
  | some o =>
    obtain ⟨oc, od, dt, osl⟩ := o
    rw [lk] at c7 e
    cases dt with
    | func fd =>
      obtain ⟨n1, n2, n3, n4, n5, n6, n7, n8, n9, n10, n11, n12, n13, n14, n15⟩ := fd
      have e2 : (some (n1, n2, n3, n4, n5, n6, n15) : FnZ) = some (("__init__" : Str), d.qual, d.params, FuncBody.stmts d.body, d.scope, mainGlobals, builtinsNs) := e
      simp only [Option.some.injEq, Prod.mk.injEq] at e2
      obtain ⟨z1, z2, z3, z4, z5, z6, z9⟩ := e2
      subst z1 z2 z3 z4 z5 z6 z9
      rw [hpar, hbody] at lk
      dsimp only at c7
      split at c7
      · rename_i n cc cda
        obtain ⟨d1, d2⟩ := He.ba c7
        obtain ⟨d2, d3⟩ := He.ba d2
        obtain ⟨d3, d4⟩ := He.ba d3
        have en : n = "__class__" := of_decide_eq_true d1
        subst en
        refine ⟨oc, od, d.qual, n9, n10, n11, n12, cda, n14, osl, cc, d.scope, p1, p2, q1, q2, q3, q4, q5, q6, q7, q8, q9, q10, by rw [hpar, hbody], d2, ?_, ?_, h1, h2, h3, h4, h5, h6, h7, h8, h9, h10 _ _ _ _ _ _ _, pl, h11⟩
        · split at d3
          · rename_i oc2 od2 D osl2 lk2
            have eD := of_decide_eq_true d3
            subst eD
            exact ⟨_, _, _, lk2⟩
          · cases d3
        · split at d4
          · rename_i oc2 od2 vs osl2 lk2
            split at d4
            · rename_i f tf hv
              exact ⟨_, _, _, _, f, tf, lk2, hv, by rw [hfile]; exact d4⟩
            · cases d4
          · cases d4
      · cases c7
    | _ => cases c7
end
/-! ### facts as instances -/
class IsCls (K : PySem.W.Frag) (C : Str) : Prop where
  cl : Cls K (He.ga K C)
  ty : (Fx.tyi C).ok K = true
class HasFld (K : PySem.W.Frag) (C f : Str) : Prop where
  no : NoAttr K (He.ga K C) f
class Kit (K : PySem.W.Frag) (t c : Tn) (b : outParam Bool) : Prop where
  h : PySem.W.kitOne K (t.val K) (c.val K) = some b
class Lk (gs : List (Str × D)) (f : Str) (d : outParam D) : Prop where
  h : gs.lookup f = some d
class Lk0 (gs : List (Str × D)) (f : Str) : Prop where
  h : gs.lookup f = none
structure Mg (K : PySem.W.Frag) (mg : Str → Option Value) : Prop where
  at_ : ∀ x o, PySem.W.nsIn K mainGlobals x = some o → mg x = o
theorem mg_mk {K : PySem.W.Frag} {h : Heap} {mg : Str → Option Value} (X : K.In h) (G : h.Ns mainGlobals mg) : Mg K mg := ⟨fun x o e => by
  cases o with
  | none => exact PySem.W.mg_none_of X G e
  | some v => exact PySem.W.mg_of X G e⟩
theorem glo_of {K : PySem.W.Frag} {mg : Str → Option Value} (M : Mg K mg) {x : Str} (c : (Fx.glo x).ok K = true) : mg x = some (.ref (He.ga K x)) := M.at_ x _ (He.eqO_ok c)
theorem free_of {K : PySem.W.Frag} {mg : Str → Option Value} (M : Mg K mg) {x : Str} (c : (Fx.free x).ok K = true) : mg x = none := M.at_ x _ (He.eqO_ok c)
theorem blt_of {K : PySem.W.Frag} {mg : Str → Option Value} (M : Mg K mg) {x : Str} {id : String} (c : (Fx.blt x id).ok K = true) : mg x = some (.builtin id) := M.at_ x _ (He.eqO_ok c)
theorem int_of {K : PySem.W.Frag} {mg : Str → Option Value} (M : Mg K mg) {x : Str} {i : Int} (c : (Fx.int x i).ok K = true) : ∃ t, mg x = some (.int i t) := by
  have c2 : (match PySem.W.nsIn K mainGlobals x with
    | some (some (.int j _)) => decide (j = i)
    | _ => false) = true := c
  split at c2
  · rename_i j t e
    have ej : j = i := of_decide_eq_true c2
    subst ej
    exact ⟨t, M.at_ x _ e⟩
  · cases c2
theorem cls_of {K : PySem.W.Frag} {x : Str} (c : (Fx.cls x).ok K = true) : Cls K (He.ga K x) := He.cls_ok c
theorem meth_of {K : PySem.W.Frag} {x m : Str} (c : (Fx.meth x m).ok K = true) : Meth K (He.ga K x) m (He.ma K (He.ga K x) m) := He.meth_ok c
theorem mkr_of {K : PySem.W.Frag} {x : Str} (c : (Fx.mkr x).ok K = true) : Mk K (He.ga K x) (He.ma K (He.ga K x) "__init__") := He.mkr_ok c
theorem kit_of' {K : PySem.W.Frag} {t c : Tn} {b : Bool} (h : (Fx.kit t c b).ok K = true) : Kit K t c b := ⟨of_decide_eq_true h⟩
/-- a def of the text, its promise by positional values -/
theorem fnr_of {P : Program} {w : World} {K : PySem.W.Frag} {mg : Str → Option Value} {base : Heap} {x qual : Str} {params : Arguments} {body : List Stmt} {scope : Scope} {kws : List (Str × V)} {f : Addr} {N ps : List Str} {k : Nat} {sp : Sp}
    (F : ∃ fd, FunD K x qual params body scope [] kws f fd) (S : FnScope N ps scope)
    (hb : ∀ (kV doc pm : Value) (an : Option Addr) (cdv ct : Value) (us : List Value), us.length = ps.length → bindArgs (PySem.W.fnOf x qual params body scope .none kV doc pm an cdv ct) ⟨us, []⟩ = pure (ps.zip us))
    (len : ∀ vs H Q E, sp vs H Q E → vs.length = ps.length)
    (hbody : ∀ (cdv : Value) (A : Around) (outer : List Env) (s : Shared) (H : Hp) (vs : List V) (Q : VK) (E : XK), Room k (A.deeper (envOfC qual scope s.heap.objs.size f cdv)) → sp vs H Q E →
      ∃ t, PSs (cxOf (L2.CX P w) P w K mg base N qual scope f cdv A outer s H E) body t ∧ t { nx := fun _ H' => Q .non H', rt := Q } (start N vs) H) : FnR P w K mg base (L2.CX P w) (k + 1) f sp := by
  obtain ⟨fd, F⟩ := F
  have G := FnOk.raw (F.ok (CX := L2.CX P w) S len hbody) (F.bindsN hb) .nil
  exact G.imp fun vs H Q E h => by rw [List.append_nil]; exact h
/-- one default at the end, given or not -/
theorem fnr1 {P : Program} {w : World} {K : PySem.W.Frag} {mg : Str → Option Value} {base : Heap} {x qual : Str} {params : Arguments} {body : List Stmt} {scope : Scope} {kws : List (Str × V)} {f : Addr} {fd : FuncData} {ps : List Str} {k : Nat} {sp : Sp} {dv : V}
    (F : FunD K x qual params body scope [dv] kws f fd) (FO : FnOk P w K mg base (L2.CX P w) k f fd ps sp) (hp : 0 < ps.length)
    (hb1 : ∀ (T : Addr) (kV doc pm : Value) (an : Option Addr) (cdv ct : Value) (us its : List Value), us.length = ps.length → its.length = 1 →
      ∃ k, bindArgs (PySem.W.fnOf x qual params body scope (.ref T) kV doc pm an cdv ct) ⟨us, []⟩ = seqItems? (.ref T) >>= k ∧ k (some its.toArray) = pure (ps.zip (us ++ its.drop 1)))
    (hb0 : ∀ (T : Addr) (kV doc pm : Value) (an : Option Addr) (cdv ct : Value) (us its : List Value), us.length = ps.length - 1 → its.length = 1 →
      ∃ k, bindArgs (PySem.W.fnOf x qual params body scope (.ref T) kV doc pm an cdv ct) ⟨us, []⟩ = seqItems? (.ref T) >>= k ∧ k (some its.toArray) = pure (ps.zip (us ++ its.drop 0))) :
    FnR P w K mg base (L2.CX P w) k f sp ∧ FnR P w K mg base (L2.CX P w) k f (fun vs H Q E => sp (vs ++ [dv]) H Q E) := by
  obtain ⟨ds1, r1, b1⟩ := F.binds1 ps.length 1 (by simp) (by simp) hb1
  obtain ⟨ds0, r0, b0⟩ := F.binds1 (ps.length - 1) 0 (by simp) (by simp; omega) hb0
  refine ⟨?_, ?_⟩
  · have G := FnOk.raw FO b1 r1
    exact G.imp fun vs H Q E h => by
      show sp (vs ++ List.drop 1 [dv]) H Q E
      rw [show List.drop 1 [dv] = [] from rfl, List.append_nil]
      exact h
  · exact FnOk.raw FO b0 r0
end Sx

namespace Sx
open PySem PySem.Spec PyProof.Rows L2
def top (i : Nat) : Stmt := PySem.Challenge.pw_seriessquares_k09_series_made.main.body.getD i (.Pass ⟨0, 0, 0, 0⟩)
abbrev s_is_integer : Stmt := top 12
def d_is_integer : He.DefD := ⟨("is_integer", none), "is_integer", "is_integer", defArgs s_is_integer, defBody s_is_integer, defScope s_is_integer, [], []⟩
abbrev s_is_sequence : Stmt := top 13
def d_is_sequence : He.DefD := ⟨("is_sequence", none), "is_sequence", "is_sequence", defArgs s_is_sequence, defBody s_is_sequence, defScope s_is_sequence, [], []⟩
abbrev s_plain_digits : Stmt := top 14
def d_plain_digits : He.DefD := ⟨("plain_digits", none), "plain_digits", "plain_digits", defArgs s_plain_digits, defBody s_plain_digits, defScope s_plain_digits, [], []⟩
abbrev s_is_prime : Stmt := top 18
def d_is_prime : He.DefD := ⟨("is_prime", none), "is_prime", "is_prime", defArgs s_is_prime, defBody s_is_prime, defScope s_is_prime, [], []⟩
abbrev s_inverse : Stmt := top 19
def d_inverse : He.DefD := ⟨("inverse", none), "inverse", "inverse", defArgs s_inverse, defBody s_inverse, defScope s_inverse, [], []⟩
abbrev s_refused_place : Stmt := top 22
def d_refused_place : He.DefD := ⟨("refused_place", none), "refused_place", "refused_place", defArgs s_refused_place, defBody s_refused_place, defScope s_refused_place, [], []⟩
abbrev s_product : Stmt := top 23
def d_product : He.DefD := ⟨("product", none), "product", "product", defArgs s_product, defBody s_product, defScope s_product, [], []⟩
abbrev s_is_number : Stmt := top 25
def d_is_number : He.DefD := ⟨("is_number", none), "is_number", "is_number", defArgs s_is_number, defBody s_is_number, defScope s_is_number, [], []⟩
abbrev s__law_state : Stmt := top 31
def d__law_state : He.DefD := ⟨("_law_state", none), "_law_state", "_law_state", defArgs s__law_state, defBody s__law_state, defScope s__law_state, [], []⟩
abbrev s__law_draw : Stmt := top 32
def d__law_draw : He.DefD := ⟨("_law_draw", none), "_law_draw", "_law_draw", defArgs s__law_draw, defBody s__law_draw, defScope s__law_draw, [], []⟩
abbrev s__law_gcd : Stmt := top 33
def d__law_gcd : He.DefD := ⟨("_law_gcd", none), "_law_gcd", "_law_gcd", defArgs s__law_gcd, defBody s__law_gcd, defScope s__law_gcd, [], []⟩
abbrev s__law_is_integer : Stmt := top 34
def d__law_is_integer : He.DefD := ⟨("_law_is_integer", none), "_law_is_integer", "_law_is_integer", defArgs s__law_is_integer, defBody s__law_is_integer, defScope s__law_is_integer, [], []⟩
abbrev s__law_inverse : Stmt := top 35
def d__law_inverse : He.DefD := ⟨("_law_inverse", none), "_law_inverse", "_law_inverse", defArgs s__law_inverse, defBody s__law_inverse, defScope s__law_inverse, [], []⟩
abbrev s__law_pair : Stmt := top 36
def d__law_pair : He.DefD := ⟨("_law_pair", none), "_law_pair", "_law_pair", defArgs s__law_pair, defBody s__law_pair, defScope s__law_pair, [], []⟩
abbrev s__law_plus : Stmt := top 37
def d__law_plus : He.DefD := ⟨("_law_plus", none), "_law_plus", "_law_plus", defArgs s__law_plus, defBody s__law_plus, defScope s__law_plus, [], []⟩
abbrev s__law_minus : Stmt := top 38
def d__law_minus : He.DefD := ⟨("_law_minus", none), "_law_minus", "_law_minus", defArgs s__law_minus, defBody s__law_minus, defScope s__law_minus, [], []⟩
abbrev s__law_times : Stmt := top 39
def d__law_times : He.DefD := ⟨("_law_times", none), "_law_times", "_law_times", defArgs s__law_times, defBody s__law_times, defScope s__law_times, [], []⟩
abbrev s__law_given : Stmt := top 40
def d__law_given : He.DefD := ⟨("_law_given", none), "_law_given", "_law_given", defArgs s__law_given, defBody s__law_given, defScope s__law_given, [], []⟩
abbrev s__law_read : Stmt := top 41
def d__law_read : He.DefD := ⟨("_law_read", none), "_law_read", "_law_read", defArgs s__law_read, defBody s__law_read, defScope s__law_read, [], []⟩
abbrev s__law_row : Stmt := top 42
def d__law_row : He.DefD := ⟨("_law_row", none), "_law_row", "_law_row", defArgs s__law_row, defBody s__law_row, defScope s__law_row, [], []⟩
abbrev s__law_passed : Stmt := top 43
def d__law_passed : He.DefD := ⟨("_law_passed", none), "_law_passed", "_law_passed", defArgs s__law_passed, defBody s__law_passed, defScope s__law_passed, [], []⟩
abbrev s__law_is_prime : Stmt := top 44
def d__law_is_prime : He.DefD := ⟨("_law_is_prime", none), "_law_is_prime", "_law_is_prime", defArgs s__law_is_prime, defBody s__law_is_prime, defScope s__law_is_prime, [], []⟩
abbrev s__law_prime : Stmt := top 45
def d__law_prime : He.DefD := ⟨("_law_prime", none), "_law_prime", "_law_prime", defArgs s__law_prime, defBody s__law_prime, defScope s__law_prime, [], []⟩
abbrev s__law_number : Stmt := top 46
def d__law_number : He.DefD := ⟨("_law_number", none), "_law_number", "_law_number", defArgs s__law_number, defBody s__law_number, defScope s__law_number, [], []⟩
abbrev s__law_unit : Stmt := top 47
def d__law_unit : He.DefD := ⟨("_law_unit", none), "_law_unit", "_law_unit", defArgs s__law_unit, defBody s__law_unit, defScope s__law_unit, [], []⟩
abbrev s__law_expansion : Stmt := top 48
def d__law_expansion : He.DefD := ⟨("_law_expansion", none), "_law_expansion", "_law_expansion", defArgs s__law_expansion, defBody s__law_expansion, defScope s__law_expansion, [], []⟩
abbrev s__law_small : Stmt := top 49
def d__law_small : He.DefD := ⟨("_law_small", none), "_law_small", "_law_small", defArgs s__law_small, defBody s__law_small, defScope s__law_small, [], []⟩
abbrev s__law_planted : Stmt := top 50
def d__law_planted : He.DefD := ⟨("_law_planted", none), "_law_planted", "_law_planted", defArgs s__law_planted, defBody s__law_planted, defScope s__law_planted, [], []⟩
abbrev s__law_coefficients : Stmt := top 51
def d__law_coefficients : He.DefD := ⟨("_law_coefficients", none), "_law_coefficients", "_law_coefficients", defArgs s__law_coefficients, defBody s__law_coefficients, defScope s__law_coefficients, [], []⟩
abbrev s__law_told_series : Stmt := top 52
def d__law_told_series : He.DefD := ⟨("_law_told_series", none), "_law_told_series", "_law_told_series", defArgs s__law_told_series, defBody s__law_told_series, defScope s__law_told_series, [], []⟩
abbrev s__law_refused : Stmt := top 53
def d__law_refused : He.DefD := ⟨("_law_refused", none), "_law_refused", "_law_refused", defArgs s__law_refused, defBody s__law_refused, defScope s__law_refused, [], []⟩
abbrev s__law_further : Stmt := top 54
def d__law_further : He.DefD := ⟨("_law_further", none), "_law_further", "_law_further", defArgs s__law_further, defBody s__law_further, defScope s__law_further, [], []⟩
abbrev s__law_counted : Stmt := top 55
def d__law_counted : He.DefD := ⟨("_law_counted", none), "_law_counted", "_law_counted", defArgs s__law_counted, defBody s__law_counted, defScope s__law_counted, [], []⟩
abbrev s__law_refusals : Stmt := top 56
def d__law_refusals : He.DefD := ⟨("_law_refusals", none), "_law_refusals", "_law_refusals", defArgs s__law_refusals, defBody s__law_refusals, defScope s__law_refusals, [], []⟩
abbrev s__law_more_refusals : Stmt := top 57
def d__law_more_refusals : He.DefD := ⟨("_law_more_refusals", none), "_law_more_refusals", "_law_more_refusals", defArgs s__law_more_refusals, defBody s__law_more_refusals, defScope s__law_more_refusals, [], []⟩
abbrev s_law : Stmt := top 58
def d_law : He.DefD := ⟨("law", none), "law", "law", defArgs s_law, defBody s_law, defScope s_law, [], []⟩
abbrev s_Ratio___init__ : Stmt := inClass (top 15) 0
def d_Ratio___init__ : He.DefD := ⟨("Ratio", some "__init__"), "__init__", "Ratio.__init__", defArgs s_Ratio___init__, defBody s_Ratio___init__, defScope s_Ratio___init__, [.int (1)], []⟩
abbrev s_Ratio___eq__ : Stmt := inClass (top 15) 1
def d_Ratio___eq__ : He.DefD := ⟨("Ratio", some "__eq__"), "__eq__", "Ratio.__eq__", defArgs s_Ratio___eq__, defBody s_Ratio___eq__, defScope s_Ratio___eq__, [], []⟩
abbrev s_Ratio___add__ : Stmt := inClass (top 15) 2
def d_Ratio___add__ : He.DefD := ⟨("Ratio", some "__add__"), "__add__", "Ratio.__add__", defArgs s_Ratio___add__, defBody s_Ratio___add__, defScope s_Ratio___add__, [], []⟩
abbrev s_Ratio___radd__ : Stmt := inClass (top 15) 3
def d_Ratio___radd__ : He.DefD := ⟨("Ratio", some "__radd__"), "__radd__", "Ratio.__radd__", defArgs s_Ratio___radd__, defBody s_Ratio___radd__, defScope s_Ratio___radd__, [], []⟩
abbrev s_Ratio___sub__ : Stmt := inClass (top 15) 4
def d_Ratio___sub__ : He.DefD := ⟨("Ratio", some "__sub__"), "__sub__", "Ratio.__sub__", defArgs s_Ratio___sub__, defBody s_Ratio___sub__, defScope s_Ratio___sub__, [], []⟩
abbrev s_Ratio___rsub__ : Stmt := inClass (top 15) 5
def d_Ratio___rsub__ : He.DefD := ⟨("Ratio", some "__rsub__"), "__rsub__", "Ratio.__rsub__", defArgs s_Ratio___rsub__, defBody s_Ratio___rsub__, defScope s_Ratio___rsub__, [], []⟩
abbrev s_Ratio___mul__ : Stmt := inClass (top 15) 6
def d_Ratio___mul__ : He.DefD := ⟨("Ratio", some "__mul__"), "__mul__", "Ratio.__mul__", defArgs s_Ratio___mul__, defBody s_Ratio___mul__, defScope s_Ratio___mul__, [], []⟩
abbrev s_Ratio___rmul__ : Stmt := inClass (top 15) 7
def d_Ratio___rmul__ : He.DefD := ⟨("Ratio", some "__rmul__"), "__rmul__", "Ratio.__rmul__", defArgs s_Ratio___rmul__, defBody s_Ratio___rmul__, defScope s_Ratio___rmul__, [], []⟩
abbrev s_Ratio___neg__ : Stmt := inClass (top 15) 8
def d_Ratio___neg__ : He.DefD := ⟨("Ratio", some "__neg__"), "__neg__", "Ratio.__neg__", defArgs s_Ratio___neg__, defBody s_Ratio___neg__, defScope s_Ratio___neg__, [], []⟩
abbrev s_Ratio_text : Stmt := inClass (top 15) 10
def d_Ratio_text : He.DefD := ⟨("Ratio", some "text"), "text", "Ratio.text", defArgs s_Ratio_text, defBody s_Ratio_text, defScope s_Ratio_text, [], []⟩
abbrev s_Exact___init__ : Stmt := inClass (top 20) 0
def d_Exact___init__ : He.DefD := ⟨("Exact", some "__init__"), "__init__", "Exact.__init__", defArgs s_Exact___init__, defBody s_Exact___init__, defScope s_Exact___init__, [], []⟩
abbrev s_Field___init__ : Stmt := inClass (top 21) 0
def d_Field___init__ : He.DefD := ⟨("Field", some "__init__"), "__init__", "Field.__init__", defArgs s_Field___init__, defBody s_Field___init__, defScope s_Field___init__, [.int (0)], []⟩
abbrev s_Field___eq__ : Stmt := inClass (top 21) 1
def d_Field___eq__ : He.DefD := ⟨("Field", some "__eq__"), "__eq__", "Field.__eq__", defArgs s_Field___eq__, defBody s_Field___eq__, defScope s_Field___eq__, [], []⟩
abbrev s_Field_number : Stmt := inClass (top 21) 2
def d_Field_number : He.DefD := ⟨("Field", some "number"), "number", "Field.number", defArgs s_Field_number, defBody s_Field_number, defScope s_Field_number, [], []⟩
abbrev s_Series___init__ : Stmt := inClass (top 29) 0
def d_Series___init__ : He.DefD := ⟨("Series", some "__init__"), "__init__", "Series.__init__", defArgs s_Series___init__, defBody s_Series___init__, defScope s_Series___init__, [], []⟩
abbrev s_Series___eq__ : Stmt := inClass (top 29) 1
def d_Series___eq__ : He.DefD := ⟨("Series", some "__eq__"), "__eq__", "Series.__eq__", defArgs s_Series___eq__, defBody s_Series___eq__, defScope s_Series___eq__, [], []⟩
abbrev s_Series___len__ : Stmt := inClass (top 29) 2
def d_Series___len__ : He.DefD := ⟨("Series", some "__len__"), "__len__", "Series.__len__", defArgs s_Series___len__, defBody s_Series___len__, defScope s_Series___len__, [], []⟩
abbrev s_Series_first : Stmt := inClass (top 29) 3
def d_Series_first : He.DefD := ⟨("Series", some "first"), "first", "Series.first", defArgs s_Series_first, defBody s_Series_first, defScope s_Series_first, [], []⟩
abbrev s_Series_then : Stmt := inClass (top 29) 4
def d_Series_then : He.DefD := ⟨("Series", some "then"), "then", "Series.then", defArgs s_Series_then, defBody s_Series_then, defScope s_Series_then, [], []⟩
abbrev s_Series_count_with : Stmt := inClass (top 29) 5
def d_Series_count_with : He.DefD := ⟨("Series", some "count_with"), "count_with", "Series.count_with", defArgs s_Series_count_with, defBody s_Series_count_with, defScope s_Series_count_with, [], []⟩
abbrev s_Series___add__ : Stmt := inClass (top 29) 6
def d_Series___add__ : He.DefD := ⟨("Series", some "__add__"), "__add__", "Series.__add__", defArgs s_Series___add__, defBody s_Series___add__, defScope s_Series___add__, [], []⟩
abbrev s_Series___sub__ : Stmt := inClass (top 29) 7
def d_Series___sub__ : He.DefD := ⟨("Series", some "__sub__"), "__sub__", "Series.__sub__", defArgs s_Series___sub__, defBody s_Series___sub__, defScope s_Series___sub__, [], []⟩
abbrev s_Series___mul__ : Stmt := inClass (top 29) 8
def d_Series___mul__ : He.DefD := ⟨("Series", some "__mul__"), "__mul__", "Series.__mul__", defArgs s_Series___mul__, defBody s_Series___mul__, defScope s_Series___mul__, [], []⟩
abbrev s_Series___rmul__ : Stmt := inClass (top 29) 9
def d_Series___rmul__ : He.DefD := ⟨("Series", some "__rmul__"), "__rmul__", "Series.__rmul__", defArgs s_Series___rmul__, defBody s_Series___rmul__, defScope s_Series___rmul__, [], []⟩
abbrev s_Series___neg__ : Stmt := inClass (top 29) 10
def d_Series___neg__ : He.DefD := ⟨("Series", some "__neg__"), "__neg__", "Series.__neg__", defArgs s_Series___neg__, defBody s_Series___neg__, defScope s_Series___neg__, [], []⟩
abbrev s_NoRatio___init__ : Stmt := inClass (top 4) 0
def z_NoRatio : SupD := ⟨"NoRatio", "NoRatio.__init__", defArgs s_NoRatio___init__, defBody s_NoRatio___init__, defScope s_NoRatio___init__⟩
abbrev s_NoSeries___init__ : Stmt := inClass (top 8) 0
def z_NoSeries : SupD := ⟨"NoSeries", "NoSeries.__init__", defArgs s_NoSeries___init__, defBody s_NoSeries___init__, defScope s_NoSeries___init__⟩
def fa0 : List Fx := [.glo "is_integer", .glo "is_sequence", .glo "plain_digits", .glo "is_prime", .glo "inverse", .glo "refused_place", .glo "product", .glo "is_number", .glo "_law_state", .glo "_law_draw", .glo "_law_gcd", .glo "_law_is_integer", .glo "_law_inverse", .glo "_law_pair", .glo "_law_plus", .glo "_law_minus", .glo "_law_times", .glo "_law_given", .glo "_law_read", .glo "_law_row"]
def fa1 : List Fx := [.glo "_law_passed", .glo "_law_is_prime", .glo "_law_prime", .glo "_law_number", .glo "_law_unit", .glo "_law_expansion", .glo "_law_small", .glo "_law_planted", .glo "_law_coefficients", .glo "_law_told_series", .glo "_law_refused", .glo "_law_further", .glo "_law_counted", .glo "_law_refusals", .glo "_law_more_refusals", .glo "law", .glo "SeriesError", .glo "NoRatio", .glo "NoField", .glo "NoNumber"]
def fa2 : List Fx := [.glo "OtherField", .glo "NoSeries", .glo "NoCount", .glo "Ratio", .glo "Exact", .glo "Field", .glo "Series", .free "ValueError", .free "staticmethod", .free "isinstance", .free "enumerate", .free "range", .free "abs", .free "list", .free "int", .free "tuple", .free "NotImplemented", .free "len", .free "min", .free "bool"]
def fa3 : List Fx := [.free "str", .free "max", .blt "gcd" "math.gcd", .int "READ_DIGITS" 60, .int "MOST_PRIME" 9973, .int "MOST_GIVEN" 32, .int "MOST_KNOWN" 79, .cls "Ratio", .tyi "Ratio", .self "Ratio", .noat "Ratio" "top", .noat "Ratio" "bottom", .mkr "Ratio", .cls "Exact", .tyi "Exact", .self "Exact", .noat "Exact" "exact", .mkr "Exact", .cls "Field", .tyi "Field"]
def fa4 : List Fx := [.self "Field", .noat "Field" "prime", .mkr "Field", .cls "Series", .tyi "Series", .self "Series", .noat "Series" "field", .noat "Series" "coefficients", .noat "Series" "known", .mkr "Series", .meth "Ratio" "__init__", .meth "Ratio" "__eq__", .meth "Ratio" "__add__", .meth "Ratio" "__radd__", .meth "Ratio" "__sub__", .meth "Ratio" "__rsub__", .meth "Ratio" "__mul__", .meth "Ratio" "__rmul__", .meth "Ratio" "__neg__", .meth "Ratio" "text"]
def fa5 : List Fx := [.meth "Exact" "__init__", .meth "Field" "__init__", .meth "Field" "__eq__", .meth "Field" "number", .meth "Series" "__init__", .meth "Series" "__eq__", .meth "Series" "__len__", .meth "Series" "first", .meth "Series" "then", .meth "Series" "count_with", .meth "Series" "__add__", .meth "Series" "__sub__", .meth "Series" "__mul__", .meth "Series" "__rmul__", .meth "Series" "__neg__", .nee "Ratio", .nee "Field", .nee "Series", .oex "SeriesError", .xf "SeriesError"]
def fa6 : List Fx := [.xis "SeriesError", .oex "NoRatio", .xf "NoRatio", .xis "NoRatio", .sup "NoRatio" "word", .oex "NoField", .noi "NoField", .xf "NoField", .xis "NoField", .oex "NoNumber", .noi "NoNumber", .xf "NoNumber", .xis "NoNumber", .oex "OtherField", .noi "OtherField", .xf "OtherField", .xis "OtherField", .oex "NoSeries", .xf "NoSeries", .xis "NoSeries"]
def fa7 : List Fx := [.sup "NoSeries" "place", .oex "NoCount", .noi "NoCount", .xf "NoCount", .xis "NoCount", .rows ["Ratio", "Exact", "Field", "Series"], .rowsX ["SeriesError", "NoRatio", "NoField", "NoNumber", "OtherField", "NoSeries", "NoCount"], .seer]
def fa : List Fx := fa0 ++ fa1 ++ fa2 ++ fa3 ++ fa4 ++ fa5 ++ fa6 ++ fa7
def fn0 : List He.DefD := [d_is_integer, d_is_sequence, d_plain_digits, d_is_prime, d_inverse, d_refused_place, d_product, d_is_number, d__law_state, d__law_draw, d__law_gcd, d__law_is_integer, d__law_inverse, d__law_pair, d__law_plus, d__law_minus, d__law_times, d__law_given, d__law_read, d__law_row]
def fn1 : List He.DefD := [d__law_passed, d__law_is_prime, d__law_prime, d__law_number, d__law_unit, d__law_expansion, d__law_small, d__law_planted, d__law_coefficients, d__law_told_series, d__law_refused, d__law_further, d__law_counted, d__law_refusals, d__law_more_refusals, d_law, d_Ratio___init__, d_Ratio___eq__, d_Ratio___add__, d_Ratio___radd__]
def fn2 : List He.DefD := [d_Ratio___sub__, d_Ratio___rsub__, d_Ratio___mul__, d_Ratio___rmul__, d_Ratio___neg__, d_Ratio_text, d_Exact___init__, d_Field___init__, d_Field___eq__, d_Field_number, d_Series___init__, d_Series___eq__, d_Series___len__, d_Series_first, d_Series_then, d_Series_count_with, d_Series___add__, d_Series___sub__, d_Series___mul__, d_Series___rmul__]
def fn3 : List He.DefD := [d_Series___neg__]
def fn : List He.DefD := fn0 ++ fn1 ++ fn2 ++ fn3
def fz0 : List SupD := [z_NoRatio, z_NoSeries]
def fz : List SupD := fz0
def loose0 : List Str := ["gcd", "_wall", "SeriesError", "NoRatio", "NoField", "NoNumber", "OtherField", "NoSeries", "NoCount", "READ_DIGITS", "is_integer", "is_sequence", "plain_digits", "Ratio", "MOST_PRIME", "is_prime", "inverse", "Exact", "Field", "refused_place"]
def loose1 : List Str := ["product", "is_number", "MOST_GIVEN", "MOST_KNOWN", "Series", "_law_state", "_law_draw", "_law_gcd", "_law_is_integer", "_law_inverse", "_law_pair", "_law_plus", "_law_minus", "_law_times", "_law_given", "_law_read", "_law_row", "_law_passed", "_law_is_prime", "_law_prime"]
def loose2 : List Str := ["_law_number", "_law_unit", "_law_expansion", "_law_small", "_law_planted", "_law_coefficients", "_law_told_series", "_law_refused", "_law_further", "_law_counted", "_law_refusals", "_law_more_refusals"]
def loose : List Str := loose0 ++ loose1 ++ loose2
end Sx

namespace Sx
open PySem PySem.Spec PyProof.Rows L2
abbrev R : PySem.W.OpenRow := PySem.W.OpenLaw.row PySem.Challenge.rw_seriessquares_k09_series_made
abbrev hk : PySem.W.Hook := hookM 4 fa fn fz
def ob (s : PySem.W.SharedT) : AlM := obsMG 4 fa fn fz (HandSHeadRun.getT s)
theorem ob_eq (s : PySem.W.SharedT) : ob s = hk.obs s.abs := obsMG_eq (HandSHeadRun.getT_eq s)
theorem run (w : World) : GH.RunEqG R (PySem.W.view R.prog [58]) hk ob 4000 8000 loose w := by
  show (_ : Option _) = _
  kernel_rfl
end Sx

namespace Sx
open PySem PySem.Spec PyProof.Rows L2
/-! ### heaps -/
def At (H : Hp) (a : Addr) (o : HO) : Prop := H a = some o
theorem Same.at {H0 H : Hp} {a : Addr} {o : HO} (e : Same H0 H) (h : At H0 a o) : At H a o := e _ _ h
theorem Same.updR {A G : Hp} {p : Addr} {o : HO} (e : Same A G) (n : G p = none) : Same A (upd G p o) := fun b u h => by
  rw [upd_ne (ne_of_none (e b u h) n)]
  exact e b u h
theorem Same.updU {A : Hp} {p : Addr} {o u : HO} (n : A p = none) {G : Hp} (e : Same A G) : Same (upd A p o) (upd G p o) := fun b v h => by
  by_cases q : b = p
  · subst q
    rw [upd_same] at h ⊢
    exact h
  · rw [upd_ne q] at h ⊢
    exact e b v h
/-- what has grown from G with a changing object beside it -/
theorem unmix {G H' : Hp} {p : Addr} {o : HO} (e : Same (upd G p o) H') (n : G p = none) : ∃ G', H' = upd G' p o ∧ G' p = none ∧ Same G G' := by
  refine ⟨del H' p, ?_, del_same, fun b u h => ?_⟩
  · funext b
    by_cases q : b = p
    · subst q
      rw [upd_same]
      exact e _ _ upd_same
    · rw [upd_ne q, del_ne q]
  · have q : b ≠ p := ne_of_none h n
    rw [del_ne q]
    exact e b u (by rw [upd_ne q]; exact h)
theorem upd_none {G : Hp} {p q : Addr} {o : HO} (h : G q = none) (n : q ≠ p) : upd G p o q = none := by rw [upd_ne n]; exact h
theorem upd_back {G : Hp} {p q : Addr} {o : HO} (h : upd G p o q = none) : q ≠ p ∧ G q = none := by
  have e : q ≠ p := fun z => by
    rw [z, upd_same] at h
    cases h
  exact ⟨e, by rw [upd_ne e] at h; exact h⟩
theorem upd_comm {G : Hp} {p q : Addr} {o u : HO} (n : q ≠ p) : upd (upd G p o) q u = upd (upd G q u) p o := by
  funext b
  unfold upd
  by_cases h1 : b = q
  · rw [if_pos h1]
    by_cases h2 : b = p
    · exact absurd (h1.symm.trans h2) n
    · rw [if_neg h2, if_pos h1]
  · rw [if_neg h1]
    by_cases h2 : b = p
    · rw [if_pos h2, if_pos h2]
    · rw [if_neg h2, if_neg h2, if_neg h1]
/-! ### readings, a step each -/
section
variable {σ : L2.St} {H H1 : Hp} {Q : VK} {D : Ends} {v w x y : V} {i j : Nat} {te ta tb : TE} {t1 t2 : TS} {g : TG} {c u : TT} {K : PySem.W.Frag} {f : Str} {C : Addr} {sp : Sp} {W : WX} {t : TA} {QB : Bool → Hp → Prop} {QL : List V → Hp → Prop}
theorem r_seq (h : t1 { D with nx := t2 D } σ H) : tSeq t1 t2 D σ H := h
theorem r_asg (h : te σ H fun x H1 => g x σ H1 D.nx) : tAsg te g D σ H := h
theorem r_drop (h : te σ H fun _ H1 => D.nx σ H1) : tDrop te D σ H := h
theorem r_ret (h : te σ H D.rt) : tRet te D σ H := h
theorem r_retN (h : D.rt .non H) : tRetN D σ H := h
theorem r_next (h : D.nx σ H) : tNext D σ H := h
theorem r_brk (h : D.bk σ H) : tBreak D σ H := h
theorem r_cont (h : D.ct σ H) : tCont D σ H := h
theorem r_ifS (h : c σ H fun b H1 => if b = true then t1 D σ H1 else t2 D σ H1) : tIfS c t1 t2 D σ H := h
theorem r_par (h : t σ H fun vs H1 => ∃ v w, vs = [v, w] ∧ D.nx ((σ.set i (some v)).set j (some w)) H1) : tPar i j t D σ H := h
theorem r_two {P : V → V → Prop} (h : P v w) : ∃ v' w', [v, w] = [v', w'] ∧ P v' w' := ⟨v, w, rfl, h⟩
theorem r_one {P : V → Prop} (h : P v) : ∃ v', [v] = [v'] ∧ P v' := ⟨v, rfl, h⟩
theorem r_var (e : σ[i]? = some (some v)) (h : Q v H) : tVar i σ H Q := ⟨v, e, h⟩
theorem r_c (h : Q v H) : tC v σ H Q := h
theorem r_op {r : R2} (h : ta σ H fun x H1 => tb σ H1 fun y H2 => r x y H2 Q) : tOp r ta tb σ H Q := h
theorem r_un {r : V → Hp → VK → Prop} (h : ta σ H fun x H1 => r x H1 Q) : tUn r ta σ H Q := h
theorem r_I0 {gf : Int → Int → V} {a b : Int} (h : Q (gf a b) H) : rI0 gf (.int a) (.int b) H Q := ⟨a, b, rfl, rfl, h⟩
theorem r_I {Cc : Int → Int → Prop} {gf : Int → Int → V} {a b : Int} (hc : Cc a b) (h : Q (gf a b) H) : rI Cc gf (.int a) (.int b) H Q := ⟨a, b, rfl, rfl, hc, h⟩
theorem r_U {gf : Int → V} {a : Int} (h : Q (gf a) H) : rU gf (.int a) H Q := ⟨a, rfl, h⟩
theorem r_eq (hs : scal x y = true) (h : Q (.bl (decide (x = y))) H) : rEq x y H Q := ⟨hs, h⟩
theorem r_ne (hs : scal x y = true) (h : Q (.bl (!decide (x = y))) H) : rNe x y H Q := ⟨hs, h⟩
theorem r_test (h : te σ H fun x H' => ∃ k, x = .bl k ∧ QB k H') : tTest te σ H QB := h
theorem r_B (h : te σ H fun x H' => ∃ k, x = .bl k ∧ QB k H') : tB te σ H QB := h
theorem r_bl {b : Bool} {P : Bool → Prop} (h : P b) : ∃ k, V.bl b = .bl k ∧ P k := ⟨b, rfl, h⟩
theorem r_and (h : c σ H fun b H1 => if b = true then u σ H1 QB else QB false H1) : tAnd c u σ H QB := h
theorem r_or (h : c σ H fun b H1 => if b = true then QB true H1 else u σ H1 QB) : tOr c u σ H QB := h
theorem r_not (h : c σ H fun b H1 => QB (!b) H1) : tNot c σ H QB := h
theorem r_andV (h : ta σ H fun x H1 => ∃ c, x = .bl c ∧ if c = true then tb σ H1 Q else Q (.bl false) H1) : tAndV ta tb σ H Q := h
theorem r_orV (h : ta σ H fun x H1 => ∃ c, x = .bl c ∧ if c = true then Q (.bl true) H1 else tb σ H1 Q) : tOrV ta tb σ H Q := h
theorem r_notV (h : ta σ H fun x H1 => ∃ c, x = .bl c ∧ Q (.bl (!c)) H1) : tNotV ta σ H Q := h
theorem r_ifE (h : c σ H fun b H1 => if b = true then ta σ H1 Q else tb σ H1 Q) : tIf c ta tb σ H Q := h
theorem r_chain {r r' : R2} {tc : TE} (h : ta σ H fun x H1 => tb σ H1 fun y H2 => r x y H2 fun z H3 => ∃ k, z = .bl k ∧ (if k = true then tc σ H3 fun w' H4 => r' y w' H4 Q else Q (.bl false) H3)) : tChain r r' ta tb tc σ H Q := h
theorem r_nil (h : QL [] H) : tNil σ H QL := h
theorem r_cons {tr : TA} (h : ta σ H fun x H1 => tr σ H1 fun xs H2 => QL (x :: xs) H2) : tCons ta tr σ H QL := h
def kTup (Q : VK) : List V → Hp → Prop := fun xs H1 => xs.length ≤ sizeLine ∧ ∀ p, H1 p = none → Q (.ref p) (upd H1 p (.tup xs))
theorem r_tup (h : t σ H (kTup Q)) : tTup t σ H Q := h
def kLst (Q : VK) : List V → Hp → Prop := fun xs H1 => xs.length ≤ sizeLine ∧ ∀ p, H1 p = none → Q (.ref p) (upd H1 p (.lst xs))
theorem r_lst (h : t σ H (kLst Q)) : tLst t σ H Q := h
def kFld (K : PySem.W.Frag) (f : Str) (Q : VK) : VK := fun x H1 => ∃ a C dx fs v, x = .ref a ∧ H1 a = some (.ins C dx fs) ∧ Cls K C ∧ NoAttr K C f ∧ fs.lookup f = some v ∧ Q v H1
theorem r_fld (h : ta σ H (kFld K f Q)) : tFld K ta f σ H Q := h
theorem r_callW (h : t σ H fun vs H1 => sp vs H1 Q (WE W σ)) : tCallW sp W t σ H Q := h
def kMeth (C : Addr) (m : Str) (R : V → Hp → Prop) : VK := fun x H1 => ∃ a dx fs, x = .ref a ∧ H1 a = some (.ins C dx fs) ∧ fs.lookup m = none ∧ R x H1
theorem r_methW {m : Str} (h : ta σ H (kMeth C m fun x H1 => t σ H1 fun vs H2 => sp (x :: vs) H2 Q (WE W σ))) : tMethW C m sp W ta t σ H Q := h
def kMake (C : Addr) (sp : Sp) (Q : VK) (E : XK) : List V → Hp → Prop := fun vs H1 => ∀ x dx, H1 x = none → H1 dx = none → dx ≠ x → sp (.ref x :: vs) (upd (upd H1 dx (.own x)) x (.ins C dx [])) (fun v H2 => v = .non ∧ Q (.ref x) H2) E
theorem r_makeW (h : t σ H (kMake C sp Q (WE W σ))) : tMakeW C sp W t σ H Q := h
theorem r_CB {r : List V → Hp → VK → Prop} (h : t σ H fun vs H1 => r vs H1 Q) : tCB r t σ H Q := h
theorem r_sub {to ti : TE} {ts : TSet} {QS : L2.St → Hp → Prop} (h : to σ H fun o H1 => ti σ H1 fun i H2 => ts o i v H2 fun H3 => QS σ H3) : gSub to ti ts v σ H QS := h
def kFldS (K : PySem.W.Frag) (f : Str) (y : V) (R : Hp → Prop) : VK := fun x H2 => ∃ a C dx fs, x = .ref a ∧ H2 a = some (.ins C dx fs) ∧ Cls K C ∧ NoAttr K C f ∧ fs.length < 1000 ∧ R (upd H2 a (.ins C dx (putF f y fs)))
theorem r_fldS {tv : TE} (h : tv σ H fun y H1 => ta σ H1 (kFldS K f y (D.nx σ))) : sFld K ta tv f D σ H := h
theorem r_bm {T : String} {r : V → List V → Hp → VK → Prop} {to : TE} (h : to σ H fun x H1 => tyV K T x H1 ∧ t σ H1 fun xs H2 => r x xs H2 Q) : tBM K T r to t σ H Q := h
theorem r_bm0 {T : String} {r : V → List V → Hp → VK → Prop} {to : TE} (h : to σ H fun x H1 => tyV K T x H1 ∧ r x [] H1 Q) : tBM0 K T r to σ H Q := h
theorem r_sl {r : V → Option Int → Option Int → Hp → VK → Prop} {tl th : TO} (h : te σ H fun x H1 => tl σ H1 fun l H2 => th σ H2 fun u H3 => r x l u H3 Q) : tSl r te tl th σ H Q := h
theorem r_part {QO : Option Int → Hp → Prop} (h : te σ H fun x H1 => ∃ i, x = .int i ∧ QO (some i) H1) : tPart te σ H QO := h
theorem r_noPart {QO : Option Int → Hp → Prop} (h : QO none H) : tNoPart σ H QO := h
theorem r_exI {a : Int} {P : Int → Prop} (h : P a) : ∃ i, V.int a = .int i ∧ P i := ⟨a, rfl, h⟩
theorem r_cutS {tu tw : TS} (Mid : L2.St → Hp → Prop) (h : tu { D with nx := Mid } σ H) (k : ∀ σ' H', Mid σ' H' → tw D σ' H') : Evl.tCut tu tw D σ H := ⟨Mid, h, k⟩
theorem r_mkE {C : Addr} {fld : Str} {QX : XK} (h : t σ H fun vs H1 => ∃ v, vs = [v] ∧ ∀ d, H1 d = none → QX (.ref C) (some d) (upd H1 d (.xd [(fld, v)]))) : tMkE C fld t σ H QX := h
/-- the ifs -/
theorem i_T {A B : Prop} (h : A) : if true = true then A else B := iteT h
theorem i_F {A B : Prop} (h : B) : if false = true then A else B := iteF h
theorem i_nT {A B : Prop} (h : B) : if (!true) = true then A else B := iteF h
theorem i_nF {A B : Prop} (h : A) : if (!false) = true then A else B := iteT h
theorem i_d {p A B : Prop} [Decidable p] (h1 : p → A) (h2 : ¬ p → B) : if decide p = true then A else B := by
  by_cases h : p
  · rw [decide_eq_true h]; exact iteT (h1 h)
  · rw [decide_eq_false h]; exact iteF (h2 h)
theorem i_dn {p A B : Prop} [Decidable p] (h1 : ¬ p → A) (h2 : p → B) : if (!decide p) = true then A else B := by
  by_cases h : p
  · rw [decide_eq_true h]; exact iteF (h2 h)
  · rw [decide_eq_false h]; exact iteT (h1 h)
theorem i_I {a b : Int} {A B : Prop} (h1 : a = b → A) (h2 : a ≠ b → B) : if decide (V.int a = V.int b) = true then A else B :=
  i_d (fun h => h1 (V.int.inj h)) fun h => h2 fun e => h (by rw [e])
theorem i_In {a b : Int} {A B : Prop} (h1 : a ≠ b → A) (h2 : a = b → B) : if (!decide (V.int a = V.int b)) = true then A else B :=
  i_dn (fun h => h1 fun e => h (by rw [e])) fun h => h2 (V.int.inj h)
theorem i_S {a b : Str} {A B : Prop} (h1 : a = b → A) (h2 : a ≠ b → B) : if decide (V.str a = V.str b) = true then A else B :=
  i_d (fun h => h1 (V.str.inj h)) fun h => h2 fun e => h (by rw [e])
theorem i_Sn {a b : Str} {A B : Prop} (h1 : a ≠ b → A) (h2 : a = b → B) : if (!decide (V.str a = V.str b)) = true then A else B :=
  i_dn (fun h => h1 fun e => h (by rw [e])) fun h => h2 (V.str.inj h)
theorem i_b {b : Bool} {A B : Prop} (h1 : b = true → A) (h2 : b = false → B) : if b = true then A else B := by
  cases b with
  | true => exact iteT (h1 rfl)
  | false => exact iteF (h2 rfl)
/-- names -/
theorem n_0 {a : Option V} {r : L2.St} {QS : L2.St → Hp → Prop} (h : QS (some v :: r) H) : gName 0 v (a :: r) H QS := h
theorem n_1 {a b : Option V} {r : L2.St} {QS : L2.St → Hp → Prop} (h : QS (a :: some v :: r) H) : gName 1 v (a :: b :: r) H QS := h
theorem n_2 {a b c : Option V} {r : L2.St} {QS : L2.St → Hp → Prop} (h : QS (a :: b :: some v :: r) H) : gName 2 v (a :: b :: c :: r) H QS := h
theorem n_3 {a b c d : Option V} {r : L2.St} {QS : L2.St → Hp → Prop} (h : QS (a :: b :: c :: some v :: r) H) : gName 3 v (a :: b :: c :: d :: r) H QS := h
theorem n_4 {a b c d e : Option V} {r : L2.St} {QS : L2.St → Hp → Prop} (h : QS (a :: b :: c :: d :: some v :: r) H) : gName 4 v (a :: b :: c :: d :: e :: r) H QS := h
theorem n_5 {a b c d e f : Option V} {r : L2.St} {QS : L2.St → Hp → Prop} (h : QS (a :: b :: c :: d :: e :: some v :: r) H) : gName 5 v (a :: b :: c :: d :: e :: f :: r) H QS := h
theorem n_6 {a b c d e f g : Option V} {r : L2.St} {QS : L2.St → Hp → Prop} (h : QS (a :: b :: c :: d :: e :: f :: some v :: r) H) : gName 6 v (a :: b :: c :: d :: e :: f :: g :: r) H QS := h
theorem n_7 {a b c d e f g a' : Option V} {r : L2.St} {QS : L2.St → Hp → Prop} (h : QS (a :: b :: c :: d :: e :: f :: g :: some v :: r) H) : gName 7 v (a :: b :: c :: d :: e :: f :: g :: a' :: r) H QS := h
theorem n_8 {a b c d e f g a' b' : Option V} {r : L2.St} {QS : L2.St → Hp → Prop} (h : QS (a :: b :: c :: d :: e :: f :: g :: a' :: some v :: r) H) : gName 8 v (a :: b :: c :: d :: e :: f :: g :: a' :: b' :: r) H QS := h
theorem n_9 {a b c d e f g a' b' c' : Option V} {r : L2.St} {QS : L2.St → Hp → Prop} (h : QS (a :: b :: c :: d :: e :: f :: g :: a' :: b' :: some v :: r) H) : gName 9 v (a :: b :: c :: d :: e :: f :: g :: a' :: b' :: c' :: r) H QS := h
theorem n_10 {a b c d e f g a' b' c' d' : Option V} {r : L2.St} {QS : L2.St → Hp → Prop} (h : QS (a :: b :: c :: d :: e :: f :: g :: a' :: b' :: c' :: some v :: r) H) : gName 10 v (a :: b :: c :: d :: e :: f :: g :: a' :: b' :: c' :: d' :: r) H QS := h
theorem n_11 {a b c d e f g a' b' c' d' e' : Option V} {r : L2.St} {QS : L2.St → Hp → Prop} (h : QS (a :: b :: c :: d :: e :: f :: g :: a' :: b' :: c' :: d' :: some v :: r) H) : gName 11 v (a :: b :: c :: d :: e :: f :: g :: a' :: b' :: c' :: d' :: e' :: r) H QS := h
theorem n_12 {a b c d e f g a' b' c' d' e' f' : Option V} {r : L2.St} {QS : L2.St → Hp → Prop} (h : QS (a :: b :: c :: d :: e :: f :: g :: a' :: b' :: c' :: d' :: e' :: some v :: r) H) : gName 12 v (a :: b :: c :: d :: e :: f :: g :: a' :: b' :: c' :: d' :: e' :: f' :: r) H QS := h
/-- new objects -/
theorem k_tup {xs : List V} (hz : xs.length ≤ 1000) (k : ∀ p H2, H p = none → Same H H2 → At H2 p (.tup xs) → Q (.ref p) H2) : kTup Q xs H :=
  ⟨Nat.le_trans hz (by decide), fun p n => k p _ n (Same.updR (Same.refl _) n) upd_same⟩
theorem k_tupD {xs : List V} {ds : List Sx.D} (hs : IsL K H xs ds) (hz : xs.length ≤ 1000) (k : ∀ v H2, Same H H2 → Is K H2 v (.tup ds) → Q v H2) : kTup Q xs H :=
  k_tup hz fun p H2 n e h => k _ _ e (.tup (SqT.of h) (IsL.mono e hs))
theorem k_lstD {xs : List V} {ds : List Sx.D} (hs : IsL K H xs ds) (hz : xs.length ≤ 1000) (k : ∀ v H2, Same H H2 → Is K H2 v (.lst ds) → Q v H2) : kLst Q xs H :=
  ⟨Nat.le_trans hz (by decide), fun p n => k _ _ (Same.updR (Same.refl _) n) (.lst (SqL.of upd_same) (IsL.mono (Same.updR (Same.refl _) n) hs))⟩
theorem k_lst {xs : List V} (hz : xs.length ≤ 1000) (k : ∀ p, H p = none → Q (.ref p) (upd H p (.lst xs))) : kLst Q xs H :=
  ⟨Nat.le_trans hz (by decide), k⟩
end
/-! ### isinstance -/
class DOk (K : PySem.W.Frag) (d : D) : Prop where
  ok : ∀ C gs, d = .ins C gs → IsCls K C
instance {K : PySem.W.Frag} : DOk K .non := ⟨fun _ _ e => nomatch e⟩
instance {K : PySem.W.Frag} {b : Bool} : DOk K (.bl b) := ⟨fun _ _ e => nomatch e⟩
instance {K : PySem.W.Frag} {i : Int} : DOk K (.int i) := ⟨fun _ _ e => nomatch e⟩
instance {K : PySem.W.Frag} {i : Str} : DOk K (.str i) := ⟨fun _ _ e => nomatch e⟩
instance {K : PySem.W.Frag} {ds : List D} : DOk K (.tup ds) := ⟨fun _ _ e => nomatch e⟩
instance {K : PySem.W.Frag} {ds : List D} : DOk K (.lst ds) := ⟨fun _ _ e => nomatch e⟩
instance {K : PySem.W.Frag} : DOk K .dic := ⟨fun _ _ e => nomatch e⟩
instance {K : PySem.W.Frag} {C : Str} {gs : List (Str × D)} [h : IsCls K C] : DOk K (.ins C gs) := ⟨fun _ _ e => by cases e; exact h⟩
section
variable {K : PySem.W.Frag} {H : Hp} {v : V} {d : D} {Q : VK}
theorem Is.tyx (h : Is K H v d) (ok : DOk K d) : TyX K H v (d.tn.val K) := by
  cases h with
  | non => exact .base .non
  | bl b => exact .base (.bl b)
  | int i => exact .base (.int i)
  | str x => exact .base (.str x)
  | tup h hs =>
    rcases h with (h | ⟨o, h⟩) | ⟨o, its, n, h1, h2, _⟩
    · exact .base (.tup h)
    · exact .fTuple h
    · exact .kTuple h1 h2
  | lst h hs =>
    rcases h with (h | ⟨o, h⟩) | ⟨o, its, n, h1, h2, _⟩
    · exact .base (.lst h)
    · exact .base (.frz h)
    · exact .kList h1 h2
  | ins h hs =>
    have c := ok.ok _ _ rfl
    obtain ⟨h1, h2, h3, h4⟩ := tyi_ok c.ty
    exact .base (.ins h c.cl h1 h2 h3 h4)
  | dic h => exact .base (.dK h)
theorem r_isiB {n : String} {b : Bool} (hx : Is K H v d) [ok : DOk K d] [k : Kit K d.tn (.b n) b] (h : Q (.bl b) H) : rIsi K [v, .ty n] H Q :=
  ⟨v, .ty n, _, _, b, rfl, .ty n, hx.tyx ok, k.h, h⟩
theorem r_isiC {C : Str} {b : Bool} (hx : Is K H v d) [ok : DOk K d] [k : Kit K d.tn (.c C) b] (h : Q (.bl b) H) : rIsi K [v, .ref (He.ga K C)] H Q :=
  ⟨v, .ref (He.ga K C), _, _, b, rfl, .own _, hx.tyx ok, k.h, h⟩
end
theorem cxK {CX : CXT} {P : Program} {w : World} {K : PySem.W.Frag} {mg : Str → Option Value} {base : Heap} {N : List Str} {qual : Str} {scope : Scope} {f : Addr} {cd : Value} {A : Around} {outer : List Env} {s : Shared} {H : Hp} {E : XK} :
    (cxOf CX P w K mg base N qual scope f cd A outer s H E).K = K := rfl
end Sx

namespace Sx
open PySem PySem.Spec PyProof.Rows L2
/-- // by a divisor not 0, below 2 ^ 9000 in size -/
def CDivX (_ j : Int) : Prop := j ≠ 0 ∧ j.natAbs.log2 < 9000
theorem op_fdivX {X : Cx} : OpR X (binaryOp .FloorDiv) (rI CDivX fun i j => .int (i.fdiv j)) := opI fun _ _ _ _ _ _ _ hc q => floordiv_int hc.1 q (.inl (PyProof.noPylong_of_log2 hc.2))
/-- numbers below 2 ^ n in size -/
def Bd (n : Nat) (i : Int) : Prop := i.natAbs < 2 ^ n
theorem Bd.log {n : Nat} {i : Int} (h : Bd n i) (hn : 0 < n) : i.natAbs.log2 < n := PySem.Flt.log2_lt_of hn h
theorem Bd.up {n m : Nat} {i : Int} (h : Bd n i) (e : n ≤ m) : Bd m i := Nat.lt_of_lt_of_le h (Nat.pow_le_pow_right (by decide) e)
theorem Bd.mul {n m : Nat} {i j : Int} (h : Bd n i) (k : Bd m j) : Bd (n + m) (i * j) := wide_lt h k
theorem Bd.neg {n : Nat} {i : Int} (h : Bd n i) : Bd n (-i) := by unfold Bd at *; rw [Int.natAbs_neg]; exact h
theorem Bd.add {n : Nat} {i j : Int} (h : Bd n i) (k : Bd n j) : Bd (n + 1) (i + j) := by
  unfold Bd at *
  have := Int.natAbs_add_le i j
  rw [Nat.pow_succ]
  omega
theorem Bd.sub {n : Nat} {i j : Int} (h : Bd n i) (k : Bd n j) : Bd (n + 1) (i - j) := by rw [Int.sub_eq_add_neg]; exact h.add k.neg
theorem Bd.zero {n : Nat} : Bd n 0 := Nat.two_pow_pos n
theorem Bd.of_le {n : Nat} {i j : Int} (k : Bd n j) (h : i.natAbs ≤ j.natAbs) : Bd n i := Nat.lt_of_le_of_lt h k
theorem Bd.mulOk {n m : Nat} {i j : Int} (h : Bd n i) (k : Bd m j) (hn : 0 < n) (hm : 0 < m) (e : n + m ≤ 1000000) : CMulW i j := wide_mul h k hn hm e
theorem Bd.divOk {n : Nat} {i j : Int} (k : Bd n j) (hn : 0 < n) (h0 : j ≠ 0) (e : n ≤ 9000) : CDivX i j := ⟨h0, Nat.lt_of_lt_of_le (k.log hn) e⟩
/-- what is told of data: the class is one of the text's, whether it is an int -/
def isNum : D → Bool
  | .int _ | .bl _ => true
  | _ => false
def isIntD : D → Bool
  | .int _ => true
  | _ => false
class Dn (K : PySem.W.Frag) (d : D) : Prop where
  ok : DOk K d
  ki : Kit K d.tn (.b "int") (isNum d)
instance {K : PySem.W.Frag} : Dn K .non := ⟨inferInstance, ⟨kit_ty (r := false) (by decide +kernel)⟩⟩
instance {K : PySem.W.Frag} {b : Bool} : Dn K (.bl b) := ⟨inferInstance, ⟨kit_ty (r := true) (by decide +kernel)⟩⟩
instance {K : PySem.W.Frag} {i : Int} : Dn K (.int i) := ⟨inferInstance, ⟨kit_ty (r := true) (by decide +kernel)⟩⟩
instance {K : PySem.W.Frag} {i : Str} : Dn K (.str i) := ⟨inferInstance, ⟨kit_ty (r := false) (by decide +kernel)⟩⟩
instance {K : PySem.W.Frag} {ds : List D} : Dn K (.tup ds) := ⟨inferInstance, ⟨kit_ty (r := false) (by decide +kernel)⟩⟩
instance {K : PySem.W.Frag} {ds : List D} : Dn K (.lst ds) := ⟨inferInstance, ⟨kit_ty (r := false) (by decide +kernel)⟩⟩
instance {K : PySem.W.Frag} : Dn K .dic := ⟨inferInstance, ⟨kit_ty (r := false) (by decide +kernel)⟩⟩
instance {K : PySem.W.Frag} {C : Str} {gs : List (Str × D)} [h : IsCls K C] [k : Kit K (.c C) (.b "int") false] : Dn K (.ins C gs) := ⟨inferInstance, k⟩
theorem cmul_r {i j : Int} (h1 : -(2 ^ 64) < j) (h2 : j < 2 ^ 64) : CMul i j := .inr ⟨h1, h2⟩
theorem cmul_l {i j : Int} (h1 : -(2 ^ 64) < i) (h2 : i < 2 ^ 64) : CMul i j := .inl ⟨h1, h2⟩
theorem cdiv_p {i j : Int} (h1 : 0 < j) (h2 : j < 1073741824) : CDiv i j := ⟨h1, h2⟩
theorem cpow_c {i j : Int} (h1 : 0 ≤ j) (h2 : j ≤ 1000000) (h3 : i.natAbs < 2 ^ 64) : CPow i j := ⟨h1, h2, h3⟩
def rInt : List V → Hp → VK → Prop := fun xs H Q => (∃ i, xs = [.int i] ∧ Q (.int i) H) ∨ ∃ k, xs = [.bl k] ∧ Q (.int (if k then 1 else 0)) H
theorem call_intN {X : Cx} : CallR X (.type "int") rInt := call_int1
theorem r_int {H : Hp} {Q : VK} {a : Int} (h : Q (.int a) H) : rInt [.int a] H Q := .inl ⟨a, rfl, h⟩
def rAbs : List V → Hp → VK → Prop := fun xs H Q => ∃ i, xs = [.int i] ∧ Q (.int (if i < 0 then -i else i)) H
theorem call_absN {X : Cx} : CallR X (.builtin "abs") rAbs := call_abs
theorem r_abs {H : Hp} {Q : VK} {a : Int} (h : Q (.int (a.natAbs : Int)) H) : rAbs [.int a] H Q := ⟨a, rfl, by
  have e : (if a < 0 then -a else a) = (a.natAbs : Int) := by split <;> omega
  rw [e]
  exact h⟩
def rLen (K : PySem.W.Frag) : List V → Hp → VK → Prop := fun xs H Q => ∃ x n, xs = [x] ∧ LenV K x H n ∧ Q (.int (n : Nat)) H
theorem call_lenN {X : Cx} : CallR X (.builtin "len") (rLen X.K) := call_len
theorem r_lenL {K : PySem.W.Frag} {H : Hp} {Q : VK} {p : Addr} {xs : List V} (hp : SqL K H p xs) (h : Q (.int (xs.length : Nat)) H) : rLen K [.ref p] H Q := ⟨.ref p, xs.length, rfl, .inl ⟨xs, hp, rfl⟩, h⟩
theorem r_lenT {K : PySem.W.Frag} {H : Hp} {Q : VK} {p : Addr} {xs : List V} (hp : SqT K H p xs) (h : Q (.int (xs.length : Nat)) H) : rLen K [.ref p] H Q := ⟨.ref p, xs.length, rfl, .inr ⟨xs, hp, rfl⟩, h⟩
theorem r_lenS {K : PySem.W.Frag} {H : Hp} {Q : VK} {x : Str} (hz : x.length ≤ sizeLine) (h : Q (.int (x.length : Nat)) H) : rLen K [.str x] H Q := ⟨.str x, x.length, rfl, ⟨hz, rfl⟩, h⟩
def rMin : List V → Hp → VK → Prop := fun xs H Q => ∃ i j, xs = [.int i, .int j] ∧ Q (.int (if j < i then j else i)) H
def rMax : List V → Hp → VK → Prop := fun xs H Q => ∃ i j, xs = [.int i, .int j] ∧ Q (.int (if j > i then j else i)) H
theorem call_minN {X : Cx} (hc : X.calm = true) : CallR X (.builtin "min") rMin := call_min2 hc
theorem call_maxN {X : Cx} (hc : X.calm = true) : CallR X (.builtin "max") rMax := call_max2 hc
theorem r_min {H : Hp} {Q : VK} {a b : Int} (h : Q (.int (min a b)) H) : rMin [.int a, .int b] H Q := ⟨a, b, rfl, by
  have e : (if b < a then b else a) = min a b := by omega
  rw [e]; exact h⟩
theorem r_max {H : Hp} {Q : VK} {a b : Int} (h : Q (.int (max a b)) H) : rMax [.int a, .int b] H Q := ⟨a, b, rfl, by
  have e : (if b > a then b else a) = max a b := by omega
  rw [e]; exact h⟩
theorem r_gcd {H : Hp} {Q : VK} {a b : Int} (h : Q (.int (Int.gcd a b : Nat)) H) : rGcd [.int a, .int b] H Q := ⟨a, b, rfl, h⟩
theorem isInt_ex {d : D} (h : isIntD d = true) : ∃ i, d = .int i := by cases d <;> first | exact ⟨_, rfl⟩ | cases h
/-- C(v) raised -/
def Rz (K : PySem.W.Frag) (E : XK) (C fld : Str) (v : V) (H : Hp) : Prop := ∀ d H2, Same H H2 → At H2 d (.xd [(fld, v)]) → E (.ref (He.ga K C)) (some d) H2
theorem Rz.mono {K : PySem.W.Frag} {E : XK} {C fld : Str} {v : V} {H H' : Hp} (h : Rz K E C fld v H) (e : Same H H') : Rz K E C fld v H' := fun d H2 s a => h d H2 (e.trans s) a
theorem Rz.e {K : PySem.W.Frag} {E : XK} {C fld : Str} {v : V} {H : Hp} (h : Rz K E C fld v H) : ∀ d, H d = none → E (.ref (He.ga K C)) (some d) (upd H d (.xd [(fld, v)])) :=
  fun d n => h d _ (Same.updR (Same.refl _) n) upd_same
theorem upd_upd {H : Hp} {a : Addr} {o u : HO} : upd (upd H a o) a u = upd H a u := by
  funext b
  by_cases h : b = a
  · rw [h, upd_same, upd_same]
  · rw [upd_ne h, upd_ne h, upd_ne h]
/-! ### fields of data -/
section
variable {K : PySem.W.Frag} {H : Hp} {Q : VK} {v : V} {C f : Str} {gs : List (Str × D)} {d : D}
theorem k_fldD (hv : Is K H v (.ins C gs)) (e : gs.lookup f = some d) [c : IsCls K C] [n : HasFld K C f] (h : ∀ u, Is K H u d → Q u H) : kFld K f Q v H := by
  cases hv with
  | ins ha hs =>
    obtain ⟨w, e1, e2⟩ := hs.look e
    exact ⟨_, _, _, _, w, rfl, ha, c.cl, n.no, e1, h w e2⟩
theorem k_fldI {i : Int} (hv : Is K H v (.ins C gs)) (e : gs.lookup f = some (.int i)) [c : IsCls K C] [n : HasFld K C f] (h : Q (.int i) H) : kFld K f Q v H := k_fldD hv e fun u hu => by
  rw [hu.int_eq]
  exact h
theorem k_setF {a dx : Addr} {fs : List (Str × V)} {y : V} {R : Hp → Prop} (ha : H a = some (.ins (He.ga K C) dx fs)) (hl : fs.length < 1000) [c : IsCls K C] [n : HasFld K C f] (h : R (upd H a (.ins (He.ga K C) dx (putF f y fs)))) : kFldS K f y R (.ref a) H :=
  ⟨a, _, dx, fs, rfl, ha, c.cl, n.no, hl, h⟩
theorem k_meth {m : Str} {R : V → Hp → Prop} (hv : Is K H v (.ins C gs)) (e : gs.lookup m = none) (h : R v H) : kMeth (He.ga K C) m R v H := by
  cases hv with
  | ins ha hs => exact ⟨_, _, _, rfl, ha, hs.none e, h⟩
end
end Sx

namespace Sx
theorem rat_num {p q : Int} (hq : q ≠ 0) : p.fdiv (if q < 0 then -(Int.gcd p q : Int) else (Int.gcd p q : Int)) = (Rat.divInt p q).num := by
  have d1 : (Int.gcd p q : Int) ∣ p := Int.gcd_dvd_left p q
  rw [Rat.num_divInt, Int.gcd_comm q p]
  by_cases h : q < 0
  · rw [if_pos h, Int.fdiv_eq_ediv_of_dvd ((Int.neg_dvd).mpr d1), Int.sign_eq_neg_one_of_neg h, Int.ediv_neg, Int.neg_one_mul, Int.neg_ediv_of_dvd d1]
  · rw [if_neg h, Int.fdiv_eq_ediv_of_dvd d1, Int.sign_eq_one_of_pos (by omega), Int.one_mul]
theorem rat_den {p q : Int} (hq : q ≠ 0) : q.fdiv (if q < 0 then -(Int.gcd p q : Int) else (Int.gcd p q : Int)) = ((Rat.divInt p q).den : Int) := by
  have d1 : (Int.gcd p q : Int) ∣ q := Int.gcd_dvd_right p q
  rw [Rat.den_divInt, Int.gcd_comm q p, if_neg hq]
  by_cases h : q < 0
  · have e : (q.natAbs : Int) = -q := by omega
    rw [if_pos h, Int.fdiv_eq_ediv_of_dvd ((Int.neg_dvd).mpr d1), Int.ediv_neg, Int.natCast_ediv, e, Int.neg_ediv_of_dvd d1]
  · have e : (q.natAbs : Int) = q := by omega
    rw [if_neg h, Int.fdiv_eq_ediv_of_dvd d1, Int.natCast_ediv, e]
theorem gcd_bd {n : Nat} {p q : Int} (h : Bd n q) (hq : q ≠ 0) : Bd n (Int.gcd p q : Int) := by
  refine h.of_le ?_
  have := Nat.le_of_dvd (by omega) (Int.gcd_dvd_natAbs_right p q)
  simpa using this
theorem gcd_ne {p q : Int} (hq : q ≠ 0) : (Int.gcd p q : Int) ≠ 0 := by
  have := Int.gcd_pos_of_ne_zero_right p hq
  omega
end Sx

namespace Sx
open PySem PySem.Spec PyProof.Rows L2
/-! ### a frame: what a call does not see stays as it is -/
def join (G F : Hp) : Hp := fun a => match F a with
  | some o => some o
  | none => G a
theorem join_f {G F : Hp} {a : Addr} {o : HO} (h : F a = some o) : join G F a = some o := by unfold join; rw [h]
theorem join_g {G F : Hp} {a : Addr} (h : F a = none) : join G F a = G a := by unfold join; rw [h]
def FO (F : Hp) (a : Addr) : HO → Prop
  | .lst _ => True
  | .dK _ => True
  | .xd _ => True
  | .ins _ dx _ => F dx = some (.own a)
  | .own x => ∃ u, F x = some u
  | _ => False
def FrOk (G F : Hp) : Prop := ∀ a o, F a = some o → G a = none ∧ FO F a o
def Fr (sp : Sp) : Sp := fun vs H Q E => ∃ G F, H = join G F ∧ FrOk G F ∧ sp vs G (fun v G2 => FrOk G2 F → Q v (join G2 F)) (fun c d G2 => FrOk G2 F → E c d (join G2 F))
section
variable {P : Program} {w : World} {G G2 F : Hp} {h h' : Heap}
theorem FrOk.none_of {G F : Hp} (k : FrOk G F) {a : Addr} {o : HO} (e : G a = some o) : F a = none := by
  cases q : F a with
  | none => rfl
  | some u => rw [(k a u q).1] at e; cases e
theorem frame_hok (k : FrOk G F) (x : HOk P w (join G F) h) : HOk P w G h := fun a o e => by
  have hf := k.none_of e
  have z := x a o (by rw [join_g hf]; exact e)
  refine z.stay (fun _ _ _ q => q) (fun b q => ?_) (fun b xs q => ?_)
  · cases qf : F b with
    | none => rw [join_g qf] at q; exact q
    | some u =>
      rw [join_f qf] at q
      cases q
      obtain ⟨u, hu⟩ := (k b _ qf).2
      rw [hf] at hu
      cases hu
  · cases qf : F b with
    | none => rw [join_g qf] at q; exact q
    | some u =>
      rw [join_f qf] at q
      cases q
      exact (k b _ qf).2.elim
theorem frame_back (k : FrOk G F) (n : ∀ a o, F a = some o → G2 a = none) (x : HOk P w (join G F) h) (y : HOk P w G2 h') (keep : ∀ a o, F a = some o → ∀ u, h.get? a = some u → h'.get? a = some u) : HOk P w (join G2 F) h' := fun a o e => by
  cases qf : F a with
  | none =>
    rw [join_g qf] at e
    refine (y a o e).stay (fun _ _ _ q => q) (fun b q => ?_) (fun b xs q => ?_)
    · have : F b = none := by
        cases z : F b with
        | none => rfl
        | some u => rw [n b u z] at q; cases q
      rw [join_g this]; exact q
    · have : F b = none := by
        cases z : F b with
        | none => rfl
        | some u => rw [n b u z] at q; cases q
      rw [join_g this]; exact q
  | some u =>
    rw [join_f qf] at e
    cases e
    have z := x a o (join_f qf)
    have fo := (k a o qf).2
    cases o with
    | lst xs => obtain ⟨z, its, n, r, e⟩ := z; exact ⟨z, its, n, r, keep _ _ qf _ e⟩
    | dK kvs => obtain ⟨z, y, vs, r, ob, es, ep, e, c⟩ := z; exact ⟨z, y, vs, r, ob, es, ep, keep _ _ qf _ e, c⟩
    | xd fs => obtain ⟨mA, ⟨od, es, ep, e, c⟩, r⟩ := z; exact ⟨mA, ⟨od, es, ep, keep _ _ qf _ e, c⟩, r⟩
    | ins C dx fs =>
      have fd : F dx = some (.own a) := fo
      obtain ⟨d, z, ne, e, mA, ⟨od, es, ep, e2, c⟩, r⟩ := z
      exact ⟨join_f fd, z, ne, keep _ _ qf _ e, mA, ⟨od, es, ep, keep _ _ fd _ e2, c⟩, r⟩
    | own y => obtain ⟨ob, e⟩ := z; exact ⟨ob, keep _ _ qf _ e⟩
    | _ => exact fo.elim
theorem frame_none {Z : Hp} (k : FrOk G F) {b : Addr} (e : join G F b = none) : F b = none ∧ G b = none := by
  cases q : F b with
  | none => rw [join_g q] at e; exact ⟨rfl, e⟩
  | some u => rw [join_f q] at e; cases e
theorem frame_un {fs : List Addr} (k : FrOk G F) (k2 : FrOk G2 F) (u : Un fs [] G G2 h h') : Un fs [] (join G F) (join G2 F) h h' where
  keep := fun b o q e => u.keep b o q (frame_none (Z := G) k e).2
  slot := fun b o q e => u.slot b o q (frame_none (Z := G) k e).2
  free := fun b o q e hx => by
    obtain ⟨e1, e2⟩ := frame_none (Z := G) k e
    rw [join_g e1]
    exact u.free b o q e2 hx
  there := u.there
  tups := fun b xs e => by
    cases q : F b with
    | none => rw [join_g q] at e ⊢; exact u.tups b xs e
    | some o => rw [join_f q] at e; cases e; exact (k b _ q).2.elim
  frzs := fun b o xs e => by
    cases q : F b with
    | none => rw [join_g q] at e ⊢; exact u.frzs b o xs e
    | some o => rw [join_f q] at e; cases e; exact (k b _ q).2.elim
  tbls := fun b xs e => by
    cases q : F b with
    | none => rw [join_g q] at e ⊢; exact u.tbls b xs e
    | some o => rw [join_f q] at e; cases e; exact (k b _ q).2.elim
theorem frame_ub {fs : List Addr} {B : Heap} (k : FrOk G F) (k2 : FrOk G2 F) (u : UB fs G G2 h B h') : UB fs (join G F) (join G2 F) h B h' where
  keep := fun b o q e => u.keep b o q (frame_none (Z := G) k e).2
  slot := u.slot
  free := fun b o q e => by
    obtain ⟨e1, e2⟩ := frame_none (Z := G) k e
    rw [join_g e1]
    exact u.free b o q e2
  there := u.there
  tups := fun b xs e => by
    cases q : F b with
    | none => rw [join_g q] at e ⊢; exact u.tups b xs e
    | some o => rw [join_f q] at e; cases e; exact (k b _ q).2.elim
  frzs := fun b o xs e => by
    cases q : F b with
    | none => rw [join_g q] at e ⊢; exact u.frzs b o xs e
    | some o => rw [join_f q] at e; cases e; exact (k b _ q).2.elim
  tbls := fun b xs e => by
    cases q : F b with
    | none => rw [join_g q] at e ⊢; exact u.tbls b xs e
    | some o => rw [join_f q] at e; cases e; exact (k b _ q).2.elim
end
theorem FnR.frame {P : Program} {w : World} {K : PySem.W.Frag} {mg : Str → Option Value} {base : Heap} {k : Nat} {f : Addr} {sp : Sp} (R : FnR P w K mg base (L2.CX P w) k f sp) : FnR P w K mg base (L2.CX P w) k f (Fr sp) := by
  intro A outer s H us vs Q E hr e0 r h
  obtain ⟨G, F, rfl, fk, h⟩ := h
  have at_ : ∀ a o, F a = some o → ∃ u, s.heap.get? a = some u := fun a o q => by
    have z := e0.hok a o (join_f q)
    have fo := (fk a o q).2
    cases o with
    | lst xs => obtain ⟨z, its, n, r, e⟩ := z; exact ⟨_, e⟩
    | dK kvs => obtain ⟨z, y, vs, r, ob, es, ep, e, c⟩ := z; exact ⟨_, e⟩
    | xd fs => obtain ⟨mA, ⟨od, es, ep, e, c⟩, r⟩ := z; exact ⟨_, e⟩
    | ins C dx fs => obtain ⟨d, z, ne, e, mA, ⟨od, es, ep, e2, c⟩, r⟩ := z; exact ⟨_, e⟩
    | own y => exact z
    | _ => exact fo.elim
  have nf : ∀ a o, F a = some o → a ∉ frs outer := fun a o q hm => by
    have := e0.frf a hm
    rw [join_f q] at this
    cases this
  have e1 : Env0 P w K mg base A outer s G := ⟨e0.frames, e0.mod, fun b o q => ⟨(e0.bs b o q).1, (frame_none (Z := G) fk (e0.bs b o q).2).2⟩, e0.bsz, e0.funs, fun b hb => (frame_none (Z := G) fk (e0.frf b hb)).2, frame_hok fk e0.hok, e0.bare⟩
  refine codeAny_mono (R A outer s G us vs _ _ hr e1 r h) fun res s' hq => ?_
  cases res with
  | error e =>
    obtain ⟨a, B, G2, cls, d, rfl, fl, ok, ub, na, os, ag, q⟩ := hq
    have n2 : ∀ b o, F b = some o → G2 b = none := fun b o z => by
      obtain ⟨u, hu⟩ := at_ b o z
      exact ub.free b u hu (fk b o z).1
    have k2 : FrOk G2 F := fun b o z => ⟨n2 b o z, (fk b o z).2⟩
    have kp : ∀ b o, F b = some o → ∀ u, s.heap.get? b = some u → B.get? b = some u := fun b o z u hu => ub.keep b u hu (fk b o z).1 (nf b o z)
    refine ⟨a, B, join G2 F, cls, d, rfl, fl, frame_back fk n2 e0.hok ok kp, frame_ub fk k2 ub, ?_, os, ag, q k2⟩
    have fa : F a = none := by
      cases z : F a with
      | none => rfl
      | some o =>
        obtain ⟨u, hu⟩ := at_ a o z
        have := kp a o z u hu
        rw [fl.2.1] at this
        cases this
    rw [join_g fa]
    exact na
  | ok fl =>
    cases fl with
    | ret u =>
      obtain ⟨v, G2, os, ag, un, ok, rv, q⟩ := hq
      have n2 : ∀ b o, F b = some o → G2 b = none := fun b o z => by
        obtain ⟨u, hu⟩ := at_ b o z
        exact un.free b u hu (fk b o z).1 (by simp)
      have k2 : FrOk G2 F := fun b o z => ⟨n2 b o z, (fk b o z).2⟩
      have kp : ∀ b o, F b = some o → ∀ u, s.heap.get? b = some u → s'.heap.get? b = some u := fun b o z u hu => un.keep b u hu (fk b o z).1 (nf b o z) (by simp)
      exact ⟨v, join G2 F, os, ag, frame_un fk k2 un, frame_back fk n2 e0.hok ok kp, rv, q k2⟩
    | next => exact False.elim hq
    | brk => exact False.elim hq
    | cont => exact False.elim hq
/-! ### one list, one instance beside -/
section
variable {G : Hp} {sp : Sp} {vs : List V} {Q : VK} {E : XK} {st x dx : Addr} {xs : List V} {C : Addr} {fs : List (Str × V)}
def F1 (a : Addr) (o : HO) : Hp := upd (fun _ => none) a o
theorem join_1 {a : Addr} {o : HO} : join G (F1 a o) = upd G a o := by
  funext b
  by_cases h : b = a
  · subst h; rw [upd_same]; exact join_f upd_same
  · rw [upd_ne h]; exact join_g (by unfold F1; rw [upd_ne h])
theorem frok_1 {a : Addr} (xs : List V) : FrOk G (F1 a (.lst xs)) ↔ G a = none := by
  constructor
  · intro h; exact (h a _ upd_same).1
  · intro h b o e
    by_cases q : b = a
    · subst q
      unfold F1 at e
      rw [upd_same] at e
      cases e
      exact ⟨h, trivial⟩
    · unfold F1 at e
      rw [upd_ne q] at e
      cases e
theorem fr_lst (n : G st = none) (h : sp vs G (fun v G2 => G2 st = none → Q v (upd G2 st (.lst xs))) (fun c d G2 => G2 st = none → E c d (upd G2 st (.lst xs)))) : Fr sp vs (upd G st (.lst xs)) Q E := by
  refine ⟨G, F1 st (.lst xs), join_1.symm, (frok_1 xs).mpr n, ?_⟩
  have e1 : (fun v G2 => FrOk G2 (F1 st (.lst xs)) → Q v (join G2 (F1 st (.lst xs)))) = fun v G2 => G2 st = none → Q v (upd G2 st (.lst xs)) := by
    funext v G2; rw [join_1, frok_1]
  have e2 : (fun c d G2 => FrOk G2 (F1 st (.lst xs)) → E c d (join G2 (F1 st (.lst xs)))) = fun c d G2 => G2 st = none → E c d (upd G2 st (.lst xs)) := by
    funext c d G2; rw [join_1, frok_1]
  rw [e1, e2]
  exact h
/-- nothing is framed -/
theorem fr_no (h : sp vs G Q E) (hi : ∀ {Q' : VK} {E' : XK}, (∀ v H, Q v H → Q' v H) → (∀ c d H, E c d H → E' c d H) → sp vs G Q E → sp vs G Q' E') : Fr sp vs G Q E := by
  have j0 : ∀ X : Hp, join X (fun _ => none) = X := fun X => by funext b; exact join_g rfl
  refine ⟨G, fun _ => none, (j0 G).symm, fun _ _ e => (nomatch e), hi (fun v H q _ => ?_) (fun c d H q _ => ?_) h⟩
  · rw [j0]; exact q
  · rw [j0]; exact q
theorem fr_ins (nx : G x = none) (ndx : G dx = none) (ne : dx ≠ x) (h : sp vs G (fun v G2 => G2 x = none → G2 dx = none → Q v (upd (upd G2 dx (.own x)) x (.ins C dx fs))) (fun c d G2 => G2 x = none → G2 dx = none → E c d (upd (upd G2 dx (.own x)) x (.ins C dx fs)))) :
    Fr sp vs (upd (upd G dx (.own x)) x (.ins C dx fs)) Q E := by
  have j : ∀ G : Hp, join G (upd (F1 dx (.own x)) x (.ins C dx fs)) = upd (upd G dx (.own x)) x (.ins C dx fs) := fun G => by
    funext b
    by_cases hb : b = x
    · subst hb; rw [upd_same]; exact join_f upd_same
    · rw [upd_ne hb]
      by_cases q : b = dx
      · rw [q, upd_same]; exact join_f (by rw [upd_ne ne]; exact upd_same)
      · rw [upd_ne q]; exact join_g (by rw [upd_ne hb]; unfold F1; rw [upd_ne q])
  have k : ∀ G : Hp, FrOk G (upd (F1 dx (.own x)) x (.ins C dx fs)) ↔ (G x = none ∧ G dx = none) := fun G => by
    constructor
    · intro h
      exact ⟨(h x _ upd_same).1, (h dx (.own x) (by rw [upd_ne ne]; exact upd_same)).1⟩
    · intro h b o e
      by_cases q : b = x
      · subst q
        rw [upd_same] at e
        cases e
        refine ⟨h.1, ?_⟩
        show upd (F1 dx (.own b)) b (.ins C dx fs) dx = some (.own b)
        rw [upd_ne ne]; exact upd_same
      · rw [upd_ne q] at e
        unfold F1 at e
        by_cases z : b = dx
        · subst z
          rw [upd_same] at e
          cases e
          exact ⟨h.2, _, upd_same⟩
        · rw [upd_ne z] at e
          cases e
  refine ⟨G, upd (F1 dx (.own x)) x (.ins C dx fs), (j G).symm, (k G).mpr ⟨nx, ndx⟩, ?_⟩
  have e1 : (fun v G2 => FrOk G2 (upd (F1 dx (.own x)) x (.ins C dx fs)) → Q v (join G2 (upd (F1 dx (.own x)) x (.ins C dx fs)))) = fun v G2 => G2 x = none → G2 dx = none → Q v (upd (upd G2 dx (.own x)) x (.ins C dx fs)) := by
    funext v G2; rw [j, k]; exact propext ⟨fun h a b => h ⟨a, b⟩, fun h a => h a.1 a.2⟩
  have e2 : (fun c d G2 => FrOk G2 (upd (F1 dx (.own x)) x (.ins C dx fs)) → E c d (join G2 (upd (F1 dx (.own x)) x (.ins C dx fs)))) = fun c d G2 => G2 x = none → G2 dx = none → E c d (upd (upd G2 dx (.own x)) x (.ins C dx fs)) := by
    funext c d G2; rw [j, k]; exact propext ⟨fun h a b => h ⟨a, b⟩, fun h a => h a.1 a.2⟩
  rw [e1, e2]
  exact h
end
end Sx

namespace Sx
open PySem PySem.Spec PyProof.Rows L2
section
variable {K : PySem.W.Frag} {G H : Hp} {Q : VK} {st p : Addr} {xs : List V} {a b c d e v : V} {i : Int}
theorem r_ixL (hp : SqL K H p xs) (he : atI xs i = some v) (h : Q v H) : rIxL K (.ref p) (.int i) H Q := ⟨p, xs, i, v, rfl, rfl, hp, he, h⟩
theorem r_setL {QS : Hp → Prop} {j : Nat} (he : ixN xs.length i = some j) (h : QS (upd G st (.lst (xs.set j v)))) : rSetL (.ref st) (.int i) v (upd G st (.lst xs)) QS :=
  ⟨st, xs, i, j, rfl, rfl, upd_same, he, by rw [L2.upd_upd]; exact h⟩
theorem r5_0 (h : Q a (upd G st (.lst [a, b, c, d, e]))) : rIxL K (.ref st) (.int 0) (upd G st (.lst [a, b, c, d, e])) Q := r_ixL (SqL.of upd_same) rfl h
theorem r5_1 (h : Q b (upd G st (.lst [a, b, c, d, e]))) : rIxL K (.ref st) (.int 1) (upd G st (.lst [a, b, c, d, e])) Q := r_ixL (SqL.of upd_same) rfl h
theorem r5_2 (h : Q c (upd G st (.lst [a, b, c, d, e]))) : rIxL K (.ref st) (.int 2) (upd G st (.lst [a, b, c, d, e])) Q := r_ixL (SqL.of upd_same) rfl h
theorem r5_3 (h : Q d (upd G st (.lst [a, b, c, d, e]))) : rIxL K (.ref st) (.int 3) (upd G st (.lst [a, b, c, d, e])) Q := r_ixL (SqL.of upd_same) rfl h
theorem r5_4 (h : Q e (upd G st (.lst [a, b, c, d, e]))) : rIxL K (.ref st) (.int 4) (upd G st (.lst [a, b, c, d, e])) Q := r_ixL (SqL.of upd_same) rfl h
theorem w5_1 {QS : Hp → Prop} (h : QS (upd G st (.lst [a, v, c, d, e]))) : rSetL (.ref st) (.int 1) v (upd G st (.lst [a, b, c, d, e])) QS := r_setL rfl h
theorem w5_2 {QS : Hp → Prop} (h : QS (upd G st (.lst [a, b, v, d, e]))) : rSetL (.ref st) (.int 2) v (upd G st (.lst [a, b, c, d, e])) QS := r_setL rfl h
theorem w5_3 {QS : Hp → Prop} (h : QS (upd G st (.lst [a, b, c, v, e]))) : rSetL (.ref st) (.int 3) v (upd G st (.lst [a, b, c, d, e])) QS := r_setL rfl h
theorem w5_4 {QS : Hp → Prop} (h : QS (upd G st (.lst [a, b, c, d, v]))) : rSetL (.ref st) (.int 4) v (upd G st (.lst [a, b, c, d, e])) QS := r_setL rfl h
end
/-! ### the state of the draws -/
structure Ds where
  it : Addr
  ns : List Int
  pos : Int
  big : Int
  mix : Int
  cnt : Int
abbrev Ds.o (s : Ds) : List V := [.ref s.it, .int s.pos, .int s.big, .int s.mix, .int s.cnt]
structure DsOk (K : PySem.W.Frag) (G : Hp) (s : Ds) : Prop where
  it : SqL K G s.it (s.ns.map V.int)
  pos : 0 ≤ s.pos
  mix0 : 0 ≤ s.mix
  mix1 : s.mix < 2147483648
theorem DsOk.mono {K : PySem.W.Frag} {G G' : Hp} {s : Ds} (h : DsOk K G s) (e : Same G G') : DsOk K G' s := ⟨Same.seq e h.it, h.pos, h.mix0, h.mix1⟩
def sp_draw (K : PySem.W.Frag) : Sp := fun vs H Q _ => ∃ st many G s, vs = [.ref st, .int many] ∧ H = upd G st (.lst (Ds.o s)) ∧ G st = none ∧ DsOk K G s ∧ 0 < many ∧ many < 1073741824 ∧
  ∀ r s', 0 ≤ r → r < many → DsOk K G s' → Q (.int r) (upd G st (.lst (Ds.o s')))
theorem k_draw {K : PySem.W.Frag} {G : Hp} {st : Addr} {s : Ds} {many : Int} {Q : VK} {E : XK} (hn : G st = none) (ok : DsOk K G s) (h1 : 0 < many) (h2 : many < 1073741824) (k : ∀ r s', 0 ≤ r → r < many → DsOk K G s' → Q (.int r) (upd G st (.lst (Ds.o s')))) : sp_draw K [.ref st, .int many] (upd G st (.lst (Ds.o s))) Q E :=
  ⟨st, many, G, s, rfl, rfl, hn, ok, h1, h2, k⟩
theorem atI_ints {ns : List Int} {i : Int} (h0 : 0 ≤ i) (h1 : i < (ns.map V.int).length) : ∃ n, atI (ns.map V.int) i = some (.int n) := by
  obtain ⟨j, rfl⟩ : ∃ j : Nat, i = j := ⟨i.toNat, by omega⟩
  have hj : j < ns.length := by simpa using h1
  exact ⟨ns[j], atI_nat (by rw [List.getElem?_map, List.getElem?_eq_getElem hj]; rfl)⟩
end Sx

namespace Sx
open PySem PySem.Spec PyProof.Rows L2
/-! ### list comprehensions that make data -/
section
variable {K : PySem.W.Frag} {H1 : Hp} {a : Addr} {xs : List V} {g : TG} {tt : TT} {te : TE} {vs : List Nat} {σ : L2.St} {Q : VK} {out : List (Option D)}
/-- what holds at the i-th turn -/
def LcP (K : PySem.W.Frag) (H1 : Hp) (D : Addr) (out : List (Option Sx.D)) (i : Nat) (H : Hp) : Prop := ∃ G ys, H = upd G D (.lst ys) ∧ G D = none ∧ Same H1 G ∧ ys.length ≤ i ∧ IsL K G ys ((out.take i).filterMap id)
/-- what is to be shown of one turn: the element y is the data d, or it is passed over -/
def LcS (K : PySem.W.Frag) (H1 : Hp) (D : Addr) (g : TG) (tt : TT) (te : TE) (vs : List Nat) (σ : L2.St) (x : V) (o : Option Sx.D) : Prop :=
  ∀ (G : Hp) (acc : List V) (Nk : VK) (El : Hp → Prop), Same H1 G → G D = none → (∀ d, o = some d → ∀ y G4, G4 D = none → Same G G4 → Is K G4 y d → Nk y (upd G4 D (.lst acc))) → (o = none → ∀ G4, G4 D = none → Same G G4 → El (upd G4 D (.lst acc))) →
    g x (wipe σ vs) (upd G D (.lst acc)) fun σ2 H2 => wipe σ2 vs = wipe σ vs ∧ tt σ2 H2 fun b H3 => if b = true then te σ2 H3 Nk else El H3
theorem LcP.step {D : Addr} {i : Nat} {H : Hp} {x : V} {o : Option Sx.D} (ho : out[i]? = some o) (hi : i < 1000000) (h : LcS K H1 D g tt te vs σ x o) (p : LcP K H1 D out i H) :
    g x (wipe σ vs) H fun σ2 H2 => wipe σ2 vs = wipe σ vs ∧ tt σ2 H2 fun b H3 => if b = true then te σ2 H3 fun y H4 => ∃ acc, H4 D = some (.lst acc) ∧ acc.length < sizeLine ∧ LcP K H1 D out (i + 1) (upd H4 D (.lst (acc ++ [y]))) else LcP K H1 D out (i + 1) H3 := by
  obtain ⟨G, ys, rfl, hn, hs, hl, hy⟩ := p
  have et : out.take (i + 1) = out.take i ++ [o] := by rw [List.take_succ, ho]; rfl
  refine h G ys _ _ hs hn (fun d ed y G4 n4 s4 hd => ⟨ys, upd_same, ?_, G4, ys ++ [y], ?_, n4, hs.trans s4, ?_, ?_⟩) (fun eo G4 n4 s4 => ⟨G4, ys, rfl, n4, hs.trans s4, by omega, ?_⟩)
  · rw [sizeLine_eq]; omega
  · rw [L2.upd_upd]
  · simp; omega
  · rw [et, List.filterMap_append, ed]
    exact (IsL.mono s4 hy).snoc hd
  · rw [et, List.filterMap_append, eo]
    simpa using IsL.mono s4 hy
theorem LcP.zero {D : Addr} (n : H1 D = none) : LcP K H1 D out 0 (upd H1 D (.lst [])) := ⟨H1, [], rfl, n, Same.refl _, Nat.le_refl _, .nil⟩
theorem LcP.last {D : Addr} {n : Nat} {H : Hp} (hn : n = out.length) (p : LcP K H1 D out n H) (h : ∀ G ys, Same H1 G → G D = none → IsL K G ys (out.filterMap id) → Q (.ref D) (upd G D (.lst ys))) : Q (.ref D) H := by
  obtain ⟨G, ys, rfl, n1, s, _, hy⟩ := p
  rw [hn, List.take_length] at hy
  exact h G ys s n1 hy
theorem LcP.seq {D : Addr} {i : Nat} {H : Hp} (ha : SqL K H1 a xs) (p : LcP K H1 D out i H) : SqL K H a xs := by
  obtain ⟨G, ys, rfl, n1, s, _⟩ := p
  exact Same.seq (Same.updR s n1) ha
theorem LcP.seqT {D : Addr} {i : Nat} {H : Hp} (ha : SqT K H1 a xs) (p : LcP K H1 D out i H) : SqT K H a xs := by
  obtain ⟨G, ys, rfl, n1, s, _⟩ := p
  exact Same.seqT (Same.updR s n1) ha
end
section
variable {K : PySem.W.Frag} {H : Hp} {a : Addr} {xs : List V} {g : TG} {tt : TT} {te : TE} {vs : List Nat} {σ : L2.St} {Q : VK}
def kLcL (K : PySem.W.Frag) (g : TG) (tt : TT) (te : TE) (vs : List Nat) (σ : L2.St) (Q : VK) : VK := fun x H => ∃ b, x = .ref b ∧ (∃ xs, SqL K H b xs) ∧ ∀ D, H D = none → ∃ W : Nat → Nat → Hp → Prop, (∃ m, W 0 m (upd H D (.lst []))) ∧ ∀ i m H, W i m H →
      ((Itl K b).stop i H ∧ Q (.ref D) H) ∨ ((Itl K b).go i H ∧ ∃ Nx : Hp → Prop, (∀ H', Nx H' → ∃ m', m' < m ∧ W (i + 1) m' H') ∧ ∀ x H', (Itl K b).yld i H x H' → g x (wipe σ vs) H' fun σ2 H2 => wipe σ2 vs = wipe σ vs ∧ tt σ2 H2 fun b H3 =>
        if b = true then te σ2 H3 fun y H4 => ∃ acc, H4 D = some (.lst acc) ∧ acc.length < sizeLine ∧ Nx (upd H4 D (.lst (acc ++ [y]))) else Nx H3)
def kLcT (K : PySem.W.Frag) (g : TG) (tt : TT) (te : TE) (vs : List Nat) (σ : L2.St) (Q : VK) : VK := fun x H => ∃ b, x = .ref b ∧ (∃ xs, SqT K H b xs) ∧ ∀ D, H D = none → ∃ W : Nat → Nat → Hp → Prop, (∃ m, W 0 m (upd H D (.lst []))) ∧ ∀ i m H, W i m H →
      ((Itt K b).stop i H ∧ Q (.ref D) H) ∨ ((Itt K b).go i H ∧ ∃ Nx : Hp → Prop, (∀ H', Nx H' → ∃ m', m' < m ∧ W (i + 1) m' H') ∧ ∀ x H', (Itt K b).yld i H x H' → g x (wipe σ vs) H' fun σ2 H2 => wipe σ2 vs = wipe σ vs ∧ tt σ2 H2 fun b H3 =>
        if b = true then te σ2 H3 fun y H4 => ∃ acc, H4 D = some (.lst acc) ∧ acc.length < sizeLine ∧ Nx (upd H4 D (.lst (acc ++ [y]))) else Nx H3)
def kLcR (lo : Int) (n : Nat) (g : TG) (tt : TT) (te : TE) (vs : List Nat) (σ : L2.St) (Q : VK) (H : Hp) : Prop := ∀ D, H D = none → ∃ W : Nat → Nat → Hp → Prop, (∃ m, W 0 m (upd H D (.lst []))) ∧ ∀ i m H, W i m H →
      ((Itr lo n).stop i H ∧ Q (.ref D) H) ∨ ((Itr lo n).go i H ∧ ∃ Nx : Hp → Prop, (∀ H', Nx H' → ∃ m', m' < m ∧ W (i + 1) m' H') ∧ ∀ x H', (Itr lo n).yld i H x H' → g x (wipe σ vs) H' fun σ2 H2 => wipe σ2 vs = wipe σ vs ∧ tt σ2 H2 fun b H3 =>
        if b = true then te σ2 H3 fun y H4 => ∃ acc, H4 D = some (.lst acc) ∧ acc.length < sizeLine ∧ Nx (upd H4 D (.lst (acc ++ [y]))) else Nx H3)
def kLcR1 (g : TG) (tt : TT) (te : TE) (vs : List Nat) (σ : L2.St) (Q : VK) : List V → Hp → Prop := fun us H => ∃ j : Int, us = [.int j] ∧ -(2 ^ 62) ≤ j ∧ j < 2 ^ 62 ∧ kLcR 0 j.toNat g tt te vs σ Q H
def kLcR2 (g : TG) (tt : TT) (te : TE) (vs : List Nat) (σ : L2.St) (Q : VK) : List V → Hp → Prop := fun us H => ∃ i j : Int, us = [.int i, .int j] ∧ (-(2 ^ 62) ≤ i ∧ i < 2 ^ 62 ∧ -(2 ^ 62) ≤ j ∧ j < 2 ^ 62) ∧ kLcR i (j - i).toNat g tt te vs σ Q H
theorem r_lcL {tl : TE} (h : tl σ H (kLcL K g tt te vs σ Q)) : tLc (iList K tl) g tt te vs σ H Q := h
theorem r_lcT {tl : TE} (h : tl σ H (kLcT K g tt te vs σ Q)) : tLc (iTup K tl) g tt te vs σ H Q := h
theorem r_lcR1 {ta : TA} (h : ta σ H (kLcR1 g tt te vs σ Q)) : tLc (iRng1 ta) g tt te vs σ H Q := h
theorem r_lcR2 {ta : TA} (h : ta σ H (kLcR2 g tt te vs σ Q)) : tLc (iRng2 ta) g tt te vs σ H Q := h
/-- the walk over a list that stands: [e for x in l] -/
theorem k_lcL (out : List (Option D)) (ha : SqL K H a xs) (hl : out.length = xs.length) (hz : xs.length < 1000000) (h : ∀ D, H D = none → (∀ (i : Nat) x o, xs[i]? = some x → out[i]? = some o → LcS K H D g tt te vs σ x o) ∧
      ∀ G ys, Same H G → G D = none → IsL K G ys (out.filterMap id) → Q (.ref D) (upd G D (.lst ys))) :
    kLcL K g tt te vs σ Q (.ref a) H := by
  refine ⟨a, rfl, ⟨xs, ha⟩, fun D n => ?_⟩
  obtain ⟨q1, q2⟩ := h D n
  refine lc_list (xs := xs) (LcP K H D out) (LcP.zero n) (fun i H _ p => p.seq ha) (fun i x H e p => ?_) (fun H p => p.last hl.symm q2)
  have hi : i < xs.length := (List.getElem?_eq_some_iff.mp e).1
  have ho : out[i]? = some out[i] := List.getElem?_eq_getElem (by omega)
  exact p.step ho (by omega) (q1 i x _ e ho)
theorem k_lcT (out : List (Option D)) (ha : SqT K H a xs) (hl : out.length = xs.length) (hz : xs.length < 1000000) (h : ∀ D, H D = none → (∀ (i : Nat) x o, xs[i]? = some x → out[i]? = some o → LcS K H D g tt te vs σ x o) ∧
      ∀ G ys, Same H G → G D = none → IsL K G ys (out.filterMap id) → Q (.ref D) (upd G D (.lst ys))) :
    kLcT K g tt te vs σ Q (.ref a) H := by
  refine ⟨a, rfl, ⟨xs, ha⟩, fun D n => ?_⟩
  obtain ⟨q1, q2⟩ := h D n
  refine lc_tup (xs := xs) (LcP K H D out) (LcP.zero n) (fun i H _ p => p.seqT ha) (fun i x H e p => ?_) (fun H p => p.last hl.symm q2)
  have hi : i < xs.length := (List.getElem?_eq_some_iff.mp e).1
  have ho : out[i]? = some out[i] := List.getElem?_eq_getElem (by omega)
  exact p.step ho (by omega) (q1 i x _ e ho)
theorem k_lcR {lo : Int} {n : Nat} (out : List (Option D)) (hl : out.length = n) (hz : n < 1000000) (h : ∀ D, H D = none → (∀ (i : Nat) o, i < n → out[i]? = some o → LcS K H D g tt te vs σ (.int (lo + i)) o) ∧
      ∀ G ys, Same H G → G D = none → IsL K G ys (out.filterMap id) → Q (.ref D) (upd G D (.lst ys))) : kLcR lo n g tt te vs σ Q H := by
  intro D hn
  obtain ⟨q1, q2⟩ := h D hn
  refine lc_range (LcP K H D out) (LcP.zero hn) (fun i H e p => ?_) (fun H p => p.last hl.symm q2)
  have ho : out[i]? = some out[i] := List.getElem?_eq_getElem (by omega)
  exact p.step ho (by omega) (q1 i _ e ho)
theorem k_lcR1 {j : Int} (h1 : -(2 ^ 62) ≤ j) (h2 : j < 2 ^ 62) (h : kLcR 0 j.toNat g tt te vs σ Q H) : kLcR1 g tt te vs σ Q [.int j] H := ⟨j, rfl, h1, h2, h⟩
theorem k_lcR2 {i j : Int} (h1 : -(2 ^ 62) ≤ i) (h2 : i < 2 ^ 62) (h3 : -(2 ^ 62) ≤ j) (h4 : j < 2 ^ 62) (h : kLcR i (j - i).toNat g tt te vs σ Q H) : kLcR2 g tt te vs σ Q [.int i, .int j] H := ⟨i, j, rfl, ⟨h1, h2, h3, h4⟩, h⟩
theorem r_sliceL {lo hi : Option Int} (ha : SqL K H a xs) (h : ∀ p, H p = none → Q (.ref p) (upd H p (.lst (cutV xs lo hi)))) : rSlL K (.ref a) lo hi H Q := ⟨a, xs, rfl, ha, h⟩
end
theorem r_yes {σ : L2.St} {H : Hp} {QB : Bool → Hp → Prop} (h : QB true H) : tYes σ H QB := h
theorem fm_map {α : Type} (f : α → D) : ∀ l : List α, (l.map fun n => some (f n)).filterMap id = l.map f
  | [] => rfl
  | a :: l => by rw [List.map_cons, List.map_cons, ← fm_map f l]; rfl
theorem fm_some : ∀ l : List D, (l.map some).filterMap id = l
  | [] => rfl
  | a :: l => by show a :: (l.map some).filterMap id = a :: l; rw [fm_some l]
/-! ### for -/
section
variable {K : PySem.W.Frag} {H : Hp} {a : Addr} {xs : List V} {g : TG} {tb : TS} {D : Ends} {σ : L2.St}
def kFor (J : It) (g : TG) (tb : TS) (D : Ends) (σ : L2.St) (H : Hp) : Prop := ∃ W : Nat → Nat → L2.St → Hp → Prop, (∃ m, W 0 m σ H) ∧ ∀ i m σ H, W i m σ H →
  (J.stop i H ∧ D.nx σ H) ∨ (J.go i H ∧ ∃ N : L2.St → Hp → Prop, (∀ σ' H', N σ' H' → ∃ m', m' < m ∧ W (i + 1) m' σ' H') ∧ ∀ x H', J.yld i H x H' → g x σ H' fun σ2 H2 => tb { D with nx := N, ct := N, bk := D.nx } σ2 H2)
def kForL (K : PySem.W.Frag) (g : TG) (tb : TS) (D : Ends) (σ : L2.St) : VK := fun x H => ∃ b, x = .ref b ∧ (∃ xs, SqL K H b xs) ∧ kFor (Itl K b) g tb D σ H
def kForT (K : PySem.W.Frag) (g : TG) (tb : TS) (D : Ends) (σ : L2.St) : VK := fun x H => ∃ b, x = .ref b ∧ (∃ xs, SqT K H b xs) ∧ kFor (Itt K b) g tb D σ H
def kForR1 (g : TG) (tb : TS) (D : Ends) (σ : L2.St) : List V → Hp → Prop := fun us H => ∃ j : Int, us = [.int j] ∧ -(2 ^ 62) ≤ j ∧ j < 2 ^ 62 ∧ kFor (Itr 0 j.toNat) g tb D σ H
def kForR2 (g : TG) (tb : TS) (D : Ends) (σ : L2.St) : List V → Hp → Prop := fun us H => ∃ i j : Int, us = [.int i, .int j] ∧ (-(2 ^ 62) ≤ i ∧ i < 2 ^ 62 ∧ -(2 ^ 62) ≤ j ∧ j < 2 ^ 62) ∧ kFor (Itr i (j - i).toNat) g tb D σ H
theorem r_forL {tl : TE} (h : tl σ H (kForL K g tb D σ)) : tFor (iList K tl) g tb D σ H := h
theorem r_forT {tl : TE} (h : tl σ H (kForT K g tb D σ)) : tFor (iTup K tl) g tb D σ H := h
theorem r_forR1 {ta : TA} (h : ta σ H (kForR1 g tb D σ)) : tFor (iRng1 ta) g tb D σ H := h
theorem r_forR2 {ta : TA} (h : ta σ H (kForR2 g tb D σ)) : tFor (iRng2 ta) g tb D σ H := h
theorem k_forL (Pv : Nat → L2.St → Hp → Prop) (ha : SqL K H a xs) (h0 : Pv 0 σ H) (hl : ∀ i σ H, i ≤ xs.length → Pv i σ H → SqL K H a xs)
    (hs : ∀ (i : Nat) x σ H, xs[i]? = some x → Pv i σ H → g x σ H fun σ2 H2 => tb { D with nx := Pv (i + 1), ct := Pv (i + 1), bk := D.nx } σ2 H2) (hd : ∀ σ H, Pv xs.length σ H → D.nx σ H) : kForL K g tb D σ (.ref a) H :=
  ⟨a, rfl, ⟨xs, ha⟩, for_list (xs := xs) Pv h0 hl hs hd⟩
theorem k_forT (Pv : Nat → L2.St → Hp → Prop) (ha : SqT K H a xs) (h0 : Pv 0 σ H) (hl : ∀ i σ H, i ≤ xs.length → Pv i σ H → SqT K H a xs)
    (hs : ∀ (i : Nat) x σ H, xs[i]? = some x → Pv i σ H → g x σ H fun σ2 H2 => tb { D with nx := Pv (i + 1), ct := Pv (i + 1), bk := D.nx } σ2 H2) (hd : ∀ σ H, Pv xs.length σ H → D.nx σ H) : kForT K g tb D σ (.ref a) H :=
  ⟨a, rfl, ⟨xs, ha⟩, for_tup (xs := xs) Pv h0 hl hs hd⟩
theorem k_forR {lo : Int} {n : Nat} (Pv : Nat → L2.St → Hp → Prop) (h0 : Pv 0 σ H)
    (hs : ∀ i σ H, i < n → Pv i σ H → g (.int (lo + i)) σ H fun σ2 H2 => tb { D with nx := Pv (i + 1), ct := Pv (i + 1), bk := D.nx } σ2 H2) (hd : ∀ σ H, Pv n σ H → D.nx σ H) : kFor (Itr lo n) g tb D σ H := for_range Pv h0 hs hd
theorem k_forR1 {j : Int} (h1 : -(2 ^ 62) ≤ j) (h2 : j < 2 ^ 62) (h : kFor (Itr 0 j.toNat) g tb D σ H) : kForR1 g tb D σ [.int j] H := ⟨j, rfl, h1, h2, h⟩
theorem k_forR2 {i j : Int} (h1 : -(2 ^ 62) ≤ i) (h2 : i < 2 ^ 62) (h3 : -(2 ^ 62) ≤ j) (h4 : j < 2 ^ 62) (h : kFor (Itr i (j - i).toNat) g tb D σ H) : kForR2 g tb D σ [.int i, .int j] H := ⟨i, j, rfl, ⟨h1, h2, h3, h4⟩, h⟩
end
theorem cut_to (xs : List V) (k : Nat) : cutV xs none (some (k : Int)) = xs.take k := by
  unfold cutV
  rw [HT.sIx_none, HT.sIx_nat, List.drop_zero, Nat.sub_zero]
  by_cases h : k ≤ xs.length
  · rw [Nat.min_eq_left h]
  · rw [Nat.min_eq_right (by omega), List.take_of_length_le (Nat.le_refl _), List.take_of_length_le (by omega)]
end Sx

namespace Sx
open PySem PySem.Spec PyProof.Rows L2
/-! ### what stands in an except suite -/
theorem excC_of {K : PySem.W.Frag} {x : Str} (f : XfC K (He.ga K x)) (c : (Fx.xis x).ok K = true) : ExcC K (He.ga K x) := by
  obtain ⟨c1, c⟩ := He.ba c
  obtain ⟨c2, c⟩ := He.ba c
  obtain ⟨c3, c4⟩ := He.ba c
  exact ⟨f.ga, f.gg, f.exC, f.hdC, He.eqO_ok c1, He.eqO_ok c2, of_decide_eq_true c3, of_decide_eq_true c4⟩
class IsExc (K : PySem.W.Frag) (x : Str) : Prop where
  c : ExcC K (He.ga K x)
def rIsX (K : PySem.W.Frag) (a : Addr) (cls : Value) (d : Option Addr) : List V → Hp → VK → Prop := fun xs H Q => ∃ (C : Addr) (c : V) (cv : Value) (b : Bool), cls = .ref C ∧ xs = [.ref a, c] ∧ (∀ u, RelV c u → u = cv) ∧ ExcC K C ∧ PySem.W.kitOne K (.ref C) cv = some b ∧
  (d = none ∨ ∃ dd fs, d = some dd ∧ H dd = some (.xd fs)) ∧ Q (.bl b) H
theorem call_isX {X : Cx} {a : Addr} {cls : Value} {d : Option Addr} {oe : Obj} {pn : List (Addr × Obj)} (hz : Zc cls d oe) (hf : ∃ vs, oe.data = .fields vs) : CallR (X.suite a ((a, oe) :: pn)) (.builtin "isinstance") (rIsX X.K a cls d) := by
  intro pins s σ H xs us Q I r h
  obtain ⟨D, c, cv, b, rfl, rfl, hcv, C, e, hd, q⟩ := h
  cases r with
  | cons rx rr =>
    cases rr with
    | cons rt rr =>
      cases rr
      cases rx
      have ec := hcv _ rt
      subst ec
      obtain ⟨hget, _⟩ := I.pin (a, oe) (List.mem_append.mpr (.inl List.mem_cons_self))
      obtain ⟨vs, hv⟩ := hf
      have J : ∃ od, PySem.W.InstAt s.heap a oe D od := by
        rcases hd with rfl | ⟨dd, fs, rfl, ea⟩
        · exact ⟨none, hget, hz.1, by unfold PySem.W.notCls; rw [hv] <;> rfl, by rw [hz.2]; trivial⟩
        · have hx : ObjOk X.prog X.w H s.heap dd (.xd fs) := I.hok dd _ ea
          obtain ⟨mA, hns, hr⟩ := hx
          obtain ⟨od, ho, hl⟩ := lookIn_ns hns
          exact ⟨some od, hget, hz.1, by unfold PySem.W.notCls; rw [hv] <;> rfl, by rw [hz.2]; exact ho⟩
      obtain ⟨od, J⟩ := J
      have hcl : (PySem.W.clsIn X.K D).isSome = true := by
        obtain ⟨cd, hc, _⟩ := PySem.W.any_some C.hd
        rw [hc]; rfl
      exact PySem.W.kia_one (PySem.W.kitx_exc (od := od) hcl C.hg C.hk C.hs C.ha C.hn C.ht C.hm) I.kIn J e (fun z => nomatch z) fun tk => ⟨.bl b, H, I.kept (t' := tk) fun _ _ z => z, rfl, q⟩
section
variable {K : PySem.W.Frag} {H : Hp} {Q : VK} {a dd : Addr} {fs : List (Str × V)} {x c f : Str} {b : Bool} {v : V} {σ : L2.St}
theorem r_isXC [C : IsExc K x] [k : Kit K (.c x) (.c c) b] (hd : At H dd (.xd fs)) (h : Q (.bl b) H) : rIsX K a (.ref (He.ga K x)) (some dd) [.ref a, .ref (He.ga K c)] H Q :=
  ⟨_, _, _, b, rfl, rfl, fun u e => e, C.c, k.h, .inr ⟨dd, fs, rfl, hd⟩, h⟩
theorem r_isXB {n : String} [C : IsExc K x] [k : Kit K (.c x) (.b n) b] (hd : At H dd (.xd fs)) (h : Q (.bl b) H) : rIsX K a (.ref (He.ga K x)) (some dd) [.ref a, .ty n] H Q :=
  ⟨_, _, _, b, rfl, rfl, fun u e => e, C.c, k.h, .inr ⟨dd, fs, rfl, hd⟩, h⟩
def kXf (a : Addr) (cls : Value) (d : Option Addr) (C : Addr) (f : Str) (Q : VK) : VK := fun x H1 => x = .ref a ∧ cls = .ref C ∧ ∃ (dd : Addr) (fs : List (Str × V)) (v : V), d = some dd ∧ H1 dd = some (.xd fs) ∧ fs.lookup f = some v ∧ Q v H1
theorem r_xf {cls : Value} {d : Option Addr} {C : Addr} {te : TE} (h : te σ H (kXf a cls d C f Q)) : tXf a cls d C f te σ H Q := h
theorem k_xf {C : Addr} (hd : At H dd (.xd fs)) (e : fs.lookup f = some v) (h : Q v H) : kXf a (.ref C) (some dd) C f Q (.ref a) H := ⟨rfl, rfl, dd, fs, v, rfl, hd, e, h⟩
theorem r_wAs {cls cv : Value} {i : Nat} {ts : Addr → Value → Option Addr → TS} {Wout : WX} {D : Ends} {d : Option Addr} (hx : PySem.W.exmOne K cls cv = some true)
    (h : ∀ a, H a = none → ts a cls d { nx := fun σ' H' => D.nx (σ'.set i none) H', rt := D.rt, bk := fun σ' H' => D.bk (σ'.set i none) H', ct := fun σ' H' => D.ct (σ'.set i none) H' } (σ.set i (some (.ref a))) H) : wAs K cv i ts Wout D cls d σ H :=
  ⟨true, hx, fun _ => h, fun e => by cases e⟩
theorem r_wOnly {cls cv : Value} {ts : Addr → Value → Option Addr → TS} {Wout : WX} {D : Ends} {d : Option Addr} (hx : PySem.W.exmOne K cls cv = some true) (h : ∀ a, H a = none → ts a cls d D σ H) : wOnly K cv ts Wout D cls d σ H :=
  ⟨true, hx, fun _ => h, fun e => by cases e⟩
end
end Sx

namespace Sx
open PySem PySem.Spec PyProof.Rows L2
mutual
def D.py : D → PyData
  | .non => .none
  | .bl b => .bool b
  | .int i => .int i
  | .str x => .str x
  | .tup ds => .tuple (pyL ds)
  | .lst ds => .list (pyL ds)
  | .ins _ _ => .none
  | .dic => .none
def pyL : List D → List PyData
  | [] => []
  | d :: ds => D.py d :: pyL ds
end
mutual
/-- None, bools, ints, texts, tuples and lists of such -/
def D.pl : D → Bool
  | .tup ds => plL ds
  | .lst ds => plL ds
  | .ins _ _ => false
  | .dic => false
  | .non => true
  | .bl _ => true
  | .int _ => true
  | .str _ => true
def plL : List D → Bool
  | [] => true
  | d :: ds => D.pl d && plL ds
end
section
variable {K : PySem.W.Frag} {H : Hp}
mutual
theorem Is.dp : ∀ {v : V} {d : D}, Is K H v d → D.pl d = true → Dp K H v (D.py d)
  | _, _, .non, _ => by rw [D.py]; exact .non
  | _, _, .bl b, _ => by rw [D.py]; exact .bl b
  | _, _, .int i, _ => by rw [D.py]; exact .int i
  | _, _, .str x, _ => by rw [D.py]; exact .str x
  | _, _, .tup h hs, p => by rw [D.py]; rw [D.pl] at p; exact .tup h (IsL.dp hs p)
  | _, _, .lst h hs, p => by rw [D.py]; rw [D.pl] at p; exact .lst h (IsL.dp hs p)
  | _, _, .ins _ _, p => by rw [D.pl] at p; cases p
  | _, _, .dic _, p => by rw [D.pl] at p; cases p
theorem IsL.dp : ∀ {vs : List V} {ds : List D}, IsL K H vs ds → plL ds = true → DpAll K H vs (pyL ds)
  | _, _, .nil, _ => by rw [pyL]; exact .nil
  | _, _, .cons h hs, p => by
    rw [plL, Bool.and_eq_true] at p
    rw [pyL]
    exact .cons (Is.dp h p.1) (IsL.dp hs p.2)
end
variable {Q : VK} {x y v : V} {d e : D} {b : Bool} {ds : List D} {i : Int}
theorem r_neD (hx : Is K H x d) (hy : Is K H y e) (p1 : d.pl = true) (p2 : e.pl = true) (s1 : SeqAt.shaped d.py = true) (s2 : SeqAt.shaped e.py = true) (hb : PyData.eqv d.py e.py = b) (h : Q (.bl (!b)) H) : rNeD K x y H Q :=
  ⟨_, _, hx.dp p1, hy.dp p2, s1, s2, by rw [hb]; exact h⟩
theorem r_eqD (hx : Is K H x d) (hy : Is K H y e) (p1 : d.pl = true) (p2 : e.pl = true) (s1 : SeqAt.shaped d.py = true) (s2 : SeqAt.shaped e.py = true) (hb : PyData.eqv d.py e.py = b) (h : Q (.bl b) H) : rEqD K x y H Q :=
  ⟨_, _, hx.dp p1, hy.dp p2, s1, s2, by rw [hb]; exact h⟩
theorem k_ixD (hv : Is K H v (.lst ds)) (h0 : 0 ≤ i) (h1 : i < ds.length) (h : ∀ u d, ds[i.toNat]? = some d → Is K H u d → Q u H) : rIxL K v (.int i) H Q := by
  obtain ⟨j, rfl⟩ : ∃ j : Nat, i = j := ⟨i.toNat, by omega⟩
  cases hv with
  | lst hs hd =>
    have hj : j < ds.length := by omega
    obtain ⟨u, e1, e2⟩ := hd.get (List.getElem?_eq_getElem hj)
    exact ⟨_, _, _, u, rfl, rfl, hs, atI_nat e1, h u _ (by simp [hj]) e2⟩
theorem r_dic {σ : L2.St} (k : ∀ v H2, Same H H2 → Is K H2 v .dic → Q v H2) : tDNewK σ H Q :=
  fun p n => k _ _ (Same.updR (Same.refl _) n) (.dic upd_same)
end
theorem Vals.rev : ∀ {vs : List V} {us : List Value}, Vals vs us → Vals vs.reverse us.reverse
  | _, _, .nil => .nil
  | _, _, .cons r t => by
    rw [List.reverse_cons, List.reverse_cons]
    exact L2.Vals.append (Vals.rev t) (.cons r .nil)
def kMakeK (C : Addr) (n m : Nat) (sp : Sp) (gV : List V → List V → List V) (Q : VK) (E : XK) (vs : List V) : List V → Hp → Prop := fun zs H2 => vs.length = n ∧ zs.length = m ∧
  ∀ x dx, H2 x = none → H2 dx = none → dx ≠ x → sp (gV (.ref x :: vs) zs) (upd (upd H2 dx (.own x)) x (.ins C dx [])) (fun v H3 => v = .non ∧ Q (.ref x) H3) E
theorem r_makeK {C : Addr} {n m : Nat} {sp : Sp} {gV : List V → List V → List V} {E : XK} {t tk : TA} {σ : L2.St} {H : Hp} {Q : VK} (h : t σ H fun vs H1 => tk σ H1 (kMakeK C n m sp gV Q E vs)) : tMakeK C n m sp gV E t tk σ H Q := h
end Sx

namespace Sx
open PySem PySem.Spec PyProof.Rows L2
/-- a law whose defs may raise inside: what a call lets out is told world by world -/
theorem walk_x {law : PySem.W.OpenLaw} {lim lev : Nat} {pq : Program} {names : List Str} {XP : (Str → Option Value) → Heap → Prop} {YP : World → Heap → Prop} {def_ : DefRec} {x : Str}
    (h1 : law.most = some lim) (h2 : lim ≤ sizeLine) (h3 : def_.params.defaults = []) (h4 : Room lev callerA)
    (F : ∀ (w : World) (mg : Str → Option Value) (at_ : Addr) (hp : Heap), YP w hp → hp.Ns mainGlobals mg → mg def_.name = some (.ref at_) → ∃ (K : PySem.W.Frag) (fd : FuncData) (sp : Sp), K.In hp ∧
      (∀ (sh : Shared) (val : Value), BindsTo sh fd ⟨[val], []⟩ [(x, val)]) ∧ (∀ (H : Hp) (li : Addr) (ns : List Int), ns.length ≤ lim → SqL K H li (ns.map V.int) → sp [.ref li] H (fun v _ => v = .bl true) fun _ _ _ => False) ∧
      ∀ b0 : Heap, K.In b0 → b0.Ns mainGlobals mg → FnOk law.prog w K mg b0 (L2.CX law.prog w) lev at_ fd [x] sp) :
    PySem.W.WalkO pq names XP YP law.row.toRowW def_ [] (fun f vs => PySem.call f vs) := by
  refine Att.attach_call h1 h3 fun w _ sh mg _ at_ _ _ _ _ li vals ns gr yp _ _ _ hname hli hvals hlen hgens => ?_
  obtain ⟨K, fd, sp, kin, bnd, hsp, ok⟩ := F w mg at_ _ yp gr.T.g hname
  refine law_call kin gr.T.g gr.T.b gr.T.builtins gr.T.nolimit hgens hli hvals (Nat.le_trans hlen h2) h4 ok bnd (fun H _ sq => hsp H li ns hlen sq) fun H e s' out => ?_
  obtain ⟨_, _, _, _, _, _, _, _, _, _, _, _, no⟩ := out
  exact no
end Sx

namespace Sx
open PySem PySem.Spec PyProof.Rows L2
section
variable {prog : Program} {w : World} {A : Around} {E : Value → Shared → Prop} {s : Shared} {i : Int} {t : Tok} {y : Addr} {o : Obj} {Q : Value → Shared → Prop}
theorem decl_add (hy : s.heap.get? y = some o) (hd : o.data = .plain) (hq : Q .notImplemented s) : wpAny (model prog w) A (call (.builtin "int.__add__") [.int i t, .ref y]) Q E s := by
  refine wpAny_call (codeAny_call_builtin F.slot_int_add.plain F.entry_int_add (F.slot_int_add.check _ _ _ _ _ _ _ _ (typeIs_int s i t) (F.args_int_add_2 _ _) ?_))
  unfold Builtin.«int.__add__» Builtin.Int.intBinary
  repeat wp_step
  rw [hd]
  repeat wp_step
  exact hq
theorem decl_sub (hy : s.heap.get? y = some o) (hd : o.data = .plain) (hq : Q .notImplemented s) : wpAny (model prog w) A (call (.builtin "int.__sub__") [.int i t, .ref y]) Q E s := by
  refine wpAny_call (codeAny_call_builtin F.slot_int_sub.plain F.entry_int_sub (F.slot_int_sub.check _ _ _ _ _ _ _ _ (typeIs_int s i t) (F.args_int_sub_2 _ _) ?_))
  unfold Builtin.«int.__sub__» Builtin.Int.intBinary
  repeat wp_step
  rw [hd]
  repeat wp_step
  exact hq
theorem decl_mul (hy : s.heap.get? y = some o) (hd : o.data = .plain) (hq : Q .notImplemented s) : wpAny (model prog w) A (call (.builtin "int.__mul__") [.int i t, .ref y]) Q E s := by
  refine wpAny_call (codeAny_call_builtin F.slot_int_mul.plain F.entry_int_mul (F.slot_int_mul.check _ _ _ _ _ _ _ _ (typeIs_int s i t) (F.args_int_mul_2 _ _) ?_))
  unfold Builtin.«int.__mul__» Builtin.Int.intBinary
  repeat wp_step
  rw [hd]
  repeat wp_step
  exact hq
variable {K : PySem.W.Frag} {C f f1 : Addr} {od : Option Obj}
/-- an int on the left, an own instance on the right: its reflected method -/
theorem bin_refl {op : Operator} {id : String} (X : K.In s.heap) (I : PySem.W.InstAt s.heap y o C od) (hc : PySem.W.selfFirst K C = true)
    (hs : PySem.W.findIn K (.ref C) (PySem.dunder op.info.2) = some (some (.ref f1))) (hr : PySem.W.findIn K (.ref C) (dunderR op.info.2) = some (some (.ref f))) (hf : PySem.W.isFn K (.ref f) = true) (hsub : PySem.W.kitOne K (.ref C) (.type "int") = some false)
    (hfl : fillsNumberSlot (.type "int") op.info.2 = pure true) (slot : Slot "int" (PySem.dunder op.info.2) id) (decl : ∀ R : Value → Shared → Prop, R .notImplemented s → wpAny (model prog w) A (call (.builtin id) [.int i t, .ref y]) R E s)
    (h : wpAny (model prog w) A (call (.ref f) [.ref y, .int i t]) (PySem.W.CmpBack Q) E s) : wpAny (model prog w) A (binaryOp op (.int i t) (.ref y)) Q E s := by
  obtain ⟨cd, rest, hcd, hm⟩ := PySem.W.ksp_first hc
  rcases hi : op.info with ⟨sym, nm⟩
  rw [hi] at hs hr hfl slot
  dsimp only at hs hr hfl slot
  have one := PySem.W.ksp_try X I hr hf h
  have dec : wpAny (model prog w) A (tryMethod (.int i t) (PySem.dunder nm) (.ref y)) (fun r s' => r = none ∧ s' = s) E s := wpAny_tryMethod_declines (typeIs_int s i t) slot (decl _ ⟨rfl, rfl, rfl⟩)
  have ty2 : PySem.W.Looks (model prog w) s.heap (typeOf (.ref y)) (.ref C) := I.type
  have fl2 : PySem.W.Looks (model prog w) s.heap (fillsNumberSlot (.ref C) nm) true := PySem.W.fills_K X hcd hm hs
  have sb2 : PySem.W.Looks (model prog w) s.heap (isSubtype (.ref C) (.type "int")) false := by
    have e : (Value.ref C == Value.type "int") = false := Bool.eq_false_iff.mpr fun q => by cases beq_iff_eq.mp q
    unfold PySem.W.kitOne at hsub
    rw [e, if_neg Bool.false_ne_true] at hsub
    exact (PySem.W.kit_cls X hsub).2.2
  have hne : (Value.type "int" == Value.ref C) = false := Bool.eq_false_iff.mpr fun q => by cases beq_iff_eq.mp q
  have hpy : numberSlotInPython (.type "int") nm = pure false := rfl
  simp only [binaryOp, hi]
  refine wpAny_holding (wpAny_bind ?_)
  simp only [binaryOp1]
  refine wpAny_bind (wpAny_typeOf (typeIs_int s i t) (wpAny_bind (ty2.here (wpAny_bind (wpAny_of_eq hfl ?_)))))
  simp only [hne, Bool.false_eq_true, if_false]
  refine wpAny_bind (fl2.here ?_)
  simp only [Bool.and_self, if_true]
  refine wpAny_bind (sb2.here ?_)
  simp only [Bool.false_eq_true, if_false, pure_bind, Bool.not_false, Bool.and_self, if_true, hpy]
  refine wpAny_bind (wpAny_mono dec (fun r s' z => ?_) fun _ _ e => e)
  obtain ⟨rfl, rfl⟩ := z
  dsimp only
  refine wpAny_bind (wpAny_mono one (fun r s' z => ?_) fun _ _ e => e)
  obtain ⟨v, rfl, hq⟩ := z
  exact wpAny_bind (wpAny_rule (wpAny_pure (wpAny_pure hq)))
end
/-! ### an operator of own instances and ints -/
theorem subInt {K : PySem.W.Frag} {C : Addr} : PySem.W.subIn K (.type "int") (.ref C) = some false := by
  have e : fastBuiltinMro "int" = some [.type "int", .type "object"] := by decide +kernel
  show (fastBuiltinMro "int").map (·.contains (.ref C)) = some false
  rw [e]
  first
    | rfl
    | simp
/-- what is known of an operator at the ints -/
structure IntO (op : Operator) (id : String) : Prop where
  fl : fillsNumberSlot (.type "int") op.info.2 = pure true
  slot : Slot "int" (PySem.dunder op.info.2) id
  decl : ∀ {prog : Program} {w : World} {A : Around} {E : Value → Shared → Prop} {s : Shared} {i : Int} {t : Tok} {y : Addr} {o : Obj} (R : Value → Shared → Prop), s.heap.get? y = some o → o.data = .plain → R .notImplemented s → wpAny (model prog w) A (call (.builtin id) [.int i t, .ref y]) R E s
  l1 : ∃ fo, ∀ K : PySem.W.Frag, PySem.W.findIn K (.type "int") (PySem.dunder op.info.2) = some fo
  l2 : ∃ ro, ∀ K : PySem.W.Frag, PySem.W.findIn K (.type "int") (dunderR op.info.2) = some ro
theorem into_add : IntO .Add "int.__add__" := ⟨F.fills_int_add, F.slot_int_add, fun _ h1 h2 h3 => decl_add h1 h2 h3, ⟨some (.builtin "int.__add__"), fun _ => by show fastLookup "int" _ = _; kernel_rfl⟩, ⟨some (.builtin "int.__radd__"), fun _ => by show fastLookup "int" _ = _; kernel_rfl⟩⟩
theorem into_sub : IntO .Sub "int.__sub__" := ⟨F.fills_int_sub, F.slot_int_sub, fun _ h1 h2 h3 => decl_sub h1 h2 h3, ⟨some (.builtin "int.__sub__"), fun _ => by show fastLookup "int" _ = _; kernel_rfl⟩, ⟨some (.builtin "int.__rsub__"), fun _ => by show fastLookup "int" _ = _; kernel_rfl⟩⟩
theorem into_mul : IntO .Mult "int.__mul__" := ⟨F.fills_int_mul, F.slot_int_mul, fun _ h1 h2 h3 => decl_mul h1 h2 h3, ⟨some (.builtin "int.__mul__"), fun _ => by show fastLookup "int" _ = _; kernel_rfl⟩, ⟨some (.builtin "int.__rmul__"), fun _ => by show fastLookup "int" _ = _; kernel_rfl⟩⟩
def kOp (r : R2) (C : Addr) (spL spR : Sp) (E : XK) (Q : VK) : V → V → Hp → Prop := fun x y H =>
  ((∃ i j, x = .int i ∧ y = .int j) ∧ r x y H Q) ∨
  (∃ a dx fs, x = .ref a ∧ H a = some (.ins C dx fs) ∧ ((∃ j, y = .int j) ∨ ∃ b dy gs, y = .ref b ∧ H b = some (.ins C dy gs)) ∧ spL [x, y] H Q E) ∨
  (∃ i b dy gs, x = .int i ∧ y = .ref b ∧ H b = some (.ins C dy gs) ∧ spR [y, x] H Q E)
def tOpX (r : R2) (C : Addr) (spL spR : Sp) (W : WX) (ta tb : TE) : TE := fun σ H Q => ta σ H fun x H1 => tb σ H1 fun y H2 => kOp r C spL spR (WE W σ) Q x y H2
theorem back_of {X : Cx} {pins : List (Addr × Obj)} {σ : L2.St} {Q : VK} {u : Value} {s : Shared} (h : EP X pins σ Q u s) : PySem.W.CmpBack (EP X pins σ Q) u s := by
  obtain ⟨v, H, I, r, q⟩ := id h
  cases u <;> first | exact h | (exfalso; cases v <;> first | (obtain ⟨_, z⟩ := r; cases z; done) | (cases r; done))
section
variable {X : Cx} {pins : List (Addr × Obj)} {σ : L2.St} {H : Hp} {s : Shared} {k k' : Nat} {C fL fR : Addr} {spL spR : Sp} {W : WX} {r : R2} {op : Operator} {id : String} {a b : Expr} {ta tb : TE} {pos : Pos} {Q : VK} {x y : V} {u v : Value}
theorem wp_fn {f : Addr} {sp : Sp} {us : List Value} {vs : List V} (F : FnR X.prog X.w X.K X.mg X.base (L2.CX X.prog X.w) k f sp) (hr : Room k X.A) (tk : Takes X W) (I : Inv X pins σ H s) (rv : Vals vs us) (h : sp vs H Q (WE W σ)) :
    wpAny (model X.prog X.w) X.A (call (.ref f) us) (EP X pins σ Q) X.xe s := wpAny_call (run_fnW F hr tk I rv h)
theorem run_opX (o : IntO op id) (hc : PySem.W.selfFirst X.K C = true) (hk : PySem.W.kitOne X.K (.ref C) (.type "int") = some false) (mL : Meth X.K C (PySem.dunder op.info.2) fL) (mR : Meth X.K C (dunderR op.info.2) fR)
    (FL : FnR X.prog X.w X.K X.mg X.base (L2.CX X.prog X.w) k fL spL) (FR : FnR X.prog X.w X.K X.mg X.base (L2.CX X.prog X.w) k' fR spR) (hr : Room k X.A) (hr' : Room k' X.A) (tk : Takes X W) (ho : OpR X (binaryOp op) r)
    (I : Inv X pins σ H s) (rx : RelV x u) (ry : RelV y v) (h : kOp r C spL spR (WE W σ) Q x y H) : wpAny (model X.prog X.w) X.A (binaryOp op u v) (EP X pins σ Q) X.xe s := by
  obtain ⟨m, hF⟩ := I.fr
  rcases h with ⟨⟨i, j, rfl, rfl⟩, h⟩ | ⟨a, dx, fs, rfl, ha, hy, h⟩ | ⟨i, b, dy, gs, rfl, rfl, hb, h⟩
  · exact ho pins s σ H _ _ _ _ Q I rx ry h
  · obtain ⟨mA, J, _⟩ := ins_get I.hok ha
    obtain ⟨od, J, _⟩ := J.look
    have fin := wpAny_mono (wp_fn FL hr tk I (.cons rx (.cons ry .nil)) h) (fun _ _ z => back_of z) fun _ _ z => z
    cases rx
    rcases hy with ⟨j, rfl⟩ | ⟨b, dy, gs, rfl, hb⟩
    · obtain ⟨t, rfl⟩ := ry
      obtain ⟨fo, h1⟩ := o.l1
      obtain ⟨ro, h2⟩ := o.l2
      exact PySem.W.ksp_binT (T := "int") hF I.ok.mod.kin J rfl hc mL.at_ mL.fn mR.at_ (.inr ⟨_, rfl⟩) (h1 _) (h2 _) subInt fin
    · cases ry
      obtain ⟨mB, J2, _⟩ := ins_get I.hok hb
      obtain ⟨od2, J2, _⟩ := J2.look
      exact PySem.W.binop_K hF I.ok.mod.kin J J2.type hc mL.at_ mL.fn fin
  · obtain ⟨mB, J2, _⟩ := ins_get I.hok hb
    have hob := (I.hok b _ hb).2.2.2.1
    obtain ⟨od2, J2, _⟩ := J2.look
    have fin := wpAny_mono (wp_fn FR hr' tk I (.cons ry (.cons rx .nil)) h) (fun _ _ z => back_of z) fun _ _ z => z
    cases ry
    obtain ⟨t, rfl⟩ := rx
    exact bin_refl I.kIn J2 hc mL.at_ mR.at_ mR.fn hk o.fl o.slot (fun R q => o.decl R hob rfl q) fin
theorem pe_opX (o : IntO op id) (hc : PySem.W.selfFirst X.K C = true) (hk : PySem.W.kitOne X.K (.ref C) (.type "int") = some false) (mL : Meth X.K C (PySem.dunder op.info.2) fL) (mR : Meth X.K C (dunderR op.info.2) fR)
    (FL : FnR X.prog X.w X.K X.mg X.base (L2.CX X.prog X.w) k fL spL) (FR : FnR X.prog X.w X.K X.mg X.base (L2.CX X.prog X.w) k' fR spR) (hr : Room k X.A) (hr' : Room k' X.A) (tk : Takes X W) (ho : OpR X (binaryOp op) r) (ha : PE X a ta) (hb : PE X b tb) :
    PE X (.BinOp a op b pos) (tOpX r C spL spR W ta tb) := by
  refine ⟨fun pins s σ H Q I h => ?_⟩
  exact wpAny_BinOp (binT ha hb I h fun v u s2 x y H2 I2 rx ry q => run_opX o hc hk mL mR FL FR hr hr' tk ho I2 rx ry q)
/-! ### -x -/
def kNeg (C : Addr) (sp : Sp) (E : XK) (Q : VK) : VK := fun x H => (∃ i, x = .int i ∧ Q (.int (-i)) H) ∨ ∃ a dx fs, x = .ref a ∧ H a = some (.ins C dx fs) ∧ sp [x] H Q E
def tNegX (C : Addr) (sp : Sp) (W : WX) (ta : TE) : TE := fun σ H Q => ta σ H (kNeg C sp (WE W σ) Q)
theorem pe_negX (m : Meth X.K C "__neg__" fL) (FL : FnR X.prog X.w X.K X.mg X.base (L2.CX X.prog X.w) k fL spL) (hr : Room k X.A) (tk : Takes X W) (ha : PE X a ta) : PE X (.UnaryOp .USub a pos) (tNegX C spL W ta) := by
  refine ⟨fun pins s σ H Q I h => ?_⟩
  refine UnaryOp_ (thn (ha.run pins s σ H _ I h) fun v s1 ⟨x, H1, I1, r1, q1⟩ => ?_)
  rcases q1 with ⟨i, rfl, q⟩ | ⟨z, dx, fs, rfl, hz, q⟩
  · exact un_neg pins s1 σ H1 _ v Q I1 r1 ⟨i, rfl, q⟩
  · obtain ⟨m0, hF⟩ := I1.fr
    obtain ⟨mA, J, _⟩ := ins_get I1.hok hz
    obtain ⟨od, J, _⟩ := J.look
    have fin := wp_fn FL hr tk I1 (.cons r1 .nil) q
    cases r1
    exact PySem.W.ksp_neg hF I1.ok.mod.kin J m.at_ m.fn fin
/-! ### x == y, the class's own -/
def kEq (K : PySem.W.Frag) (C : Addr) (sp : Sp) (E : XK) (Q : VK) : V → V → Hp → Prop := fun x y H =>
  (scal x y = true ∧ Q (.bl (decide (x = y))) H) ∨ ∃ a dx fs ty, x = .ref a ∧ H a = some (.ins C dx fs) ∧ TyX K H y ty ∧ PySem.W.notFirst K C ty = true ∧ sp [x, y] H Q E
def tEqX (K : PySem.W.Frag) (C : Addr) (sp : Sp) (W : WX) (ta tb : TE) : TE := fun σ H Q => ta σ H fun x H1 => tb σ H1 fun y H2 => kEq K C sp (WE W σ) Q x y H2
theorem run_eqX (m : Meth X.K C "__eq__" fL) (FL : FnR X.prog X.w X.K X.mg X.base (L2.CX X.prog X.w) k fL spL) (hr : Room k X.A) (tk : Takes X W) (I : Inv X pins σ H s) (rx : RelV x u) (ry : RelV y v) (h : kEq X.K C spL (WE W σ) Q x y H) :
    wpAny (model X.prog X.w) X.A (compareOp .Eq u v) (EP X pins σ Q) X.xe s := by
  rcases h with ⟨h1, h2⟩ | ⟨z, dx, fs, ty, rfl, hz, hy, hn, q⟩
  · exact op_eq pins s σ H x y u v Q I rx ry ⟨h1, h2⟩
  · obtain ⟨m0, hF⟩ := I.fr
    obtain ⟨mA, J, _⟩ := ins_get I.hok hz
    obtain ⟨od, J, _⟩ := J.look
    obtain ⟨P, kx, pp, _⟩ := kit_of I ry hy
    have fin := wpAny_mono (wp_fn FL hr tk I (.cons rx (.cons ry .nil)) q) (fun _ _ z => back_of z) fun _ _ z => z
    cases rx
    exact PySem.W.cmp_K (op := .Eq) (tb := ty) hr.units0 hF I.ok.mod.kin J (kx.ty _ _ I.kIn pp) hn m.at_ m.fn fin
theorem pe_eqX (m : Meth X.K C "__eq__" fL) (FL : FnR X.prog X.w X.K X.mg X.base (L2.CX X.prog X.w) k fL spL) (hr : Room k X.A) (tk : Takes X W) (ha : PE X a ta) (hb : PE X b tb) : PE X (.Compare a [.Eq] [b] pos) (tEqX X.K C spL W ta tb) := by
  refine ⟨fun pins s σ H Q I h => ?_⟩
  exact wpAny_Compare1 (binT ha hb I h fun v u s2 x y H2 I2 rx ry q => run_eqX m FL hr tk I2 rx ry q) (nomark _)
theorem pt_eqX (m : Meth X.K C "__eq__" fL) (FL : FnR X.prog X.w X.K X.mg X.base (L2.CX X.prog X.w) k fL spL) (hr : Room k X.A) (tk : Takes X W) (ha : PE X a ta) (hb : PE X b tb) : PT X (.Compare a [.Eq] [b] pos) (tTest (tEqX X.K C spL W ta tb)) := by
  refine ⟨fun pins s σ H Q I h => ?_⟩
  refine wpAny_isTrue_Compare1 (thn (ha.run pins s σ H _ I h) fun v s1 ⟨x, H1, I1, r1, q1⟩ => thn (hb.run pins s1 σ H1 _ I1 q1) fun u s2 ⟨y, H2, I2, r2, q2⟩ => ?_) (nomark _)
  refine thn (run_eqX m FL hr tk I2 r1 r2 q2) fun c s3 ⟨z, H3, I3, r3, n, e, q3⟩ => ?_
  subst e
  cases r3
  exact wpAny_truthy_bool ⟨H3, I3, q3⟩
end
/-! ### x op= y without an in-place method: as x op y -/
section
variable {prog : Program} {w : World} {A : Around} {E : Value → Shared → Prop} {s : Shared} {x : Addr} {ox : Obj} {Q : Value → Shared → Prop} {K : PySem.W.Frag} {C f f1 : Addr} {od : Option Obj} {b tb : Value} {nm : String}
theorem bin1_left {op : Operator} {id : String} (o : IntO op id) (X : K.In s.heap) (I : PySem.W.InstAt s.heap x ox C od) (hc : PySem.W.selfFirst K C = true) (hb : PySem.W.Looks (model prog w) s.heap (typeOf b) tb) (htb : tb = .ref C ∨ tb = .type "int")
    (hs : PySem.W.findIn K (.ref C) (PySem.dunder op.info.2) = some (some (.ref f))) (hf : PySem.W.isFn K (.ref f) = true) (hr : PySem.W.findIn K (.ref C) (dunderR op.info.2) = some (some (.ref f1)))
    (h : wpAny (model prog w) A (call (.ref f) [.ref x, b]) (PySem.W.CmpBack Q) E s) : wpAny (model prog w) A (binaryOp1 op.info.2 (.ref x) b) (fun r s' => ∃ v, r = some v ∧ Q v s') E s := by
  obtain ⟨cd, rest, hcd, hm⟩ := PySem.W.ksp_first hc
  have one := PySem.W.ksp_try X I hs hf h
  obtain ⟨fo, h1⟩ := o.l1
  obtain ⟨ro, h2⟩ := o.l2
  have fl := o.fl
  generalize op.info.2 = nm at hs hr h1 h2 one fl ⊢
  have g1 : PySem.W.Looks (model prog w) s.heap (typeOf (.ref x)) (.ref C) := I.type
  have g3 : PySem.W.Looks (model prog w) s.heap (fillsNumberSlot (.ref C) nm) true := PySem.W.fills_K X hcd hm hs
  rcases htb with rfl | rfl
  · unfold binaryOp1
    refine wpAny_bind (g1.here (wpAny_bind (hb.here (wpAny_bind (g3.here ?_)))))
    simp only [beq_self_eq_true, if_true]
    refine wpAny_bind (wpAny_pure ?_)
    simp only [Bool.and_false, Bool.false_eq_true, if_false, Bool.false_and]
    refine wpAny_bind (wpAny_pure ?_)
    simp only [Bool.false_eq_true, if_false]
    refine wpAny_bind (wpAny_mono one (fun r s' z => ?_) fun _ _ e => e)
    obtain ⟨v, rfl, q⟩ := z
    exact wpAny_pure ⟨v, rfl, q⟩
  · have g5 : PySem.W.Looks (model prog w) s.heap (isSubtype (.type "int") (.ref C)) false := PySem.W.looks_subIn X subInt
    have g6 : PySem.W.Looks (model prog w) s.heap (numberSlotInPython (.ref C) nm) true := PySem.W.ksp_inPy X hs hr (.inr ⟨_, rfl⟩)
    have g8 : PySem.W.Looks (model prog w) s.heap (typeLookup (.type "int") (dunderR nm)) ro := PySem.W.looks_findIn X (h2 K)
    have hne : (Value.ref C == Value.type "int") = false := Bool.eq_false_iff.mpr fun q => by cases beq_iff_eq.mp q
    have hpy : numberSlotInPython (.type "int") nm = pure false := rfl
    simp only [binaryOp1]
    refine wpAny_bind (g1.here (wpAny_bind (hb.here (wpAny_bind (g3.here ?_)))))
    simp only [hne, Bool.false_eq_true, if_false]
    refine wpAny_bind (wpAny_of_eq fl ?_)
    simp only [Bool.and_self, if_true]
    refine wpAny_bind (g5.here ?_)
    simp only [Bool.false_eq_true, if_false, pure_bind, Bool.not_false, Bool.and_self, if_true]
    refine wpAny_bind (g6.here ?_)
    simp only [if_true, hpy, pure_bind, Bool.not_false]
    refine wpAny_bind (g8.here ?_)
    refine wpAny_bind (wpAny_mono one (fun r s' z => ?_) fun _ _ e => e)
    obtain ⟨v, rfl, q⟩ := z
    exact wpAny_pure ⟨v, rfl, q⟩
/-- no in-place method anywhere: the class and object alone -/
def NoIp (K : PySem.W.Frag) (C : Addr) (nm : String) : Prop := (∃ cd, PySem.W.clsIn K C = some cd ∧ cd.mro = [.ref C, .type "object"]) ∧ PySem.W.findIn K (.ref C) (dunderI nm) = some none ∧ fastLookup "object" (dunderI nm) = some none
theorem ip_left {op : Operator} (n : NoIp K C op.info.2) (X : K.In s.heap) (I : PySem.W.InstAt s.heap x ox C od) (h : wpAny (model prog w) A (binaryOp1 op.info.2 (.ref x) b) (fun r s' => ∃ v, r = some v ∧ Q v s') E s) : wpAny (model prog w) A (inplaceOp op (.ref x) b) Q E s := by
  obtain ⟨⟨cd, hcd, hm⟩, n1, n2⟩ := n
  have g1 : PySem.W.Looks (model prog w) s.heap (typeOf (.ref x)) (.ref C) := I.type
  have gm : PySem.W.Looks (model prog w) s.heap (mroOf (.ref C)) cd.mro := (PySem.W.looks_clsIn X hcd).andThen (f := fun cd => pure cd.mro) .now
  have gc : PySem.W.Looks (model prog w) s.heap (typeLookup (.ref C) (dunderI op.info.2)) none := PySem.W.looks_findIn X n1
  have go : PySem.W.Looks (model prog w) s.heap (typeLookup (.type "object") (dunderI op.info.2)) none := PySem.W.looks_findIn (K := K) X n2
  unfold inplaceOp
  refine wpAny_holding (wpAny_bind (g1.here ?_))
  refine wpAny_bind ?_
  unfold fillsInplaceSlot
  dsimp only
  refine wpAny_bind (gm.here ?_)
  rw [hm, List.anyM_cons]
  refine wpAny_bind (wpAny_bind (gc.here (wpAny_pure ?_)))
  rw [List.anyM_cons]
  refine wpAny_bind (wpAny_bind (go.here (wpAny_pure ?_)))
  try dsimp only
  refine wpAny_pure ?_
  simp only [Bool.false_eq_true, if_false]
  refine wpAny_bind (wpAny_mono h (fun r s' z => ?_) fun _ _ e => e)
  obtain ⟨v, rfl, q⟩ := z
  exact wpAny_pure q
end
section
variable {X : Cx} {k : Nat} {C fL fR : Addr} {spL : Sp} {E : XK} {op : Operator} {id : String}
def rIpX (C : Addr) (sp : Sp) (E : XK) : TIp := fun x y H Q => ∃ a dx fs, x = .ref a ∧ H a = some (.ins C dx fs) ∧ ((∃ j, y = .int j) ∨ ∃ b dy gs, y = .ref b ∧ H b = some (.ins C dy gs)) ∧ sp [x, y] H Q E
theorem ip_own (o : IntO op id) (n : NoIp X.K C op.info.2) (hc : PySem.W.selfFirst X.K C = true) (mL : Meth X.K C (PySem.dunder op.info.2) fL) (mR : Meth X.K C (dunderR op.info.2) fR) (FL : FnR X.prog X.w X.K X.mg X.base (L2.CX X.prog X.w) k fL spL) (hr : Room k X.A) (tk : Takes X (wx E)) :
    PIp X op (rIpX C spL E) := by
  intro pins s σ H x y u v Q I rx ry h
  obtain ⟨a, dx, fs, rfl, ha, hy, h⟩ := h
  obtain ⟨mA, J, _⟩ := ins_get I.hok ha
  obtain ⟨od, J, _⟩ := J.look
  have fin := wpAny_mono (wp_fn (W := wx E) FL hr tk I (.cons rx (.cons ry .nil)) h) (fun _ _ z => back_of z) fun _ _ z => z
  cases rx
  rcases hy with ⟨j, rfl⟩ | ⟨b, dy, gs, rfl, hb⟩
  · obtain ⟨t, rfl⟩ := ry
    exact ip_left n I.kIn J (bin1_left o I.kIn J hc (PySem.W.Looks.of_pure rfl) (.inr rfl) mL.at_ mL.fn mR.at_ fin)
  · cases ry
    obtain ⟨mB, J2, _⟩ := ins_get I.hok hb
    obtain ⟨od2, J2, _⟩ := J2.look
    exact ip_left n I.kIn J (bin1_left o I.kIn J hc J2.type (.inl rfl) mL.at_ mL.fn mR.at_ fin)
end
theorem dn_add : ("__add__" : Str) = PySem.dunder Operator.Add.info.2 := by kernel_rfl
theorem dr_add : ("__radd__" : Str) = dunderR Operator.Add.info.2 := by kernel_rfl
theorem di_add : ("__iadd__" : Str) = dunderI Operator.Add.info.2 := by kernel_rfl
theorem dn_sub : ("__sub__" : Str) = PySem.dunder Operator.Sub.info.2 := by kernel_rfl
theorem dr_sub : ("__rsub__" : Str) = dunderR Operator.Sub.info.2 := by kernel_rfl
theorem di_sub : ("__isub__" : Str) = dunderI Operator.Sub.info.2 := by kernel_rfl
theorem dn_mul : ("__mul__" : Str) = PySem.dunder Operator.Mult.info.2 := by kernel_rfl
theorem dr_mul : ("__rmul__" : Str) = dunderR Operator.Mult.info.2 := by kernel_rfl
theorem di_mul : ("__imul__" : Str) = dunderI Operator.Mult.info.2 := by kernel_rfl
theorem noip_of {K : PySem.W.Frag} {C : Addr} {m : Str} {nm : String} (e : m = dunderI nm) (c : ∃ cd, PySem.W.clsIn K C = some cd ∧ cd.mro = [.ref C, .type "object"]) (n : NoAttr K C m) (o : fastLookup "object" (dunderI nm) = some none) : NoIp K C nm := ⟨c, e ▸ n, o⟩
section
variable {K : PySem.W.Frag} {H : Hp} {Q : VK} {E : XK} {r : R2} {C : Str} {gs gs' : List (Str × D)} {spL spR sp : Sp} {x y : V} {i j : Int} {σ : L2.St} {W : WX} {ta tb : TE}
theorem r_opX (h : ta σ H fun x H1 => tb σ H1 fun y H2 => kOp r (He.ga K C) spL spR (WE W σ) Q x y H2) : tOpX r (He.ga K C) spL spR W ta tb σ H Q := h
theorem k_opI {C : Addr} (h : r (.int i) (.int j) H Q) : kOp r C spL spR E Q (.int i) (.int j) H := .inl ⟨⟨i, j, rfl, rfl⟩, h⟩
theorem k_opLI (hx : Is K H x (.ins C gs)) (h : spL [x, .int j] H Q E) : kOp r (He.ga K C) spL spR E Q x (.int j) H := by
  cases hx with
  | ins ha _ => exact .inr (.inl ⟨_, _, _, rfl, ha, .inl ⟨j, rfl⟩, h⟩)
theorem k_opLL (hx : Is K H x (.ins C gs)) (hy : Is K H y (.ins C gs')) (h : spL [x, y] H Q E) : kOp r (He.ga K C) spL spR E Q x y H := by
  cases hx with
  | ins ha _ => cases hy with
    | ins hb _ => exact .inr (.inl ⟨_, _, _, rfl, ha, .inr ⟨_, _, _, rfl, hb⟩, h⟩)
theorem k_opR (hy : Is K H y (.ins C gs')) (h : spR [y, .int i] H Q E) : kOp r (He.ga K C) spL spR E Q (.int i) y H := by
  cases hy with
  | ins hb _ => exact .inr (.inr ⟨i, _, _, _, rfl, rfl, hb, h⟩)
theorem r_negX (h : ta σ H (kNeg (He.ga K C) sp (WE W σ) Q)) : tNegX (He.ga K C) sp W ta σ H Q := h
theorem k_negI {C : Addr} (h : Q (.int (-i)) H) : kNeg C sp E Q (.int i) H := .inl ⟨i, rfl, h⟩
theorem k_negL (hx : Is K H x (.ins C gs)) (h : sp [x] H Q E) : kNeg (He.ga K C) sp E Q x H := by
  cases hx with
  | ins ha _ => exact .inr ⟨_, _, _, rfl, ha, h⟩
theorem r_eqX {C : Addr} (h : ta σ H fun x H1 => tb σ H1 fun y H2 => kEq K C sp (WE W σ) Q x y H2) : tEqX K C sp W ta tb σ H Q := h
theorem k_eqI {C : Addr} (h : Q (.bl (decide (V.int i = V.int j))) H) : kEq K C sp E Q (.int i) (.int j) H := .inl ⟨rfl, h⟩
class NF (K : PySem.W.Frag) (C : Str) (t : Tn) : Prop where
  h : PySem.W.notFirst K (He.ga K C) (t.val K) = true
instance : NF K C (.c C) := ⟨by unfold PySem.W.notFirst; simp [Tn.val]⟩
theorem nf_b {n : String} {l : List Value} (e : fastBuiltinMro n = some l) (hl : l.contains (.ref (He.ga K C)) = false) : NF K C (.b n) := ⟨by
  have h : PySem.W.subIn K (.type n) (.ref (He.ga K C)) = some false := by
    show (fastBuiltinMro n).map (·.contains (.ref (He.ga K C))) = some false
    rw [e, Option.map_some, hl]
  show (Value.type n == .ref (He.ga K C) || PySem.W.subIn K (.type n) (.ref (He.ga K C)) == some false) = true
  rw [h, beq_self_eq_true, Bool.or_true]⟩
instance : NF K C (.b "int") := nf_b (l := [.type "int", .type "object"]) (by decide +kernel) rfl
instance : NF K C (.b "str") := nf_b (l := [.type "str", .type "object"]) (by decide +kernel) rfl
instance : NF K C (.b "NoneType") := nf_b (l := [.type "NoneType", .type "object"]) (by decide +kernel) rfl
instance : NF K C (.b "list") := nf_b (l := [.type "list", .type "object"]) (by decide +kernel) rfl
instance : NF K C (.b "tuple") := nf_b (l := [.type "tuple", .type "object"]) (by decide +kernel) rfl
instance : NF K C (.b "bool") := nf_b (l := [.type "bool", .type "int", .type "object"]) (by decide +kernel) rfl
theorem k_eqL {d : D} (hx : Is K H x (.ins C gs)) (hy : Is K H y d) [ok : DOk K d] [n : NF K C d.tn] (h : sp [x, y] H Q E) : kEq K (He.ga K C) sp E Q x y H := by
  have ty := hy.tyx ok
  cases hx with
  | ins ha _ => exact .inr ⟨_, _, _, _, rfl, ha, ty, n.h, h⟩
def kIp (C : Addr) (sp : Sp) (E : XK) : V → V → Hp → VK → Prop := rIpX C sp E
theorem k_ipI (hx : Is K H x (.ins C gs)) (h : sp [x, .int j] H Q E) : rIpX (He.ga K C) sp E x (.int j) H Q := by
  cases hx with
  | ins ha _ => exact ⟨_, _, _, rfl, ha, .inl ⟨j, rfl⟩, h⟩
theorem k_ipL (hx : Is K H x (.ins C gs)) (hy : Is K H y (.ins C gs')) (h : sp [x, y] H Q E) : rIpX (He.ga K C) sp E x y H Q := by
  cases hx with
  | ins ha _ => cases hy with
    | ins hb _ => exact ⟨_, _, _, rfl, ha, .inr ⟨_, _, _, rfl, hb⟩, h⟩
theorem r_aug {i : Nat} {te : TE} {ti : TIp} {D : Ends} {v : V} (e : σ[i]? = some (some v)) (h : te σ H fun y H1 => ti v y H1 fun z H2 => D.nx (σ.set i (some z)) H2) : tAug i te ti D σ H := ⟨v, e, h⟩
end
/-- nothing is promised -/
theorem fnr_false {P : Program} {w : World} {K : PySem.W.Frag} {mg : Str → Option Value} {base : Heap} {CX : CXT} {f : Addr} : FnR P w K mg base CX 0 f (fun _ _ _ _ => False) := fun _ _ _ _ _ _ _ _ _ _ _ h => h.elim
section
end
end Sx

namespace Sx
open PySem PySem.Spec PyProof.Rows L2
theorem seer_of {K : PySem.W.Frag} {h : Heap} {mg : Str → Option Value} (c : (Fx.seer).ok K = true) (X : K.In h) (G : h.Ns mainGlobals mg) (b : ∃ mb, h.Ns builtinsNs mb ∧ ∀ x : Str, x ≠ "__name__" → mb x = bootBuiltins x) : h.NoSeer := by
  obtain ⟨c1, c⟩ := He.ba c
  obtain ⟨c2, c⟩ := He.ba c
  obtain ⟨c3, c⟩ := He.ba c
  obtain ⟨c4, c⟩ := He.ba c
  obtain ⟨c5, c6⟩ := He.ba c
  refine ⟨⟨_, .of_isNs (PySem.W.isNs_of_in X c1), PySem.W.nsMap_none_of_in X c1 (He.eqO_ok c2), PySem.W.nsMap_none_of_in X c1 (He.eqO_ok c3)⟩, ⟨_, .of_isNs (PySem.W.isNs_of_in X c4), PySem.W.nsMap_none_of_in X c4 (He.eqO_ok c5)⟩, b, ?_⟩
  unfold seerB at c6
  split at c6
  · rename_i bm e
    split at c6
    · rename_i o lk
      simp only [Bool.and_eq_true, decide_eq_true_eq] at c6
      exact ⟨mg, bm, o, G, PySem.W.mg_of X G e, X _ _ lk, c6.1, c6.2⟩
    · cases c6
  · cases c6
def CDivP (_ j : Int) : Prop := j ≠ 0
theorem op_fdivP {X : Cx} {e : Env} {l : List Env} (hz : (Fx.seer).ok X.K = true) (hr : Room 32 X.A) (hst : X.stack = e :: l) (hg : e.scope.isGenerator = false) (hco : e.scope.isCoroutine = false) (hb : e.builtins = builtinsNs) (hgl : e.globals = mainGlobals) (ht : X.prog.given.tree = none) :
    OpR X (binaryOp .FloorDiv) (rI CDivP fun i j => .int (i.fdiv j)) := by
  intro pins s σ H x y u v Q I rx ry h
  obtain ⟨i, j, rfl, rfl, hc, q⟩ := h
  obtain ⟨t1, rfl⟩ := rx
  obtain ⟨t2, rfl⟩ := ry
  have bl : ∃ mb, s.heap.Ns builtinsNs mb ∧ ∀ x : Str, x ≠ "__name__" → mb x = bootBuiltins x := by
    obtain ⟨mb, h1, h2⟩ := I.ok.mod.blt
    exact ⟨mb, h1.keepsP I.bk, h2⟩
  have ns := seer_of hz I.kIn (I.ok.mod.glob.keepsP I.bk) bl
  refine floordiv_int hc ⟨.int _, H, I.tok _, ⟨_, rfl⟩, q⟩ (.inr (PylongRoom.of (I.ok.mod.nolimit.keeps I.bk) ?_ (SeerAt.of (env := e) (l := l) ns ht (by rw [I.ok.frames, hst]) hg hco hb hgl)))
  have := hr.dp
  have e1 : Builtin.pylongFrames = 100 := rfl
  omega
end Sx

namespace Sx
open PySem PySem.Spec PyProof.Rows L2
/-- X(), an own exception class without own __init__ -/
theorem pmk_none {X : Cx} {x n : Str} {p pos : Pos} (o : OexC X.K (He.ga X.K n)) (q : (Fx.noi n).ok X.K = true) (hg : Gl X x) (gC : X.mg x = some (.ref (He.ga X.K n))) (hdb : (x == ("__debug__" : Str)) = false := by decide) :
    PMk X (.Call (.Name x p) [] [] pos) (fun _ H Q => Q (.ref (He.ga X.K n)) none H) := by
  intro pins s σ H Q I h
  refine wpAny_Call_Name_kw (ld_glob I hg gC ?_ hdb)
  refine PySem.W.callWith_K0 I.kIn o.kC ?_
  show wpAny _ _ (call (.ref (He.ga X.K n)) []) _ _ _
  obtain ⟨bm, N, nm, qn, bs, hdct, sn, sub, ab, col, dd, k0, k1, k2, k3, k5, mN, hC, hN, hni, T⟩ := exc_obj I.kIn q
  refine wpAny_call_exc_subT F.excBase_ValueError T hC hN hni (fun h' e hm => ?_) (Nat.zero_le _)
  exact mk_of I hm (raises_own o.exC o.tyC) h (I.hok.gone hm.new)
end Sx

namespace Gq
open PySem PySem.SeqAt
open AutoSeq1 (wpAny_loadPart')
open MeetsSeq MeetsSeq2 MeetsSeq3 SeqRoads2
section
variable {prog : Program} {w : World} {A : Around} {R : Result → Shared → Prop}
/-- at each turn the two lists are read anew: N and N2 items; I goes on, J: two items differ -/
def ListT (prog : Program) (w : World) (A : Around) (E : Value → Shared → Prop) (l b : Addr) (N N2 : Nat) (I : Nat → Shared → Prop) (J : Shared → Prop) : Prop :=
  (∀ i s, I i s → ∃ (items items2 : Array Value) (n n2 : Nat) (dd dd2 : Option Addr) (sl sl2 : Array (Option Value)), s.heap.get? l = some { cls := .type "list", dict := dd, data := .seq items n, slots := sl } ∧ s.heap.get? b = some { cls := .type "list", dict := dd2, data := .seq items2 n2, slots := sl2 } ∧ items.size = N ∧ items2.size = N2 ∧
    ∀ (h1 : i < items.size) (h2 : i < items2.size), wpAny (model prog w) A.in1 (eqBool items[i] items2[i]) (fun r s' => if r = true then I (i + 1) s' else J s') E s) ∧
  ∀ s, J s → ∃ (items items2 : Array Value) (n n2 : Nat) (dd dd2 : Option Addr) (sl sl2 : Array (Option Value)), s.heap.get? l = some { cls := .type "list", dict := dd, data := .seq items n, slots := sl } ∧ s.heap.get? b = some { cls := .type "list", dict := dd2, data := .seq items2 n2, slots := sl2 } ∧ items.size = N ∧ items2.size = N2

/-- Eq over lists: at each turn the two lists are read anew -/
theorem eq_loopT (l b : Addr) (N : Nat) (I : Nat → Shared → Prop) (J : Shared → Prop) (hl : ListT prog w A (fun e s' => R (.error e) s') l b N N I J)
    (fin : ∀ s, I N s → R (.ok (.ret (.bool true))) s) (out : ∀ s, J s → R (.ok (.ret (.bool false))) s) (k : Nat) :
    ∀ i : Nat, N - i = k → i ≤ N → ∀ s, I i s →
      wpAny (model prog w) A.in1 (Builtin.«list.__eq__.loop» ⟨[.ref l, .ref b, rawInt i, rawInt 2], []⟩) (GQ.FinOf prog w A R) (fun e s' => R (.error e) s') s := by
  induction k with
  | zero =>
    intro i hk hi s h
    obtain ⟨items, items2, n, n2, dd, dd2, sl, sl2, hl1, hb1, hs1, hs2, _⟩ := hl.1 _ _ h
    have hi' : i = N := by omega
    have hR : R (.ok (.ret (.bool true))) s := fin s (hi' ▸ h)
    obtain ⟨hp, g, d, tk, os⟩ := s
    wp_walk using wpAny_loadPart' hl1, wpAny_loadPart' hb1
    have hi1 : items[((i : Nat) : Int).toNat]? = none := by simp; omega
    have hi2 : items2[((i : Nat) : Int).toNat]? = none := by simp; omega
    rw [hi1, hi2]
    wp_walk using wpAny_loadPart' hl1, wpAny_loadPart' hb1
    show R (.ok (.ret (.bool (items.size == items2.size)))) _
    rw [hs1, hs2]
    simpa using hR
  | succ k ih =>
    intro i hk hi s h
    obtain ⟨items, items2, n, n2, dd, dd2, sl, sl2, hl1, hb1, hs1, hs2, turn⟩ := hl.1 _ _ h
    have hlt : i < items.size := by omega
    have hlt2 : i < items2.size := by omega
    have ht := turn hlt hlt2
    obtain ⟨hp, g, d, tk, os⟩ := s
    wp_walk using wpAny_loadPart' hl1, wpAny_loadPart' hb1
    have hi1 : items[((i : Nat) : Int).toNat]? = some items[i] := by simp [hlt]
    have hi2 : items2[((i : Nat) : Int).toNat]? = some items2[i] := by simp [hlt2]
    have hc : ((i : Int) + 1) = ((i + 1 : Nat) : Int) := by omega
    rw [hi1, hi2]
    refine wpAny_bind (wpAny_mono ht (fun r s2 h2 => ?_) fun _ _ x => x)
    cases r with
    | true =>
      have h2 : I (i + 1) s2 := h2
      have hrec := ih (i + 1) (by omega) (by omega) s2 h2
      obtain ⟨hp2, g2, d2, tk2, os2⟩ := s2
      wp_walk
      rw [hc]
      exact ⟨plainId_quiet plain_eq_loop _, codeAny_builtin entry_eq_loop (by
        rw [Around.under_plainId plain_eq_loop _]
        exact hrec)⟩
    | false =>
      have h2 : J s2 := h2
      have hR := out s2 h2
      obtain ⟨jt, jt2, m, m2, ed, ed2, tl, tl2, hl2, hb2, hz1, hz2⟩ := hl.2 s2 h2
      obtain ⟨hp2, g2, d2, tk2, os2⟩ := s2
      have hj1 : jt[((i : Nat) : Int).toNat]? = some (jt[i]'(by omega)) := by simp
      have hj2 : jt2[((i : Nat) : Int).toNat]? = some (jt2[i]'(by omega)) := by simp
      wp_walk using wpAny_loadPart' hl2, wpAny_loadPart' hb2
      rw [hj1, hj2]
      wp_walk
      simpa using hR
theorem list_eqT (l b : Addr) (N N2 : Nat) (I : Nat → Shared → Prop) (J : Shared → Prop) (hl : ListT prog w A (fun e s' => R (.error e) s') l b N N2 I J)
    (fin : N = N2 → ∀ s, I N s → R (.ok (.ret (.bool true))) s) (out : ∀ s, J s → R (.ok (.ret (.bool false))) s) {s : Shared} (h : I 0 s) (off : N ≠ N2 → R (.ok (.ret (.bool false))) s) :
    wpAny (model prog w) A.in1 (Builtin.«list.__eq__» ⟨[.ref l, .ref b], []⟩) (GQ.FinOf prog w A R) (fun e s' => R (.error e) s') s := by
  obtain ⟨items, items2, n, n2, dd, dd2, sl, sl2, hl1, hb1, hs1, hs2, _⟩ := hl.1 _ _ h
  have f3 := AutoSeq1.sub_list_list
  by_cases e : N = N2
  · subst e
    have hrec := eq_loopT (A := A) (R := R) l b N I J hl (fin rfl) out _ 0 rfl (Nat.zero_le _) s h
    obtain ⟨hp, g, d, tk, os⟩ := s
    have hne : ¬ (items.size != items2.size) = true := by simp [hs1, hs2]
    wp_walk using wpAny_loadPart' hl1, wpAny_loadPart' hb1
    exact ⟨plainId_quiet plain_eq_loop _, codeAny_builtin entry_eq_loop (by
      rw [Around.under_plainId plain_eq_loop _]
      exact hrec)⟩
  · have hR := off e
    obtain ⟨hp, g, d, tk, os⟩ := s
    have hc0 : (items.size != items2.size) = true := by simp [hs1, hs2, e]
    wp_walk using wpAny_loadPart' hl1, wpAny_loadPart' hb1
    first | exact hR | exact ⟨_, rfl, hR⟩
theorem tuple_eqT (l b : Addr) (items items2 : Array Value) (n n2 : Nat) (dd dd2 : Option Addr) (sl sl2 : Array (Option Value)) (I : Nat → Shared → Prop) (J : Shared → Prop)
    (turn : ∀ i (h1 : i < items.size) (h2 : i < items2.size) s, I i s → wpAny (model prog w) A.in1 (eqBool items[i] items2[i]) (fun r s' => if r = true then I (i + 1) s' else J s') (fun e s' => R (.error e) s') s)
    (fin : ∀ s, I (min items.size items2.size) s → R (.ok (.ret (.bool (items.size == items2.size)))) s) (out : ∀ s, J s → R (.ok (.ret (.bool false))) s) {s : Shared} (hl1 : s.heap.get? l = some { cls := .type "tuple", dict := dd, data := .seq items n, slots := sl }) (hb1 : s.heap.get? b = some { cls := .type "tuple", dict := dd2, data := .seq items2 n2, slots := sl2 }) (h : I 0 s) :
    wpAny (model prog w) A.in1 (Builtin.«tuple.__eq__» ⟨[.ref l, .ref b], []⟩) (GQ.FinOf prog w A R) (fun e s' => R (.error e) s') s := by
  have f2 := AutoSeq1.sub_tuple_tuple
  have hZ : (items.toList.zip items2.toList).length = min items.size items2.size := by simp
  have h0 := h
  obtain ⟨hp, g, d, tk, os⟩ := s
  wp_walk using wpAny_loadPart' hl1, wpAny_loadPart' hb1, wpAny_forIn_list _ (fun rest b s' => b.1 = none ∧ ∃ i, rest = (items.toList.zip items2.toList).drop i ∧ i ≤ min items.size items2.size ∧ I i s') _
  case turn =>
    rintro ⟨y, x⟩ rest b s' ⟨hb', i, hz, hi, hI⟩
    have hlt : i < (items.toList.zip items2.toList).length := by
      rcases Nat.lt_or_ge i (items.toList.zip items2.toList).length with h' | h'
      · exact h'
      · rw [List.drop_of_length_le h'] at hz; cases hz
    have hm : i < min items.size items2.size := hZ ▸ hlt
    have h1 : i < items.size := Nat.lt_of_lt_of_le hm (Nat.min_le_left _ _)
    have h2 : i < items2.size := Nat.lt_of_lt_of_le hm (Nat.min_le_right _ _)
    rw [List.drop_eq_getElem_cons hlt] at hz
    injection hz with hyx hrest
    have hy : y = items[i] := by have := congrArg Prod.fst hyx; simpa using this
    have hx : x = items2[i] := by have := congrArg Prod.snd hyx; simpa using this
    subst hy hx
    refine wpAny_bind (wpAny_mono (turn i h1 h2 s' hI) (fun r s2 q2 => ?_) fun _ _ x => x)
    cases r with
    | true =>
      have q2 : I (i + 1) s2 := q2
      wp_walk
      exact ⟨rfl, i + 1, hrest, hm, q2⟩
    | false =>
      have q2 : J s2 := q2
      have hR := out s2 q2
      wp_walk
      first | exact hR | exact ⟨_, rfl, by simpa using hR⟩
  case fin =>
    rintro ⟨b1, b2⟩ s' ⟨hb', i, hz, hi, hI⟩
    simp only at hb'
    subst hb'
    have hge : min items.size items2.size ≤ i := by
      rcases Nat.lt_or_ge i (items.toList.zip items2.toList).length with h' | h'
      · rw [List.drop_eq_getElem_cons h'] at hz; cases hz
      · exact hZ ▸ h'
    have hi' : i = min items.size items2.size := by omega
    have hR := fin s' (hi' ▸ hI)
    wp_walk
    simpa [Builtin.Tuple.tupleCompareSizes] using hR
  case h =>
    exact ⟨rfl, 0, rfl, Nat.zero_le _, h0⟩


/-- NotEq over lists: at each turn the two lists are read anew -/
theorem ne_loopT (l b : Addr) (N : Nat) (I : Nat → Shared → Prop) (J : Shared → Prop) (hl : ListT prog w A (fun e s' => R (.error e) s') l b N N I J)
    (fin : ∀ s, I N s → R (.ok (.ret (.bool false))) s) (out : ∀ s, J s → R (.ok (.ret (.bool true))) s) (k : Nat) :
    ∀ i : Nat, N - i = k → i ≤ N → ∀ s, I i s →
      wpAny (model prog w) A.in1 (Builtin.«list.__eq__.loop» ⟨[.ref l, .ref b, rawInt i, rawInt 3], []⟩) (GQ.FinOf prog w A R) (fun e s' => R (.error e) s') s := by
  induction k with
  | zero =>
    intro i hk hi s h
    obtain ⟨items, items2, n, n2, dd, dd2, sl, sl2, hl1, hb1, hs1, hs2, _⟩ := hl.1 _ _ h
    have hi' : i = N := by omega
    have hR : R (.ok (.ret (.bool false))) s := fin s (hi' ▸ h)
    obtain ⟨hp, g, d, tk, os⟩ := s
    wp_walk using wpAny_loadPart' hl1, wpAny_loadPart' hb1
    have hi1 : items[((i : Nat) : Int).toNat]? = none := by simp; omega
    have hi2 : items2[((i : Nat) : Int).toNat]? = none := by simp; omega
    rw [hi1, hi2]
    wp_walk using wpAny_loadPart' hl1, wpAny_loadPart' hb1
    show R (.ok (.ret (.bool (items.size != items2.size)))) _
    rw [hs1, hs2]
    simpa using hR
  | succ k ih =>
    intro i hk hi s h
    obtain ⟨items, items2, n, n2, dd, dd2, sl, sl2, hl1, hb1, hs1, hs2, turn⟩ := hl.1 _ _ h
    have hlt : i < items.size := by omega
    have hlt2 : i < items2.size := by omega
    have ht := turn hlt hlt2
    obtain ⟨hp, g, d, tk, os⟩ := s
    wp_walk using wpAny_loadPart' hl1, wpAny_loadPart' hb1
    have hi1 : items[((i : Nat) : Int).toNat]? = some items[i] := by simp [hlt]
    have hi2 : items2[((i : Nat) : Int).toNat]? = some items2[i] := by simp [hlt2]
    have hc : ((i : Int) + 1) = ((i + 1 : Nat) : Int) := by omega
    rw [hi1, hi2]
    refine wpAny_bind (wpAny_mono ht (fun r s2 h2 => ?_) fun _ _ x => x)
    cases r with
    | true =>
      have h2 : I (i + 1) s2 := h2
      have hrec := ih (i + 1) (by omega) (by omega) s2 h2
      obtain ⟨hp2, g2, d2, tk2, os2⟩ := s2
      wp_walk
      rw [hc]
      exact ⟨plainId_quiet plain_eq_loop _, codeAny_builtin entry_eq_loop (by
        rw [Around.under_plainId plain_eq_loop _]
        exact hrec)⟩
    | false =>
      have h2 : J s2 := h2
      have hR := out s2 h2
      obtain ⟨jt, jt2, m, m2, ed, ed2, tl, tl2, hl2, hb2, hz1, hz2⟩ := hl.2 s2 h2
      obtain ⟨hp2, g2, d2, tk2, os2⟩ := s2
      have hj1 : jt[((i : Nat) : Int).toNat]? = some (jt[i]'(by omega)) := by simp
      have hj2 : jt2[((i : Nat) : Int).toNat]? = some (jt2[i]'(by omega)) := by simp
      wp_walk using wpAny_loadPart' hl2, wpAny_loadPart' hb2
      rw [hj1, hj2]
      wp_walk
      simpa using hR
theorem list_neT (l b : Addr) (N N2 : Nat) (I : Nat → Shared → Prop) (J : Shared → Prop) (hl : ListT prog w A (fun e s' => R (.error e) s') l b N N2 I J)
    (fin : N = N2 → ∀ s, I N s → R (.ok (.ret (.bool false))) s) (out : ∀ s, J s → R (.ok (.ret (.bool true))) s) {s : Shared} (h : I 0 s) (off : N ≠ N2 → R (.ok (.ret (.bool true))) s) :
    wpAny (model prog w) A.in1 (Builtin.«list.__ne__» ⟨[.ref l, .ref b], []⟩) (GQ.FinOf prog w A R) (fun e s' => R (.error e) s') s := by
  obtain ⟨items, items2, n, n2, dd, dd2, sl, sl2, hl1, hb1, hs1, hs2, _⟩ := hl.1 _ _ h
  have f3 := AutoSeq1.sub_list_list
  by_cases e : N = N2
  · subst e
    have hrec := ne_loopT (A := A) (R := R) l b N I J hl (fin rfl) out _ 0 rfl (Nat.zero_le _) s h
    obtain ⟨hp, g, d, tk, os⟩ := s
    have hne : ¬ (items.size != items2.size) = true := by simp [hs1, hs2]
    wp_walk using wpAny_loadPart' hl1, wpAny_loadPart' hb1
    exact ⟨plainId_quiet plain_eq_loop _, codeAny_builtin entry_eq_loop (by
      rw [Around.under_plainId plain_eq_loop _]
      exact hrec)⟩
  · have hR := off e
    obtain ⟨hp, g, d, tk, os⟩ := s
    have hc0 : (items.size != items2.size) = true := by simp [hs1, hs2, e]
    wp_walk using wpAny_loadPart' hl1, wpAny_loadPart' hb1
    first | exact hR | exact ⟨_, rfl, hR⟩
theorem tuple_neT (l b : Addr) (items items2 : Array Value) (n n2 : Nat) (dd dd2 : Option Addr) (sl sl2 : Array (Option Value)) (I : Nat → Shared → Prop) (J : Shared → Prop)
    (turn : ∀ i (h1 : i < items.size) (h2 : i < items2.size) s, I i s → wpAny (model prog w) A.in1 (eqBool items[i] items2[i]) (fun r s' => if r = true then I (i + 1) s' else J s') (fun e s' => R (.error e) s') s)
    (fin : ∀ s, I (min items.size items2.size) s → R (.ok (.ret (.bool (items.size != items2.size)))) s) (out : ∀ s, J s → R (.ok (.ret (.bool true))) s) {s : Shared} (hl1 : s.heap.get? l = some { cls := .type "tuple", dict := dd, data := .seq items n, slots := sl }) (hb1 : s.heap.get? b = some { cls := .type "tuple", dict := dd2, data := .seq items2 n2, slots := sl2 }) (h : I 0 s) :
    wpAny (model prog w) A.in1 (Builtin.«tuple.__ne__» ⟨[.ref l, .ref b], []⟩) (GQ.FinOf prog w A R) (fun e s' => R (.error e) s') s := by
  have f2 := AutoSeq1.sub_tuple_tuple
  have hZ : (items.toList.zip items2.toList).length = min items.size items2.size := by simp
  have h0 := h
  obtain ⟨hp, g, d, tk, os⟩ := s
  wp_walk using wpAny_loadPart' hl1, wpAny_loadPart' hb1, wpAny_forIn_list _ (fun rest b s' => b.1 = none ∧ ∃ i, rest = (items.toList.zip items2.toList).drop i ∧ i ≤ min items.size items2.size ∧ I i s') _
  case turn =>
    rintro ⟨y, x⟩ rest b s' ⟨hb', i, hz, hi, hI⟩
    have hlt : i < (items.toList.zip items2.toList).length := by
      rcases Nat.lt_or_ge i (items.toList.zip items2.toList).length with h' | h'
      · exact h'
      · rw [List.drop_of_length_le h'] at hz; cases hz
    have hm : i < min items.size items2.size := hZ ▸ hlt
    have h1 : i < items.size := Nat.lt_of_lt_of_le hm (Nat.min_le_left _ _)
    have h2 : i < items2.size := Nat.lt_of_lt_of_le hm (Nat.min_le_right _ _)
    rw [List.drop_eq_getElem_cons hlt] at hz
    injection hz with hyx hrest
    have hy : y = items[i] := by have := congrArg Prod.fst hyx; simpa using this
    have hx : x = items2[i] := by have := congrArg Prod.snd hyx; simpa using this
    subst hy hx
    refine wpAny_bind (wpAny_mono (turn i h1 h2 s' hI) (fun r s2 q2 => ?_) fun _ _ x => x)
    cases r with
    | true =>
      have q2 : I (i + 1) s2 := q2
      wp_walk
      exact ⟨rfl, i + 1, hrest, hm, q2⟩
    | false =>
      have q2 : J s2 := q2
      have hR := out s2 q2
      wp_walk
      first | exact hR | exact ⟨_, rfl, by simpa using hR⟩
  case fin =>
    rintro ⟨b1, b2⟩ s' ⟨hb', i, hz, hi, hI⟩
    simp only at hb'
    subst hb'
    have hge : min items.size items2.size ≤ i := by
      rcases Nat.lt_or_ge i (items.toList.zip items2.toList).length with h' | h'
      · rw [List.drop_eq_getElem_cons h'] at hz; cases hz
      · exact hZ ▸ h'
    have hi' : i = min items.size items2.size := by omega
    have hR := fin s' (hi' ▸ hI)
    wp_walk
    simpa [Builtin.Tuple.tupleCompareSizes] using hR
  case h =>
    exact ⟨rfl, 0, rfl, Nat.zero_le _, h0⟩

end
section
variable {prog : Program} {w : World} {A : Around} {E : Value → Shared → Prop} {s : Shared}

theorem rc_list_eqT {l b : Addr} {N N2 : Nat} {Q : Value → Shared → Prop} (hu : A.units < cLine) (I : Nat → Shared → Prop) (J : Shared → Prop) (hl : ListT prog w A E l b N N2 I J)
    (fin : N = N2 → ∀ s, I N s → Q (.bool true) s) (out : ∀ s, J s → Q (.bool false) s) (h : I 0 s) (off : N ≠ N2 → Q (.bool false) s) : wpAny (model prog w) A (richCompare .Eq (.ref l) (.ref b)) Q E s := by
  obtain ⟨items, items2, n, n2, dd, dd2, sl, sl2, hl1, hb1, _, _, _⟩ := hl.1 _ _ h
  refine wpAny_richCompare_same_room (op := .Eq) ⟨_, hl1, rfl⟩ ⟨_, hb1, rfl⟩ F.slot_list_eq (GQ.call_here F.slot_list_eq ⟨_, hl1, rfl⟩ F.entry_list_eq (F.args_list_eq_2 _ _) ?_) hu
  exact list_eqT (R := wants (fun v s' => v ≠ .notImplemented ∧ Q v s') E) l b N N2 I J hl (fun e s' q => ⟨(fun x => nomatch x), fin e s' q⟩) (fun s' q => ⟨(fun x => nomatch x), out s' q⟩) h (fun e => ⟨(fun x => nomatch x), off e⟩)
theorem rc_tup_eqT {l b : Addr} {items items2 : Array Value} {Q : Value → Shared → Prop} (hu : A.units < cLine) (I : Nat → Shared → Prop) (J : Shared → Prop)
    (hl : s.heap.IsTuple l items) (hb : s.heap.IsTuple b items2)
    (turn : ∀ i (h1 : i < items.size) (h2 : i < items2.size) s, I i s → wpAny (model prog w) A.in1 (eqBool items[i] items2[i]) (fun r s' => if r = true then I (i + 1) s' else J s') E s)
    (fin : ∀ s, I (min items.size items2.size) s → Q (.bool (items.size == items2.size)) s) (out : ∀ s, J s → Q (.bool false) s) (h : I 0 s) : wpAny (model prog w) A (richCompare .Eq (.ref l) (.ref b)) Q E s := by
  obtain ⟨⟨cls, dd, data, sl⟩, ho, hc, n, hd⟩ := id hl
  obtain ⟨⟨cls2, dd2, data2, sl2⟩, ho2, hc2, n2, hd2⟩ := id hb
  simp only at hc hd hc2 hd2
  subst hc hd hc2 hd2
  refine wpAny_richCompare_same_room (op := .Eq) ⟨_, ho, rfl⟩ ⟨_, ho2, rfl⟩ F.slot_tuple_eq (GQ.call_here F.slot_tuple_eq ⟨_, ho, rfl⟩ F.entry_tuple_eq (F.args_tuple_eq_2 _ _) ?_) hu
  exact tuple_eqT (R := wants (fun v s' => v ≠ .notImplemented ∧ Q v s') E) l b items items2 n n2 dd dd2 sl sl2 I J turn (fun s' q => ⟨(fun x => nomatch x), fin s' q⟩) (fun s' q => ⟨(fun x => nomatch x), out s' q⟩) ho ho2 h


theorem rc_list_neT {l b : Addr} {N N2 : Nat} {Q : Value → Shared → Prop} (hu : A.units < cLine) (I : Nat → Shared → Prop) (J : Shared → Prop) (hl : ListT prog w A E l b N N2 I J)
    (fin : N = N2 → ∀ s, I N s → Q (.bool false) s) (out : ∀ s, J s → Q (.bool true) s) (h : I 0 s) (off : N ≠ N2 → Q (.bool true) s) : wpAny (model prog w) A (richCompare .NotEq (.ref l) (.ref b)) Q E s := by
  obtain ⟨items, items2, n, n2, dd, dd2, sl, sl2, hl1, hb1, _, _, _⟩ := hl.1 _ _ h
  refine wpAny_richCompare_same_room (op := .NotEq) ⟨_, hl1, rfl⟩ ⟨_, hb1, rfl⟩ F.slot_list_ne (GQ.call_here F.slot_list_ne ⟨_, hl1, rfl⟩ F.entry_list_ne (F.args_list_ne_2 _ _) ?_) hu
  exact list_neT (R := wants (fun v s' => v ≠ .notImplemented ∧ Q v s') E) l b N N2 I J hl (fun e s' q => ⟨(fun x => nomatch x), fin e s' q⟩) (fun s' q => ⟨(fun x => nomatch x), out s' q⟩) h (fun e => ⟨(fun x => nomatch x), off e⟩)
theorem rc_tup_neT {l b : Addr} {items items2 : Array Value} {Q : Value → Shared → Prop} (hu : A.units < cLine) (I : Nat → Shared → Prop) (J : Shared → Prop)
    (hl : s.heap.IsTuple l items) (hb : s.heap.IsTuple b items2)
    (turn : ∀ i (h1 : i < items.size) (h2 : i < items2.size) s, I i s → wpAny (model prog w) A.in1 (eqBool items[i] items2[i]) (fun r s' => if r = true then I (i + 1) s' else J s') E s)
    (fin : ∀ s, I (min items.size items2.size) s → Q (.bool (items.size != items2.size)) s) (out : ∀ s, J s → Q (.bool true) s) (h : I 0 s) : wpAny (model prog w) A (richCompare .NotEq (.ref l) (.ref b)) Q E s := by
  obtain ⟨⟨cls, dd, data, sl⟩, ho, hc, n, hd⟩ := id hl
  obtain ⟨⟨cls2, dd2, data2, sl2⟩, ho2, hc2, n2, hd2⟩ := id hb
  simp only at hc hd hc2 hd2
  subst hc hd hc2 hd2
  refine wpAny_richCompare_same_room (op := .NotEq) ⟨_, ho, rfl⟩ ⟨_, ho2, rfl⟩ F.slot_tuple_ne (GQ.call_here F.slot_tuple_ne ⟨_, ho, rfl⟩ F.entry_tuple_ne (F.args_tuple_ne_2 _ _) ?_) hu
  exact tuple_neT (R := wants (fun v s' => v ≠ .notImplemented ∧ Q v s') E) l b items items2 n n2 dd dd2 sl sl2 I J turn (fun s' q => ⟨(fun x => nomatch x), fin s' q⟩) (fun s' q => ⟨(fun x => nomatch x), out s' q⟩) ho ho2 h

end
end Gq

namespace Gq
open PySem PySem.W PySem.Calls PyProof.Rows
section
variable {prog : Program} {w : World} {A : Around} {E : Value → Shared → Prop} {s : Shared} {K : Frag} {x C L f : Addr} {h₀ : Heap} {m : Str → Option Value} {ox : Obj} {od : Option Obj} {name : Str} {b tb : Value}
theorem ifBound_B {M : Model} {id : String} {args : List Value} {Q : Option Value → Shared → Prop} (X : K.In s.heap) (I : InstAt s.heap x ox C od) (hs : findIn K (.ref C) name = some (some (.builtin id))) (hf : ∀ self, bindSpecial (.builtin id) self = pure (.builtin id, [self]))
    (h : wpAny M A (call (.builtin id) (.ref x :: args)) (fun v => Q (some v)) E s) : wpAny M A (callSpecialIfBound? (.ref x) name args) Q E s := by
  simp only [callSpecialIfBound?, bindSpecialIfBound?]
  refine wpAny_holding (wpAny_bind (wpAny_bind (wpAny_bind (I.type.here ((looks_findIn X hs).here ?_)))))
  simp only [hf]
  refine wpAny_bind (wpAny_askSetting (wpAny_ite ?_))
  have fin : wpAny M A (call (.builtin id) ([.ref x] ++ args) >>= fun v => pure (some v)) Q E s := wpAny_bind (wpAny_mono h (fun v s' h' => wpAny_pure h') fun _ _ h' => h')
  split
  · exact wpAny_bind (wpAny_pure (wpAny_pure fin))
  · exact wpAny_tryCatch (wpAny_bind (wpAny_pure (wpAny_pure fin)))
theorem objNe_K {Q : Fin → Shared → Prop} (X : K.In s.heap) (I : InstAt s.heap x ox C od) (he : findIn K (.ref C) "__eq__" = some (some (.ref f))) (hf : isFn K (.ref f) = true) (hu : A.units < cLine)
    (hcall : wpAny (model prog w) A (call (.ref f) [.ref x, b]) (fun v s' => ∃ r, v = .bool r ∧ Q (.done (.ret (.bool (!r)))) s') E s) :
    wpAny (model prog w) A (Builtin.«object.__ne__» ⟨[.ref x, b], []⟩) Q E s := by
  unfold Builtin.«object.__ne__»
  obtain ⟨hp, g, d, tk, os⟩ := s
  repeat (first
    | with_reducible refine wpAny_cRoomFor hu ?_
    | (refine wpAny_bind (m := callSpecialIfBound? (.ref x) (Str.ofString "__eq__") [b])
        (ifBound_K X I he hf (wpAny_mono hcall (fun r s' hr => by
          obtain ⟨b, rfl, hq⟩ := hr
          repeat (first | exact hq | exact wpAny_pure hq | exact wpAny_truthy_bool hq | (refine wpAny_bind (m := truthy (.bool _)) (wpAny_truthy_bool ?_)) | wp_step)) fun _ _ e => e)))
    | wp_step)
theorem check_K {M : Model} {id owner n : String} {rest : List Value} {Q : Unit → Shared → Prop} (X : K.In s.heap) (I : InstAt s.heap x ox C od) (hk : builtinKind id = some .slot) (hs : splitId id = some (owner, n))
    (ha : argsOk id ⟨.ref x :: rest, []⟩) (hm : mroIn K C (.type owner) = some true) (hq : Q () s) :
    wpAny M A (checkBuiltinCall id ⟨.ref x :: rest, []⟩) Q E s := by
  simp only [checkBuiltinCall, hk, hs]
  refine wpAny_bind ?_
  unfold isInstance
  refine wpAny_bind (I.type.here ((looks_mroIn X hm).here ?_))
  cases hsig : Manifest.signature? id with
  | none => exact wpAny_pure hq
  | some sig =>
    simp only [argsOk, hsig] at ha
    have h2 : Bind.checkArgs id sig ⟨.ref x :: rest, []⟩ = pure () := ha
    show wpAny M A (Bind.checkArgs id sig ⟨.ref x :: rest, []⟩) Q E _
    rw [h2]; exact wpAny_pure hq
theorem ne_K {Q : Value → Shared → Prop} (hu : A.units + 1 < cLine) (F0 : Fr h₀ L s.heap m) (X₀ : K.In h₀) (I : InstAt s.heap x ox C od) (hb : Looks (model prog w) s.heap (typeOf b) tb) (hn : notFirst K C tb = true)
    (hs : findIn K (.ref C) "__ne__" = some (some (.builtin "object.__ne__"))) (he : findIn K (.ref C) "__eq__" = some (some (.ref f))) (hf : isFn K (.ref f) = true) (hm : mroIn K C (.type "object") = some true)
    (h : wpAny (model prog w) A.in1 (call (.ref f) [.ref x, b]) (fun v s' => ∃ r, v = .bool r ∧ Q (.bool (!r)) s') E s) : wpAny (model prog w) A (richCompare .NotEq (.ref x) b) Q E s := by
  have X := X₀.keeps F0.keep
  have one : wpAny (model prog w) A (tryCompare (.ref x) (cmpInfo .NotEq).2.1 b) (fun r s' => ∃ v, r = some v ∧ Q v s') E s := by
    unfold tryCompare
    refine wpAny_bind (ifBound_B (id := "object.__ne__") X I hs PySem.F.slot_object_ne.bind (wpAny_call (codeAny_call_builtin PySem.F.slot_object_ne.plain F.cmpEntry_ne (check_K X I F.cmpKind_ne F.cmpSplit_ne (F.cmpArgs_ne _ _) hm
      (objNe_K (A := A.in1) X I he hf hu (wpAny_mono h (fun v s' hv => ?_) fun _ _ e => e))))))
    obtain ⟨r, rfl, hq⟩ := hv
    first | exact ⟨r, rfl, wpAny_pure ⟨_, rfl, hq⟩⟩ | exact ⟨r, rfl, ⟨_, rfl, hq⟩⟩
  unfold richCompare
  simp only [oneThing_ref]
  refine wpAny_holding (wpAny_bind (wpAny_cRoomFor (Nat.lt_of_succ_lt hu) ?_))
  refine wpAny_bind (I.type.here (wpAny_bind (hb.here ?_)))
  split
  · rename_i q
    have e : subIn K tb (.ref C) = some false := by
      rcases Bool.or_eq_true_iff.mp hn with e | e
      · rw [beq_iff_eq.mp e] at q; simp at q
      · exact beq_iff_eq.mp e
    refine wpAny_bind ((looks_subIn X e).here ?_)
    simp only [Bool.false_eq_true, if_false]
    refine wpAny_bind (wpAny_mono one (fun r s' z => ?_) fun _ _ e => e)
    obtain ⟨v, rfl, hq⟩ := z
    exact wpAny_pure hq
  · refine wpAny_bind (wpAny_pure ?_)
    simp only [Bool.false_eq_true, if_false]
    refine wpAny_bind (wpAny_mono one (fun r s' z => ?_) fun _ _ e => e)
    obtain ⟨v, rfl, hq⟩ := z
    exact wpAny_pure hq
end
end Gq

namespace Sx
open PySem PySem.Spec PyProof.Rows L2
/-! ### keywords -/
/-- a def called with n positions and the keywords ks -/
def FnKw (P : Program) (w : World) (K : PySem.W.Frag) (mg : Str → Option Value) (base : Heap) (k : Nat) (f : Addr) (n : Nat) (ks : List Str) (gV : List V → List V → List V) (sp : Sp) : Prop :=
  ∀ (A : Around) (outer : List Env) (s : Shared) (H : Hp) (us ws : List Value) (vs zs : List V) (Q : VK) (E : XK), Room k A → Env0 P w K mg base A outer s H → Vals vs us → Vals zs ws → vs.length = n → zs.length = ks.length → sp (gV vs zs) H Q E →
    codeAny (model P w) A (.call (.ref f) ⟨us, ks.zip ws⟩) (CR (L2.CX P w) outer P w H s Q E) s
theorem FnKw.of {P : Program} {w : World} {K : PySem.W.Frag} {mg : Str → Option Value} {base : Heap} {k n : Nat} {f : Addr} {fd : FuncData} {ps ks : List Str} {sp : Sp} {g : List Value → List Value → List Value} {gV : List V → List V → List V}
    (F : FnOk P w K mg base (L2.CX P w) k f fd ps sp) (hb : KBn K fd ps n ks g gV) : FnKw P w K mg base k f n ks gV sp := fun A outer s H us ws vs zs Q E hr e0 r rz l1 l2 h =>
  F.run A outer s H ⟨us, ks.zip ws⟩ (g us ws) (gV vs zs) Q E hr e0 (hb.to s us ws (e0.mod.kin.keeps fun a o q => (e0.bs a o q).1) (r.length.symm.trans l1) (rz.length.symm.trans l2)) (hb.rel r rz) h
theorem FnKw.frame {P : Program} {w : World} {K : PySem.W.Frag} {mg : Str → Option Value} {base : Heap} {k n : Nat} {ks : List Str} {gV : List V → List V → List V} {f : Addr} {sp : Sp} (R : FnKw P w K mg base k f n ks gV sp) : FnKw P w K mg base k f n ks gV (Fr sp) := by
  intro A outer s H us ws vs zs Q E hr e0 r rz l1 l2 h
  obtain ⟨G, F, rfl, fk, h⟩ := h
  have at_ : ∀ a o, F a = some o → ∃ u, s.heap.get? a = some u := fun a o q => by
    have z := e0.hok a o (join_f q)
    have fo := (fk a o q).2
    cases o with
    | lst xs => obtain ⟨z, its, n, r, e⟩ := z; exact ⟨_, e⟩
    | dK kvs => obtain ⟨z, y, vs, r, ob, es, ep, e, c⟩ := z; exact ⟨_, e⟩
    | xd fs => obtain ⟨mA, ⟨od, es, ep, e, c⟩, r⟩ := z; exact ⟨_, e⟩
    | ins C dx fs => obtain ⟨d, z, ne, e, mA, ⟨od, es, ep, e2, c⟩, r⟩ := z; exact ⟨_, e⟩
    | own y => exact z
    | _ => exact fo.elim
  have nf : ∀ a o, F a = some o → a ∉ frs outer := fun a o q hm => by
    have := e0.frf a hm
    rw [join_f q] at this
    cases this
  have e1 : Env0 P w K mg base A outer s G := ⟨e0.frames, e0.mod, fun b o q => ⟨(e0.bs b o q).1, (frame_none (Z := G) fk (e0.bs b o q).2).2⟩, e0.bsz, e0.funs, fun b hb => (frame_none (Z := G) fk (e0.frf b hb)).2, frame_hok fk e0.hok, e0.bare⟩
  refine codeAny_mono (R A outer s G us ws vs zs _ _ hr e1 r rz l1 l2 h) fun res s' hq => ?_
  cases res with
  | error e =>
    obtain ⟨a, B, G2, cls, d, rfl, fl, ok, ub, na, os, ag, q⟩ := hq
    have n2 : ∀ b o, F b = some o → G2 b = none := fun b o z => by
      obtain ⟨u, hu⟩ := at_ b o z
      exact ub.free b u hu (fk b o z).1
    have k2 : FrOk G2 F := fun b o z => ⟨n2 b o z, (fk b o z).2⟩
    have kp : ∀ b o, F b = some o → ∀ u, s.heap.get? b = some u → B.get? b = some u := fun b o z u hu => ub.keep b u hu (fk b o z).1 (nf b o z)
    refine ⟨a, B, join G2 F, cls, d, rfl, fl, frame_back fk n2 e0.hok ok kp, frame_ub fk k2 ub, ?_, os, ag, q k2⟩
    have fa : F a = none := by
      cases z : F a with
      | none => rfl
      | some o =>
        obtain ⟨u, hu⟩ := at_ a o z
        have := kp a o z u hu
        rw [fl.2.1] at this
        cases this
    rw [join_g fa]
    exact na
  | ok fl =>
    cases fl with
    | ret u =>
      obtain ⟨v, G2, os, ag, un, ok, rv, q⟩ := hq
      have n2 : ∀ b o, F b = some o → G2 b = none := fun b o z => by
        obtain ⟨u, hu⟩ := at_ b o z
        exact un.free b u hu (fk b o z).1 (by simp)
      have k2 : FrOk G2 F := fun b o z => ⟨n2 b o z, (fk b o z).2⟩
      have kp : ∀ b o, F b = some o → ∀ u, s.heap.get? b = some u → s'.heap.get? b = some u := fun b o z u hu => un.keep b u hu (fk b o z).1 (nf b o z) (by simp)
      exact ⟨v, join G2 F, os, ag, frame_un fk k2 un, frame_back fk n2 e0.hok ok kp, rv, q k2⟩
    | next => exact False.elim hq
    | brk => exact False.elim hq
    | cont => exact False.elim hq
section
variable {X : Cx} {k n : Nat} {f C : Addr} {ks : List Str} {sp : Sp} {W : WX} {x : Str} {p pos : Pos} {e : Expr} {es : List Expr} {kws : List Keyword} {t tk : TA} {gV : List V → List V → List V}
def tMakeKw (C : Addr) (n m : Nat) (sp : Sp) (gV : List V → List V → List V) (W : WX) (t tk : TA) : TE := fun σ H Q => t σ H fun vs H1 => tk σ H1 fun zs H2 => vs.length = n ∧ zs.length = m ∧ ∀ x dx, H2 x = none → H2 dx = none → dx ≠ x →
  sp (gV (.ref x :: vs) zs) (upd (upd H2 dx (.own x)) x (.ins C dx [])) (fun v H3 => v = .non ∧ Q (.ref x) H3) (WE W σ)
theorem run_makeKw {pins : List (Addr × Obj)} {σ : L2.St} {H : Hp} {s : Shared} {Q : VK} {us ws : List Value} {vs zs : List V} (M : Mk X.K C f) (F : FnKw X.prog X.w X.K X.mg X.base k f (n + 1) ks gV sp) (hr : Room (k + 1) X.A) (tk : Takes X W)
    (I : Inv X pins σ H s) (r : Vals vs us) (rz : Vals zs ws) (l1 : vs.length = n) (l2 : zs.length = ks.length)
    (h : ∀ x dx, H x = none → H dx = none → dx ≠ x → sp (gV (.ref x :: vs) zs) (upd (upd H dx (.own x)) x (.ins C dx [])) (fun v H2 => v = .non ∧ Q (.ref x) H2) (WE W σ)) :
    wpAny (model X.prog X.w) X.A (call (.ref C) us (ks.zip ws)) (EP X pins σ Q) X.xe s := by
  have hq := h (s.heap.objs.size + 1) s.heap.objs.size (I.hok.fresh (Nat.le_succ _)) (I.hok.fresh (Nat.le_refl _)) (Nat.ne_of_lt (Nat.lt_succ_self _))
  have I2 := Inv.made (C := C) I
  have r1 : Vals (V.ref (s.heap.objs.size + 1) :: vs) (Value.ref (s.heap.objs.size + 1) :: us) := .cons rfl r
  refine wpAny_call (make_map (f := f) I.kIn M.makes M.init (beq_iff_eq.mp M.fn) (codeAny_mono (F _ X.stack _ _ (Value.ref (s.heap.objs.size + 1) :: us) ws _ _ _ (WE W σ) (hr.make C us (ks.zip ws))
    (I2.env0.make C us (ks.zip ws)) r1 rz (by rw [List.length_cons, l1]) l2 hq) fun r s' hq' => ?_))
  cases r with
  | error e => exact passAt tk σ pins _ _ e s' I2 hq'
  | ok fl =>
    cases fl with
    | ret u =>
      obtain ⟨v, H', I3, rv, ev, q3⟩ := I2.after hq'
      subst ev
      exact ⟨rv, ⟨V.ref (s.heap.objs.size + 1), H', I3, rfl, q3⟩⟩
    | next => exact False.elim hq'
    | brk => exact False.elim hq'
    | cont => exact False.elim hq'
/-- C(k = v, ..) -/
theorem pe_mkKw0 (M : Mk X.K C f) (F : FnKw X.prog X.w X.K X.mg X.base k f 1 ks gV sp) (hr : Room (k + 1) X.A) (hg : Gl X x) (hm : X.mg x = some (.ref C)) (tk' : Takes X W) (hkw : PK X kws tk)
    (hall : (backToKw pos (keywordEach kws X.env)).all (·.1.isSome) = true := by rfl) (hks : (backToKw pos (keywordEach kws X.env)).filterMap (·.1) = ks := by rfl) (hdb : (x == ("__debug__" : Str)) = false := by decide)
    (hpl : ((backTo pos (starEach [] X.env)).any (·.1) || (backToKw pos (keywordEach kws X.env)).any (·.1.isNone)) = false := by rfl) :
    PE X (.Call (.Name x p) [] kws pos) (tMakeKw C 0 ks.length sp gV W tNil tk) := by
  refine ⟨fun pins s σ H Q I h => ?_⟩
  refine wpAny_Call_Name_kw (ld_glob I hg hm ?_ hdb)
  refine PySem.W.callWith_KW0 (h₀ := X.base) I.ok.mod.kin M.kp hall ?_ hpl
  refine thn (hkw.run pos pins s σ H _ I h) fun ws s2 ⟨zs, H2, I2, rz, l1, l2, q2⟩ => ⟨I2.kIn, ?_⟩
  rw [hks]
  exact run_makeKw (us := []) (vs := []) M F hr tk' I2 .nil rz rfl l2 q2
end
end Sx

namespace Mi
open PySem PySem.Spec PyProof.Rows L2
open Sx (Tn Fx btys unmix)
/-! ### data -/
inductive D where
  | non | bl (b : Bool) | int (i : Int) | str (x : Str) | tup (ds : List D) | lst (ds : List D) | ins (C : Str) (fs : List (Str × D)) | dic
instance : Inhabited D := ⟨.non⟩
abbrev D.tn : D → Tn
  | .non => .b "NoneType"
  | .bl _ => .b "bool"
  | .int _ => .b "int"
  | .str _ => .b "str"
  | .tup _ => .b "tuple"
  | .lst _ => .b "list"
  | .ins C _ => .c C
  | .dic => .b "dict"
structure ClsF (K : PySem.W.Frag) (l : List Str) (C : Str) : Prop where
  cl : Cls K (He.ga K C)
  ty : (Fx.tyi C).ok K = true
  sf : PySem.W.selfFirst K (He.ga K C) = true
  kb : ∀ n ∈ btys, PySem.W.kitOne K (.ref (He.ga K C)) (.type n) = some false
  bk : ∀ n ∈ btys, PySem.W.kitOne K (.type n) (.ref (He.ga K C)) = some false
  ko : ∀ c ∈ l, PySem.W.kitOne K (.ref (He.ga K C)) (.ref (He.ga K c)) = some (decide (C = c))
  nf : ∀ c ∈ l, PySem.W.notFirst K (He.ga K C) (.ref (He.ga K c)) = true
/-- the classes of the text -/
class Rows (K : PySem.W.Frag) where
  cls : List Str
  ok : ∀ C ∈ cls, ClsF K cls C
  exs : List Str
  xok : ∀ C ∈ exs, ∀ Y ∈ exs, PySem.W.exmOne K (.ref (He.ga K C)) (.ref (He.ga K Y)) = some (Sx.xsub C Y)
theorem rowsX_ok {K : PySem.W.Frag} {l : List Str} (c : (Fx.rowsX l).ok K = true) : ∀ C ∈ l, ∀ Y ∈ l, PySem.W.exmOne K (.ref (He.ga K C)) (.ref (He.ga K Y)) = some (Sx.xsub C Y) := fun C hC Y hY =>
  He.exm_ok (List.all_eq_true.mp (List.all_eq_true.mp c C hC) Y hY)
theorem rows_ok {K : PySem.W.Frag} {l : List Str} (c : (Fx.rows l).ok K = true) : ∀ C ∈ l, ClsF K l C := fun C hC => by
  have c := List.all_eq_true.mp c C hC
  obtain ⟨c1, c⟩ := He.ba c
  obtain ⟨c2, c⟩ := He.ba c
  obtain ⟨c3, c⟩ := He.ba c
  obtain ⟨c4, c5⟩ := He.ba c
  refine ⟨He.cls_ok c1, c2, c3, fun n hn => ?_, fun n hn => ?_, fun y hy => ?_, fun y hy => ?_⟩
  · exact of_decide_eq_true (He.ba (List.all_eq_true.mp c4 n hn)).1
  · exact of_decide_eq_true (He.ba (List.all_eq_true.mp c4 n hn)).2
  · exact of_decide_eq_true (He.ba (List.all_eq_true.mp c5 y hy)).1
  · exact (He.ba (List.all_eq_true.mp c5 y hy)).2
section
variable (K : PySem.W.Frag) [Rows K] (H : Hp)
mutual
/-- the value v is, in the heap H, the data d -/
inductive Is : V → D → Prop where
  | non : Is .non .non
  | bl (b : Bool) : Is (.bl b) (.bl b)
  | int (i : Int) : Is (.int i) (.int i)
  | str (x : Str) : Is (.str x) (.str x)
  | tup {a : Addr} {xs : List V} {ds : List D} (h : SqT K H a xs) (hs : IsL xs ds) : Is (.ref a) (.tup ds)
  | lst {a : Addr} {xs : List V} {ds : List D} (h : SqL K H a xs) (hs : IsL xs ds) : Is (.ref a) (.lst ds)
  | ins {a dx : Addr} {C : Str} {fs : List (Str × V)} {gs : List (Str × D)} (hc : C ∈ Rows.cls K) (hn : ∀ p ∈ gs, NoAttr K (He.ga K C) p.1) (h : H a = some (.ins (He.ga K C) dx fs)) (hs : IsF fs gs) : Is (.ref a) (.ins C gs)
  | dic {a : Addr} (h : H a = some (.dK [])) : Is (.ref a) .dic
inductive IsL : List V → List D → Prop where
  | nil : IsL [] []
  | cons {v : V} {d : D} {vs : List V} {ds : List D} (h : Is v d) (hs : IsL vs ds) : IsL (v :: vs) (d :: ds)
inductive IsF : List (Str × V) → List (Str × D) → Prop where
  | nil : IsF [] []
  | cons {f : Str} {v : V} {d : D} {fs : List (Str × V)} {gs : List (Str × D)} (h : Is v d) (hs : IsF fs gs) : IsF ((f, v) :: fs) ((f, d) :: gs)
end
end
section
variable {K : PySem.W.Frag} [Rows K] {H H' : Hp}
mutual
theorem Is.mono (e : Same H H') : ∀ {v : V} {d : D}, Is K H v d → Is K H' v d
  | _, _, .non => .non
  | _, _, .bl b => .bl b
  | _, _, .int i => .int i
  | _, _, .str x => .str x
  | _, _, .tup h hs => .tup (Sx.Same.seqT e h) (IsL.mono e hs)
  | _, _, .lst h hs => .lst (Same.seq e h) (IsL.mono e hs)
  | _, _, .ins hc hn h hs => .ins hc hn (e _ _ h) (IsF.mono e hs)
  | _, _, .dic h => .dic (e _ _ h)
theorem IsL.mono (e : Same H H') : ∀ {vs : List V} {ds : List D}, IsL K H vs ds → IsL K H' vs ds
  | _, _, .nil => .nil
  | _, _, .cons h hs => .cons (Is.mono e h) (IsL.mono e hs)
theorem IsF.mono (e : Same H H') : ∀ {fs : List (Str × V)} {gs : List (Str × D)}, IsF K H fs gs → IsF K H' fs gs
  | _, _, .nil => .nil
  | _, _, .cons h hs => .cons (Is.mono e h) (IsF.mono e hs)
end
theorem IsL.length : ∀ {vs : List V} {ds : List D}, IsL K H vs ds → vs.length = ds.length
  | _, _, .nil => rfl
  | _, _, .cons _ hs => congrArg Nat.succ hs.length
theorem IsF.length : ∀ {vs : List (Str × V)} {ds : List (Str × D)}, IsF K H vs ds → vs.length = ds.length
  | _, _, .nil => rfl
  | _, _, .cons _ hs => congrArg Nat.succ hs.length
theorem IsL.get : ∀ {vs : List V} {ds : List D} {i : Nat} {d : D}, IsL K H vs ds → ds[i]? = some d → ∃ v, vs[i]? = some v ∧ Is K H v d
  | _, _, _, _, .nil, e => by simp at e
  | _, _, 0, _, .cons h _, e => by simp at e; subst e; exact ⟨_, rfl, h⟩
  | _, _, i + 1, d, .cons _ hs, e => by
    obtain ⟨v, h1, h2⟩ := IsL.get (i := i) (d := d) hs (by simpa using e)
    exact ⟨v, by simpa using h1, h2⟩
theorem IsL.getV : ∀ {vs : List V} {ds : List D} {i : Nat} {v : V}, IsL K H vs ds → vs[i]? = some v → ∃ d, ds[i]? = some d ∧ Is K H v d
  | _, _, _, _, .nil, e => by simp at e
  | _, _, 0, _, .cons h _, e => by simp at e; subst e; exact ⟨_, rfl, h⟩
  | _, _, i + 1, v, .cons _ hs, e => by
    obtain ⟨d, h1, h2⟩ := IsL.getV (i := i) (v := v) hs (by simpa using e)
    exact ⟨d, by simpa using h1, h2⟩
theorem IsL.append : ∀ {vs ws : List V} {ds es : List D}, IsL K H vs ds → IsL K H ws es → IsL K H (vs ++ ws) (ds ++ es)
  | _, _, _, _, .nil, s => s
  | _, _, _, _, .cons h hs, s => .cons h (IsL.append hs s)
theorem IsL.snoc {vs : List V} {ds : List D} {v : V} {d : D} (hs : IsL K H vs ds) (h : Is K H v d) : IsL K H (vs ++ [v]) (ds ++ [d]) := hs.append (.cons h .nil)
theorem IsL.take : ∀ {vs : List V} {ds : List D} (n : Nat), IsL K H vs ds → IsL K H (vs.take n) (ds.take n)
  | _, _, 0, _ => .nil
  | _, _, _ + 1, .nil => .nil
  | _, _, n + 1, .cons h hs => .cons h (IsL.take n hs)
theorem IsL.drop : ∀ {vs : List V} {ds : List D} (n : Nat), IsL K H vs ds → IsL K H (vs.drop n) (ds.drop n)
  | _, _, 0, r => r
  | _, _, _ + 1, .nil => .nil
  | _, _, n + 1, .cons _ hs => IsL.drop n hs
theorem IsL.set {v : V} {d : D} (h : Is K H v d) : ∀ {vs : List V} {ds : List D} (n : Nat), IsL K H vs ds → IsL K H (vs.set n v) (ds.set n d)
  | _, _, _, .nil => .nil
  | _, _, 0, .cons _ hs => .cons h hs
  | _, _, n + 1, .cons q hs => .cons q (IsL.set h n hs)
theorem IsL.rev : ∀ {vs : List V} {ds : List D}, IsL K H vs ds → IsL K H vs.reverse ds.reverse
  | _, _, .nil => .nil
  | _, _, .cons h hs => by
    rw [List.reverse_cons, List.reverse_cons]
    exact (IsL.rev hs).append (.cons h .nil)
theorem IsL.ints : ∀ (ns : List Int), IsL K H (ns.map V.int) (ns.map D.int)
  | [] => .nil
  | n :: ns => .cons (.int n) (IsL.ints ns)
theorem IsF.look : ∀ {fs : List (Str × V)} {gs : List (Str × D)} {f : Str} {d : D}, IsF K H fs gs → gs.lookup f = some d → ∃ v, fs.lookup f = some v ∧ Is K H v d
  | _, _, _, _, .nil, e => by cases e
  | _, _, f, d, .cons (f := g) h hs, e => by
    by_cases q : f = g
    · subst q
      simp [List.lookup] at e ⊢
      subst e
      exact h
    · have q' : (f == g) = false := by simpa using q
      simp only [List.lookup, q'] at e ⊢
      exact IsF.look hs e
theorem IsF.none : ∀ {fs : List (Str × V)} {gs : List (Str × D)} {f : Str}, IsF K H fs gs → gs.lookup f = none → fs.lookup f = none
  | _, _, _, .nil, _ => rfl
  | _, _, f, .cons (f := g) h hs, e => by
    by_cases q : f = g
    · subst q
      simp [List.lookup] at e
    · have q' : (f == g) = false := by simpa using q
      simp only [List.lookup, q'] at e ⊢
      exact IsF.none hs e
/-- a field put -/
def putD (f : Str) (d : D) : List (Str × D) → List (Str × D)
  | [] => [(f, d)]
  | (g, e) :: r => if g = f then (g, d) :: r else (g, e) :: putD f d r
theorem Is.int_eq {v : V} {i : Int} (h : Is K H v (.int i)) : v = .int i := by cases h; rfl
theorem Is.str_eq {v : V} {i : Str} (h : Is K H v (.str i)) : v = .str i := by cases h; rfl
theorem Is.bl_eq {v : V} {i : Bool} (h : Is K H v (.bl i)) : v = .bl i := by cases h; rfl
theorem Is.non_eq {v : V} (h : Is K H v .non) : v = .non := by cases h; rfl
/-! ### kinds -/
def isub : Tn → Tn → Bool
  | .b n, .b m => n == m || (n == "bool" && m == "int")
  | .c x, .c y => decide (x = y)
  | _, _ => false
theorem kit_bb : ∀ n ∈ btys, ∀ m ∈ btys, kitB n m = some (isub (.b n) (.b m)) := by decide +kernel
/-- a class that may be asked for -/
def Tgt (K : PySem.W.Frag) [Rows K] : Tn → Prop
  | .b n => n ∈ btys
  | .c x => x ∈ Rows.cls K
theorem Is.kit {v : V} {d : D} {c : Tn} (h : Is K H v d) (t : Tgt K c) : PySem.W.kitOne K (d.tn.val K) (c.val K) = some (isub d.tn c) := by
  have bb : ∀ n ∈ btys, PySem.W.kitOne K (.type n) (c.val K) = some (isub (.b n) c) := fun n hn => by
    cases c with
    | b m => exact kit_ty (kit_bb n hn m t)
    | c x => exact (Rows.ok x t).bk n hn
  cases h with
  | non => exact bb _ (by decide)
  | bl b => exact bb _ (by decide)
  | int b => exact bb _ (by decide)
  | str b => exact bb _ (by decide)
  | tup _ _ => exact bb _ (by decide)
  | lst _ _ => exact bb _ (by decide)
  | dic _ => exact bb _ (by decide)
  | ins hc hn h hs =>
    cases c with
    | b m => exact (Rows.ok _ hc).kb m t
    | c x => exact (Rows.ok _ hc).ko x t
theorem Is.tyx {v : V} {d : D} (h : Is K H v d) : TyX K H v (d.tn.val K) := by
  cases h with
  | non => exact .base .non
  | bl b => exact .base (.bl b)
  | int i => exact .base (.int i)
  | str x => exact .base (.str x)
  | tup h hs =>
    rcases h with (h | ⟨o, h⟩) | ⟨o, its, n, h1, h2, _⟩
    · exact .base (.tup h)
    · exact .fTuple h
    · exact .kTuple h1 h2
  | lst h hs =>
    rcases h with (h | ⟨o, h⟩) | ⟨o, its, n, h1, h2, _⟩
    · exact .base (.lst h)
    · exact .base (.frz h)
    · exact .kList h1 h2
  | ins hc hn h hs =>
    have c := Rows.ok _ hc
    obtain ⟨h1, h2, h3, h4⟩ := Sx.tyi_ok c.ty
    exact .base (.ins h c.cl h1 h2 h3 h4)
  | dic h => exact .base (.dK h)
end
end Mi

namespace Mi
open PySem PySem.Spec PyProof.Rows L2
open Sx (Tn Fx btys FrOk Fr FO join join_f join_g)
/-! ### cells: objects that are owned -/
inductive Cell where
  | ls (ys : List V) | is (C : Str) (dx : Addr) (fs : List (Str × V))
abbrev Cells := List (Addr × Cell)
def put1 (K : PySem.W.Frag) (G : Hp) (p : Addr) : Cell → Hp
  | .ls ys => upd G p (.lst ys)
  | .is C dx fs => upd (upd G dx (.own p)) p (.ins (He.ga K C) dx fs)
def ad1 : Addr × Cell → List Addr
  | (p, .ls _) => [p]
  | (p, .is _ dx _) => [p, dx]
def upds (K : PySem.W.Frag) (G : Hp) : Cells → Hp
  | [] => G
  | (p, c) :: L => put1 K (upds K G L) p c
def ads (L : Cells) : List Addr := L.flatMap ad1
structure Frs (G : Hp) (L : Cells) : Prop where
  nd : (ads L).Nodup
  no : ∀ a ∈ ads L, G a = none
section
variable {K : PySem.W.Frag} {G G' H : Hp} {L L1 L2 : Cells} {p q a : Addr} {c : Cell} {o : HO}
theorem ads_cons : ads ((p, c) :: L) = ad1 (p, c) ++ ads L := rfl
theorem ads_app : ads (L1 ++ L2) = ads L1 ++ ads L2 := by unfold ads; rw [List.flatMap_append]
theorem put1_off (h : a ∉ ad1 (p, c)) : put1 K G p c a = G a := by
  cases c with
  | ls ys => exact upd_ne (by simpa [ad1] using h)
  | is C dx fs =>
    have h' : a ≠ p ∧ a ≠ dx := by simpa [ad1] using h
    simp only [put1]
    rw [upd_ne h'.1, upd_ne h'.2]
theorem put1_on (h : a ∈ ad1 (p, c)) : put1 K G p c a = put1 K G' p c a ∧ put1 K G p c a ≠ none := by
  cases c with
  | ls ys =>
    have : a = p := by simpa [ad1] using h
    subst this
    simp only [put1]
    rw [upd_same, upd_same]
    exact ⟨rfl, by simp⟩
  | is C dx fs =>
    have : a = p ∨ a = dx := by simpa [ad1] using h
    simp only [put1]
    by_cases e : a = p
    · subst e
      rw [upd_same, upd_same]
      exact ⟨rfl, by simp⟩
    · have e2 : a = dx := this.resolve_left e
      subst e2
      rw [upd_ne e, upd_ne e, upd_same, upd_same]
      exact ⟨rfl, by simp⟩
theorem upds_off : ∀ {L : Cells}, a ∉ ads L → upds K G L a = G a
  | [], _ => rfl
  | (p, c) :: L, h => by
    rw [ads_cons, List.mem_append] at h
    unfold upds
    rw [put1_off fun z => h (.inl z)]
    exact upds_off fun z => h (.inr z)
theorem upds_on : ∀ {L : Cells}, a ∈ ads L → upds K G L a = upds K G' L a ∧ upds K G L a ≠ none
  | [], h => by cases h
  | (p, c) :: L, h => by
    unfold upds
    by_cases z : a ∈ ad1 (p, c)
    · exact put1_on z
    · rw [put1_off z, put1_off z]
      rw [ads_cons, List.mem_append] at h
      exact upds_on (h.resolve_left z)
theorem upds_join (G : Hp) (L : Cells) : upds K G L = join G (upds K (fun _ => none) L) := by
  funext a
  by_cases h : a ∈ ads L
  · obtain ⟨e1, e2⟩ := upds_on (K := K) (G := G) (G' := fun _ => none) h
    rw [e1] at e2 ⊢
    cases e : upds K (fun _ => none) L a with
    | none => exact absurd e e2
    | some o => exact (join_f e).symm
  · rw [upds_off h, join_g (upds_off h)]
theorem upds_app : ∀ (L1 L2 : Cells), upds K G (L1 ++ L2) = upds K (upds K G L2) L1
  | [], _ => rfl
  | (p, c) :: L1, L2 => by
    show put1 K (upds K G (L1 ++ L2)) p c = put1 K (upds K (upds K G L2) L1) p c
    rw [upds_app]
theorem upds_ext {G G' : Hp} (h : ∀ a, a ∉ ads L → G a = G' a) : upds K G L = upds K G' L := by
  funext a
  by_cases z : a ∈ ads L
  · exact (upds_on z).1
  · rw [upds_off z, upds_off z, h a z]
theorem Frs.dis (h : Frs G (L1 ++ L2)) : ∀ a, a ∈ ads L1 → a ∈ ads L2 → False := fun a h1 h2 => by
  have nd := h.nd
  rw [ads_app] at nd
  exact (List.nodup_append.mp nd).2.2 a h1 a h2 rfl
/-- the order of cells does not matter -/
theorem upds_swap (h : Frs G (L1 ++ L2)) : upds K G (L1 ++ L2) = upds K G (L2 ++ L1) := by
  funext a
  rw [upds_app, upds_app]
  by_cases h1 : a ∈ ads L1
  · have h2 : a ∉ ads L2 := fun z => h.dis a h1 z
    rw [upds_off h2]
    exact (upds_on h1).1
  · rw [upds_off h1]
    by_cases h2 : a ∈ ads L2
    · exact (upds_on h2).1
    · rw [upds_off h2, upds_off h2, upds_off h1]
theorem Frs.swap (h : Frs G (L1 ++ L2)) : Frs G (L2 ++ L1) := by
  refine ⟨?_, fun a ha => h.no a ?_⟩
  · have nd := h.nd
    rw [ads_app] at nd ⊢
    exact (List.perm_append_comm.nodup_iff).mp nd
  · rw [ads_app, List.mem_append] at ha ⊢
    exact ha.symm
theorem Frs.right (h : Frs G (L1 ++ L2)) : Frs G L2 := by
  have nd := h.nd
  rw [ads_app] at nd
  exact ⟨(List.nodup_append.mp nd).2.1, fun a ha => h.no a (by rw [ads_app]; exact List.mem_append.mpr (.inr ha))⟩
/-- cells that go into the ground -/
theorem Frs.sink (h : Frs G (L1 ++ L2)) : Frs (upds K G L2) L1 := by
  have nd := h.nd
  rw [ads_app] at nd
  refine ⟨(List.nodup_append.mp nd).1, fun a ha => ?_⟩
  rw [upds_off fun z => h.dis a ha z]
  exact h.no a (by rw [ads_app]; exact List.mem_append.mpr (.inl ha))
theorem Frs.same (h : Frs G L) : Same G (upds K G L) := fun a o e => by
  have : a ∉ ads L := fun z => by rw [h.no a z] at e; cases e
  rw [upds_off this]
  exact e
/-- the middle one goes into the ground -/
theorem mid_eq {c : Cells} (h : Frs G (L1 ++ (c ++ L2))) : upds K G (L1 ++ (c ++ L2)) = upds K (upds K G c) (L1 ++ L2) ∧ Frs (upds K G c) (L1 ++ L2) := by
  have h2 : Frs G ((c ++ L2) ++ L1) := h.swap
  have h3 : Frs G (c ++ (L2 ++ L1)) := by rw [List.append_assoc] at h2; exact h2
  have h4 : Frs G ((L2 ++ L1) ++ c) := h3.swap
  have s1 : Frs (upds K G c) (L2 ++ L1) := h4.sink
  refine ⟨?_, s1.swap⟩
  rw [upds_swap h, List.append_assoc, upds_swap h3, upds_app, upds_swap s1]
/-- and back -/
theorem mid_frs {c : Cells} (hc : Frs G c) (h : Frs (upds K G c) (L1 ++ L2)) : Frs G (L1 ++ (c ++ L2)) := by
  have d : ∀ a, a ∈ ads (L1 ++ L2) → a ∉ ads c ∧ G a = none := fun a ha => by
    have z := h.no a ha
    have n : a ∉ ads c := fun q => (upds_on (K := K) (G := G) (G' := G) q).2 z
    rw [upds_off n] at z
    exact ⟨n, z⟩
  have nd := h.nd
  rw [ads_app] at nd
  obtain ⟨n1, n2, n3⟩ := List.nodup_append.mp nd
  have m1 : ∀ a, a ∈ ads L1 → a ∈ ads (L1 ++ L2) := fun a h => by rw [ads_app]; exact List.mem_append.mpr (.inl h)
  have m2 : ∀ a, a ∈ ads L2 → a ∈ ads (L1 ++ L2) := fun a h => by rw [ads_app]; exact List.mem_append.mpr (.inr h)
  refine ⟨?_, fun a ha => ?_⟩
  · rw [ads_app, ads_app]
    refine List.nodup_append.mpr ⟨n1, List.nodup_append.mpr ⟨hc.nd, n2, fun a h1 b h2 e => ?_⟩, fun a h1 b h2 e => ?_⟩
    · subst e; exact (d a (m2 a h2)).1 h1
    · subst e
      rcases List.mem_append.mp h2 with h2 | h2
      · exact (d a (m1 a h1)).1 h2
      · exact n3 a h1 a h2 rfl
  · rw [ads_app, ads_app, List.mem_append, List.mem_append] at ha
    rcases ha with ha | ha | ha
    · exact (d a (m1 a ha)).2
    · exact hc.no a ha
    · exact (d a (m2 a ha)).2
/-- what is free in the heap -/
theorem free_of (n : upds K G L p = none) : G p = none ∧ p ∉ ads L := by
  have z : p ∉ ads L := fun q => (upds_on (K := K) (G := G) (G' := G) q).2 n
  rw [upds_off z] at n
  exact ⟨n, z⟩
theorem upds_new (n : p ∉ ads L) : upd (upds K G L) p o = upds K (upd G p o) L := by
  funext a
  by_cases e : a = p
  · subst e
    rw [upd_same, upds_off n, upd_same]
  · rw [upd_ne e]
    by_cases z : a ∈ ads L
    · exact (upds_on z).1
    · rw [upds_off z, upds_off z, upd_ne e]
theorem Frs.new (h : Frs G L) (n : p ∉ ads L) : Frs (upd G p o) L := ⟨h.nd, fun a ha => by
  rw [upd_ne fun (e : a = p) => n (e ▸ ha)]
  exact h.no a ha⟩
theorem Frs.ls (h : Frs G L) (n1 : G p = none) (n2 : p ∉ ads L) {ys : List V} : Frs G ((p, .ls ys) :: L) :=
  ⟨List.nodup_cons.mpr ⟨n2, h.nd⟩, fun a ha => by
    rcases List.mem_cons.mp ha with e | e
    · rw [e]; exact n1
    · exact h.no a e⟩
theorem frs_nil : Frs G [] := ⟨List.nodup_nil, fun _ z => by cases z⟩
/-! ### frames -/
theorem fo_cells : ∀ {L : Cells}, Frs (fun _ => none) L → ∀ a o, upds K (fun _ => none) L a = some o → FO (upds K (fun _ => none) L) a o := by
  intro L h
  -- each object of the frame is a list, an instance with its dict, or a dict's mark
  have key : ∀ (L' : Cells), (∀ x ∈ L', x ∈ L) → ∀ a o, upds K (fun _ => none) L' a = some o → FO (upds K (fun _ => none) L) a o := by
    intro L'
    induction L' with
    | nil => intro _ a o e; cases e
    | cons x L' ih =>
      obtain ⟨p, c⟩ := x
      intro hm a o e
      by_cases z : a ∈ ad1 (p, c)
      · have hx := hm (p, c) List.mem_cons_self
        obtain ⟨A1, A2, rfl⟩ := List.append_of_mem hx
        have at_ : ∀ b, b ∈ ad1 (p, c) → upds K (fun _ => none) (A1 ++ (p, c) :: A2) b = put1 K (fun _ => none) p c b := fun b hb => by
          rw [upds_app, upds_off fun q => (Frs.dis h b q (by rw [ads_cons]; exact List.mem_append.mpr (.inl hb)))]
          exact (put1_on hb).1
        unfold upds at e
        rw [(put1_on (G' := fun _ => none) z).1] at e
        cases c with
        | ls ys =>
          have : a = p := by simpa [ad1] using z
          subst this
          simp only [put1] at e
          rw [upd_same] at e
          cases e
          trivial
        | is C dx fs =>
          have ne : p ≠ dx := by
            have nd := h.nd
            rw [ads_app, ads_cons] at nd
            have := (List.nodup_append.mp (List.nodup_append.mp nd).2.1).1
            intro q
            rw [q] at this
            simp [ad1] at this
          simp only [put1] at e
          by_cases q : a = p
          · subst q
            rw [upd_same] at e
            cases e
            show upds K (fun _ => none) (A1 ++ (a, .is C dx fs) :: A2) dx = some (.own a)
            rw [at_ dx (by simp [ad1])]
            simp only [put1]
            rw [upd_ne (Ne.symm ne), upd_same]
          · have q2 : a = dx := by
              have : a = p ∨ a = dx := by simpa [ad1] using z
              exact this.resolve_left q
            subst q2
            rw [upd_ne q, upd_same] at e
            cases e
            refine ⟨.ins (He.ga K C) a fs, ?_⟩
            rw [at_ p (by simp [ad1])]
            simp only [put1]
            rw [upd_same]
      · unfold upds at e
        rw [put1_off z] at e
        exact ih (fun x hx => hm x (List.mem_cons_of_mem _ hx)) a o e
  exact key L fun x hx => hx
theorem frok_cells (nd : (ads L).Nodup) : FrOk G (upds K (fun _ => none) L) ↔ Frs G L := by
  constructor
  · intro h
    refine ⟨nd, fun a ha => ?_⟩
    have z := (upds_on (K := K) (G := fun _ => none) (G' := fun _ => none) ha).2
    cases e : upds K (fun _ => none) L a with
    | none => exact absurd e z
    | some o => exact (h a o e).1
  · intro h a o e
    have ha : a ∈ ads L := by
      refine Classical.byContradiction fun n => ?_
      rw [upds_off n] at e
      cases e
    exact ⟨h.no a ha, fo_cells ⟨nd, fun _ _ => rfl⟩ a o e⟩
theorem fr_cells {sp : Sp} {vs : List V} {Q : VK} {E : XK} (h : Frs G L) (k : sp vs G (fun v G2 => Frs G2 L → Q v (upds K G2 L)) (fun c d G2 => Frs G2 L → E c d (upds K G2 L))) : Fr sp vs (upds K G L) Q E := by
  refine ⟨G, upds K (fun _ => none) L, upds_join G L, (frok_cells h.nd).mpr h, ?_⟩
  have e1 : (fun v G2 => FrOk G2 (upds K (fun _ => none) L) → Q v (join G2 (upds K (fun _ => none) L))) = fun v G2 => Frs G2 L → Q v (upds K G2 L) := by
    funext v G2; rw [frok_cells h.nd, ← upds_join]
  have e2 : (fun c d G2 => FrOk G2 (upds K (fun _ => none) L) → E c d (join G2 (upds K (fun _ => none) L))) = fun c d G2 => Frs G2 L → E c d (upds K G2 L) := by
    funext c d G2; rw [frok_cells h.nd, ← upds_join]
  rw [e1, e2]
  exact k
end
/-! ### slots -/
/-- a list or an instance by reference; the exception of a suite, its dict -/
structure Anc where
  a : Addr
  b : Addr
  od : Option Addr
  c : Str
inductive Sl where
  | un | pl (d : D) | ow (ds : List D) | rf (ds : List D) | se (C : Str) (gs : List (Str × D)) | exn (C : Str) (x : Option (Str × D))
abbrev Env := List Sl
section
variable (K : PySem.W.Frag) [Rows K]
def XF (G : Hp) : Option (Str × D) → Option Addr → Prop
  | none, od => od = none
  | some (f, d), od => ∃ a v, od = some a ∧ G a = some (.xd [(f, v)]) ∧ Is K G v d
def XIs (G : Hp) (C : Str) (x : Option (Str × D)) (od : Option Addr) : Prop := C ∈ Rows.exs K ∧ XF K G x od
variable (G : Hp) (A : Anc)
inductive SlR : Option V → Sl → Cells → Prop where
  | un : SlR none .un []
  | pl {v : V} {d : D} (h : Is K G v d) : SlR (some v) (.pl d) []
  | ow {p : Addr} {ys : List V} {ds : List D} (h : IsL K G ys ds) : SlR (some (.ref p)) (.ow ds) [(p, .ls ys)]
  | rf {ys : List V} {ds : List D} (h : IsL K G ys ds) : SlR (some (.ref A.a)) (.rf ds) [(A.a, .ls ys)]
  | se {C : Str} {dx : Addr} {fs : List (Str × V)} {gs : List (Str × D)} (hc : C ∈ Rows.cls K) (hn : ∀ p ∈ gs, NoAttr K (He.ga K C) p.1) (h : IsF K G fs gs) : SlR (some (.ref A.a)) (.se C gs) [(A.a, .is C dx fs)]
  | exn {x : Option (Str × D)} (h : XIs K G A.c x A.od) : SlR (some (.ref A.b)) (.exn A.c x) []
/-- X: further cells -/
inductive Rl (X : Cells) : L2.St → Env → Cells → Prop where
  | nil : Rl X [] [] X
  | cons {v : Option V} {s : Sl} {c L : Cells} {σ : L2.St} {ρ : Env} (h : SlR K G A v s c) (hs : Rl X σ ρ L) : Rl X (v :: σ) (s :: ρ) (c ++ L)
structure Good (X : Cells) (σ : L2.St) (ρ : Env) (L : Cells) : Prop where
  rl : Rl K G A X σ ρ L
  fr : Frs G L
end
section
variable {K : PySem.W.Frag} [Rows K] {G G' : Hp} {A : Anc} {X L : Cells} {σ : L2.St} {ρ : Env}
theorem XIs.mono {C : Str} {x : Option (Str × D)} {od : Option Addr} (e : Same G G') (h : XIs K G C x od) : XIs K G' C x od := by
  refine ⟨h.1, ?_⟩
  match x, h.2 with
  | none, h => exact h
  | some (f, d), ⟨a, v, h1, h2, h3⟩ => exact ⟨a, v, h1, e _ _ h2, h3.mono e⟩
theorem SlR.mono {v : Option V} {s : Sl} {c : Cells} (e : Same G G') (h : SlR K G A v s c) : SlR K G' A v s c := by
  cases h with
  | un => exact .un
  | pl h => exact .pl (h.mono e)
  | ow h => exact .ow (h.mono e)
  | rf h => exact .rf (h.mono e)
  | se hc hn h => exact .se hc hn (h.mono e)
  | exn h => exact .exn (h.mono e)
theorem Rl.mono (e : Same G G') : ∀ {σ : L2.St} {ρ : Env} {L : Cells}, Rl K G A X σ ρ L → Rl K G' A X σ ρ L
  | _, _, _, .nil => .nil
  | _, _, _, .cons h hs => .cons (h.mono e) (Rl.mono e hs)
theorem Good.mono (h : Good K G A X σ ρ L) (e : Same G G') (f : Frs G' L) : Good K G' A X σ ρ L := ⟨h.rl.mono e, f⟩
theorem Rl.focus : ∀ {σ : L2.St} {ρ : Env} {L : Cells} {i : Nat} {s : Sl}, Rl K G A X σ ρ L → ρ[i]? = some s → ∃ v c L1 L2, σ[i]? = some v ∧ SlR K G A v s c ∧ L = L1 ++ (c ++ L2) ∧
    ∀ G' v' s' c', Same G G' → SlR K G' A v' s' c' → Rl K G' A X (σ.set i v') (ρ.set i s') (L1 ++ (c' ++ L2))
  | _, _, _, _, _, .nil, e => by simp at e
  | _, _, _, 0, s, .cons (c := c) (L := L) h hs, e => by
    simp at e
    subst e
    exact ⟨_, c, [], L, rfl, h, rfl, fun G' v' s' c' e h' => Rl.cons (c := c') (L := L) h' (hs.mono e)⟩
  | _, _, _, i + 1, s, .cons (v := v0) (s := s0) (c := c0) h hs, e => by
    obtain ⟨v, c, L1, L2, e1, h1, rfl, k⟩ := Rl.focus (i := i) (s := s) hs (by simpa using e)
    refine ⟨v, c, c0 ++ L1, L2, by simpa using e1, h1, by rw [List.append_assoc], fun G' v' s' c' e h' => ?_⟩
    rw [List.append_assoc]
    exact .cons (h.mono e) (k G' v' s' c' e h')
theorem Rl.len : ∀ {σ : L2.St} {ρ : Env} {L : Cells}, Rl K G A X σ ρ L → σ.length = ρ.length
  | _, _, _, .nil => rfl
  | _, _, _, .cons h hs => congrArg Nat.succ hs.len
/-- plain data in a slot -/
theorem Good.get {i : Nat} {d : D} (h : Good K G A X σ ρ L) (e : ρ[i]? = some (.pl d)) : ∃ v, σ[i]? = some (some v) ∧ Is K G v d := by
  obtain ⟨v, c, L1, L2, e1, s, _, _⟩ := h.rl.focus e
  cases s with
  | pl q => exact ⟨_, e1, q⟩
def loose : Sl → Bool
  | .un | .pl _ | .ow _ => true
  | _ => false
/-- a slot gets plain data -/
theorem Good.asg {i : Nat} {s : Sl} {v : V} {d : D} (h : Good K G A X σ ρ L) (e : ρ[i]? = some s) (hl : loose s = true) (hv : Is K G v d) :
    ∃ G' L', Same G G' ∧ upds K G L = upds K G' L' ∧ Good K G' A X (σ.set i (some v)) (ρ.set i (.pl d)) L' := by
  obtain ⟨v0, c, L1, L2, e1, s, rfl, k⟩ := h.rl.focus e
  obtain ⟨q1, q2⟩ := mid_eq (K := K) h.fr
  have sm : Same G (upds K G c) := by
    have := (h.fr.swap)
    rw [List.append_assoc] at this
    exact (this.swap.right).same
  exact ⟨upds K G c, L1 ++ L2, sm, q1, ⟨k _ _ _ [] sm (.pl (hv.mono sm)), q2⟩⟩
/-- a slot gets a new list -/
theorem Good.asgN {i : Nat} {s : Sl} {p : Addr} {ys : List V} {ds : List D} (h : Good K G A X σ ρ L) (e : ρ[i]? = some s) (hl : loose s = true) (n1 : G p = none) (n2 : p ∉ ads L) (hv : IsL K G ys ds) :
    ∃ G' L', Same G G' ∧ upd (upds K G L) p (.lst ys) = upds K G' L' ∧ Good K G' A X (σ.set i (some (.ref p))) (ρ.set i (.ow ds)) L' := by
  obtain ⟨v0, c, L1, L2, e1, s, rfl, k⟩ := h.rl.focus e
  obtain ⟨q1, q2⟩ := mid_eq (K := K) h.fr
  have sm : Same G (upds K G c) := by
    have := (h.fr.swap)
    rw [List.append_assoc] at this
    exact (this.swap.right).same
  have n3 : p ∉ ads c := fun z => n2 (by rw [ads_app, ads_app]; simp [z])
  have n4 : p ∉ ads (L1 ++ L2) := fun z => n2 (by
    rw [ads_app, ads_app]
    rw [ads_app] at z
    rcases List.mem_append.mp z with z | z <;> simp [z])
  have g0 : upds K G c p = none := by rw [upds_off n3]; exact n1
  have f1 : Frs (upds K G c) [(p, .ls ys)] := Frs.ls (frs_nil (G := _)) g0 (fun z => by cases z)
  have f2 : Frs (upds K (upds K G c) [(p, .ls ys)]) (L1 ++ L2) := q2.new n4
  have f3 := mid_frs f1 f2
  refine ⟨upds K G c, L1 ++ ([(p, .ls ys)] ++ L2), sm, ?_, ⟨k _ _ _ _ sm (.ow (hv.mono sm)), f3⟩⟩
  rw [q1, (mid_eq f3).1, upds_new n4]
  rfl
/-- an owned list is read as a value -/
theorem Good.frz {i : Nat} {ds : List D} (h : Good K G A X σ ρ L) (e : ρ[i]? = some (.ow ds)) :
    ∃ v G' L', σ[i]? = some (some v) ∧ Same G G' ∧ upds K G L = upds K G' L' ∧ Is K G' v (.lst ds) ∧ Good K G' A X σ (ρ.set i (.pl (.lst ds))) L' := by
  obtain ⟨v0, c, L1, L2, e1, s, rfl, k⟩ := h.rl.focus e
  obtain ⟨q1, q2⟩ := mid_eq (K := K) h.fr
  cases s with
  | @ow p ys _ hy =>
    have sm : Same G (upds K G [(p, .ls ys)]) := by
      have := (h.fr.swap)
      rw [List.append_assoc] at this
      exact (this.swap.right).same
    have hi : Is K (upds K G [(p, .ls ys)]) (.ref p) (.lst ds) := .lst (SqL.of (by simp only [upds, put1]; exact upd_same)) (hy.mono sm)
    have r := k _ _ _ [] sm (.pl hi)
    have es : σ.set i (some (.ref p)) = σ := by
      apply List.ext_getElem? 
      intro j
      by_cases q : j = i
      · subst q
        have hl : j < σ.length := (List.getElem?_eq_some_iff.mp e1).1
        rw [List.getElem?_set_self hl, e1]
      · rw [List.getElem?_set_ne (Ne.symm q)]
    rw [es] at r
    exact ⟨_, _, _, e1, sm, q1, hi, ⟨r, q2⟩⟩
/-- an owned list is looked at -/
theorem Good.peek {i : Nat} {ds : List D} {s : Sl} (h : Good K G A X σ ρ L) (e : ρ[i]? = some s) (hs : s = .ow ds ∨ s = .rf ds) :
    ∃ p ys, σ[i]? = some (some (.ref p)) ∧ IsL K G ys ds ∧ upds K G L p = some (.lst ys) ∧
      ∀ G' ys' ds', Same G G' → Frs G' L → IsL K G' ys' ds' → ∃ L', upd (upds K G' L) p (.lst ys') = upds K G' L' ∧ Good K G' A X σ (ρ.set i (match s with | .rf _ => .rf ds' | _ => .ow ds')) L' := by
  obtain ⟨v0, c, L1, L2, e1, s1, rfl, k⟩ := h.rl.focus e
  have main : ∀ p ys, c = [(p, .ls ys)] → v0 = some (.ref p) → IsL K G ys ds → (∀ G' ys' ds', Same G G' → IsL K G' ys' ds' → Rl K G' A X (σ.set i (some (.ref p))) (ρ.set i (match s with | .rf _ => .rf ds' | _ => .ow ds')) (L1 ++ ([(p, .ls ys')] ++ L2))) → 
      ∃ p ys, σ[i]? = some (some (.ref p)) ∧ IsL K G ys ds ∧ upds K G (L1 ++ (c ++ L2)) p = some (.lst ys) ∧
      ∀ G' ys' ds', Same G G' → Frs G' (L1 ++ (c ++ L2)) → IsL K G' ys' ds' → ∃ L', upd (upds K G' (L1 ++ (c ++ L2))) p (.lst ys') = upds K G' L' ∧ Good K G' A X σ (ρ.set i (match s with | .rf _ => .rf ds' | _ => .ow ds')) L' := by
    rintro p ys rfl rfl hy kk
    have es : σ.set i (some (.ref p)) = σ := by
      apply List.ext_getElem? 
      intro j
      by_cases q : j = i
      · subst q
        have hl : j < σ.length := (List.getElem?_eq_some_iff.mp e1).1
        rw [List.getElem?_set_self hl, e1]
      · rw [List.getElem?_set_ne (Ne.symm q)]
    refine ⟨p, ys, e1, hy, ?_, fun G' ys' ds' sm fr hy' => ?_⟩
    · obtain ⟨q1, q2⟩ := mid_eq (K := K) h.fr
      rw [q1]
      exact q2.same p _ (by simp only [upds, put1]; exact upd_same)
    · have r := kk G' ys' ds' sm hy'
      rw [es] at r
      obtain ⟨q1, q2⟩ := mid_eq (K := K) fr
      have gp : G' p = none := fr.no p (by rw [ads_app, ads_app]; simp [ads, ad1])
      have np : p ∉ ads (L1 ++ L2) := fun z => by
        have := q2.no p z
        simp only [upds, put1] at this
        rw [upd_same] at this
        cases this
      have f1 : Frs G' [(p, .ls ys')] := Frs.ls (frs_nil (G := _)) gp (fun z => by cases z)
      have f2 : Frs (upds K G' [(p, .ls ys')]) (L1 ++ L2) := ⟨q2.nd, fun a ha => by
        have ne : a ≠ p := fun z => np (z ▸ ha)
        have := q2.no a ha
        simp only [upds, put1] at this ⊢
        rw [upd_ne ne] at this ⊢
        exact this⟩
      have f3 := mid_frs f1 f2
      refine ⟨_, ?_, ⟨r, f3⟩⟩
      rw [q1, (mid_eq f3).1, upds_new np]
      simp only [upds, put1]
      show upds K (upd (upd G' p _) p _) _ = _
      rw [Sx.upd_upd]
  rcases hs with rfl | rfl
  · cases s1 with
    | ow hy => exact main _ _ rfl rfl hy fun G' ys' ds' sm h' => k G' _ _ _ sm (.ow h')
  · cases s1 with
    | rf hy => exact main _ _ rfl rfl hy fun G' ys' ds' sm h' => k G' _ _ _ sm (.rf h')
theorem Good.peekS {i : Nat} {C : Str} {gs : List (Str × D)} (h : Good K G A X σ ρ L) (e : ρ[i]? = some (.se C gs)) :
    ∃ dx fs, σ[i]? = some (some (.ref A.a)) ∧ C ∈ Rows.cls K ∧ (∀ p ∈ gs, NoAttr K (He.ga K C) p.1) ∧ IsF K G fs gs ∧ upds K G L A.a = some (.ins (He.ga K C) dx fs) ∧
      ∀ G' fs' gs', Same G G' → Frs G' L → IsF K G' fs' gs' → (∀ p ∈ gs', NoAttr K (He.ga K C) p.1) → ∃ L', upd (upds K G' L) A.a (.ins (He.ga K C) dx fs') = upds K G' L' ∧ Good K G' A X σ (ρ.set i (.se C gs')) L' := by
  obtain ⟨v0, c, L1, L2, e1, s1, rfl, k⟩ := h.rl.focus e
  cases s1 with
  | @se _ dx fs _ hc hn hy =>
    have es : σ.set i (some (.ref A.a)) = σ := by
      apply List.ext_getElem? 
      intro j
      by_cases q : j = i
      · subst q
        have hl : j < σ.length := (List.getElem?_eq_some_iff.mp e1).1
        rw [List.getElem?_set_self hl, e1]
      · rw [List.getElem?_set_ne (Ne.symm q)]
    refine ⟨dx, fs, e1, hc, hn, hy, ?_, fun G' fs' gs' sm fr hy' hn' => ?_⟩
    · obtain ⟨q1, q2⟩ := mid_eq (K := K) h.fr
      rw [q1]
      exact q2.same A.a _ (by simp only [upds, put1]; exact upd_same)
    · have r := k G' _ _ _ sm (.se (dx := dx) hc hn' hy')
      rw [es] at r
      obtain ⟨q1, q2⟩ := mid_eq (K := K) fr
      have fc : Frs G' [(A.a, .is C dx fs)] := by
        have := fr.swap
        rw [List.append_assoc] at this
        have := this.swap.right
        exact this
      have f1 : Frs G' [(A.a, .is C dx fs')] := ⟨fc.nd, fc.no⟩
      have f2 : Frs (upds K G' [(A.a, .is C dx fs')]) (L1 ++ L2) := ⟨q2.nd, fun a ha => by
        have z := q2.no a ha
        have n : a ∉ ads [(A.a, Cell.is C dx fs)] := fun w => (upds_on (K := K) (G := G') (G' := G') w).2 z
        rw [upds_off n] at z
        rw [upds_off (show a ∉ ads [(A.a, Cell.is C dx fs')] from n)]
        exact z⟩
      have f3 := mid_frs f1 f2
      have np : A.a ∉ ads (L1 ++ L2) := fun z => by
        have := q2.no A.a z
        simp only [upds, put1] at this
        rw [upd_same] at this
        cases this
      refine ⟨_, ?_, ⟨r, f3⟩⟩
      rw [q1, (mid_eq f3).1, upds_new np]
      congr 1
      simp only [upds, put1]
      rw [Sx.upd_upd]
end
end Mi

namespace Mi
open PySem PySem.Spec PyProof.Rows L2
open Sx (Tn Fx btys tCallW tMethW tMakeW)
/-! ### mirrors: a state monad over the slots -/
inductive Out (α : Type) where
  | ok (a : α) (ρ : Env) | ex (C : Str) (x : Option (Str × D)) (ρ : Env) | bad
abbrev M (α : Type) := Env → Out α
inductive Re (α : Type) where
  | ok (a : α) | ex (C : Str) (x : Option (Str × D)) | bad
def ret {α : Type} (a : α) (ρ : Env) : Out α := .ok a ρ
def bnd {α β : Type} (m : M α) (f : α → M β) (ρ : Env) : Out β := match m ρ with
  | .ok a ρ' => f a ρ'
  | .ex C x ρ' => .ex C x ρ'
  | .bad => .bad
def lift {α : Type} (r : Re α) (ρ : Env) : Out α := match r with
  | .ok a => .ok a ρ
  | .ex C x => .ex C x ρ
  | .bad => .bad
def fail {α : Type} (_ : Env) : Out α := .bad
/-- by a truth value -/
def ib {α : Type} : Bool → α → α → α
  | true, x, _ => x
  | false, _, y => y
theorem ib_pos {α : Type} {b : Bool} {x y : α} (h : b = true) : ib b x y = x := by rw [h] <;> rfl
theorem ib_neg {α : Type} {b : Bool} {x y : α} (h : ¬ b = true) : ib b x y = y := by
  cases b with
  | true => exact absurd rfl h
  | false => rfl
theorem ib_t {α : Type} (x y : α) : ib true x y = x := rfl
theorem ib_f {α : Type} (x y : α) : ib false x y = y := rfl
/-- a truth value that no proof unfolds -/
theorem hd_ex (P : Prop) : ∃ b : Bool, b = true ↔ P := by
  by_cases h : P
  · exact ⟨true, ⟨fun _ => h, fun _ => rfl⟩⟩
  · exact ⟨false, ⟨fun z => (Bool.false_ne_true z).elim, fun z => absurd z h⟩⟩
noncomputable def hd (P : Prop) : Bool := (hd_ex P).choose
theorem hd_iff (P : Prop) : hd P = true ↔ P := (hd_ex P).choose_spec
theorem hd_pos {P : Prop} (h : P) : hd P = true := (hd_iff P).mpr h
theorem hd_neg {P : Prop} (h : ¬ P) : hd P = false := by
  cases e : hd P with
  | false => rfl
  | true => exact absurd ((hd_iff P).mp e) h
theorem hd_t : hd True = true := hd_pos trivial
theorem hd_f : hd False = false := hd_neg id
theorem hd_eq (P : Prop) [Decidable P] : hd P = decide P := by
  by_cases h : P
  · rw [hd_pos h, decide_eq_true h]
  · rw [hd_neg h, decide_eq_false h]
noncomputable def hf {α : Type} (P : Prop) (x y : α) : α := ib (hd P) x y
theorem hf_pos {α : Type} {P : Prop} {x y : α} (h : P) : hf P x y = x := by unfold hf; rw [hd_pos h]; rfl
theorem hf_neg {α : Type} {P : Prop} {x y : α} (h : ¬ P) : hf P x y = y := by unfold hf; rw [hd_neg h]; rfl
theorem hf_t {α : Type} (x y : α) : hf True x y = x := hf_pos trivial
theorem hf_f {α : Type} (x y : α) : hf False x y = y := hf_neg id
inductive Rv where
  | pl (d : D) | nw (ds : List D)
def Rv.d : Rv → D
  | .pl d => d
  | .nw ds => .lst ds
inductive Fl where
  | nx | bk | ct | rt (r : Rv)
section
variable (K : PySem.W.Frag) [Rows K]
variable (A : Anc) (X : Cells) (W : WX)
def PO {α : Type} (σ : L2.St) (G : Hp) (k : α → Hp → Cells → Prop) : Out α → Prop
  | .ok a ρ' => ∀ G' L', Same G G' → Good K G' A X σ ρ' L' → k a G' L'
  | .ex C x ρ' => ∀ od G' L', Same G G' → Good K G' A X σ ρ' L' → XIs K G' C x od → W (.ref (He.ga K C)) od σ (upds K G' L')
  | .bad => False
def SO (E : Ends) (G : Hp) : Out Fl → Prop
  | .ok .nx ρ' => ∀ σ' G' L', Same G G' → Good K G' A X σ' ρ' L' → E.nx σ' (upds K G' L')
  | .ok .bk ρ' => ∀ σ' G' L', Same G G' → Good K G' A X σ' ρ' L' → E.bk σ' (upds K G' L')
  | .ok .ct ρ' => ∀ σ' G' L', Same G G' → Good K G' A X σ' ρ' L' → E.ct σ' (upds K G' L')
  | .ok (.rt (.pl d)) ρ' => ∀ σ' G' L' v, Same G G' → Good K G' A X σ' ρ' L' → Is K G' v d → E.rt v (upds K G' L')
  | .ok (.rt (.nw ds)) ρ' => ∀ σ' G' L' p ys, Same G G' → Good K G' A X σ' ρ' L' → G' p = none → p ∉ ads L' → IsL K G' ys ds → E.rt (.ref p) (upd (upds K G' L') p (.lst ys))
  | .ex C x ρ' => ∀ od σ' G' L', Same G G' → Good K G' A X σ' ρ' L' → XIs K G' C x od → W (.ref (He.ga K C)) od σ' (upds K G' L')
  | .bad => False
end
section
variable (K : PySem.W.Frag) [Rows K] (A : Anc) (W : WX)
/-- an expression; a new list; arguments; a test; a statement; an operation on values -/
def RE (t : TE) (m : M D) : Prop := ∀ X σ ρ G L Q, Good K G A X σ ρ L → PO K A X W σ G (fun d G' L' => ∀ v, Is K G' v d → Q v (upds K G' L')) (m ρ) → t σ (upds K G L) Q
def RN (t : TE) (m : M (List D)) : Prop := ∀ X σ ρ G L Q, Good K G A X σ ρ L → PO K A X W σ G (fun ds G' L' => ∀ p ys, G' p = none → p ∉ ads L' → IsL K G' ys ds → Q (.ref p) (upd (upds K G' L') p (.lst ys))) (m ρ) → t σ (upds K G L) Q
def RA (t : TA) (m : M (List D)) : Prop := ∀ X σ ρ G L Q, Good K G A X σ ρ L → PO K A X W σ G (fun ds G' L' => ∀ vs, IsL K G' vs ds → Q vs (upds K G' L')) (m ρ) → t σ (upds K G L) Q
def RT (t : TT) (m : M Bool) : Prop := ∀ X σ ρ G L Q, Good K G A X σ ρ L → PO K A X W σ G (fun b G' L' => Q b (upds K G' L')) (m ρ) → t σ (upds K G L) Q
def RO (t : TO) (m : M (Option Int)) : Prop := ∀ X σ ρ G L Q, Good K G A X σ ρ L → PO K A X W σ G (fun b G' L' => Q b (upds K G' L')) (m ρ) → t σ (upds K G L) Q
def RS (t : TS) (m : M Fl) : Prop := ∀ X σ ρ G L E, Good K G A X σ ρ L → SO K A X W E G (m ρ) → t E σ (upds K G L)
def R1 (r : V → Hp → VK → Prop) (g : D → Re D) : Prop := ∀ X σ ρ G L Q x a, Good K G A X σ ρ L → Is K G x a → PO K A X W σ G (fun d G' L' => ∀ v, Is K G' v d → Q v (upds K G' L')) (lift (g a) ρ) → r x (upds K G L) Q
def RR (r : R2) (g : D → D → Re D) : Prop := ∀ X σ ρ G L Q x y a b, Good K G A X σ ρ L → Is K G x a → Is K G y b → PO K A X W σ G (fun d G' L' => ∀ v, Is K G' v d → Q v (upds K G' L')) (lift (g a b) ρ) → r x y (upds K G L) Q
def RC (r : List V → Hp → VK → Prop) (g : List D → Re D) : Prop := ∀ X σ ρ G L Q xs as, Good K G A X σ ρ L → IsL K G xs as → PO K A X W σ G (fun d G' L' => ∀ v, Is K G' v d → Q v (upds K G' L')) (lift (g as) ρ) → r xs (upds K G L) Q
/-- .. whose answer is a new list -/
def RCn (r : List V → Hp → VK → Prop) (g : List D → Re (List D)) : Prop := ∀ X σ ρ G L Q xs as, Good K G A X σ ρ L → IsL K G xs as → PO K A X W σ G (fun ds G' L' => ∀ p ys, G' p = none → p ∉ ads L' → IsL K G' ys ds → Q (.ref p) (upd (upds K G' L') p (.lst ys))) (lift (g as) ρ) → r xs (upds K G L) Q
def RRn (r : R2) (g : D → D → Re (List D)) : Prop := ∀ X σ ρ G L Q x y a b, Good K G A X σ ρ L → Is K G x a → Is K G y b → PO K A X W σ G (fun ds G' L' => ∀ p ys, G' p = none → p ∉ ads L' → IsL K G' ys ds → Q (.ref p) (upd (upds K G' L') p (.lst ys))) (lift (g a b) ρ) → r x y (upds K G L) Q
/-- a target -/
def RG (t : TG) (g : D → Env → Option Env) : Prop := ∀ X σ ρ G L v d (Q : L2.St → Hp → Prop), Good K G A X σ ρ L → Is K G v d → (match g d ρ with
  | some ρ' => ∀ σ' G' L', Same G G' → Good K G' A X σ' ρ' L' → Q σ' (upds K G' L')
  | none => False) → t v σ (upds K G L) Q
def RGs (t : TGs) (g : List D → Env → Option Env) : Prop := ∀ X σ ρ G L vs ds (Q : L2.St → Hp → Prop), Good K G A X σ ρ L → IsL K G vs ds → (match g ds ρ with
  | some ρ' => ∀ σ' G' L', Same G G' → Good K G' A X σ' ρ' L' → Q σ' (upds K G' L')
  | none => False) → t vs σ (upds K G L) Q
def tgt (o : Env → Option Env) (ρ : Env) : Out Unit := match o ρ with
  | some ρ' => .ok () ρ'
  | none => .bad
end
section
variable {K : PySem.W.Frag} [Rows K] {A : Anc} {X : Cells} {W : WX} {σ : L2.St} {ρ : Env} {G G' : Hp} {L : Cells}
theorem PO.mono {α : Type} {k : α → Hp → Cells → Prop} {o : Out α} (e : Same G G') (h : PO K A X W σ G k o) : PO K A X W σ G' k o := by
  cases o with
  | ok a ρ' => exact fun G2 L' s g => h G2 L' (e.trans s) g
  | ex C x ρ' => exact fun od G2 L' s g q => h od G2 L' (e.trans s) g q
  | bad => exact h
theorem PO.imp {α : Type} {k k' : α → Hp → Cells → Prop} {o : Out α} (h : PO K A X W σ G k o) (i : ∀ a G' L', k a G' L' → k' a G' L') : PO K A X W σ G k' o := by
  cases o with
  | ok a ρ' => exact fun G2 L' s g => i _ _ _ (h G2 L' s g)
  | ex C x ρ' => exact fun od G2 L' s g q => h od G2 L' s g q
  | bad => exact h
theorem PO.at_ {α : Type} {k : α → Hp → Cells → Prop} {a : α} (h : PO K A X W σ G k (.ok a ρ)) (g : Good K G A X σ ρ L) : k a G L := h G L (Same.refl _) g
/-- the first of two -/
theorem PO.seq {α β : Type} {m : M α} {c : α → M β} {k : β → Hp → Cells → Prop} {k' : α → Hp → Cells → Prop} (p : PO K A X W σ G k (bnd m c ρ))
    (h : ∀ a ρ' G' L', Same G G' → Good K G' A X σ ρ' L' → PO K A X W σ G' k (c a ρ') → k' a G' L') : PO K A X W σ G k' (m ρ) := by
  unfold bnd at p
  cases e : m ρ with
  | ok a ρ' =>
    rw [e] at p
    exact fun G' L' s g => h a ρ' G' L' s g (p.mono s)
  | ex C x ρ' => rw [e] at p; exact p
  | bad => rw [e] at p; exact p
theorem SO.mono {E : Ends} {o : Out Fl} (e : Same G G') (h : SO K A X W E G o) : SO K A X W E G' o := by
  cases o with
  | ok a ρ' =>
    cases a with
    | nx => exact fun σ' G2 L' s g => h σ' G2 L' (e.trans s) g
    | bk => exact fun σ' G2 L' s g => h σ' G2 L' (e.trans s) g
    | ct => exact fun σ' G2 L' s g => h σ' G2 L' (e.trans s) g
    | rt r =>
      cases r with
      | pl d => exact fun σ' G2 L' v s g => h σ' G2 L' v (e.trans s) g
      | nw ds => exact fun σ' G2 L' p ys s g => h σ' G2 L' p ys (e.trans s) g
  | ex C x ρ' => exact fun od σ' G2 L' s g q => h od σ' G2 L' (e.trans s) g q
  | bad => exact h
/-- an expression ahead of a statement's rest -/
theorem SO.seqE {α : Type} {m : M α} {c : α → M Fl} {E : Ends} {k' : α → Hp → Cells → Prop} (p : SO K A X W E G (bnd m c ρ))
    (h : ∀ a ρ' G' L', Same G G' → Good K G' A X σ ρ' L' → SO K A X W E G' (c a ρ') → k' a G' L') : PO K A X W σ G k' (m ρ) := by
  unfold bnd at p
  cases e : m ρ with
  | ok a ρ' =>
    rw [e] at p
    exact fun G' L' s g => h a ρ' G' L' s g (p.mono s)
  | ex C x ρ' => rw [e] at p; exact fun od G' L' s g q => p od σ G' L' s g q
  | bad => rw [e] at p; exact p
/-! ### expressions -/
def mVar (i : Nat) (ρ : Env) : Out D := match ρ[i]? with
  | some (.pl d) => .ok d ρ
  | some (.ow ds) => .ok (.lst ds) (ρ.set i (.pl (.lst ds)))
  | _ => .bad
theorem re_var {i : Nat} : RE K A W (tVar i) (mVar i) := by
  intro X σ ρ G L Q g p
  unfold mVar at p
  split at p
  · rename_i d e
    obtain ⟨v, e1, hv⟩ := g.get e
    exact ⟨v, e1, p.at_ g v hv⟩
  · rename_i ds e
    obtain ⟨v, G', L', e1, sm, eq, hv, g'⟩ := g.frz e
    exact ⟨v, e1, by rw [eq]; exact p G' L' sm g' v hv⟩
  · exact p.elim
def mC (d : D) : M D := ret d
theorem re_c {v : V} {d : D} (h : ∀ G, Is K G v d) : RE K A W (tC v) (mC d) := fun X σ ρ G L Q g p => p.at_ g v (h G)
theorem re_int {i : Int} : RE K A W (tC (.int i)) (mC (.int i)) := re_c fun _ => .int i
theorem re_bl {i : Bool} : RE K A W (tC (.bl i)) (mC (.bl i)) := re_c fun _ => .bl i
theorem re_str {i : Str} : RE K A W (tC (.str i)) (mC (.str i)) := re_c fun _ => .str i
theorem re_non : RE K A W (tC .non) (mC .non) := re_c fun _ => .non
def mBin (g : D → D → Re D) (a b : M D) : M D := bnd a fun x => bnd b fun y => lift (g x y)
theorem re_op {r : R2} {g : D → D → Re D} {ta tb : TE} {a b : M D} (hr : RR K A W r g) (ha : RE K A W ta a) (hb : RE K A W tb b) : RE K A W (tOp r ta tb) (mBin g a b) := by
  intro X σ ρ G L Q gd p
  refine ha X σ ρ G L _ gd (p.seq fun x ρ1 G1 L1 s1 g1 p1 v hv => ?_)
  refine hb X σ ρ1 G1 L1 _ g1 (p1.seq fun y ρ2 G2 L2 s2 g2 p2 u hu => ?_)
  exact hr X σ ρ2 G2 L2 Q v u x y g2 (hv.mono s2) hu p2
def mBinN (g : D → D → Re (List D)) (a b : M D) : M (List D) := bnd a fun x => bnd b fun y => lift (g x y)
theorem rn_op {r : R2} {g : D → D → Re (List D)} {ta tb : TE} {a b : M D} (hr : RRn K A W r g) (ha : RE K A W ta a) (hb : RE K A W tb b) : RN K A W (tOp r ta tb) (mBinN g a b) := by
  intro X σ ρ G L Q gd p
  refine ha X σ ρ G L _ gd (p.seq fun x ρ1 G1 L1 s1 g1 p1 v hv => ?_)
  refine hb X σ ρ1 G1 L1 _ g1 (p1.seq fun y ρ2 G2 L2 s2 g2 p2 u hu => ?_)
  exact hr X σ ρ2 G2 L2 Q v u x y g2 (hv.mono s2) hu p2
def mUn (g : D → Re D) (a : M D) : M D := bnd a fun x => lift (g x)
theorem re_un {r : V → Hp → VK → Prop} {g : D → Re D} {ta : TE} {a : M D} (hr : R1 K A W r g) (ha : RE K A W ta a) : RE K A W (tUn r ta) (mUn g a) := by
  intro X σ ρ G L Q gd p
  refine ha X σ ρ G L _ gd (p.seq fun x ρ1 G1 L1 s1 g1 p1 v hv => ?_)
  exact hr X σ ρ1 G1 L1 Q v x g1 hv p1
/-- a new list read as a value -/
def mFrz (m : M (List D)) : M D := bnd m fun ds => ret (.lst ds)
theorem re_frz {t : TE} {m : M (List D)} (h : RN K A W t m) : RE K A W t (mFrz m) := by
  intro X σ ρ G L Q gd p
  refine h X σ ρ G L _ gd (p.seq fun ds ρ1 G1 L1 s1 g1 p1 q ys n1 n2 hy => ?_)
  rw [upds_new n2]
  have sm : Same G1 (upd G1 q (.lst ys)) := Sx.Same.updR (Same.refl _) n1
  exact p1 _ _ sm (g1.mono sm (g1.fr.new n2)) _ (.lst (SqL.of upd_same) (hy.mono sm))
def tru : D → Re Bool
  | .bl b => .ok b
  | _ => .bad
def mB (m : M D) : M Bool := bnd m fun d => lift (tru d)
theorem rt_B {t : TE} {m : M D} (h : RE K A W t m) : RT K A W (tB t) (mB m) := by
  intro X σ ρ G L Q gd p
  refine h X σ ρ G L _ gd (p.seq fun d ρ1 G1 L1 s1 g1 p1 v hv => ?_)
  cases d with
  | bl b => rw [hv.bl_eq]; exact ⟨b, rfl, p1.at_ g1⟩
  | _ => exact p1.elim
theorem rt_test {t : TE} {m : M D} (h : RE K A W t m) : RT K A W (tTest t) (mB m) := rt_B h
def mAnd (a b : M Bool) : M Bool := bnd a fun x => ib x b (ret false)
def mOr (a b : M Bool) : M Bool := bnd a fun x => ib x (ret true) b
def mNot (a : M Bool) : M Bool := bnd a fun x => ret (!x)
theorem rt_and {ta tb : TT} {a b : M Bool} (ha : RT K A W ta a) (hb : RT K A W tb b) : RT K A W (tAnd ta tb) (mAnd a b) := by
  intro X σ ρ G L Q gd p
  refine ha X σ ρ G L _ gd (p.seq fun x ρ1 G1 L1 s1 g1 p1 => ?_)
  cases x with
  | true => exact hb X σ ρ1 G1 L1 _ g1 p1
  | false => exact p1.at_ g1
theorem rt_or {ta tb : TT} {a b : M Bool} (ha : RT K A W ta a) (hb : RT K A W tb b) : RT K A W (tOr ta tb) (mOr a b) := by
  intro X σ ρ G L Q gd p
  refine ha X σ ρ G L _ gd (p.seq fun x ρ1 G1 L1 s1 g1 p1 => ?_)
  cases x with
  | false => exact hb X σ ρ1 G1 L1 _ g1 p1
  | true => exact p1.at_ g1
theorem rt_not {ta : TT} {a : M Bool} (ha : RT K A W ta a) : RT K A W (tNot ta) (mNot a) := by
  intro X σ ρ G L Q gd p
  exact ha X σ ρ G L _ gd (p.seq fun x ρ1 G1 L1 s1 g1 p1 => p1.at_ g1)
theorem rt_yes : RT K A W tYes (ret true) := fun X σ ρ G L Q gd p => p.at_ gd
def mAndV (a b : M D) : M D := bnd a fun x => bnd (lift (tru x)) fun c => ib c b (ret (.bl false))
def mOrV (a b : M D) : M D := bnd a fun x => bnd (lift (tru x)) fun c => ib c (ret (.bl true)) b
def mNotV (a : M D) : M D := bnd a fun x => bnd (lift (tru x)) fun c => ret (.bl (!c))
theorem re_and {ta tb : TE} {a b : M D} (ha : RE K A W ta a) (hb : RE K A W tb b) : RE K A W (tAndV ta tb) (mAndV a b) := by
  intro X σ ρ G L Q gd p
  refine ha X σ ρ G L _ gd (p.seq fun x ρ1 G1 L1 s1 g1 p1 v hv => ?_)
  cases x with
  | bl c =>
    rw [hv.bl_eq]
    refine ⟨c, rfl, ?_⟩
    cases c with
    | true => exact hb X σ ρ1 G1 L1 _ g1 p1
    | false => exact p1.at_ g1 _ (.bl false)
  | _ => exact p1.elim
theorem re_or {ta tb : TE} {a b : M D} (ha : RE K A W ta a) (hb : RE K A W tb b) : RE K A W (tOrV ta tb) (mOrV a b) := by
  intro X σ ρ G L Q gd p
  refine ha X σ ρ G L _ gd (p.seq fun x ρ1 G1 L1 s1 g1 p1 v hv => ?_)
  cases x with
  | bl c =>
    rw [hv.bl_eq]
    refine ⟨c, rfl, ?_⟩
    cases c with
    | false => exact hb X σ ρ1 G1 L1 _ g1 p1
    | true => exact p1.at_ g1 _ (.bl true)
  | _ => exact p1.elim
theorem re_not {ta : TE} {a : M D} (ha : RE K A W ta a) : RE K A W (tNotV ta) (mNotV a) := by
  intro X σ ρ G L Q gd p
  refine ha X σ ρ G L _ gd (p.seq fun x ρ1 G1 L1 s1 g1 p1 v hv => ?_)
  cases x with
  | bl c =>
    rw [hv.bl_eq]
    exact ⟨c, rfl, p1.at_ g1 _ (.bl _)⟩
  | _ => exact p1.elim
def mIf (c : M Bool) (a b : M D) : M D := bnd c fun x => ib x a b
theorem re_if {tc : TT} {ta tb : TE} {c : M Bool} {a b : M D} (hc : RT K A W tc c) (ha : RE K A W ta a) (hb : RE K A W tb b) : RE K A W (tIf tc ta tb) (mIf c a b) := by
  intro X σ ρ G L Q gd p
  refine hc X σ ρ G L _ gd (p.seq fun x ρ1 G1 L1 s1 g1 p1 => ?_)
  cases x with
  | true => exact ha X σ ρ1 G1 L1 _ g1 p1
  | false => exact hb X σ ρ1 G1 L1 _ g1 p1
def mChain (r r' : D → D → Re D) (a b c : M D) : M D := bnd a fun x => bnd b fun y => bnd (lift (r x y)) fun z => bnd (lift (tru z)) fun k => ib k (bnd c fun w => lift (r' y w)) (ret (.bl false))
theorem re_chain {r r' : R2} {g g' : D → D → Re D} {ta tb tc : TE} {a b c : M D} (hr : RR K A W r g) (hr' : RR K A W r' g') (ha : RE K A W ta a) (hb : RE K A W tb b) (hc : RE K A W tc c) : RE K A W (tChain r r' ta tb tc) (mChain g g' a b c) := by
  intro X σ ρ G L Q gd p
  refine ha X σ ρ G L _ gd (p.seq fun x ρ1 G1 L1 s1 g1 p1 v hv => ?_)
  refine hb X σ ρ1 G1 L1 _ g1 (p1.seq fun y ρ2 G2 L2 s2 g2 p2 u hu => ?_)
  refine hr X σ ρ2 G2 L2 _ v u x y g2 (hv.mono s2) hu (p2.seq fun z ρ3 G3 L3 s3 g3 p3 w hw => ?_)
  cases z with
  | bl k =>
    rw [hw.bl_eq]
    refine ⟨k, rfl, ?_⟩
    cases k with
    | true =>
      show tc σ _ _
      refine hc X σ ρ3 G3 L3 _ g3 (PO.seq p3 fun e ρ4 G4 L4 s4 g4 p4 w2 hw2 => ?_)
      exact hr' X σ ρ4 G4 L4 Q u w2 y e g4 (hu.mono (s3.trans s4)) hw2 p4
    | false => exact p3.at_ g3 _ (.bl false)
  | _ => exact p3.elim
def mNil : M (List D) := ret []
def mCons (a : M D) (r : M (List D)) : M (List D) := bnd a fun x => bnd r fun xs => ret (x :: xs)
theorem ra_nil : RA K A W tNil mNil := fun X σ ρ G L Q gd p => p.at_ gd _ .nil
theorem ra_cons {ta : TE} {tr : TA} {a : M D} {r : M (List D)} (ha : RE K A W ta a) (hr : RA K A W tr r) : RA K A W (tCons ta tr) (mCons a r) := by
  intro X σ ρ G L Q gd p
  refine ha X σ ρ G L _ gd (p.seq fun x ρ1 G1 L1 s1 g1 p1 v hv => ?_)
  refine hr X σ ρ1 G1 L1 _ g1 (p1.seq fun xs ρ2 G2 L2 s2 g2 p2 vs hvs => ?_)
  exact p2.at_ g2 _ (.cons (hv.mono s2) hvs)
noncomputable def mTup (m : M (List D)) : M D := bnd m fun ds => hf (ds.length ≤ 1000) (ret (.tup ds)) fail
theorem re_tup {t : TA} {m : M (List D)} (h : RA K A W t m) : RE K A W (tTup t) (mTup m) := by
  intro X σ ρ G L Q gd p
  refine h X σ ρ G L _ gd (p.seq fun ds ρ1 G1 L1 s1 g1 p1 vs hvs => ?_)
  by_cases hl : ds.length ≤ 1000
  · rw [hf_pos hl] at p1
    refine ⟨by rw [hvs.length]; exact Nat.le_trans hl (by decide), fun q n => ?_⟩
    obtain ⟨n1, n2⟩ := free_of n
    rw [upds_new n2]
    have sm : Same G1 (upd G1 q (.tup vs)) := Sx.Same.updR (Same.refl _) n1
    exact p1 _ _ sm (g1.mono sm (g1.fr.new n2)) _ (.tup (SqT.of upd_same) (hvs.mono sm))
  · rw [hf_neg hl] at p1
    exact p1.elim
noncomputable def mLst (m : M (List D)) : M (List D) := bnd m fun ds => hf (ds.length ≤ 1000) (ret ds) fail
theorem rn_lst {t : TA} {m : M (List D)} (h : RA K A W t m) : RN K A W (tLst t) (mLst m) := by
  intro X σ ρ G L Q gd p
  refine h X σ ρ G L _ gd (p.seq fun ds ρ1 G1 L1 s1 g1 p1 vs hvs => ?_)
  by_cases hl : ds.length ≤ 1000
  · rw [hf_pos hl] at p1
    refine ⟨by rw [hvs.length]; exact Nat.le_trans hl (by decide), fun q n => ?_⟩
    obtain ⟨n1, n2⟩ := free_of n
    exact p1.at_ g1 q vs n1 n2 hvs
  · rw [hf_neg hl] at p1
    exact p1.elim
def dFld (f : Str) : D → Re D
  | .ins _ gs => match gs.lookup f with
    | some d => .ok d
    | none => .bad
  | _ => .bad
def mFld (f : Str) (m : M D) : M D := bnd m fun d => lift (dFld f d)
theorem re_fld {t : TE} {m : M D} {f : Str} (h : RE K A W t m) : RE K A W (tFld K t f) (mFld f m) := by
  intro X σ ρ G L Q gd p
  refine h X σ ρ G L _ gd (p.seq fun d ρ1 G1 L1 s1 g1 p1 v hv => ?_)
  cases hv with
  | @ins a dx C fs gs hc hn ha hs =>
    simp only [lift, dFld] at p1
    cases e : gs.lookup f with
    | none => rw [e] at p1; exact p1.elim
    | some d' =>
      rw [e] at p1
      obtain ⟨w, e1, e2⟩ := hs.look e
      have hm : (f, d') ∈ gs := by
        clear hn hs p1 ha e1 e2
        induction gs with
        | nil => cases e
        | cons x r ih =>
          obtain ⟨g, d2⟩ := x
          by_cases q : f = g
          · subst q
            simp [List.lookup] at e
            subst e
            exact List.mem_cons_self
          · have q' : (f == g) = false := by simpa using q
            simp only [List.lookup, q'] at e
            exact List.mem_cons_of_mem _ (ih e)
      exact ⟨a, _, dx, fs, w, rfl, g1.fr.same _ _ ha, (Rows.ok _ hc).cl, hn _ hm, e1, p1.at_ g1 w e2⟩
  | _ => exact p1.elim
def mCB (g : List D → Re D) (m : M (List D)) : M D := bnd m fun ds => lift (g ds)
theorem re_CB {r : List V → Hp → VK → Prop} {g : List D → Re D} {t : TA} {m : M (List D)} (hr : RC K A W r g) (h : RA K A W t m) : RE K A W (tCB r t) (mCB g m) := by
  intro X σ ρ G L Q gd p
  refine h X σ ρ G L _ gd (p.seq fun ds ρ1 G1 L1 s1 g1 p1 vs hvs => ?_)
  exact hr X σ ρ1 G1 L1 Q vs ds g1 hvs p1
def mCBn (g : List D → Re (List D)) (m : M (List D)) : M (List D) := bnd m fun ds => lift (g ds)
theorem rn_CB {r : List V → Hp → VK → Prop} {g : List D → Re (List D)} {t : TA} {m : M (List D)} (hr : RCn K A W r g) (h : RA K A W t m) : RN K A W (tCB r t) (mCBn g m) := by
  intro X σ ρ G L Q gd p
  refine h X σ ρ G L _ gd (p.seq fun ds ρ1 G1 L1 s1 g1 p1 vs hvs => ?_)
  exact hr X σ ρ1 G1 L1 Q vs ds g1 hvs p1
/-- an owned list looked at: x[i] -/
def listAt (ds : List D) (i : Int) : Re D := match atI ds i with
  | some d => .ok d
  | none => .bad
def bound : Option Sl → Bool
  | some .un => false
  | none => false
  | _ => true
def seqAt (s : Option Sl) (y : D) : Re D := match s, y with
  | some (.ow ds), .int k => listAt ds k
  | some (.rf ds), .int k => listAt ds k
  | some (.pl (.lst ds)), .int k => listAt ds k
  | _, _ => .bad
def mIdxV (i : Nat) (b : M D) (ρ : Env) : Out D := ib (bound ρ[i]?) (bnd b (fun y ρ' => lift (seqAt ρ'[i]? y) ρ') ρ) .bad
theorem Good.bound {i : Nat} (g : Good K G A X σ ρ L) (h : bound ρ[i]? = true) : ∃ v, σ[i]? = some (some v) := by
  cases e : ρ[i]? with
  | none => rw [e] at h; cases h
  | some s =>
    rw [e] at h
    obtain ⟨v, c, L1, L2, e1, sr, _, _⟩ := g.rl.focus e
    cases sr with
    | un => cases h
    | pl _ => exact ⟨_, e1⟩
    | ow _ => exact ⟨_, e1⟩
    | rf _ => exact ⟨_, e1⟩
    | se _ _ _ => exact ⟨_, e1⟩
    | exn _ => exact ⟨_, e1⟩
/-- the list at a slot -/
theorem Good.seqL {i : Nat} {ds : List D} (g : Good K G A X σ ρ L) (h : ρ[i]? = some (.ow ds) ∨ ρ[i]? = some (.rf ds) ∨ ρ[i]? = some (.pl (.lst ds))) : ∃ p ys, σ[i]? = some (some (.ref p)) ∧ SqL K (upds K G L) p ys ∧ IsL K G ys ds := by
  rcases h with h | h | h
  · obtain ⟨p, ys, e1, hy, hp, _⟩ := g.peek h (.inl rfl)
    exact ⟨p, ys, e1, SqL.of hp, hy⟩
  · obtain ⟨p, ys, e1, hy, hp, _⟩ := g.peek h (.inr rfl)
    exact ⟨p, ys, e1, SqL.of hp, hy⟩
  · obtain ⟨v, e1, hv⟩ := g.get h
    cases hv with
    | lst hs hd => exact ⟨_, _, e1, Same.seq g.fr.same hs, hd⟩
theorem IsL.atI {vs : List V} {ds : List D} {k : Int} {d : D} (h : IsL K G vs ds) (e : L2.atI ds k = some d) : ∃ v, L2.atI vs k = some v ∧ Is K G v d := by
  unfold L2.atI at e ⊢
  rw [h.length]
  cases q : ixN ds.length k with
  | none => rw [q] at e; cases e
  | some j =>
    rw [q] at e
    exact h.get e
theorem re_idxV {i : Nat} {tb : TE} {b : M D} (hb : RE K A W tb b) : RE K A W (tOp (rIxL K) (tVar i) tb) (mIdxV i b) := by
  intro X σ ρ G L Q gd p
  unfold mIdxV at p
  by_cases hh : bound ρ[i]? = true
  · rw [ib_pos hh] at p
    obtain ⟨v, e1⟩ := gd.bound hh
    refine ⟨v, e1, hb X σ ρ G L _ gd (p.seq fun y ρ1 G1 L1 s1 g1 p1 u hu => ?_)⟩
    have fin : ∀ ds k, y = .int k → (ρ1[i]? = some (.ow ds) ∨ ρ1[i]? = some (.rf ds) ∨ ρ1[i]? = some (.pl (.lst ds))) → PO K A X W σ G1 (fun d G' L' => ∀ v, Is K G' v d → Q v (upds K G' L')) (lift (listAt ds k) ρ1) → rIxL K v u (upds K G1 L1) Q := by
      rintro ds k rfl h q
      obtain ⟨p, ys, e2, hs, hy⟩ := g1.seqL h
      rw [e1] at e2
      cases e2
      unfold listAt at q
      cases e3 : L2.atI ds k with
      | none => rw [e3] at q; exact q.elim
      | some d =>
        rw [e3] at q
        obtain ⟨w, e4, hw⟩ := hy.atI e3
        exact ⟨p, ys, k, w, rfl, hu.int_eq, hs, e4, q.at_ g1 w hw⟩
    unfold seqAt at p1
    split at p1
    · rename_i ds k e; exact fin ds k rfl (.inl e) p1
    · rename_i ds k e; exact fin ds k rfl (.inr (.inl e)) p1
    · rename_i ds k e; exact fin ds k rfl (.inr (.inr e)) p1
    · exact p1.elim
  · rw [ib_neg hh] at p
    exact p.elim
end
end Mi

namespace Mi
open PySem PySem.Spec PyProof.Rows L2
open Sx (Tn Fx btys tCallW tMethW tMakeW)
section
variable {K : PySem.W.Frag} [Rows K] {A : Anc} {X : Cells} {W : WX} {σ : L2.St} {ρ : Env} {G G' : Hp} {L : Cells}
/-! ### statements -/
def mSkip : M Fl := ret .nx
def thenF (b : M Fl) : Fl → M Fl
  | .nx => b
  | f => ret f
def mSeq (a b : M Fl) : M Fl := bnd a (thenF b)
/-- another end for what follows -/
theorem SO.with {E : Ends} {nx : L2.St → Hp → Prop} {a b : M Fl} (p : SO K A X W E G (mSeq a b ρ)) (h : ∀ σ' ρ' G' L', Same G G' → Good K G' A X σ' ρ' L' → SO K A X W E G' (b ρ') → nx σ' (upds K G' L')) : SO K A X W { E with nx := nx } G (a ρ) := by
  unfold mSeq bnd at p
  cases e : a ρ with
  | ok f ρ' =>
    rw [e] at p
    cases f with
    | nx => exact fun σ' G' L' s g => h σ' ρ' G' L' s g (p.mono s)
    | bk => exact p
    | ct => exact p
    | rt r => cases r <;> exact p
  | ex C x ρ' => rw [e] at p; exact p
  | bad => rw [e] at p; exact p
theorem rs_skip : RS K A W tNext mSkip := fun X σ ρ G L E g p => p σ G L (Same.refl _) g
theorem rs_seq {t u : TS} {a b : M Fl} (ha : RS K A W t a) (hb : RS K A W u b) : RS K A W (tSeq t u) (mSeq a b) := by
  intro X σ ρ G L E g p
  exact ha X σ ρ G L _ g (p.with fun σ' ρ' G' L' s g' p' => hb X σ' ρ' G' L' E g' p')
theorem rs_break : RS K A W tBreak (ret .bk) := fun X σ ρ G L E g p => p σ G L (Same.refl _) g
theorem rs_cont : RS K A W tCont (ret .ct) := fun X σ ρ G L E g p => p σ G L (Same.refl _) g
def okAsg : Option Sl → Bool
  | some s => loose s
  | none => false
def sto (i : Nat) (s : Sl) (ρ : Env) : Out Unit := ib (okAsg ρ[i]?) (.ok () (ρ.set i s)) .bad
theorem Good.sto {i : Nat} {v : V} {d : D} (g : Good K G A X σ ρ L) (h : okAsg ρ[i]? = true) (hv : Is K G v d) : ∃ G' L', Same G G' ∧ upds K G L = upds K G' L' ∧ Good K G' A X (σ.set i (some v)) (ρ.set i (.pl d)) L' := by
  cases e : ρ[i]? with
  | none => rw [e] at h; cases h
  | some s => rw [e] at h; exact g.asg e h hv
theorem Good.stoN {i : Nat} {p : Addr} {ys : List V} {ds : List D} (g : Good K G A X σ ρ L) (h : okAsg ρ[i]? = true) (n1 : G p = none) (n2 : p ∉ ads L) (hv : IsL K G ys ds) :
    ∃ G' L', Same G G' ∧ upd (upds K G L) p (.lst ys) = upds K G' L' ∧ Good K G' A X (σ.set i (some (.ref p))) (ρ.set i (.ow ds)) L' := by
  cases e : ρ[i]? with
  | none => rw [e] at h; cases h
  | some s => rw [e] at h; exact g.asgN e h n1 n2 hv
def mAsg (i : Nat) (m : M D) : M Fl := bnd m fun d => bnd (sto i (.pl d)) fun _ => ret .nx
theorem rs_asg {i : Nat} {t : TE} {m : M D} (h : RE K A W t m) : RS K A W (tAsg t (gName i)) (mAsg i m) := by
  intro X σ ρ G L E g p
  refine h X σ ρ G L _ g (p.seqE fun d ρ1 G1 L1 s1 g1 p1 v hv => ?_)
  show E.nx (σ.set i (some v)) _
  unfold bnd sto at p1
  by_cases ho : okAsg ρ1[i]? = true
  · rw [ib_pos ho] at p1
    obtain ⟨G2, L2, s2, e2, g2⟩ := g1.sto ho hv
    rw [e2]
    exact p1 _ _ _ s2 g2
  · rw [ib_neg ho] at p1
    exact p1.elim
def mAsgN (i : Nat) (m : M (List D)) : M Fl := bnd m fun ds => bnd (sto i (.ow ds)) fun _ => ret .nx
theorem rs_asgN {i : Nat} {t : TE} {m : M (List D)} (h : RN K A W t m) : RS K A W (tAsg t (gName i)) (mAsgN i m) := by
  intro X σ ρ G L E g p
  refine h X σ ρ G L _ g (p.seqE fun ds ρ1 G1 L1 s1 g1 p1 q ys n1 n2 hy => ?_)
  show E.nx (σ.set i (some (.ref q))) _
  unfold bnd sto at p1
  by_cases ho : okAsg ρ1[i]? = true
  · rw [ib_pos ho] at p1
    obtain ⟨G2, L2, s2, e2, g2⟩ := g1.stoN ho n1 n2 hy
    rw [e2]
    exact p1 _ _ _ s2 g2
  · rw [ib_neg ho] at p1
    exact p1.elim
def two : List D → Re (D × D)
  | [a, b] => .ok (a, b)
  | _ => .bad
def mPar (i j : Nat) (m : M (List D)) : M Fl := bnd m fun ds => bnd (lift (two ds)) fun x => bnd (sto i (.pl x.1)) fun _ => bnd (sto j (.pl x.2)) fun _ => ret .nx
theorem rs_par {i j : Nat} {t : TA} {m : M (List D)} (h : RA K A W t m) : RS K A W (tPar i j t) (mPar i j m) := by
  intro X σ ρ G L E g p
  refine h X σ ρ G L _ g (p.seqE fun ds ρ1 G1 L1 s1 g1 p1 vs hvs => ?_)
  match ds, vs, hvs, p1 with
  | [a, b], [v, w], .cons hv (.cons hw .nil), p1 =>
    refine ⟨v, w, rfl, ?_⟩
    simp only [bnd, lift, two, sto] at p1
    by_cases ho : okAsg ρ1[i]? = true
    · rw [ib_pos ho] at p1
      obtain ⟨G2, L2, s2, e2, g2⟩ := g1.sto ho hv
      by_cases ho2 : okAsg (ρ1.set i (.pl a))[j]? = true
      · simp only [ib_pos ho2] at p1
        obtain ⟨G3, L3, s3, e3, g3⟩ := g2.sto ho2 (hw.mono s2)
        rw [e2, e3]
        exact p1 _ _ _ (s2.trans s3) g3
      · simp only [ib_neg ho2] at p1
        exact p1.elim
    · rw [ib_neg ho] at p1
      exact p1.elim
  | [], _, _, p1 => exact p1.elim
  | [_], _, _, p1 => exact p1.elim
  | _ :: _ :: _ :: _, _, _, p1 => exact p1.elim
def mDrop (m : M D) : M Fl := bnd m fun _ => ret .nx
theorem rs_drop {t : TE} {m : M D} (h : RE K A W t m) : RS K A W (tDrop t) (mDrop m) := by
  intro X σ ρ G L E g p
  exact h X σ ρ G L _ g (p.seqE fun d ρ1 G1 L1 s1 g1 p1 v hv => p1 σ G1 L1 (Same.refl _) g1)
def mRet (m : M D) : M Fl := bnd m fun d => ret (.rt (.pl d))
theorem rs_ret {t : TE} {m : M D} (h : RE K A W t m) : RS K A W (tRet t) (mRet m) := by
  intro X σ ρ G L E g p
  exact h X σ ρ G L _ g (p.seqE fun d ρ1 G1 L1 s1 g1 p1 v hv => p1 σ G1 L1 v (Same.refl _) g1 hv)
def mRetN (m : M (List D)) : M Fl := bnd m fun d => ret (.rt (.nw d))
theorem rs_retN {t : TE} {m : M (List D)} (h : RN K A W t m) : RS K A W (tRet t) (mRetN m) := by
  intro X σ ρ G L E g p
  exact h X σ ρ G L _ g (p.seqE fun d ρ1 G1 L1 s1 g1 p1 q ys n1 n2 hy => p1 σ G1 L1 q ys (Same.refl _) g1 n1 n2 hy)
theorem rs_ret0 : RS K A W tRetN (ret (.rt (.pl .non))) := fun X σ ρ G L E g p => p σ G L .non (Same.refl _) g .non
/-- return of a name -/
def mRetV (i : Nat) (ρ : Env) : Out Fl := match ρ[i]? with
  | some (.pl d) => .ok (.rt (.pl d)) ρ
  | some (.ow ds) => .ok (.rt (.nw ds)) (ρ.set i .un)
  | _ => .bad
theorem rs_retV {i : Nat} : RS K A W (tRet (tVar i)) (mRetV i) := by
  intro X σ ρ G L E g p
  unfold mRetV at p
  split at p
  · rename_i d e
    obtain ⟨v, e1, hv⟩ := g.get e
    exact ⟨v, e1, p σ G L v (Same.refl _) g hv⟩
  · rename_i ds e
    obtain ⟨v0, c, L1, L2, e1, s1, rfl, k⟩ := g.rl.focus e
    cases s1 with
    | @ow q ys _ hy =>
      have r := k G none .un [] (Same.refl _) .un
      obtain ⟨q1, q2⟩ := mid_eq (K := K) g.fr
      have gq : G q = none := g.fr.no q (by rw [ads_app, ads_app]; simp [ads, ad1])
      have np : q ∉ ads (L1 ++ L2) := fun z => by
        have := q2.no q z
        simp only [upds, put1] at this
        rw [upd_same] at this
        cases this
      have fr : Frs G (L1 ++ L2) := ⟨q2.nd, fun a ha => by
        have := q2.no a ha
        simp only [upds, put1] at this
        rw [upd_ne fun (z : a = q) => np (z ▸ ha)] at this
        exact this⟩
      refine ⟨_, e1, ?_⟩
      have := p (σ.set i none) G (L1 ++ L2) q ys (Same.refl _) ⟨r, fr⟩ gq np hy
      rw [upds_new np] at this
      rw [q1]
      exact this
  · exact p.elim
def mIfS (c : M Bool) (a b : M Fl) : M Fl := bnd c fun x => ib x a b
theorem rs_if {tc : TT} {t u : TS} {c : M Bool} {a b : M Fl} (hc : RT K A W tc c) (ha : RS K A W t a) (hb : RS K A W u b) : RS K A W (tIfS tc t u) (mIfS c a b) := by
  intro X σ ρ G L E g p
  refine hc X σ ρ G L _ g (p.seqE fun x ρ1 G1 L1 s1 g1 p1 => ?_)
  cases x with
  | true => exact ha X σ ρ1 G1 L1 E g1 p1
  | false => exact hb X σ ρ1 G1 L1 E g1 p1
/-! ### while -/
def againF (r : M Fl) : Fl → M Fl
  | .nx => r
  | .ct => r
  | .bk => ret .nx
  | .rt v => ret (.rt v)
def wloop (c : M Bool) (b : M Fl) : Nat → M Fl
  | 0 => fail
  | n + 1 => bnd c fun x => ib x (bnd b (againF (wloop c b n))) (ret .nx)
def isBad {α : Type} : Out α → Bool
  | .bad => true
  | _ => false
open Classical in
noncomputable def mWhile (c : M Bool) (b : M Fl) (ρ : Env) : Out Fl := if h : ∃ n, isBad (wloop c b n ρ) = false then wloop c b h.choose ρ else .bad
theorem wloop_more {c : M Bool} {b : M Fl} : ∀ {n : Nat} {ρ : Env}, isBad (wloop c b n ρ) = false → wloop c b (n + 1) ρ = wloop c b n ρ
  | 0, _, h => by cases h
  | n + 1, ρ, h => by
    rw [wloop.eq_2 c b n, wloop.eq_2 c b (n + 1)]
    rw [wloop.eq_2 c b n] at h
    simp only [bnd] at h ⊢
    cases e : c ρ with
    | ok x ρ1 =>
      rw [e] at h
      cases x with
      | false => rfl
      | true =>
        simp only [ib_t, bnd] at h ⊢
        cases e2 : b ρ1 with
        | ok f ρ2 =>
          rw [e2] at h
          cases f with
          | nx => exact wloop_more h
          | ct => exact wloop_more h
          | bk => rfl
          | rt v => rfl
        | ex C y ρ2 => rfl
        | bad => rfl
    | ex C y ρ1 => rfl
    | bad => rfl
theorem wloop_le {c : M Bool} {b : M Fl} {n m : Nat} {ρ : Env} (h : isBad (wloop c b n ρ) = false) (e : n ≤ m) : wloop c b m ρ = wloop c b n ρ := by
  induction e with
  | refl => rfl
  | @step m e ih =>
    have h2 : isBad (wloop c b m ρ) = false := by rw [ih]; exact h
    rw [← ih]
    exact wloop_more h2
theorem mWhile_eq {c : M Bool} {b : M Fl} {n : Nat} {ρ : Env} (h : isBad (wloop c b n ρ) = false) : mWhile c b ρ = wloop c b n ρ := by
  unfold mWhile
  have hx : ∃ n, isBad (wloop c b n ρ) = false := ⟨n, h⟩
  rw [dif_pos hx]
  rcases Nat.le_total hx.choose n with e | e
  · exact (wloop_le hx.choose_spec e).symm
  · exact wloop_le h e
theorem rs_while {tc : TT} {tb : TS} {c : M Bool} {b : M Fl} (hc : RT K A W tc c) (hb : RS K A W tb b) : RS K A W (tWhile tc tb) (mWhile c b) := by
  intro X σ ρ G L E g p
  unfold mWhile at p
  by_cases hx : ∃ n, isBad (wloop c b n ρ) = false
  · rw [dif_pos hx] at p
    refine ⟨fun m σ H => ∃ ρ G L, H = upds K G L ∧ Good K G A X σ ρ L ∧ SO K A X W E G (wloop c b m ρ), ⟨_, ρ, G, L, rfl, g, p⟩, ?_⟩
    rintro m σ H ⟨ρ, G, L, rfl, g, p⟩
    cases m with
    | zero => exact p.elim
    | succ n =>
      rw [wloop.eq_2] at p
      refine hc X σ ρ G L _ g (p.seqE fun x ρ1 G1 L1 s1 g1 p1 => ?_)
      cases x with
      | false => exact p1 σ G1 L1 (Same.refl _) g1
      | true =>
        show ∃ N, _
        refine ⟨fun σ' H' => ∃ ρ G L, H' = upds K G L ∧ Good K G A X σ' ρ L ∧ SO K A X W E G (wloop c b n ρ), fun σ' H' h => ⟨n, Nat.lt_succ_self n, h⟩, ?_⟩
        refine hb X σ ρ1 G1 L1 _ g1 ?_
        simp only [ib_t, bnd] at p1
        cases e : b ρ1 with
        | ok f ρ2 =>
          rw [e] at p1
          cases f with
          | nx => exact fun σ' G' L' s g' => ⟨ρ2, G', L', rfl, g', SO.mono s p1⟩
          | ct => exact fun σ' G' L' s g' => ⟨ρ2, G', L', rfl, g', SO.mono s p1⟩
          | bk => exact p1
          | rt v => cases v <;> exact p1
        | ex C y ρ2 => rw [e] at p1; exact p1
        | bad => rw [e] at p1; exact p1
  · rw [dif_neg hx] at p
    exact p.elim
/-! ### for -/
/-- the iterator J walks the data ds -/
def ItOk (K : PySem.W.Frag) [Rows K] (J : It) (ds : List D) (G : Hp) : Prop := ∀ (i : Nat) (G2 : Hp) (L2 : Cells), Same G G2 → Frs G2 L2 →
  (∀ d, ds[i]? = some d → J.go i (upds K G2 L2) ∧ ∀ x H', J.yld i (upds K G2 L2) x H' → ∃ G3, H' = upds K G3 L2 ∧ Same G2 G3 ∧ Frs G3 L2 ∧ Is K G3 x d) ∧ (ds.length ≤ i → J.stop i (upds K G2 L2))
def RI (K : PySem.W.Frag) [Rows K] (A : Anc) (W : WX) (wi : TI) (m : M (List D)) : Prop := ∀ X σ ρ G L (R : It → Hp → Prop), Good K G A X σ ρ L → PO K A X W σ G (fun ds G' L' => ∀ J, ItOk K J ds G' → R J (upds K G' L')) (m ρ) → wi σ (upds K G L) R
theorem ItOk.mono {J : It} {ds : List D} (h : ItOk K J ds G) (e : Same G G') : ItOk K J ds G' := fun i G2 L2 s f => h i G2 L2 (e.trans s) f
def forL (g : D → Env → Option Env) (b : M Fl) : List D → M Fl
  | [] => ret .nx
  | d :: ds => bnd (tgt (g d)) fun _ => bnd b (againF (forL g b ds))
def mFor (it : M (List D)) (g : D → Env → Option Env) (b : M Fl) : M Fl := bnd it fun ds => forL g b ds
theorem rs_for {wi : TI} {tg : TG} {tb : TS} {it : M (List D)} {g : D → Env → Option Env} {b : M Fl} (hi : RI K A W wi it) (hg : RG K A tg g) (hb : RS K A W tb b) : RS K A W (tFor wi tg tb) (mFor it g b) := by
  intro X σ ρ G L E gd p
  refine hi X σ ρ G L _ gd (p.seqE fun ds ρ1 G1 L1 s1 g1 p1 J hJ => ?_)
  refine ⟨fun i m σ H => ∃ ρ G L, H = upds K G L ∧ Good K G A X σ ρ L ∧ Same G1 G ∧ i ≤ ds.length ∧ m = ds.length - i ∧ SO K A X W E G (forL g b (ds.drop i) ρ), ⟨ds.length, ρ1, G1, L1, rfl, g1, Same.refl _, Nat.zero_le _, rfl, p1⟩, ?_⟩
  rintro i m σ H ⟨ρ, G, L, rfl, gd, sm, hi, rfl, p⟩
  obtain ⟨q1, q2⟩ := hJ i G L sm gd.fr
  by_cases hl : i < ds.length
  · right
    have ed : ds.drop i = ds[i] :: ds.drop (i + 1) := List.drop_eq_getElem_cons hl
    obtain ⟨go, yl⟩ := q1 ds[i] (List.getElem?_eq_getElem hl)
    refine ⟨go, fun σ H => ∃ ρ G L, H = upds K G L ∧ Good K G A X σ ρ L ∧ Same G1 G ∧ SO K A X W E G (forL g b (ds.drop (i + 1)) ρ), fun σ' H' ⟨ρ, G, L, e, g', s', p'⟩ => ⟨ds.length - (i + 1), by omega, ρ, G, L, e, g', s', by omega, rfl, p'⟩, fun x H' hy => ?_⟩
    obtain ⟨G3, rfl, s3, f3, hx⟩ := yl x H' hy
    rw [ed] at p
    have g3 := gd.mono s3 f3
    refine hg X σ ρ G3 L x _ _ g3 hx ?_
    simp only [forL, bnd, tgt] at p
    cases e : g ds[i] ρ with
    | some ρ2 =>
      rw [e] at p
      intro σ' G' L' s' g'
      refine hb X σ' ρ2 G' L' _ g' ?_
      have p := SO.mono (s3.trans s') p
      cases e2 : b ρ2 with
      | ok f ρ3 =>
        simp only [e2] at p
        cases f with
        | nx => exact fun σ2 G2 L2 s2 g2 => ⟨ρ3, G2, L2, rfl, g2, ((sm.trans s3).trans s').trans s2, SO.mono s2 p⟩
        | ct => exact fun σ2 G2 L2 s2 g2 => ⟨ρ3, G2, L2, rfl, g2, ((sm.trans s3).trans s').trans s2, SO.mono s2 p⟩
        | bk => exact p
        | rt v => cases v <;> exact p
      | ex C y ρ3 => simp only [e2] at p; exact p
      | bad => simp only [e2] at p; exact p
    | none => rw [e] at p; exact p.elim
  · left
    refine ⟨q2 (by omega), ?_⟩
    rw [List.drop_eq_nil_of_le (by omega)] at p
    exact p σ G L (Same.refl _) gd
end
end Mi

namespace Mi
open PySem PySem.Spec PyProof.Rows L2
open Sx (Tn Fx btys tCallW tMethW tMakeW)
section
variable {K : PySem.W.Frag} [Rows K] {A : Anc} {X : Cells} {W : WX} {σ : L2.St} {ρ : Env} {G G' : Hp} {L : Cells}
/-! ### targets -/
def gV (i : Nat) (d : D) (ρ : Env) : Option Env := ib (okAsg ρ[i]?) (some (ρ.set i (.pl d))) none
theorem rg_name {i : Nat} : RG K A (gName i) (gV i) := by
  intro X σ ρ G L v d Q g hv p
  unfold gV at p
  by_cases ho : okAsg ρ[i]? = true
  · rw [ib_pos ho] at p
    obtain ⟨G2, L2, s2, e2, g2⟩ := g.sto ho hv
    show Q (σ.set i (some v)) _
    rw [e2]
    exact p _ _ _ s2 g2
  · rw [ib_neg ho] at p
    exact p.elim
def gsN (ds : List D) (ρ : Env) : Option Env := match ds with
  | [] => some ρ
  | _ => none
def gsC (g : D → Env → Option Env) (r : List D → Env → Option Env) (ds : List D) (ρ : Env) : Option Env := match ds with
  | d :: ds => (g d ρ).bind fun ρ' => r ds ρ'
  | [] => none
theorem rgs_nil : RGs K A gNil gsN := by
  intro X σ ρ G L vs ds Q g hv p
  cases hv with
  | nil => exact ⟨rfl, p σ G L (Same.refl _) g⟩
  | cons _ _ => exact p.elim
theorem rgs_cons {t : TG} {u : TGs} {g : D → Env → Option Env} {r : List D → Env → Option Env} (h1 : RG K A t g) (h2 : RGs K A u r) : RGs K A (gCons t u) (gsC g r) := by
  intro X σ ρ G L vs ds Q gd hv p
  cases hv with
  | nil => exact p.elim
  | @cons v d vs ds hv hvs =>
    refine ⟨v, vs, rfl, h1 X σ ρ G L v d _ gd hv ?_⟩
    simp only [gsC] at p
    cases e : g d ρ with
    | none => rw [e] at p; exact p.elim
    | some ρ' =>
      rw [e] at p
      intro σ' G' L' s' g'
      refine h2 X σ' ρ' G' L' vs ds Q g' (hvs.mono s') ?_
      simp only [Option.bind_some] at p
      cases e2 : r ds ρ' with
      | none => rw [e2] at p; exact p.elim
      | some ρ2 => rw [e2] at p; exact fun σ2 G2 L2 s2 g2 => p σ2 G2 L2 (s'.trans s2) g2
def gT (n : Nat) (r : List D → Env → Option Env) (d : D) (ρ : Env) : Option Env := match d with
  | .tup ds => if ds.length = n then r ds ρ else none
  | _ => none
theorem rg_tup {n : Nat} {t : TGs} {r : List D → Env → Option Env} (h : RGs K A t r) : RG K A (gTup K n t) (gT n r) := by
  intro X σ ρ G L v d Q g hv p
  cases hv with
  | @tup a xs ds hs hd =>
    simp only [gT] at p
    by_cases e : ds.length = n
    · rw [if_pos e] at p
      exact ⟨a, xs, rfl, Sx.Same.seqT g.fr.same hs, by rw [hd.length]; exact e, h X σ ρ G L xs ds Q g hd p⟩
    · rw [if_neg e] at p; exact p.elim
  | _ => exact p.elim
/-- target = value -/
def mAsgT (g : D → Env → Option Env) (m : M D) : M Fl := bnd m fun d => bnd (tgt (g d)) fun _ => ret .nx
theorem rs_asgT {t : TE} {tg : TG} {m : M D} {g : D → Env → Option Env} (h : RE K A W t m) (hg : RG K A tg g) : RS K A W (tAsg t tg) (mAsgT g m) := by
  intro X σ ρ G L E gd p
  refine h X σ ρ G L _ gd (p.seqE fun d ρ1 G1 L1 s1 g1 p1 v hv => ?_)
  refine hg X σ ρ1 G1 L1 v d _ g1 hv ?_
  simp only [bnd, tgt] at p1
  cases e : g d ρ1 with
  | none => rw [e] at p1; exact p1.elim
  | some ρ2 => rw [e] at p1; exact fun σ2 G2 L2 s2 g2 => p1 σ2 G2 L2 s2 g2
/-! ### what is walked -/
def asL : D → Re (List D)
  | .lst ds => .ok ds
  | _ => .bad
def asT : D → Re (List D)
  | .tup ds => .ok ds
  | _ => .bad
def asQ : D → Re (List D)
  | .lst ds => .ok ds
  | .tup ds => .ok ds
  | _ => .bad
theorem it_list {a : Addr} {xs : List V} {ds : List D} (hs : SqL K G a xs) (hd : IsL K G xs ds) : ItOk K (Itl K a) ds G := by
  intro i G2 L2 sm f
  have h2 : SqL K (upds K G2 L2) a xs := Same.seq (sm.trans f.same) hs
  refine ⟨fun d e => ?_, fun hl => ⟨xs, h2, by rw [hd.length]; exact hl⟩⟩
  obtain ⟨v, e1, hv⟩ := hd.get e
  refine ⟨⟨xs, v, h2, e1⟩, fun x H' hy => ?_⟩
  obtain ⟨rfl, hx⟩ := hy
  have e2 := hx xs h2
  rw [e1] at e2
  cases e2
  exact ⟨G2, rfl, Same.refl _, f, hv.mono sm⟩
theorem it_tup {a : Addr} {xs : List V} {ds : List D} (hs : SqT K G a xs) (hd : IsL K G xs ds) : ItOk K (Itt K a) ds G := by
  intro i G2 L2 sm f
  have h2 : SqT K (upds K G2 L2) a xs := Sx.Same.seqT (sm.trans f.same) hs
  refine ⟨fun d e => ?_, fun hl => ⟨xs, h2, by rw [hd.length]; exact hl⟩⟩
  obtain ⟨v, e1, hv⟩ := hd.get e
  refine ⟨⟨xs, v, h2, e1⟩, fun x H' hy => ?_⟩
  obtain ⟨rfl, hx⟩ := hy
  have e2 := hx xs h2
  rw [e1] at e2
  cases e2
  exact ⟨G2, rfl, Same.refl _, f, hv.mono sm⟩
def mItL (m : M D) : M (List D) := bnd m fun d => lift (asL d)
def mItT (m : M D) : M (List D) := bnd m fun d => lift (asT d)
def mItQ (m : M D) : M (List D) := bnd m fun d => lift (asQ d)
theorem ri_list {t : TE} {m : M D} (h : RE K A W t m) : RI K A W (iList K t) (mItL m) := by
  intro X σ ρ G L R g p
  refine h X σ ρ G L _ g (p.seq fun d ρ1 G1 L1 s1 g1 p1 v hv => ?_)
  cases hv with
  | @lst a xs ds hs hd => exact ⟨a, rfl, ⟨xs, Same.seq g1.fr.same hs⟩, p1.at_ g1 _ (it_list hs hd)⟩
  | _ => exact p1.elim
theorem ri_tup {t : TE} {m : M D} (h : RE K A W t m) : RI K A W (iTup K t) (mItT m) := by
  intro X σ ρ G L R g p
  refine h X σ ρ G L _ g (p.seq fun d ρ1 G1 L1 s1 g1 p1 v hv => ?_)
  cases hv with
  | @tup a xs ds hs hd => exact ⟨a, rfl, ⟨xs, Sx.Same.seqT g1.fr.same hs⟩, p1.at_ g1 _ (it_tup hs hd)⟩
  | _ => exact p1.elim
def iSeq (K : PySem.W.Frag) (tl : TE) : TI := fun σ H R => tl σ H fun x H1 => ∃ a, x = .ref a ∧ (((∃ xs, SqL K H1 a xs) ∧ R (Itl K a) H1) ∨ ((∃ xs, SqT K H1 a xs) ∧ R (Itt K a) H1))
theorem pi_seq {X : Cx} {tg l : Expr} {tl : TE} (hl : PE X l tl) : PI X tg l (iSeq X.K tl) := by
  refine ⟨fun pins s σ H R I h => ?_⟩
  refine thn (hl.run pins s σ H _ I h) fun v s1 ⟨x, H1, I1, r1, q1⟩ => ?_
  obtain ⟨a, e, q1⟩ := q1
  subst e
  rcases q1 with ⟨⟨xs, hq⟩, q⟩ | ⟨⟨xs, hq⟩, q⟩
  · cases r1
    obtain ⟨its, rv, p, hz⟩ := I1.list hq
    refine wpAny_pyIter_list p.isList ?_
    refine ⟨s1.heap.objs.size, [s1.heap.objs.size], _, _, H1, rfl, I1.kept (t' := s1.toks) fun b o e => Heap.get?_push_of_some _ e, turn_list a _, ⟨_, Heap.get?_push_size _ rfl, rfl, rfl⟩, fun b hb => ?_, q⟩
    have e : b = s1.heap.objs.size := by simpa using hb
    subst e
    exact I1.fpOk (Nat.le_refl _) (I1.hok.fresh (Nat.le_refl _))
  · cases r1
    obtain ⟨its, rv, p, hz⟩ := I1.tuple hq
    refine wpAny_pyIter_tuple (show s1.heap.IsTuple a its.toArray from p) ?_
    refine ⟨s1.heap.objs.size, [s1.heap.objs.size], _, _, H1, rfl, I1.kept (t' := s1.toks) fun b o e => Heap.get?_push_of_some _ e, turn_tuple a _, ⟨_, Heap.get?_push_size _ rfl, rfl, rfl⟩, fun b hb => ?_, q⟩
    have e : b = s1.heap.objs.size := by simpa using hb
    subst e
    exact I1.fpOk (Nat.le_refl _) (I1.hok.fresh (Nat.le_refl _))
theorem ri_seq {t : TE} {m : M D} (h : RE K A W t m) : RI K A W (iSeq K t) (mItQ m) := by
  intro X σ ρ G L R g p
  refine h X σ ρ G L _ g (p.seq fun d ρ1 G1 L1 s1 g1 p1 v hv => ?_)
  cases hv with
  | @lst a xs ds hs hd => exact ⟨a, rfl, .inl ⟨⟨xs, Same.seq g1.fr.same hs⟩, p1.at_ g1 _ (it_list hs hd)⟩⟩
  | @tup a xs ds hs hd => exact ⟨a, rfl, .inr ⟨⟨xs, Sx.Same.seqT g1.fr.same hs⟩, p1.at_ g1 _ (it_tup hs hd)⟩⟩
  | _ => exact p1.elim
def rngL (lo : Int) (n : Nat) : List D := (List.range n).map fun (i : Nat) => .int (lo + i)
def rngC (lo c : Int) (n : Nat) : List D := (List.range n).map fun (i : Nat) => .int (lo + i * c)
theorem rngL_at {lo : Int} {n i : Nat} : (rngL lo n)[i]? = if i < n then some (.int (lo + i)) else none := by
  unfold rngL
  by_cases h : i < n
  · rw [if_pos h]; simp [h]
  · rw [if_neg h]; simp; omega
theorem it_rng {lo : Int} {n : Nat} : ItOk K (Itr lo n) (rngL lo n) G := by
  intro i G2 L2 sm f
  refine ⟨fun d e => ?_, fun hl => by show n ≤ i; simpa [rngL] using hl⟩
  rw [rngL_at] at e
  by_cases h : i < n
  · rw [if_pos h] at e
    cases e
    refine ⟨h, fun x H' hy => ?_⟩
    obtain ⟨rfl, rfl⟩ := hy
    exact ⟨G2, rfl, Same.refl _, f, .int _⟩
  · rw [if_neg h] at e; cases e
theorem it_rngC {lo c : Int} {n : Nat} : ItOk K (Itc lo c n) (rngC lo c n) G := by
  intro i G2 L2 sm f
  refine ⟨fun d e => ?_, fun hl => by show n ≤ i; simpa [rngC] using hl⟩
  by_cases h : i < n
  · have : (rngC lo c n)[i]? = some (.int (lo + i * c)) := by unfold rngC; simp [h]
    rw [this] at e
    cases e
    refine ⟨h, fun x H' hy => ?_⟩
    obtain ⟨rfl, rfl⟩ := hy
    exact ⟨G2, rfl, Same.refl _, f, .int _⟩
  · have : (rngC lo c n)[i]? = none := by unfold rngC; simp; omega
    rw [this] at e; cases e
noncomputable def small (i : Int) : Bool := hd (-(2 ^ 62) ≤ i ∧ i < 2 ^ 62)
theorem small_iff (i : Int) : small i = true ↔ (-(2 ^ 62) ≤ i ∧ i < 2 ^ 62) := hd_iff _
theorem small_of {i : Int} (h1 : -(2 ^ 62) ≤ i) (h2 : i < 2 ^ 62) : small i = true := hd_pos ⟨h1, h2⟩
noncomputable def rng1 : List D → Re (List D)
  | [.int j] => ib (small j) (.ok (rngL 0 j.toNat)) .bad
  | _ => .bad
noncomputable def rng2 : List D → Re (List D)
  | [.int i, .int j] => ib (small i && small j) (.ok (rngL i (j - i).toNat)) .bad
  | _ => .bad
noncomputable def rng3 : List D → Re (List D)
  | [.int i, .int j, .int c] => ib ((small i && small j) && decide (c = -1)) (.ok (rngC i (-1) (i - j).toNat)) .bad
  | _ => .bad
def mItA (g : List D → Re (List D)) (m : M (List D)) : M (List D) := bnd m fun ds => lift (g ds)
theorem ri_rng1 {t : TA} {m : M (List D)} (h : RA K A W t m) : RI K A W (iRng1 t) (mItA rng1 m) := by
  intro X σ ρ G L R g p
  refine h X σ ρ G L _ g (p.seq fun ds ρ1 G1 L1 s1 g1 p1 vs hvs => ?_)
  match ds, vs, hvs, p1 with
  | [.int j], [_], .cons (.int _) .nil, p1 =>
    simp only [lift, rng1] at p1
    by_cases hs : small j = true
    · simp only [ib_pos hs] at p1
      have hs2 := hs
      rw [small_iff] at hs2
      exact ⟨j, rfl, hs2.1, hs2.2, p1.at_ g1 _ it_rng⟩
    · simp only [ib_neg hs] at p1; exact p1.elim
  | [], _, _, p1 => exact p1.elim
  | .non :: _, _, _, p1 => exact p1.elim
  | .bl _ :: _, _, _, p1 => exact p1.elim
  | .str _ :: _, _, _, p1 => exact p1.elim
  | .tup _ :: _, _, _, p1 => exact p1.elim
  | .lst _ :: _, _, _, p1 => exact p1.elim
  | .ins _ _ :: _, _, _, p1 => exact p1.elim
  | .dic :: _, _, _, p1 => exact p1.elim
  | .int _ :: _ :: _, _, _, p1 => exact p1.elim
theorem rng2_ok {ds es : List D} (h : rng2 ds = .ok es) : ∃ i j : Int, ds = [.int i, .int j] ∧ small i = true ∧ small j = true ∧ es = rngL i (j - i).toNat := by
  unfold rng2 at h
  split at h
  · rename_i i j
    by_cases q : (small i && small j) = true
    · rw [ib_pos q] at h
      simp only [Bool.and_eq_true] at q
      cases h
      exact ⟨_, _, rfl, q.1, q.2, rfl⟩
    · rw [ib_neg q] at h; cases h
  · cases h
theorem rng3_ok {ds es : List D} (h : rng3 ds = .ok es) : ∃ i j : Int, ds = [.int i, .int j, .int (-1)] ∧ small i = true ∧ small j = true ∧ es = rngC i (-1) (i - j).toNat := by
  unfold rng3 at h
  split at h
  · rename_i i j c
    by_cases q : ((small i && small j) && decide (c = -1)) = true
    · rw [ib_pos q] at h
      simp only [Bool.and_eq_true, decide_eq_true_eq] at q
      obtain ⟨⟨h1, h2⟩, rfl⟩ := q
      cases h
      exact ⟨_, _, rfl, h1, h2, rfl⟩
    · rw [ib_neg q] at h; cases h
  · cases h
/-- a pure step that neither raises -/
def noX {α : Type} (r : Re α) : Prop := ∀ C x, r ≠ .ex C x
theorem PO.lift {α : Type} {k : α → Hp → Cells → Prop} {r : Re α} (p : PO K A X W σ G k (lift r ρ)) (n : noX r) : ∃ a, r = .ok a ∧ PO K A X W σ G k (.ok a ρ) := by
  cases r with
  | ok a => exact ⟨a, rfl, p⟩
  | ex C x => exact absurd rfl (n C x)
  | bad => exact p.elim
theorem nx_ib {α : Type} {b : Bool} {a : α} : noX (ib b (Re.ok a) .bad) := fun C x => by cases b <;> simp [ib]
theorem nx_rng2 (ds : List D) : noX (rng2 ds) := by unfold rng2; split; exact nx_ib; exact fun C x => by simp
theorem nx_rng3 (ds : List D) : noX (rng3 ds) := by unfold rng3; split; exact nx_ib; exact fun C x => by simp
theorem IsL.ints_eq : ∀ {vs : List V} {ns : List Int}, IsL K G vs (ns.map D.int) → vs = ns.map V.int
  | _, [], .nil => rfl
  | _, n :: ns, .cons h hs => by
    cases h
    rw [IsL.ints_eq hs]
    rfl
theorem ri_rng2 {t : TA} {m : M (List D)} (h : RA K A W t m) : RI K A W (iRng2 t) (mItA rng2 m) := by
  intro X σ ρ G L R g p
  refine h X σ ρ G L _ g (p.seq fun ds ρ1 G1 L1 s1 g1 p1 vs hvs => ?_)
  obtain ⟨es, e, p1⟩ := p1.lift (nx_rng2 ds)
  obtain ⟨i, j, rfl, h1, h2, rfl⟩ := rng2_ok e
  have ev : vs = [.int i, .int j] := IsL.ints_eq (ns := [i, j]) hvs
  rw [small_iff] at h1 h2
  exact ⟨i, j, ev, ⟨h1.1, h1.2, h2.1, h2.2⟩, p1.at_ g1 _ it_rng⟩
theorem ri_rng3 {t : TA} {m : M (List D)} (h : RA K A W t m) : RI K A W (iRng3 t) (mItA rng3 m) := by
  intro X σ ρ G L R g p
  refine h X σ ρ G L _ g (p.seq fun ds ρ1 G1 L1 s1 g1 p1 vs hvs => ?_)
  obtain ⟨es, e, p1⟩ := p1.lift (nx_rng3 ds)
  obtain ⟨i, j, rfl, h1, h2, rfl⟩ := rng3_ok e
  have ev : vs = [.int i, .int j, .int (-1)] := IsL.ints_eq (ns := [i, j, -1]) hvs
  rw [small_iff] at h1 h2
  exact ⟨i, j, -1, _, ev, RgC.neg h1.1 h1.2 h2.1 h2.2, p1.at_ g1 _ it_rngC⟩
/-- reversed(list) -/
def revA : List D → Re (List D)
  | [.lst ds] => .ok ds.reverse
  | _ => .bad
theorem nx_revA (ds : List D) : noX (revA ds) := fun C x => by unfold revA; split <;> simp
theorem it_rev {a : Addr} {xs : List V} {ds : List D} (hs : SqL K G a xs) (hd : IsL K G xs ds) : ItOk K (Itv K a xs.length) ds.reverse G := by
  intro i G2 L2 sm f
  have h2 : SqL K (upds K G2 L2) a xs := Same.seq (sm.trans f.same) hs
  have hl := hd.length
  refine ⟨fun d e => ?_, fun q => by show xs.length ≤ i; simpa [hl] using q⟩
  have hi : i < ds.length := by
    have := (List.getElem?_eq_some_iff.mp e).1
    simpa using this
  rw [List.getElem?_reverse hi] at e
  obtain ⟨v, e1, hv⟩ := hd.get e
  rw [← hl] at e1
  refine ⟨⟨by omega, xs, v, h2, e1⟩, fun x H' hy => ?_⟩
  obtain ⟨rfl, hx⟩ := hy
  have e2 := hx xs h2
  rw [e1] at e2
  cases e2
  exact ⟨G2, rfl, Same.refl _, f, hv.mono sm⟩
theorem ri_rev {t : TA} {m : M (List D)} (h : RA K A W t m) : RI K A W (iRev K t) (mItA revA m) := by
  intro X σ ρ G L R g p
  refine h X σ ρ G L _ g (p.seq fun ds ρ1 G1 L1 s1 g1 p1 vs hvs => ?_)
  obtain ⟨es, e, p1⟩ := p1.lift (nx_revA ds)
  unfold revA at e
  split at e
  · cases e
    match vs, hvs with
    | [_], .cons (.lst (a := a) (xs := xs) hs hd) .nil => exact ⟨a, xs, rfl, Same.seq g1.fr.same hs, p1.at_ g1 _ (it_rev hs hd)⟩
  · cases e
/-- enumerate(list) -/
def enumL (ds : List D) : List D := (List.range ds.length).map fun (i : Nat) => .tup [.int i, ds.getD i .non]
def enumA : List D → Re (List D)
  | [.lst ds] => .ok (enumL ds)
  | _ => .bad
theorem nx_enumA (ds : List D) : noX (enumA ds) := fun C x => by unfold enumA; split <;> simp
theorem it_enum {a : Addr} {xs : List V} {ds : List D} (hs : SqL K G a xs) (hd : IsL K G xs ds) : ItOk K (Ite K a) (enumL ds) G := by
  intro i G2 L2 sm f
  have h2 : SqL K (upds K G2 L2) a xs := Same.seq (sm.trans f.same) hs
  have hl := hd.length
  refine ⟨fun d e => ?_, fun q => ⟨xs, h2, by simpa [enumL, hl] using q⟩⟩
  have hi : i < ds.length := by
    have := (List.getElem?_eq_some_iff.mp e).1
    simpa [enumL] using this
  have e0 : d = .tup [.int i, ds[i]] := by
    unfold enumL at e
    simp [hi] at e
    exact e.symm
  subst e0
  obtain ⟨v, e1, hv⟩ := hd.get (List.getElem?_eq_getElem hi)
  refine ⟨⟨xs, v, h2, e1⟩, fun x H' hy => ?_⟩
  obtain ⟨T, y, rfl, n, rfl, hx⟩ := hy
  have e2 := hx xs h2
  rw [e1] at e2
  cases e2
  obtain ⟨n1, n2⟩ := free_of n
  have sm2 : Same G2 (upd G2 T (.tup [.int (i : Nat), v])) := Sx.Same.updR (Same.refl _) n1
  exact ⟨_, upds_new n2, sm2, f.new n2, .tup (SqT.of upd_same) (.cons (.int _) (.cons (hv.mono (sm.trans sm2)) .nil))⟩
theorem ri_enum {t : TA} {m : M (List D)} (h : RA K A W t m) : RI K A W (iEnum K t) (mItA enumA m) := by
  intro X σ ρ G L R g p
  refine h X σ ρ G L _ g (p.seq fun ds ρ1 G1 L1 s1 g1 p1 vs hvs => ?_)
  obtain ⟨es, e, p1⟩ := p1.lift (nx_enumA ds)
  unfold enumA at e
  split at e
  · cases e
    match vs, hvs with
    | [_], .cons (.lst (a := a) (xs := xs) hs hd) .nil => exact ⟨a, xs, rfl, Same.seq g1.fr.same hs, p1.at_ g1 _ (it_enum hs hd)⟩
  · cases e
/-- the signs of a text -/
def signs : D → Re (List D)
  | .str x => .ok (x.cps.toList.map fun c => .str ⟨#[c]⟩)
  | _ => .bad
theorem nx_signs (d : D) : noX (signs d) := fun C x => by unfold signs; split <;> simp
def mItS (m : M D) : M (List D) := bnd m fun d => lift (signs d)
theorem ri_str {t : TE} {m : M D} (h : RE K A W t m) : RI K A W (iStr t) (mItS m) := by
  intro X σ ρ G L R g p
  refine h X σ ρ G L _ g (p.seq fun d ρ1 G1 L1 s1 g1 p1 v hv => ?_)
  cases hv with
  | str x =>
    refine ⟨x, rfl, p1.at_ g1 _ fun i G2 L2 sm f => ⟨fun d e => ?_, fun q => by show x.cps.size ≤ i; simpa using q⟩⟩
    rw [List.getElem?_map, Array.getElem?_toList] at e
    cases ec : x.cps[i]? with
    | none => rw [ec] at e; cases e
    | some c =>
      rw [ec] at e
      cases e
      refine ⟨by show i < x.cps.size; exact (Array.getElem?_eq_some_iff.mp ec).1, fun y H' hy => ?_⟩
      obtain ⟨rfl, c', ec', rfl⟩ := hy
      rw [ec] at ec'
      cases ec'
      exact ⟨G2, rfl, Same.refl _, f, .str _⟩
  | _ => exact p1.elim
end
end Mi

namespace Mi
open PySem PySem.Spec PyProof.Rows L2
open Sx (Tn Fx btys tCallW tMethW tMakeW)
section
variable {K : PySem.W.Frag} [Rows K] {A : Anc} {X : Cells} {W : WX} {σ : L2.St} {ρ : Env} {G G' : Hp} {L : Cells}
/-! ### further cells -/
theorem Rl.tail : ∀ {σ : L2.St} {ρ : Env} {L : Cells}, Rl K G A X σ ρ L → ∃ L0, L = L0 ++ X ∧ ∀ X', Rl K G A X' σ ρ (L0 ++ X')
  | _, _, _, .nil => ⟨[], rfl, fun X' => .nil⟩
  | _, _, _, .cons (c := c) h hs => by
    obtain ⟨L0, rfl, k⟩ := Rl.tail hs
    exact ⟨c ++ L0, by rw [List.append_assoc], fun X' => by rw [List.append_assoc]; exact .cons h (k X')⟩
theorem Good.addX {p : Addr} {ys : List V} (g : Good K G A X σ ρ L) (n1 : G p = none) (n2 : p ∉ ads L) : ∃ L', upd (upds K G L) p (.lst ys) = upds K G L' ∧ Good K G A ((p, .ls ys) :: X) σ ρ L' := by
  obtain ⟨L0, rfl, k⟩ := g.rl.tail
  have f1 : Frs G [(p, .ls ys)] := Frs.ls frs_nil n1 (fun z => by cases z)
  have f2 : Frs (upds K G [(p, .ls ys)]) (L0 ++ X) := g.fr.new n2
  have f3 := mid_frs f1 f2
  refine ⟨L0 ++ ([(p, .ls ys)] ++ X), ?_, ⟨k _, f3⟩⟩
  rw [(mid_eq f3).1, upds_new n2]
  rfl
theorem Good.delX {p : Addr} {ys : List V} (g : Good K G A ((p, .ls ys) :: X) σ ρ L) : ∃ L', upds K G L = upd (upds K G L') p (.lst ys) ∧ Good K G A X σ ρ L' ∧ G p = none ∧ p ∉ ads L' := by
  obtain ⟨L0, rfl, k⟩ := g.rl.tail
  have fr : Frs G (L0 ++ ([(p, .ls ys)] ++ X)) := g.fr
  obtain ⟨q1, q2⟩ := mid_eq (K := K) fr
  have gp : G p = none := fr.no p (by rw [ads_app, ads_app]; simp [ads, ad1])
  have np : p ∉ ads (L0 ++ X) := fun z => by
    have := q2.no p z
    simp only [upds, put1] at this
    rw [upd_same] at this
    cases this
  have f2 : Frs G (L0 ++ X) := ⟨q2.nd, fun a ha => by
    have := q2.no a ha
    simp only [upds, put1] at this
    rw [upd_ne fun (z : a = p) => np (z ▸ ha)] at this
    exact this⟩
  refine ⟨L0 ++ X, ?_, ⟨k X, f2⟩, gp, np⟩
  rw [upds_new np]
  exact q1
theorem Good.setX {p : Addr} {ys : List V} (g : Good K G A ((p, .ls ys) :: X) σ ρ L) : upds K G L p = some (.lst ys) ∧ ∀ ys', ∃ L', upd (upds K G L) p (.lst ys') = upds K G L' ∧ Good K G A ((p, .ls ys') :: X) σ ρ L' := by
  obtain ⟨L', e, g', n1, n2⟩ := g.delX
  refine ⟨by rw [e]; exact upd_same, fun ys' => ?_⟩
  obtain ⟨L2, e2, g2⟩ := g'.addX (ys := ys') n1 n2
  exact ⟨L2, by rw [e, Sx.upd_upd, e2], g2⟩
/-! ### [e for x in l if t] -/
abbrev wn : WX := fun _ _ _ _ => False
def noEx {α : Type} (m : M α) (ρ : Env) : Out α := match m ρ with
  | .ok a ρ' => .ok a ρ'
  | _ => .bad
def clr (v : Nat) (ρ : Env) : Out Unit := match ρ[v]? with
  | some (.pl _) => .ok () (ρ.set v .un)
  | some .un => .ok () (ρ.set v .un)
  | _ => .bad
theorem clr_ok {v : Nat} {ρ ρ' : Env} (h : clr v ρ = .ok () ρ') : (∃ s, ρ[v]? = some s ∧ (s = .un ∨ ∃ d, s = .pl d)) ∧ ρ' = ρ.set v .un := by
  unfold clr at h
  split at h
  · rename_i d e; cases h; exact ⟨⟨_, e, .inr ⟨d, rfl⟩⟩, rfl⟩
  · rename_i e; cases h; exact ⟨⟨_, e, .inl rfl⟩, rfl⟩
  · cases h
theorem Good.clr {v : Nat} {ρ' : Env} (g : Good K G A X σ ρ L) (h : clr v ρ = .ok () ρ') : Good K G A X (σ.set v none) ρ' L ∧ ρ'[v]? = some .un := by
  obtain ⟨⟨s, e, hs⟩, rfl⟩ := clr_ok h
  have hl : v < ρ.length := (List.getElem?_eq_some_iff.mp e).1
  refine ⟨?_, List.getElem?_set_self hl⟩
  obtain ⟨v0, c, L1, L2, e1, s1, rfl, k⟩ := g.rl.focus e
  have hc : c = [] := by
    rcases hs with rfl | ⟨d, rfl⟩
    · cases s1; rfl
    · cases s1; rfl
  subst hc
  exact ⟨k G none .un [] (Same.refl _) .un, g.fr⟩
def lcTurn (v : Nat) (t : M Bool) (e : M D) (d : D) : M (Option D) := bnd (tgt (gV v d)) fun _ => bnd (noEx t) fun b => ib b (bnd (noEx e) fun y => bnd (clr v) fun _ => ret (some y)) (bnd (clr v) fun _ => ret none)
def lcL (f : D → M (Option D)) : List D → M (List D)
  | [] => ret []
  | d :: ds => bnd (f d) fun o => bnd (lcL f ds) fun ys => ret (o.toList ++ ys)
def putS (v : Nat) (s : Option Sl) (ρ : Env) : Out Unit := match s with
  | some s => .ok () (ρ.set v s)
  | none => .bad
noncomputable def mLc (v : Nat) (it : M (List D)) (t : M Bool) (e : M D) : M (List D) := bnd it fun ds => hf (ds.length < 1000000) (fun ρ => bnd (clr v) (fun _ => bnd (noEx (lcL (lcTurn v t e) ds)) fun ys => bnd (putS v ρ[v]?) fun _ => ret ys) ρ) fail
theorem bnd_ok {α β : Type} {m : M α} {f : α → M β} {b : β} {ρ ρ' : Env} (h : bnd m f ρ = .ok b ρ') : ∃ a ρ1, m ρ = .ok a ρ1 ∧ f a ρ1 = .ok b ρ' := by
  unfold bnd at h
  cases e : m ρ with
  | ok a ρ1 => rw [e] at h; exact ⟨a, ρ1, rfl, h⟩
  | ex C x ρ1 => rw [e] at h; cases h
  | bad => rw [e] at h; cases h
theorem noEx_ok {α : Type} {m : M α} {a : α} {ρ ρ' : Env} (h : noEx m ρ = .ok a ρ') : m ρ = .ok a ρ' := by
  unfold noEx at h
  cases e : m ρ with
  | ok b ρ1 => rw [e] at h; exact h
  | ex C x ρ1 => rw [e] at h; cases h
  | bad => rw [e] at h; cases h
theorem set_back {α : Type} {l : List α} {v : Nat} {x y : α} (h : l[v]? = some y) : (l.set v x).set v y = l := by
  apply List.ext_getElem?
  intro j
  by_cases q : j = v
  · subst q
    have hl : j < l.length := (List.getElem?_eq_some_iff.mp h).1
    rw [List.getElem?_set_self (by simpa using hl), h]
  · rw [List.getElem?_set_ne (Ne.symm q), List.getElem?_set_ne (Ne.symm q)]
theorem rn_lc {v : Nat} {wi : TI} {tt : TT} {te : TE} {it : M (List D)} {t : M Bool} {e : M D} (hi : RI K A W wi it) (ht : RT K A wn tt t) (he : RE K A wn te e) : RN K A W (tLc wi (gName v) tt te [v]) (mLc v it t e) := by
  intro X σ ρ G L Q gd p
  refine hi X σ ρ G L _ gd (p.seq fun ds ρ1 G1 L1 s1 g1 p1 J hJ => ?_)
  by_cases hz : ds.length < 1000000
  · rw [hf_pos hz] at p1
    -- the whole run
    cases ec : clr v ρ1 with
    | ex C x ρ' => unfold clr at ec; split at ec <;> cases ec
    | bad => simp only [bnd, ec] at p1; exact p1.elim
    | ok u ρw =>
      simp only [bnd, ec] at p1
      cases el : noEx (lcL (lcTurn v t e) ds) ρw with
      | ex C x ρ' => unfold noEx at el; split at el <;> cases el
      | bad => simp only [el] at p1; exact p1.elim
      | ok zs ρz =>
        simp only [el] at p1
        have el := noEx_ok el
        obtain ⟨⟨s0, e0, hs0⟩, _⟩ := clr_ok ec
        obtain ⟨gw, uw⟩ := g1.clr ec
        rw [e0] at p1
        simp only [putS] at p1
        intro Dl hD
        obtain ⟨n1, n2⟩ := free_of hD
        obtain ⟨Lw, ew, gw2⟩ := gw.addX (ys := []) n1 n2
        refine ⟨fun i m H => ∃ ρ G L ys ed zr, H = upds K G L ∧ Good K G A ((Dl, .ls ys) :: X) (σ.set v none) ρ L ∧ Same G1 G ∧ i ≤ ds.length ∧ m = ds.length - i ∧ ys.length ≤ i ∧ IsL K G ys ed ∧ ρ[v]? = some .un ∧ lcL (lcTurn v t e) (ds.drop i) ρ = .ok zr ρz ∧ ed ++ zr = zs,
          ⟨ds.length, ρw, G1, Lw, [], [], zs, ew, gw2, Same.refl _, Nat.zero_le _, rfl, Nat.le_refl _, .nil, uw, el, rfl⟩, ?_⟩
        rintro i m H ⟨ρ, G, L, ys, ed, zr, rfl, g, sm, hile, rfl, hyl, hy, un, el, ez⟩
        obtain ⟨q1, q2⟩ := hJ i G L sm g.fr
        by_cases hl : i < ds.length
        · right
          have ed' : ds.drop i = ds[i] :: ds.drop (i + 1) := List.drop_eq_getElem_cons hl
          rw [ed'] at el
          obtain ⟨o, ρ2, et, el⟩ := bnd_ok el
          obtain ⟨zr', ρ3, el2, er⟩ := bnd_ok el
          cases er
          obtain ⟨_, ρa, eg, et⟩ := bnd_ok et
          obtain ⟨b, ρb, etb, et⟩ := bnd_ok et
          have etb := noEx_ok etb
          obtain ⟨go, yl⟩ := q1 ds[i] (List.getElem?_eq_getElem hl)
          refine ⟨go, fun H => ∃ ρ G L ys ed zr, H = upds K G L ∧ Good K G A ((Dl, .ls ys) :: X) (σ.set v none) ρ L ∧ Same G1 G ∧ ys.length ≤ i + 1 ∧ IsL K G ys ed ∧ ρ[v]? = some .un ∧ lcL (lcTurn v t e) (ds.drop (i + 1)) ρ = .ok zr ρz ∧ ed ++ zr = zs,
            fun H' ⟨ρ, G, L, ys, ed, zr, h1, h2, h3, h4, h5, h6, h7, h8⟩ => ⟨ds.length - (i + 1), by omega, ρ, G, L, ys, ed, zr, h1, h2, h3, by omega, rfl, h4, h5, h6, h7, h8⟩, fun x H' hyd => ?_⟩
          obtain ⟨G3, rfl, s3, f3, hx⟩ := yl x H' hyd
          have g3 := g.mono s3 f3
          -- the target
          have ea : okAsg ρ[v]? = true ∧ ρa = ρ.set v (.pl ds[i]) := by
            simp only [tgt, gV] at eg
            by_cases q : okAsg ρ[v]? = true
            · rw [ib_pos q] at eg; cases eg; exact ⟨q, rfl⟩
            · rw [ib_neg q] at eg; cases eg
          obtain ⟨oa, rfl⟩ := ea
          obtain ⟨G4, L4, s4, e4, g4⟩ := g3.sto oa hx
          show wipe ((wipe σ [v]).set v (some x)) [v] = wipe σ [v] ∧ _
          refine ⟨?_, ?_⟩
          · show ((σ.set v none).set v (some x)).set v none = σ.set v none
            rw [List.set_set, List.set_set]
          · show tt ((σ.set v none).set v (some x)) _ _
            rw [e4]
            refine ht _ _ _ G4 L4 _ g4 ?_
            rw [etb]
            intro G5 L5 s5 g5
            cases b with
            | true =>
              simp only [ib_t] at et
              obtain ⟨y, ρc, ee, et⟩ := bnd_ok et
              have ee := noEx_ok ee
              obtain ⟨_, ρd, eclr, et⟩ := bnd_ok et
              cases et
              show te _ _ _
              refine he _ _ _ G5 L5 _ g5 ?_
              rw [ee]
              intro G6 L6 s6 g6 w hw
              obtain ⟨hD6, hset⟩ := g6.setX
              refine ⟨ys, hD6, by rw [sizeLine_eq]; omega, ?_⟩
              obtain ⟨L7, e7, g7⟩ := hset (ys ++ [w])
              obtain ⟨g8, u8⟩ := g7.clr eclr
              have es : ((wipe σ [v]).set v (some x)).set v none = σ.set v none := by show ((σ.set v none).set v (some x)).set v none = σ.set v none; rw [List.set_set, List.set_set]
              rw [es] at g8
              refine ⟨_, G6, L7, ys ++ [w], ed ++ [y], zr', e7, g8, (sm.trans (s3.trans (s4.trans (s5.trans s6)))), by simp; omega, ((hy.mono (s3.trans (s4.trans (s5.trans s6)))).snoc hw), u8, el2, ?_⟩
              rw [← ez]
              simp
            | false =>
              simp only [ib_f] at et
              obtain ⟨_, ρd, eclr, et⟩ := bnd_ok et
              cases et
              obtain ⟨g8, u8⟩ := g5.clr eclr
              rw [List.set_set, List.set_set] at g8
              exact ⟨_, G5, L5, ys, ed, zr', rfl, g8, sm.trans (s3.trans (s4.trans s5)), by omega, hy.mono (s3.trans (s4.trans s5)), u8, el2, by rw [← ez]; rfl⟩
        · left
          refine ⟨q2 (by omega), ?_⟩
          rw [List.drop_eq_nil_of_le (by omega)] at el
          cases el
          have ez : ed = zs := by simpa using ez
          subst ez
          obtain ⟨L2, e2, g2, m1, m2⟩ := g.delX
          rw [e2]
          -- the slot comes back
          obtain ⟨v0, c, La, Lb, e1, sr, rfl, k⟩ := g1.rl.focus e0
          have hc : c = [] := by
            rcases hs0 with rfl | ⟨d, rfl⟩
            · cases sr; rfl
            · cases sr; rfl
          subst hc
          obtain ⟨v1, c1, Lc, Ld, e3, sr1, rfl, k1⟩ := g2.rl.focus un
          have hc1 : c1 = [] := by cases sr1; rfl
          subst hc1
          have r := k1 G v0 s0 [] (Same.refl _) (sr.mono sm)
          rw [set_back e1] at r
          exact p1 G (Lc ++ ([] ++ Ld)) sm ⟨r, g2.fr⟩ Dl ys m1 m2 hy
  · rw [hf_neg hz] at p1; exact p1.elim
end
end Mi

namespace Mi
open PySem PySem.Spec PyProof.Rows L2
open Sx (Tn Fx btys tCallW tMethW tMakeW Fr wx tMkE)
/-! ### promises -/
abbrev MFn := List D → Re Rv
section
variable (K : PySem.W.Frag) [Rows K]
def PostF (H : Hp) (Q : VK) (E : XK) : Re Rv → Prop
  | .ok (.pl d) => ∀ v H2, Same H H2 → Is K H2 v d → Q v H2
  | .ok (.nw ds) => ∀ p ys G2, Same H G2 → G2 p = none → IsL K G2 ys ds → Q (.ref p) (upd G2 p (.lst ys))
  | .ex C x => ∀ od H2, Same H H2 → XIs K H2 C x od → E (.ref (He.ga K C)) od H2
  | .bad => False
def spM (m : MFn) : Sp := fun vs H Q E => ∃ ds, IsL K H vs ds ∧ PostF K H Q E (m ds)
/-- the first argument a list by reference -/
abbrev MFr := List D → List D → Option (Rv × List D)
def PostR (G : Hp) (p : Addr) (Q : VK) : Option (Rv × List D) → Prop
  | some (.pl d, c) => ∀ v G2 ys, Same G G2 → G2 p = none → IsL K G2 ys c → Is K G2 v d → Q v (upd G2 p (.lst ys))
  | some (.nw es, c) => ∀ q zs G2 ys, Same G G2 → G2 p = none → G2 q = none → q ≠ p → IsL K G2 ys c → IsL K G2 zs es → Q (.ref q) (upd (upd G2 p (.lst ys)) q (.lst zs))
  | none => False
def spR (m : MFr) : Sp := fun vs H Q E => ∃ p ys c vs' ds G, vs = .ref p :: vs' ∧ H = upd G p (.lst ys) ∧ G p = none ∧ IsL K G ys c ∧ IsL K G vs' ds ∧ PostR K G p Q (m c ds)
/-- __init__ -/
abbrev MFi := List D → Re (List (Str × D))
def PostI (C : Str) (a : Addr) (G : Hp) (Q : VK) (E : XK) : Re (List (Str × D)) → Prop
  | .ok gs => ∀ dx fs G', Same G G' → Frs G' [(a, .is C dx fs)] → IsF K G' fs gs → (∀ p ∈ gs, NoAttr K (He.ga K C) p.1) → Q .non (upds K G' [(a, .is C dx fs)])
  | .ex C' x => ∀ od H', Same G H' → XIs K H' C' x od → E (.ref (He.ga K C')) od H'
  | .bad => False
def spI (C : Str) (m : MFi) : Sp := fun vs H Q E => ∃ a dx vs' ds G, vs = .ref a :: vs' ∧ H = upd (upd G dx (.own a)) a (.ins (He.ga K C) dx []) ∧ G a = none ∧ G dx = none ∧ dx ≠ a ∧ IsL K G vs' ds ∧ PostI K C a G Q E (m ds)
end
section
variable {K : PySem.W.Frag} [Rows K] {A : Anc} {X : Cells} {W : WX} {σ : L2.St} {ρ : Env} {G G' : Hp} {L : Cells}
def frzR : Re Rv → Re D
  | .ok r => .ok r.d
  | .ex C x => .ex C x
  | .bad => .bad
def newR : Re Rv → Re (List D)
  | .ok (.nw ds) => .ok ds
  | .ok (.pl _) => .bad
  | .ex C x => .ex C x
  | .bad => .bad
def mCall (f : MFn) (m : M (List D)) : M D := bnd m fun ds => lift (frzR (f ds))
theorem Frs.off {p : Addr} {o : HO} (h : Frs (upd G p o) L) : p ∉ ads L := fun z => by
  have := h.no p z
  rw [upd_same] at this
  cases this
theorem Frs.un {p : Addr} {o : HO} (h : Frs (upd G p o) L) : Frs G L := ⟨h.nd, fun a ha => by
  have := h.no a ha
  rw [upd_ne fun (z : a = p) => h.off (z ▸ ha)] at this
  exact this⟩
/-- what a call asks for -/
theorem fr_call {f : MFn} {vs : List V} {ds : List D} {Q : VK} (g : Good K G A X σ ρ L) (hv : IsL K G vs ds) (p : PO K A X W σ G (fun d G' L' => ∀ v, Is K G' v d → Q v (upds K G' L')) (lift (frzR (f ds)) ρ)) : Fr (spM K f) vs (upds K G L) Q (WE W σ) := by
  refine fr_cells g.fr ⟨ds, hv, ?_⟩
  cases e : f ds with
  | ok r =>
    rw [e] at p
    cases r with
    | pl d => exact fun v H2 s hd fr => p H2 L s (g.mono s fr) v hd
    | nw es =>
      intro q ys G2 s n hy fr
      have sm : Same G2 (upd G2 q (.lst ys)) := Sx.Same.updR (Same.refl _) n
      exact p _ L (s.trans sm) (g.mono (s.trans sm) fr) _ (.lst (SqL.of upd_same) (hy.mono sm))
  | ex C x => rw [e] at p; exact fun od H2 s hx fr => p od H2 L s (g.mono s fr) hx
  | bad => rw [e] at p; exact p
theorem fr_callN {f : MFn} {vs : List V} {ds : List D} {Q : VK} (g : Good K G A X σ ρ L) (hv : IsL K G vs ds)
    (p : PO K A X W σ G (fun ds G' L' => ∀ p ys, G' p = none → p ∉ ads L' → IsL K G' ys ds → Q (.ref p) (upd (upds K G' L') p (.lst ys))) (lift (newR (f ds)) ρ)) : Fr (spM K f) vs (upds K G L) Q (WE W σ) := by
  refine fr_cells g.fr ⟨ds, hv, ?_⟩
  cases e : f ds with
  | ok r =>
    rw [e] at p
    cases r with
    | pl d => exact p.elim
    | nw es =>
      intro q ys G2 s n hy fr
      rw [← upds_new fr.off]
      exact p G2 L s (g.mono s fr.un) q ys n fr.off hy
  | ex C x => rw [e] at p; exact fun od H2 s hx fr => p od H2 L s (g.mono s fr) hx
  | bad => rw [e] at p; exact p
theorem re_call {f : MFn} {t : TA} {m : M (List D)} (h : RA K A W t m) : RE K A W (tCallW (Fr (spM K f)) W t) (mCall f m) := by
  intro X σ ρ G L Q g p
  exact h X σ ρ G L _ g (p.seq fun ds ρ1 G1 L1 s1 g1 p1 vs hvs => fr_call g1 hvs p1)
def mCallN (f : MFn) (m : M (List D)) : M (List D) := bnd m fun ds => lift (newR (f ds))
theorem rn_call {f : MFn} {t : TA} {m : M (List D)} (h : RA K A W t m) : RN K A W (tCallW (Fr (spM K f)) W t) (mCallN f m) := by
  intro X σ ρ G L Q g p
  exact h X σ ρ G L _ g (p.seq fun ds ρ1 G1 L1 s1 g1 p1 vs hvs => fr_callN g1 hvs p1)
def recv (C m : Str) : D → Re Unit
  | .ins C' gs => if C' = C ∧ gs.lookup m = none then .ok () else .bad
  | _ => .bad
def mMeth (C m : Str) (f : MFn) (o : M D) (a : M (List D)) : M D := bnd o fun d => bnd (lift (recv C m d)) fun _ => bnd a fun ds => lift (frzR (f (d :: ds)))
theorem re_meth {C m : Str} {f : MFn} {to : TE} {t : TA} {o : M D} {a : M (List D)} (ho : RE K A W to o) (ha : RA K A W t a) : RE K A W (tMethW (He.ga K C) m (Fr (spM K f)) W to t) (mMeth C m f o a) := by
  intro X σ ρ G L Q g p
  refine ho X σ ρ G L _ g (p.seq fun d ρ1 G1 L1 s1 g1 p1 v hv => ?_)
  cases hv with
  | @ins b dx C' fs gs hc hn hb hs =>
    simp only [bnd, lift, recv] at p1
    by_cases e : C' = C ∧ gs.lookup m = none
    · simp only [if_pos e] at p1
      obtain ⟨rfl, e2⟩ := e
      refine ⟨b, dx, fs, rfl, g1.fr.same _ _ hb, hs.none e2, ha X σ ρ1 G1 L1 _ g1 (PO.seq (m := a) (c := fun ds => lift (frzR (f (.ins C' gs :: ds)))) p1 fun ds ρ2 G2 L2 s2 g2 p2 vs hvs => ?_)⟩
      exact fr_call g2 (.cons (Is.mono s2 (.ins hc hn hb hs)) hvs) p2
    · simp only [if_neg e] at p1; exact p1.elim
  | _ => exact p1.elim
def mMethN (C m : Str) (f : MFn) (o : M D) (a : M (List D)) : M (List D) := bnd o fun d => bnd (lift (recv C m d)) fun _ => bnd a fun ds => lift (newR (f (d :: ds)))
theorem rn_meth {C m : Str} {f : MFn} {to : TE} {t : TA} {o : M D} {a : M (List D)} (ho : RE K A W to o) (ha : RA K A W t a) : RN K A W (tMethW (He.ga K C) m (Fr (spM K f)) W to t) (mMethN C m f o a) := by
  intro X σ ρ G L Q g p
  refine ho X σ ρ G L _ g (p.seq fun d ρ1 G1 L1 s1 g1 p1 v hv => ?_)
  cases hv with
  | @ins b dx C' fs gs hc hn hb hs =>
    simp only [bnd, lift, recv] at p1
    by_cases e : C' = C ∧ gs.lookup m = none
    · simp only [if_pos e] at p1
      obtain ⟨rfl, e2⟩ := e
      refine ⟨b, dx, fs, rfl, g1.fr.same _ _ hb, hs.none e2, ha X σ ρ1 G1 L1 _ g1 (PO.seq (m := a) (c := fun ds => lift (newR (f (.ins C' gs :: ds)))) p1 fun ds ρ2 G2 L2 s2 g2 p2 vs hvs => ?_)⟩
      exact fr_callN g2 (.cons (Is.mono s2 (.ins hc hn hb hs)) hvs) p2
    · simp only [if_neg e] at p1; exact p1.elim
  | _ => exact p1.elim
def mkR (C : Str) : Re (List (Str × D)) → Re D
  | .ok gs => .ok (.ins C gs)
  | .ex C x => .ex C x
  | .bad => .bad
def mMake (C : Str) (f : MFi) (m : M (List D)) : M D := bnd m fun ds => lift (mkR C (f ds))
theorem re_make {C : Str} {f : MFi} {t : TA} {m : M (List D)} (hC : C ∈ Rows.cls K) (h : RA K A W t m) : RE K A W (tMakeW (He.ga K C) (Fr (spI K C f)) W t) (mMake C f m) := by
  intro X σ ρ G L Q g p
  refine h X σ ρ G L _ g (p.seq fun ds ρ1 G1 L1 s1 g1 p1 vs hvs => ?_)
  intro x dx hx hdx hne
  obtain ⟨nx1, nx2⟩ := free_of hx
  obtain ⟨nd1, nd2⟩ := free_of hdx
  have e1 : upd (upd (upds K G1 L1) dx (.own x)) x (.ins (He.ga K C) dx []) = upds K (upd (upd G1 dx (.own x)) x (.ins (He.ga K C) dx [])) L1 := by rw [upds_new nd2, upds_new nx2]
  rw [e1]
  refine fr_cells ((g1.fr.new nd2).new nx2) ⟨x, dx, vs, ds, G1, rfl, rfl, nx1, nd1, hne, hvs, ?_⟩
  cases e : f ds with
  | ok gs =>
    rw [e] at p1
    intro dx' fs G' s fr hs hn fr2
    refine ⟨rfl, ?_⟩
    have sm : Same G' (upds K G' [(x, .is C dx' fs)]) := fr.same
    exact p1 _ L1 (s.trans sm) (g1.mono (s.trans sm) fr2) _ (.ins hC hn (by simp only [upds, put1]; exact upd_same) (hs.mono sm))
  | ex C' y => rw [e] at p1; exact fun od H' s hx fr => p1 od H' L1 s (g1.mono s fr) hx
  | bad => rw [e] at p1; exact p1
/-! ### calls with a list by reference -/
def cellOf : Option Sl → Option (List D)
  | some (.ow c) => some c
  | some (.rf c) => some c
  | _ => none
def setC (c : List D) : Option Sl → Sl
  | some (.rf _) => .rf c
  | _ => .ow c
def callR (i : Nat) (f : MFr) (ds : List D) (ρ : Env) : Out Rv := match cellOf ρ[i]? with
  | some c => (match f c ds with
    | some (r, c') => .ok r (ρ.set i (setC c' ρ[i]?))
    | none => .bad)
  | none => .bad
def mCallR (i : Nat) (f : MFr) (m : M (List D)) (ρ : Env) : Out D := ib (bound ρ[i]?) (bnd m (fun ds => bnd (callR i f ds) fun r => ret r.d) ρ) .bad
def newM : Rv → M (List D)
  | .nw ds => ret ds
  | .pl _ => fail
def mCallRN (i : Nat) (f : MFr) (m : M (List D)) (ρ : Env) : Out (List D) := ib (bound ρ[i]?) (bnd m (fun ds => bnd (callR i f ds) newM) ρ) .bad
theorem Good.cell {i : Nat} {c : List D} (g : Good K G A X σ ρ L) (e : cellOf ρ[i]? = some c) : ∃ p ys La Lb, σ[i]? = some (some (.ref p)) ∧ L = La ++ ([(p, .ls ys)] ++ Lb) ∧ IsL K G ys c ∧
    ∀ G' ys' c', Same G G' → IsL K G' ys' c' → Rl K G' A X σ (ρ.set i (setC c' ρ[i]?)) (La ++ ([(p, .ls ys')] ++ Lb)) := by
  cases e0 : ρ[i]? with
  | none => rw [e0] at e; cases e
  | some s =>
    rw [e0] at e
    obtain ⟨v0, c0, La, Lb, e1, sr, rfl, k⟩ := g.rl.focus e0
    have sb : ∀ p, v0 = some (.ref p) → σ.set i (some (.ref p)) = σ := fun p h => by
      subst h
      apply List.ext_getElem?
      intro j
      by_cases q : j = i
      · subst q
        have hl : j < σ.length := (List.getElem?_eq_some_iff.mp e1).1
        rw [List.getElem?_set_self hl, e1]
      · rw [List.getElem?_set_ne (Ne.symm q)]
    cases sr with
    | @ow p ys ds hy =>
      cases e
      refine ⟨p, ys, La, Lb, e1, rfl, hy, fun G' ys' c' s h => ?_⟩
      have := k G' _ _ _ s (.ow (p := p) h)
      rw [sb p rfl] at this
      exact this
    | @rf ys ds hy =>
      cases e
      refine ⟨A.a, ys, La, Lb, e1, rfl, hy, fun G' ys' c' s h => ?_⟩
      have := k G' _ _ _ s (.rf h)
      rw [sb _ rfl] at this
      exact this
    | un => cases e
    | pl _ => cases e
    | se _ _ _ => cases e
    | exn _ => cases e
theorem frR {i : Nat} {f : MFr} {vs : List V} {v0 : V} {ds : List D} {Q : VK} {E : XK} (g : Good K G A X σ ρ L) (hv : IsL K G vs ds) (e0 : σ[i]? = some (some v0)) (k : match callR i f ds ρ with
      | .ok (.pl d) ρ' => ∀ v G' L', Same G G' → Good K G' A X σ ρ' L' → Is K G' v d → Q v (upds K G' L')
      | .ok (.nw es) ρ' => ∀ q zs G' L', Same G G' → Good K G' A X σ ρ' L' → G' q = none → q ∉ ads L' → IsL K G' zs es → Q (.ref q) (upd (upds K G' L') q (.lst zs))
      | _ => False) : Fr (spR K f) (v0 :: vs) (upds K G L) Q E := by
  unfold callR at k
  cases e : cellOf ρ[i]? with
  | none => rw [e] at k; exact k.elim
  | some c =>
    rw [e] at k
    obtain ⟨p, ys, La, Lb, e1, rfl, hy, kk⟩ := g.cell e
    rw [e0] at e1
    cases e1
    obtain ⟨q1, q2⟩ := mid_eq (K := K) g.fr
    have gp : G p = none := g.fr.no p (by rw [ads_app, ads_app]; simp [ads, ad1])
    rw [q1]
    refine fr_cells q2 ⟨p, ys, c, vs, ds, G, rfl, rfl, gp, hy, hv, ?_⟩
    have back : ∀ G2 ys', G2 p = none → Frs (upd G2 p (.lst ys')) (La ++ Lb) → Frs G2 (La ++ ([(p, .ls ys')] ++ Lb)) ∧ upds K (upd G2 p (.lst ys')) (La ++ Lb) = upds K G2 (La ++ ([(p, .ls ys')] ++ Lb)) := fun G2 ys' n fr => by
      have f1 : Frs G2 [(p, .ls ys')] := Frs.ls frs_nil n (fun z => by cases z)
      have f3 := mid_frs (K := K) f1 fr
      exact ⟨f3, (mid_eq f3).1.symm⟩
    dsimp only at k
    cases ef : f c ds with
    | none => rw [ef] at k; exact k.elim
    | some rc =>
      obtain ⟨r, c'⟩ := rc
      rw [ef] at k
      cases r with
      | pl d =>
        intro v G2 ys' s n hy' hd fr
        obtain ⟨f3, e3⟩ := back G2 ys' n fr
        rw [e3]
        exact k v G2 _ s ⟨kk G2 ys' c' s hy', f3⟩ hd
      | nw es =>
        intro q zs G2 ys' s n nq ne hy' hz fr
        have nq2 : q ∉ ads (La ++ Lb) := fr.off
        obtain ⟨f3, e3⟩ := back G2 ys' n fr.un
        have nq3 : q ∉ ads (La ++ ([(p, .ls ys')] ++ Lb)) := by
          rw [ads_app, ads_app]
          rw [ads_app] at nq2
          simp only [List.mem_append, not_or] at nq2 ⊢
          exact ⟨nq2.1, by simpa [ads, ad1] using ne, nq2.2⟩
        rw [← upds_new nq2, e3]
        exact k q zs G2 _ s ⟨kk G2 ys' c' s hy', f3⟩ nq nq3 hz
theorem re_callR {i : Nat} {f : MFr} {t : TA} {m : M (List D)} (h : RA K A W t m) : RE K A W (tCallW (Fr (spR K f)) W (tCons (tVar i) t)) (mCallR i f m) := by
  intro X σ ρ G L Q g p
  unfold mCallR at p
  by_cases hb : bound ρ[i]? = true
  · rw [ib_pos hb] at p
    obtain ⟨v, e1⟩ := g.bound hb
    refine ⟨v, e1, h X σ ρ G L _ g (p.seq fun ds ρ1 G1 L1 s1 g1 p1 vs hvs => ?_)⟩
    refine frR g1 hvs e1 ?_
    unfold bnd at p1
    cases e : callR i f ds ρ1 with
    | ok r ρ2 =>
      rw [e] at p1
      cases r with
      | pl d => exact fun v G' L' s g' hd => p1 G' L' s g' v hd
      | nw es =>
        intro q zs G' L' s g' n1 n2 hz
        rw [upds_new n2]
        have sm : Same G' (upd G' q (.lst zs)) := Sx.Same.updR (Same.refl _) n1
        exact p1 _ L' (s.trans sm) (g'.mono sm (g'.fr.new n2)) _ (.lst (SqL.of upd_same) (hz.mono sm))
    | ex C x ρ2 => unfold callR at e; split at e <;> (try split at e) <;> cases e
    | bad => rw [e] at p1; exact p1
  · rw [ib_neg hb] at p; exact p.elim
theorem rn_callR {i : Nat} {f : MFr} {t : TA} {m : M (List D)} (h : RA K A W t m) : RN K A W (tCallW (Fr (spR K f)) W (tCons (tVar i) t)) (mCallRN i f m) := by
  intro X σ ρ G L Q g p
  unfold mCallRN at p
  by_cases hb : bound ρ[i]? = true
  · rw [ib_pos hb] at p
    obtain ⟨v, e1⟩ := g.bound hb
    refine ⟨v, e1, h X σ ρ G L _ g (p.seq fun ds ρ1 G1 L1 s1 g1 p1 vs hvs => ?_)⟩
    refine frR g1 hvs e1 ?_
    unfold bnd at p1
    cases e : callR i f ds ρ1 with
    | ok r ρ2 =>
      rw [e] at p1
      cases r with
      | pl d => exact p1.elim
      | nw es => exact fun q zs G' L' s g' n1 n2 hz => p1 G' L' s g' q zs n1 n2 hz
    | ex C x ρ2 => unfold callR at e; split at e <;> (try split at e) <;> cases e
    | bad => rw [e] at p1; exact p1
  · rw [ib_neg hb] at p; exact p.elim
end
end Mi

namespace Mi
open PySem PySem.Spec PyProof.Rows L2
open Sx (Tn Fx btys tCallW tMethW tMakeW Fr wx tMkE)
section
variable {K : PySem.W.Frag} [Rows K] {A : Anc} {X : Cells} {W : WX} {σ : L2.St} {ρ : Env} {G G' : Hp} {L : Cells}
/-! ### changes in place -/
noncomputable def mApp (i : Nat) (m : M D) (ρ : Env) : Out Fl := ib (cellOf ρ[i]?).isSome (bnd m (fun d ρ => match cellOf ρ[i]? with
  | some c => hf (c.length < 1000000) (.ok .nx (ρ.set i (setC (c ++ [d]) ρ[i]?))) .bad
  | none => .bad) ρ) .bad
theorem Good.cellS {i : Nat} {c : List D} (g : Good K G A X σ ρ L) (e : cellOf ρ[i]? = some c) : ∃ p ys, σ[i]? = some (some (.ref p)) ∧ upds K G L p = some (.lst ys) ∧ IsL K G ys c ∧
    ∀ ys' c', IsL K G ys' c' → ∃ L', upd (upds K G L) p (.lst ys') = upds K G L' ∧ Good K G A X σ (ρ.set i (setC c' ρ[i]?)) L' := by
  obtain ⟨p, ys, La, Lb, e1, rfl, hy, k⟩ := g.cell e
  obtain ⟨q1, q2⟩ := mid_eq (K := K) g.fr
  have gp : G p = none := g.fr.no p (by rw [ads_app, ads_app]; simp [ads, ad1])
  refine ⟨p, ys, e1, by rw [q1]; exact q2.same p _ (by simp only [upds, put1]; exact upd_same), hy, fun ys' c' h => ?_⟩
  have np : p ∉ ads (La ++ Lb) := Frs.off q2
  have f1 : Frs G [(p, .ls ys')] := Frs.ls frs_nil gp (fun z => by cases z)
  have f2 : Frs (upds K G [(p, .ls ys')]) (La ++ Lb) := (Frs.un q2).new np
  have f3 := mid_frs (K := K) f1 f2
  refine ⟨_, ?_, ⟨k G ys' c' (Same.refl _) h, f3⟩⟩
  rw [q1, (mid_eq f3).1, upds_new np]
  congr 1
  simp only [upds, put1]
  rw [Sx.upd_upd]
theorem rs_app {i : Nat} {t : TE} {m : M D} (h : RE K A W t m) : RS K A W (tDrop (tBM K "list" rAppend (tVar i) (tCons t tNil))) (mApp i m) := by
  intro X σ ρ G L E g p
  unfold mApp at p
  by_cases hb : (cellOf ρ[i]?).isSome = true
  · rw [ib_pos hb] at p
    obtain ⟨c0, e0⟩ := Option.isSome_iff_exists.mp hb
    obtain ⟨q, ys, e1, hq, _, _⟩ := g.cellS e0
    refine ⟨.ref q, e1, .inl ⟨rfl, ys, SqL.of hq⟩, h X σ ρ G L _ g (p.seqE fun d ρ1 G1 L1 s1 g1 p1 v hv => ?_)⟩
    cases ec : cellOf ρ1[i]? with
    | none => simp only [ec] at p1; exact p1.elim
    | some c =>
      simp only [ec] at p1
      by_cases hl : c.length < 1000000
      · rw [hf_pos hl] at p1
        obtain ⟨q2, zs, e2, hq2, hz, k⟩ := g1.cellS ec
        rw [e1] at e2
        cases e2
        obtain ⟨L', e3, g3⟩ := k (zs ++ [v]) (c ++ [d]) (hz.snoc hv)
        refine ⟨q, zs, v, rfl, rfl, hq2, by rw [hz.length, sizeLine_eq]; omega, ?_⟩
        rw [e3]
        exact p1 σ G1 L' (Same.refl _) g3
      · rw [hf_neg hl] at p1; exact p1.elim
  · rw [ib_neg hb] at p; exact p.elim
def mRev (i : Nat) (ρ : Env) : Out Fl := match cellOf ρ[i]? with
  | some c => .ok .nx (ρ.set i (setC c.reverse ρ[i]?))
  | none => .bad
theorem rs_rev {i : Nat} : RS K A W (tDrop (tBM0 K "list" rReverse (tVar i))) (mRev i) := by
  intro X σ ρ G L E g p
  unfold mRev at p
  cases ec : cellOf ρ[i]? with
  | none => rw [ec] at p; exact p.elim
  | some c =>
    rw [ec] at p
    obtain ⟨q, zs, e1, hq, hz, k⟩ := g.cellS ec
    obtain ⟨L', e3, g3⟩ := k zs.reverse c.reverse hz.rev
    refine ⟨.ref q, e1, .inl ⟨rfl, zs, SqL.of hq⟩, q, zs, rfl, rfl, hq, ?_⟩
    rw [e3]
    exact p σ G L' (Same.refl _) g3
/-- x[i] = e -/
def setAt (i : Nat) (y d : D) (ρ : Env) : Out Fl := match cellOf ρ[i]?, y with
  | some c, .int k => (match ixN c.length k with
    | some j => .ok .nx (ρ.set i (setC (c.set j d) ρ[i]?))
    | none => .bad)
  | _, _ => .bad
def mSetV (i : Nat) (b e : M D) : M Fl := bnd e fun d ρ => ib (bound ρ[i]?) (bnd b (fun y => setAt i y d) ρ) .bad
theorem rs_setV {i : Nat} {tb te : TE} {b e : M D} (hb : RE K A W tb b) (he : RE K A W te e) : RS K A W (tAsg te (gSub (tVar i) tb rSetL)) (mSetV i b e) := by
  intro X σ ρ G L E g p
  refine he X σ ρ G L _ g (p.seqE fun d ρ1 G1 L1 s1 g1 p1 v hv => ?_)
  by_cases hbo : bound ρ1[i]? = true
  · rw [ib_pos hbo] at p1
    obtain ⟨u, e1⟩ := g1.bound hbo
    refine ⟨u, e1, hb X σ ρ1 G1 L1 _ g1 (p1.seqE fun y ρ2 G2 L2 s2 g2 p2 w hw => ?_)⟩
    unfold setAt at p2
    split at p2
    · rename_i c k ec
      split at p2
      · rename_i j ej
        obtain ⟨q2, zs, e2, hq2, hz, kk⟩ := g2.cellS ec
        rw [e1] at e2
        cases e2
        obtain ⟨L', e3, g3⟩ := kk (zs.set j v) (c.set j d) (hz.set (hv.mono s2) j)
        refine ⟨q2, zs, k, j, rfl, hw.int_eq, hq2, by rw [hz.length]; exact ej, ?_⟩
        rw [e3]
        exact p2 σ G2 L' (Same.refl _) g3
      · exact p2.elim
    · exact p2.elim
  · rw [ib_neg hbo] at p1; exact p1.elim
/-- self.f = e -/
def mSetF (C : Str) (i : Nat) (f : Str) (m : M D) : M Fl := bnd m fun d ρ => match ρ[i]? with
  | some (.se C' gs) => if C' = C ∧ gs.length < 1000 then .ok .nx (ρ.set i (.se C (putD f d gs))) else .bad
  | _ => .bad
theorem IsF.put {f : Str} {v : V} {d : D} (h : Is K G v d) : ∀ {fs : List (Str × V)} {gs : List (Str × D)}, IsF K G fs gs → IsF K G (putF f v fs) (putD f d gs)
  | _, _, .nil => .cons h .nil
  | _, _, .cons (f := g) q hs => by
    unfold putF putD
    by_cases e : g = f
    · rw [if_pos e, if_pos e]; exact .cons h hs
    · rw [if_neg e, if_neg e]; exact .cons q (IsF.put h hs)
theorem putD_mem {f : Str} {d : D} : ∀ {gs : List (Str × D)} {p : Str × D}, p ∈ putD f d gs → p.1 = f ∨ p ∈ gs
  | [], p, h => by
    have : p = (f, d) := by simpa [putD] using h
    left; rw [this]
  | (g, e) :: r, p, h => by
    unfold putD at h
    by_cases q : g = f
    · rw [if_pos q] at h
      rcases List.mem_cons.mp h with h | h
      · left; rw [h]; exact q
      · right; exact List.mem_cons_of_mem _ h
    · rw [if_neg q] at h
      rcases List.mem_cons.mp h with h | h
      · right; rw [h]; exact List.mem_cons_self
      · rcases putD_mem h with h | h
        · left; exact h
        · right; exact List.mem_cons_of_mem _ h
theorem rs_setF {C f : Str} {i : Nat} {t : TE} {m : M D} (hn : NoAttr K (He.ga K C) f) (h : RE K A W t m) : RS K A W (sFld K (tVar i) t f) (mSetF C i f m) := by
  intro X σ ρ G L E g p
  refine h X σ ρ G L _ g (p.seqE fun d ρ1 G1 L1 s1 g1 p1 v hv => ?_)
  cases e : ρ1[i]? with
  | none => simp only [e] at p1; exact p1.elim
  | some s =>
    cases s with
    | se C' gs =>
      simp only [e] at p1
      by_cases q : C' = C ∧ gs.length < 1000
      · rw [if_pos q] at p1
        obtain ⟨rfl, hl⟩ := q
        obtain ⟨dx, fs, e1, hc, hna, hf, ha, k⟩ := g1.peekS e
        have hn' : ∀ p ∈ putD f d gs, NoAttr K (He.ga K C') p.1 := fun p hp => by
          rcases putD_mem hp with z | z
          · rw [z]; exact hn
          · exact hna p z
        obtain ⟨L', e3, g3⟩ := k G1 _ _ (Same.refl _) g1.fr (hf.put hv) hn'
        refine ⟨.ref A.a, e1, A.a, _, dx, fs, rfl, ha, (Rows.ok _ hc).cl, hn, by rw [hf.length]; exact hl, ?_⟩
        rw [e3]
        exact p1 σ G1 L' (Same.refl _) g3
      · rw [if_neg q] at p1; exact p1.elim
    | un => simp only [e] at p1; exact p1.elim
    | pl _ => simp only [e] at p1; exact p1.elim
    | ow _ => simp only [e] at p1; exact p1.elim
    | rf _ => simp only [e] at p1; exact p1.elim
    | exn _ _ => simp only [e] at p1; exact p1.elim
/-- x op= e -/
def RP (K : PySem.W.Frag) [Rows K] (A : Anc) (W : WX) (r : TIp) (g : D → D → Re D) : Prop := RR K A W r g
def mAug (g : D → D → Re D) (i : Nat) (m : M D) (ρ : Env) : Out Fl := match ρ[i]? with
  | some (.pl a) => bnd m (fun b => bnd (lift (g a b)) fun c => bnd (sto i (.pl c)) fun _ => ret .nx) ρ
  | _ => .bad
theorem rs_aug {i : Nat} {r : TIp} {g : D → D → Re D} {t : TE} {m : M D} (hr : RR K A W r g) (h : RE K A W t m) : RS K A W (tAug i t r) (mAug g i m) := by
  intro X σ ρ G L E gd p
  unfold mAug at p
  split at p
  · rename_i a e
    obtain ⟨v, e1, hv⟩ := gd.get e
    refine ⟨v, e1, h X σ ρ G L _ gd (p.seqE fun b ρ1 G1 L1 s1 g1 p1 w hw => ?_)⟩
    refine hr X σ ρ1 G1 L1 _ v w a b g1 (hv.mono s1) hw (p1.seqE fun c ρ2 G2 L2 s2 g2 p2 z hz => ?_)
    unfold bnd sto at p2
    by_cases ho : okAsg ρ2[i]? = true
    · rw [ib_pos ho] at p2
      obtain ⟨G3, L3, s3, e3, g3⟩ := g2.sto ho hz
      rw [e3]
      exact p2 _ _ _ s3 g3
    · rw [ib_neg ho] at p2
      exact p2.elim
  · exact p.elim
/-! ### raise -/
def one : List D → Re D
  | [d] => .ok d
  | _ => .bad
def mRaise (C f : Str) (m : M (List D)) : M Fl := bnd m fun ds => bnd (lift (one ds)) fun d ρ => .ex C (some (f, d)) ρ
theorem rs_raise {C f : Str} {t : TA} {m : M (List D)} (hC : C ∈ Rows.exs K) (h : RA K A W t m) : RS K A W (fun _ σ H => tMkE (He.ga K C) f t σ H fun cls d H' => W cls d σ H') (mRaise C f m) := by
  intro X σ ρ G L E g p
  refine h X σ ρ G L _ g (p.seqE fun ds ρ1 G1 L1 s1 g1 p1 vs hvs => ?_)
  match ds, vs, hvs, p1 with
  | [d], [v], .cons hv .nil, p1 =>
    refine ⟨v, rfl, fun q n => ?_⟩
    obtain ⟨n1, n2⟩ := free_of n
    rw [upds_new n2]
    have sm : Same G1 (upd G1 q (.xd [(f, v)])) := Sx.Same.updR (Same.refl _) n1
    exact p1 (some q) σ _ L1 sm (g1.mono sm (g1.fr.new n2)) ⟨hC, q, v, rfl, upd_same, hv.mono sm⟩
  | [], _, _, p1 => exact p1.elim
  | _ :: _ :: _, _, _, p1 => exact p1.elim
def mRaise0 (C : Str) (ρ : Env) : Out Fl := .ex C none ρ
theorem rs_raise0 {C : Str} (hC : C ∈ Rows.exs K) : RS K A W (fun _ σ H => (fun _ H Q => Q (.ref (He.ga K C)) none H : L2.St → Hp → XK → Prop) σ H fun cls d H' => W cls d σ H') (mRaise0 C) := by
  intro X σ ρ G L E g p
  exact p none σ G L (Same.refl _) g ⟨hC, rfl⟩
theorem rs_never : RS K A W tNever (fun _ => .bad) := fun X σ ρ G L E g p => p.elim
/-! ### try -/
def notExn : Sl → Bool
  | .exn _ _ => false
  | _ => true
theorem Rl.anc {A' : Anc} (ea : A'.a = A.a) : ∀ {σ : L2.St} {ρ : Env} {L : Cells}, Rl K G A X σ ρ L → ρ.all notExn = true → Rl K G A' X σ ρ L
  | _, _, _, .nil, _ => .nil
  | _, _, _, .cons h hs, n => by
    simp only [List.all_cons, Bool.and_eq_true] at n
    refine .cons ?_ (Rl.anc ea hs n.2)
    cases h with
    | un => exact .un
    | pl h => exact .pl h
    | ow h => exact .ow h
    | rf h => rw [← ea]; exact .rf h
    | se hc hn h => rw [← ea]; exact .se hc hn h
    | exn h => cases n.1
def mTry (Y : Str) (b : M Fl) (s : M Fl) (ρ : Env) : Out Fl := match b ρ with
  | .ex C x ρ' => ib (Sx.xsub C Y) (noEx s ρ') (.ex C x ρ')
  | o => o
theorem rs_tryO {Y : Str} {tb : WX → TS} {ts : Addr → Value → Option Addr → TS} {b s : M Fl} (hY : Y ∈ Rows.exs K) (hb : ∀ W', RS K A W' (tb W') b) (hs : ∀ a cls d, RS K A wn (ts a cls d) s) :
    RS K A W (fun E σ H => tb (wOnly K (.ref (He.ga K Y)) ts W E) E σ H) (mTry Y b s) := by
  intro X σ ρ G L E g p
  refine hb _ X σ ρ G L E g ?_
  unfold mTry at p
  cases e : b ρ with
  | ok f ρ' =>
    rw [e] at p
    cases f with
    | nx => exact p
    | bk => exact p
    | ct => exact p
    | rt r => cases r <;> exact p
  | bad => rw [e] at p; exact p
  | ex C x ρ' =>
    rw [e] at p
    dsimp only at p
    intro od σ' G' L' s' g' hx
    refine ⟨Sx.xsub C Y, Rows.xok C hx.1 Y hY, fun h => ?_, fun h => ?_⟩
    · rw [ib_pos h] at p
      intro a n
      refine hs a _ od X σ' ρ' G' L' E g' ?_
      unfold noEx at p
      cases e2 : s ρ' with
      | ok f ρ2 => rw [e2] at p; exact SO.mono s' (show SO K A X wn E G (.ok f ρ2) from by cases f <;> first | exact p | (rename_i r; cases r <;> exact p))
      | ex C2 x2 ρ2 => rw [e2] at p; exact p.elim
      | bad => rw [e2] at p; exact p.elim
    · rw [ib_neg (by rw [h]; exact Bool.false_ne_true)] at p
      exact p od σ' G' L' s' g' hx
end
end Mi

namespace Mi
open PySem PySem.Spec PyProof.Rows L2
open Sx (Tn Fx btys tCallW tMethW tMakeW Fr wx tMkE)
section
variable {K : PySem.W.Frag} [Rows K] {A : Anc} {X : Cells} {W : WX} {σ : L2.St} {ρ : Env} {G G' : Hp} {L : Cells}
/-! ### except Y as e -/
def thin : Option Sl → Bool
  | some .un => true
  | some (.pl _) => true
  | _ => false
def isExn : Option Sl → Bool
  | some (.exn _ _) => true
  | _ => false
def endX (i : Nat) : Out Fl → Out Fl
  | .ok f ρ => ib ((ρ.set i .un).all notExn && isExn ρ[i]?) (.ok f (ρ.set i .un)) .bad
  | _ => .bad
def inX (i : Nat) (C : Str) (x : Option (Str × D)) (s : M Fl) (ρ : Env) : Out Fl := ib (ρ.all notExn && thin ρ[i]?) (endX i (s (ρ.set i (.exn C x)))) .bad
def mTryAs (i : Nat) (Y : Str) (b : M Fl) (s : M Fl) (ρ : Env) : Out Fl := match b ρ with
  | .ex C x ρ' => ib (Sx.xsub C Y) (inX i C x s ρ') (.ex C x ρ')
  | o => o
theorem Good.unX {A' : Anc} {i : Nat} (ea : A'.a = A.a) (g : Good K G A' X σ ρ L) (n : (ρ.set i .un).all notExn = true) (hi : ∃ s, ρ[i]? = some s ∧ (s = .un ∨ (∃ d, s = .pl d) ∨ ∃ C x, s = .exn C x)) : Good K G A X (σ.set i none) (ρ.set i .un) L := by
  obtain ⟨s, e, hs⟩ := hi
  obtain ⟨v0, c, La, Lb, e1, sr, rfl, k⟩ := g.rl.focus e
  have hc : c = [] := by
    rcases hs with rfl | ⟨d, rfl⟩ | ⟨C, x, rfl⟩
    · cases sr; rfl
    · cases sr; rfl
    · cases sr; rfl
  subst hc
  have r := k G none .un [] (Same.refl _) .un
  exact ⟨r.anc ea.symm n, g.fr⟩
theorem rs_tryA {i : Nat} {Y : Str} {tb : WX → TS} {ts : Addr → Value → Option Addr → TS} {b s : M Fl} (hY : Y ∈ Rows.exs K) (hb : ∀ W', RS K A W' (tb W') b)
    (hs : ∀ a C d, RS K { A with b := a, od := d, c := C } wn (ts a (.ref (He.ga K C)) d) s) :
    RS K A W (fun E σ H => tb (wAs K (.ref (He.ga K Y)) i ts W E) E σ H) (mTryAs i Y b s) := by
  intro X σ ρ G L E g p
  refine hb _ X σ ρ G L E g ?_
  unfold mTryAs at p
  cases e : b ρ with
  | ok f ρ' =>
    rw [e] at p
    cases f with
    | nx => exact p
    | bk => exact p
    | ct => exact p
    | rt r => cases r <;> exact p
  | bad => rw [e] at p; exact p
  | ex C x ρ' =>
    rw [e] at p
    dsimp only at p
    intro od σ' G' L' s' g' hx
    refine ⟨Sx.xsub C Y, Rows.xok C hx.1 Y hY, fun h => ?_, fun h => ?_⟩
    · rw [ib_pos h] at p
      intro a n
      unfold inX at p
      by_cases hh : (ρ'.all notExn && thin ρ'[i]?) = true
      · rw [ib_pos hh] at p
        simp only [Bool.and_eq_true] at hh
        obtain ⟨h1, h2⟩ := hh
        -- the slot
        cases e0 : ρ'[i]? with
        | none => rw [e0] at h2; cases h2
        | some s0 =>
          rw [e0] at h2
          have g2 : Good K G' { A with b := a, od := od, c := C } X σ' ρ' L' := ⟨Rl.anc (A := A) (A' := { A with b := a, od := od, c := C }) rfl g'.rl h1, g'.fr⟩
          obtain ⟨v0, c, La, Lb, e1, sr, rfl, k⟩ := g2.rl.focus e0
          have hc : c = [] := by
            cases s0 with
            | un => cases sr; rfl
            | pl d => cases sr; rfl
            | _ => cases h2
          subst hc
          have r := k G' (some (.ref a)) (.exn C x) [] (Same.refl _) (SlR.exn (A := { A with b := a, od := od, c := C }) hx)
          have g3 : Good K G' { A with b := a, od := od, c := C } X (σ'.set i (some (.ref a))) (ρ'.set i (.exn C x)) (La ++ ([] ++ Lb)) := ⟨r, g'.fr⟩
          have hl : i < ρ'.length := (List.getElem?_eq_some_iff.mp e0).1
          refine hs a C od X _ _ G' _ _ g3 ?_
          cases e2 : s (ρ'.set i (.exn C x)) with
          | ok f ρ2 =>
            rw [e2] at p
            simp only [endX] at p
            by_cases hz2 : ((ρ2.set i .un).all notExn && isExn ρ2[i]?) = true
            · rw [ib_pos hz2] at p
              simp only [Bool.and_eq_true] at hz2
              obtain ⟨hz, hx2⟩ := hz2
              have hi : ∃ s, ρ2[i]? = some s ∧ (s = .un ∨ (∃ d, s = .pl d) ∨ ∃ C x, s = .exn C x) := by
                cases e5 : ρ2[i]? with
                | none => rw [e5] at hx2; cases hx2
                | some s5 =>
                  rw [e5] at hx2
                  cases s5 with
                  | exn C5 x5 => exact ⟨_, rfl, .inr (.inr ⟨_, _, rfl⟩)⟩
                  | _ => cases hx2
              have p := SO.mono s' p
              cases f with
              | nx => exact fun σ2 G2 L2 s2 g4 => p _ G2 L2 s2 (Good.unX (A := A) (A' := { A with b := a, od := od, c := C }) rfl g4 hz hi)
              | bk => exact fun σ2 G2 L2 s2 g4 => p _ G2 L2 s2 (Good.unX (A := A) (A' := { A with b := a, od := od, c := C }) rfl g4 hz hi)
              | ct => exact fun σ2 G2 L2 s2 g4 => p _ G2 L2 s2 (Good.unX (A := A) (A' := { A with b := a, od := od, c := C }) rfl g4 hz hi)
              | rt r =>
                cases r with
                | pl d => exact fun σ2 G2 L2 v s2 g4 hv => p _ G2 L2 v s2 (Good.unX (A := A) (A' := { A with b := a, od := od, c := C }) rfl g4 hz hi) hv
                | nw ds => exact fun σ2 G2 L2 q ys s2 g4 n1 n2 hv => p _ G2 L2 q ys s2 (Good.unX (A := A) (A' := { A with b := a, od := od, c := C }) rfl g4 hz hi) n1 n2 hv
            · rw [ib_neg hz2] at p; exact p.elim
          | ex C2 x2 ρ2 => rw [e2] at p; exact p.elim
          | bad => rw [e2] at p; exact p.elim
      · rw [ib_neg hh] at p; exact p.elim
    · rw [ib_neg (by rw [h]; exact Bool.false_ne_true)] at p
      exact p od σ' G' L' s' g' hx
/-- e.f in a suite -/
def xfld (C f : Str) : Option Sl → Re D
  | some (.exn C' (some (f', d))) => if C' = C ∧ f' = f then .ok d else .bad
  | _ => .bad
def mXf (i : Nat) (C f : Str) (ρ : Env) : Out D := lift (xfld C f ρ[i]?) ρ
theorem re_xf {i : Nat} {a : Addr} {d : Option Addr} {C C0 f : Str} : RE K { A with b := a, od := d, c := C } W (tXf a (.ref (He.ga K C)) d (He.ga K C0) f (tVar i)) (mXf i C0 f) := by
  intro X σ ρ G L Q g p
  unfold mXf xfld at p
  split at p
  · rename_i C' f' d' e
    by_cases h : C' = C0 ∧ f' = f
    · rw [if_pos h] at p
      obtain ⟨rfl, rfl⟩ := h
      obtain ⟨v0, c, La, Lb, e1, sr, rfl, k⟩ := g.rl.focus e
      cases sr with
      | exn h =>
        obtain ⟨_, q, v, hq, hx, hv⟩ := h
        refine ⟨.ref a, e1, rfl, rfl, q, [(f', v)], v, hq, g.fr.same _ _ hx, by simp [List.lookup], p.at_ g v hv⟩
    · rw [if_neg h] at p; exact p.elim
  · exact p.elim
/-- isinstance(e, Y) in a suite: by the classes of the text -/
def xisi (Y : Str) : Option Sl → Re D
  | some (.exn C _) => .ok (.bl (Sx.xsub C Y))
  | _ => .bad
end
end Mi

namespace Mi
open PySem PySem.Spec PyProof.Rows L2
open Sx (Tn Fx btys tCallW tMethW tMakeW Fr wx tMkE)
def startE (n : Nat) (ds : List D) : Env := ds.map .pl ++ List.replicate (n - ds.length) .un
def outF : Out Fl → Re Rv
  | .ok (.rt r) _ => .ok r
  | .ok .nx _ => .ok (.pl .non)
  | .ok _ _ => .bad
  | .ex C x _ => .ex C x
  | .bad => .bad
def runM (n np : Nat) (b : M Fl) : MFn := fun ds => if ds.length = np then outF (b (startE n ds)) else .bad
def outR : Out Fl → Option (Rv × List D)
  | .ok (.rt r) (.rf c :: _) => some (r, c)
  | .ok .nx (.rf c :: _) => some (.pl .non, c)
  | _ => none
def runR (n np : Nat) (b : M Fl) : MFr := fun c ds => if ds.length + 1 = np then outR (b (.rf c :: startE (n - 1) ds)) else none
def outI (C : Str) : Out Fl → Re (List (Str × D))
  | .ok (.rt (.pl .non)) (.se C' gs :: _) => if C' = C then .ok gs else .bad
  | .ok .nx (.se C' gs :: _) => if C' = C then .ok gs else .bad
  | .ex C x _ => .ex C x
  | _ => .bad
def runI (C : Str) (n np : Nat) (b : M Fl) : MFi := fun ds => if ds.length + 1 = np then outI C (b (.se C [] :: startE (n - 1) ds)) else .bad
section
variable {K : PySem.W.Frag} [Rows K] {A : Anc} {X : Cells} {σ : L2.St} {ρ : Env} {G H : Hp} {L : Cells}
theorem rl_pl (X : Cells) {σ : L2.St} {ρ : Env} (h : Rl K G A X σ ρ X) : ∀ {vs : List V} {ds : List D}, IsL K G vs ds → Rl K G A X (vs.map some ++ σ) (ds.map .pl ++ ρ) X
  | _, _, .nil => h
  | _, _, .cons hv hs => Rl.cons (c := []) (.pl hv) (rl_pl X h hs)
theorem rl_un (X : Cells) : ∀ n : Nat, Rl K G A X (List.replicate n none) (List.replicate n .un) X
  | 0 => .nil
  | n + 1 => by
    rw [List.replicate_succ, List.replicate_succ]
    exact Rl.cons (c := []) .un (rl_un X n)
theorem rl_start (X : Cells) {vs : List V} {ds : List D} (h : IsL K G vs ds) (n : Nat) : Rl K G A X (vs.map some ++ List.replicate (n - vs.length) none) (startE n ds) X := by
  unfold startE
  rw [h.length]
  exact rl_pl X (rl_un X _) h
/-- the end of a def -/
theorem end_M {Q : VK} {E : XK} {o : Out Fl} (h : PostF K H Q E (outF o)) : SO K A [] (wx E) { nx := fun _ H' => Q .non H', rt := Q } H o := by
  cases o with
  | ok f ρ' =>
    cases f with
    | nx => exact fun σ' G' L' s g => h .non _ (s.trans g.fr.same) .non
    | bk => exact h.elim
    | ct => exact h.elim
    | rt r =>
      cases r with
      | pl d => exact fun σ' G' L' v s g hv => h v _ (s.trans g.fr.same) (hv.mono g.fr.same)
      | nw ds => exact fun σ' G' L' p ys s g n1 n2 hy => h p ys _ (s.trans g.fr.same) (by rw [upds_off n2]; exact n1) (hy.mono g.fr.same)
  | ex C x ρ' => exact fun od σ' G' L' s g hx => h od _ (s.trans g.fr.same) (hx.mono g.fr.same)
  | bad => exact h
section
variable {P : Program} {w : World} {mg : Str → Option Value} {base : Heap} {x qual : Str} {params : Arguments} {body : List Stmt} {scope : Scope} {dvs : List V} {kws : List (Str × V)} {f : Addr} {fd : FuncData} {N ps : List Str} {k : Nat} {b : M Fl} {C : Str}
/-- what is printed for a def: its reading, and the mirror of the reading -/
abbrev Body (K : PySem.W.Frag) [Rows K] (P : Program) (w : World) (mg : Str → Option Value) (base : Heap) (qual : Str) (scope : Scope) (f : Addr) (N : List Str) (k : Nat) (body : List Stmt) (b : M Fl) : Prop :=
  ∀ (cdv : Value) (A : Around) (outer : List PySem.Env) (s : Shared) (H : Hp) (E : XK), Room k (A.deeper (envOfC qual scope s.heap.objs.size f cdv)) →
    ∃ t, PSs (cxOf (L2.CX P w) P w K mg base N qual scope f cdv A outer s H E) body t ∧ ∀ A : Anc, RS K A (wx E) t b
theorem fok_M (F : FunD K x qual params body scope dvs kws f fd) (S : FnScope N ps scope) (hb : Body K P w mg base qual scope f N k body b) : FnOk P w K mg base (L2.CX P w) (k + 1) f fd ps (spM K (runM N.length ps.length b)) := by
  refine F.ok S (fun vs H Q E h => ?_) (fun cdv A outer s H vs Q E hr h => ?_)
  · obtain ⟨ds, hv, h⟩ := h
    unfold runM at h
    by_cases e : ds.length = ps.length
    · rw [hv.length]; exact e
    · rw [if_neg e] at h; exact h.elim
  · obtain ⟨t, hp, hs⟩ := hb cdv A outer s H E hr
    refine ⟨t, hp, ?_⟩
    obtain ⟨ds, hv, h⟩ := h
    unfold runM at h
    by_cases e : ds.length = ps.length
    · rw [if_pos e] at h
      exact hs ⟨0, 0, none, ""⟩ [] (L2.start N vs) (startE N.length ds) H [] _ ⟨rl_start [] hv N.length, frs_nil⟩ (end_M h)
    · rw [if_neg e] at h; exact h.elim
theorem fn_M (F : ∃ fd, FunD K x qual params body scope [] kws f fd) (S : FnScope N ps scope)
    (hbi : ∀ (kV doc pm : Value) (an : Option Addr) (cdv ct : Value) (us : List Value), us.length = ps.length → bindArgs (PySem.W.fnOf x qual params body scope .none kV doc pm an cdv ct) ⟨us, []⟩ = pure (ps.zip us))
    (hb : Body K P w mg base qual scope f N k body b) : FnR P w K mg base (L2.CX P w) (k + 1) f (spM K (runM N.length ps.length b)) := by
  obtain ⟨fd, F⟩ := F
  have Gx := FnOk.raw (fok_M (P := P) (w := w) (mg := mg) (base := base) F S hb) (F.bindsN hbi) .nil
  exact Gx.imp fun vs H Q E h => by rw [List.append_nil]; exact h
theorem fn_R (F : ∃ fd, FunD K x qual params body scope [] kws f fd) (S : FnScope N ps scope) (hN : 0 < N.length)
    (hbi : ∀ (kV doc pm : Value) (an : Option Addr) (cdv ct : Value) (us : List Value), us.length = ps.length → bindArgs (PySem.W.fnOf x qual params body scope .none kV doc pm an cdv ct) ⟨us, []⟩ = pure (ps.zip us))
    (hb : Body K P w mg base qual scope f N k body b) : FnR P w K mg base (L2.CX P w) (k + 1) f (spR K (runR N.length ps.length b)) := by
  obtain ⟨fd, F⟩ := F
  have FO : FnOk P w K mg base (L2.CX P w) (k + 1) f fd ps (spR K (runR N.length ps.length b)) := by
    refine F.ok S (fun vs H Q E h => ?_) (fun cdv A outer s H vs Q E hr h => ?_)
    · obtain ⟨p, ys, c, vs', ds, G, rfl, rfl, n, hy, hv, h⟩ := h
      unfold runR at h
      by_cases e : ds.length + 1 = ps.length
      · rw [← e, ← hv.length]; rfl
      · rw [if_neg e] at h; exact h.elim
    · obtain ⟨t, hp, hs⟩ := hb cdv A outer s H E hr
      refine ⟨t, hp, ?_⟩
      obtain ⟨p, ys, c, vs', ds, G, rfl, rfl, n, hy, hv, h⟩ := h
      unfold runR at h
      by_cases e : ds.length + 1 = ps.length
      · rw [if_pos e] at h
        have f1 : Frs G [(p, .ls ys)] := Frs.ls frs_nil n (fun z => by cases z)
        have st : L2.start N (.ref p :: vs') = some (.ref p) :: (vs'.map some ++ List.replicate (N.length - 1 - vs'.length) none) := by
          unfold L2.start
          rw [List.length_cons, show N.length - (vs'.length + 1) = N.length - 1 - vs'.length from by omega]
          rfl
        rw [st]
        have gd : Good K G ⟨p, 0, none, ""⟩ [] (some (.ref p) :: (vs'.map some ++ List.replicate (N.length - 1 - vs'.length) none)) (.rf c :: startE (N.length - 1) ds) [(p, .ls ys)] :=
          ⟨Rl.cons (c := [(p, .ls ys)]) (L := []) (SlR.rf (A := ⟨p, 0, none, ""⟩) hy) (rl_start [] hv _), f1⟩
        have hup : upd G p (.lst ys) = upds K G [(p, .ls ys)] := rfl
        rw [hup]
        refine hs ⟨p, 0, none, ""⟩ [] _ _ G [(p, .ls ys)] _ gd ?_
        -- the cell at the end
        have last : ∀ {σ' : L2.St} {c' : List D} {r : Env} {G' : Hp} {L' : Cells}, Good K G' ⟨p, 0, none, ""⟩ [] σ' (.rf c' :: r) L' → ∃ ys' G2, upds K G' L' = upd G2 p (.lst ys') ∧ G2 p = none ∧ Same G' G2 ∧ IsL K G' ys' c' ∧ ∀ q, q ∉ ads L' → G' q = none → G2 q = none ∧ q ≠ p := fun {σ' c' r G' L'} g => by
          obtain ⟨q, ys', La, Lb, e1, rfl, hy', _⟩ := g.cell (i := 0) (c := c') rfl
          have hq : q = p := by
            obtain ⟨v1, c1, La1, Lb1, e2, sr, _, _⟩ := g.rl.focus (i := 0) (s := .rf c') rfl
            rw [e1] at e2
            cases e2
            cases sr
            rfl
          subst hq
          obtain ⟨q1, q2⟩ := mid_eq (K := K) g.fr
          have np : q ∉ ads (La ++ Lb) := Frs.off q2
          have gp : G' q = none := g.fr.no q (by rw [ads_app, ads_app]; simp [ads, ad1])
          refine ⟨ys', upds K G' (La ++ Lb), ?_, by rw [upds_off np]; exact gp, (Frs.un q2).same, hy', fun z hz hz2 => ?_⟩
          · rw [upds_new np]; exact q1
          · rw [ads_app, ads_app] at hz
            simp only [List.mem_append, not_or] at hz
            exact ⟨by rw [upds_off (by rw [ads_app]; simp only [List.mem_append, not_or]; exact ⟨hz.1, hz.2.2⟩)]; exact hz2, by simpa [ads, ad1] using hz.2.1⟩
        cases eo : b (.rf c :: startE (N.length - 1) ds) with
        | ok fl ρ' =>
          rw [eo] at h
          cases fl with
          | nx =>
            match ρ', h with
            | .rf c' :: r, h =>
              intro σ' G' L' s g
              obtain ⟨ys', G2, e2, n2, sm, hy', _⟩ := last g
              show Q .non _
              rw [e2]
              exact h .non G2 ys' (s.trans sm) n2 (hy'.mono sm) .non
          | bk => exact h.elim
          | ct => exact h.elim
          | rt rv =>
            match ρ', h with
            | .rf c' :: r, h =>
              cases rv with
              | pl d =>
                intro σ' G' L' v s g hv
                obtain ⟨ys', G2, e2, n2, sm, hy', _⟩ := last g
                show Q v _
                rw [e2]
                exact h v G2 ys' (s.trans sm) n2 (hy'.mono sm) (hv.mono sm)
              | nw es =>
                intro σ' G' L' q zs s g n1 nn2 hz
                obtain ⟨ys', G2, e2, n2, sm, hy', k⟩ := last g
                obtain ⟨k1, k2⟩ := k q nn2 n1
                show Q (.ref q) _
                rw [e2]
                exact h q zs G2 ys' (s.trans sm) n2 k1 k2 (hy'.mono sm) (hz.mono sm)
        | ex C x ρ' => rw [eo] at h; exact h.elim
        | bad => rw [eo] at h; exact h.elim
      · rw [if_neg e] at h; exact h.elim
  have Gx := FnOk.raw FO (F.bindsN hbi) .nil
  exact Gx.imp fun vs H Q E h => by rw [List.append_nil]; exact h
theorem fok_I (F : FunD K x qual params body scope dvs kws f fd) (S : FnScope N ps scope) (hC : C ∈ Rows.cls K) (hb : Body K P w mg base qual scope f N k body b) : FnOk P w K mg base (L2.CX P w) (k + 1) f fd ps (spI K C (runI C N.length ps.length b)) := by
  refine F.ok S (fun vs H Q E h => ?_) (fun cdv A outer s H vs Q E hr h => ?_)
  · obtain ⟨a, dx, vs', ds, G, rfl, rfl, n1, n2, ne, hv, h⟩ := h
    unfold runI at h
    by_cases e : ds.length + 1 = ps.length
    · rw [← e, ← hv.length]; rfl
    · rw [if_neg e] at h; exact h.elim
  · obtain ⟨t, hp, hs⟩ := hb cdv A outer s H E hr
    refine ⟨t, hp, ?_⟩
    obtain ⟨a, dx, vs', ds, G, rfl, rfl, n1, n2, ne, hv, h⟩ := h
    unfold runI at h
    by_cases e : ds.length + 1 = ps.length
    · rw [if_pos e] at h
      have f1 : Frs G [(a, .is C dx [])] := ⟨by simp [ads, ad1]; exact fun z => ne z.symm, fun b hb => by
        have : b = a ∨ b = dx := by simpa [ads, ad1] using hb
        rcases this with z | z
        · rw [z]; exact n1
        · rw [z]; exact n2⟩
      have st : L2.start N (.ref a :: vs') = some (.ref a) :: (vs'.map some ++ List.replicate (N.length - 1 - vs'.length) none) := by
        unfold L2.start
        rw [List.length_cons, show N.length - (vs'.length + 1) = N.length - 1 - vs'.length from by omega]
        rfl
      rw [st]
      have gd : Good K G ⟨a, 0, none, ""⟩ [] (some (.ref a) :: (vs'.map some ++ List.replicate (N.length - 1 - vs'.length) none)) (.se C [] :: startE (N.length - 1) ds) [(a, .is C dx [])] :=
        ⟨Rl.cons (c := [(a, .is C dx [])]) (L := []) (SlR.se (A := ⟨a, 0, none, ""⟩) hC (fun _ z => by cases z) .nil) (rl_start [] hv _), f1⟩
      have hup : upd (upd G dx (.own a)) a (.ins (He.ga K C) dx []) = upds K G [(a, .is C dx [])] := rfl
      rw [hup]
      refine hs ⟨a, 0, none, ""⟩ [] _ _ G [(a, .is C dx [])] _ gd ?_
      have last : ∀ {σ' : L2.St} {C' : Str} {gs : List (Str × D)} {r : Env} {G' : Hp} {L' : Cells}, Good K G' ⟨a, 0, none, ""⟩ [] σ' (.se C' gs :: r) L' → ∃ dx' fs G2, upds K G' L' = upds K G2 [(a, .is C' dx' fs)] ∧ Frs G2 [(a, .is C' dx' fs)] ∧ Same G' G2 ∧ IsF K G' fs gs ∧ ∀ p ∈ gs, NoAttr K (He.ga K C') p.1 := fun {σ' C' gs r G' L'} g => by
        obtain ⟨v0, c, La, Lb, e1, sr, rfl, _⟩ := g.rl.focus (i := 0) rfl
        cases sr with
        | @se _ dx' fs _ hc hn hf =>
          have fr2 : Frs G' ((La ++ Lb) ++ [(a, .is C' dx' fs)]) := by
            have z := g.fr.swap
            rw [List.append_assoc] at z
            have z2 := z.swap
            have z3 : Frs G' ((Lb ++ La) ++ [(a, .is C' dx' fs)]) := z2
            have z4 := z3.swap
            -- reorder
            refine ⟨?_, fun b hb => z4.no b ?_⟩
            · have nd := z3.nd
              rw [ads_app, ads_app] at nd ⊢
              exact ((List.perm_append_comm.append_right _).nodup_iff).mp nd
            · rw [ads_app, ads_app] at hb
              rw [ads_app, ads_app]
              simp only [List.mem_append] at hb ⊢
              rcases hb with (h | h) | h
              · exact .inr (.inr h)
              · exact .inr (.inl h)
              · exact .inl h
          have fr3 := fr2.swap
          obtain ⟨q1, _⟩ := mid_eq (K := K) g.fr
          have s1 : Frs (upds K G' (La ++ Lb)) [(a, .is C' dx' fs)] := fr3.sink
          have s2 : Frs (upds K G' [(a, .is C' dx' fs)]) (La ++ Lb) := fr2.sink
          refine ⟨dx', fs, upds K G' (La ++ Lb), ?_, s1, fr3.right.same, hf, hn⟩
          rw [q1, ← upds_app, upds_swap fr2, upds_app]
      cases eo : b (.se C [] :: startE (N.length - 1) ds) with
      | ok fl ρ' =>
        rw [eo] at h
        cases fl with
        | nx =>
          match ρ', h with
          | .se C' gs :: r, h =>
            simp only [outI] at h
            by_cases ec : C' = C
            · rw [if_pos ec] at h
              subst ec
              intro σ' G' L' s g
              obtain ⟨dx', fs, G2, e2, fr2, sm, hf, hn⟩ := last g
              show Q .non _
              rw [e2]
              exact h dx' fs G2 (s.trans sm) fr2 (hf.mono sm) hn
            · rw [if_neg ec] at h; exact h.elim
        | bk => exact h.elim
        | ct => exact h.elim
        | rt rv =>
          match rv, ρ', h with
          | .pl .non, .se C' gs :: r, h =>
            simp only [outI] at h
            by_cases ec : C' = C
            · rw [if_pos ec] at h
              subst ec
              intro σ' G' L' v s g hv
              obtain ⟨dx', fs, G2, e2, fr2, sm, hf, hn⟩ := last g
              show Q v _
              rw [e2, hv.non_eq]
              exact h dx' fs G2 (s.trans sm) fr2 (hf.mono sm) hn
            · rw [if_neg ec] at h; exact h.elim
      | ex C2 y ρ' =>
        rw [eo] at h
        exact fun od σ' G' L' s g hx => h od _ (s.trans g.fr.same) (hx.mono g.fr.same)
      | bad => rw [eo] at h; exact h.elim
    · rw [if_neg e] at h; exact h.elim
end
end
end Mi

namespace Mi
open PySem PySem.Spec PyProof.Rows L2
open Sx (Tn Fx btys tCallW tMethW tMakeW Fr wx tMkE tOpX kOp kNeg tNegX kEq tEqX rIpX rInt rAbs rLen CDivX)
section
variable {K : PySem.W.Frag} [Rows K] {A : Anc} {X : Cells} {W : WX} {σ : L2.St} {ρ : Env} {G G' : Hp} {L : Cells}
/-! ### ints -/
def dI (h : Int → Int → D) : D → D → Re D
  | .int i, .int j => .ok (h i j)
  | _, _ => .bad
def dIc (c : Int → Int → Bool) (h : Int → Int → D) : D → D → Re D
  | .int i, .int j => ib (c i j) (.ok (h i j)) .bad
  | _, _ => .bad
theorem rr_I0 {gv : Int → Int → V} {h : Int → Int → D} (hg : ∀ i j G, Is K G (gv i j) (h i j)) : RR K A W (rI0 gv) (dI h) := by
  intro X σ ρ G L Q x y a b g hx hy p
  cases hx <;> cases hy <;> first | exact p.elim | exact ⟨_, _, rfl, rfl, p.at_ g _ (hg _ _ _)⟩
theorem rr_I {gv : Int → Int → V} {h : Int → Int → D} {Cc : Int → Int → Prop} {c : Int → Int → Bool} (hc : ∀ i j, c i j = true → Cc i j) (hg : ∀ i j G, Is K G (gv i j) (h i j)) : RR K A W (rI Cc gv) (dIc c h) := by
  intro X σ ρ G L Q x y a b g hx hy p
  cases hx <;> cases hy <;> first | exact p.elim | skip
  rename_i i j
  simp only [lift, dIc] at p
  by_cases e : c i j = true
  · simp only [ib_pos e] at p; exact ⟨_, _, rfl, rfl, hc _ _ e, p.at_ g _ (hg _ _ _)⟩
  · simp only [ib_neg e] at p; exact p.elim
def dAdd (a b : D) : Re D := dI (fun i j => .int (i + j)) a b
def dSub (a b : D) : Re D := dI (fun i j => .int (i - j)) a b
noncomputable def dLt (a b : D) : Re D := dI (fun i j => .bl (hd (i < j))) a b
noncomputable def dLe (a b : D) : Re D := dI (fun i j => .bl (hd (i ≤ j))) a b
noncomputable def dGt (a b : D) : Re D := dI (fun i j => .bl (hd (j < i))) a b
noncomputable def dGe (a b : D) : Re D := dI (fun i j => .bl (hd (j ≤ i))) a b
def dBAnd (a b : D) : Re D := dI (fun i j => .int (Builtin.bitAnd i j)) a b
theorem rr_add : RR K A W (rI0 fun i j => .int (i + j)) dAdd := rr_I0 fun _ _ _ => .int _
theorem rr_sub : RR K A W (rI0 fun i j => .int (i - j)) dSub := rr_I0 fun _ _ _ => .int _
theorem rr_lt : RR K A W (rI0 fun i j => .bl (decide (i < j))) dLt := rr_I0 fun i j _ => by rw [hd_eq]; exact .bl _
theorem rr_le : RR K A W (rI0 fun i j => .bl (decide (i ≤ j))) dLe := rr_I0 fun i j _ => by rw [hd_eq]; exact .bl _
theorem rr_gt : RR K A W (rI0 fun i j => .bl (decide (j < i))) dGt := rr_I0 fun i j _ => by rw [hd_eq]; exact .bl _
theorem rr_ge : RR K A W (rI0 fun i j => .bl (decide (j ≤ i))) dGe := rr_I0 fun i j _ => by rw [hd_eq]; exact .bl _
theorem rr_band : RR K A W (rI0 fun i j => .int (Builtin.bitAnd i j)) dBAnd := rr_I0 fun _ _ _ => .int _
theorem mulOk_ex (i j : Int) : ∃ b : Bool, b = !(decide (Builtin.Int.intBits i > shortFactorBits) && decide (Builtin.Int.intBits j > shortFactorBits) && Builtin.Int.intTooBig (Builtin.Int.intBits i + Builtin.Int.intBits j)) := ⟨_, rfl⟩
noncomputable def mulOk (i j : Int) : Bool := (mulOk_ex i j).choose
theorem mulOk_eq (i j : Int) : mulOk i j = !(decide (Builtin.Int.intBits i > shortFactorBits) && decide (Builtin.Int.intBits j > shortFactorBits) && Builtin.Int.intTooBig (Builtin.Int.intBits i + Builtin.Int.intBits j)) := (mulOk_ex i j).choose_spec
theorem op_mulX {X : Cx} : OpR X (binaryOp .Mult) (rI IntMulOk fun i j => .int (i * j)) := opI fun _ _ _ _ _ _ _ hc q => mul_int q hc
noncomputable def dMul (a b : D) : Re D := dIc mulOk (fun i j => .int (i * j)) a b
theorem rr_mul : RR K A W (rI IntMulOk fun i j => .int (i * j)) dMul := rr_I (fun i j h => by
  rw [mulOk_eq] at h
  unfold IntMulOk
  intro q
  rw [q] at h
  cases h) fun _ _ _ => .int _
theorem iDiv_ex (i j : Int) : ∃ k, k = i.fdiv j := ⟨_, rfl⟩
theorem iMod_ex (i j : Int) : ∃ k, k = i.fmod j := ⟨_, rfl⟩
/-- // and %, that no proof unfolds -/
noncomputable def iDiv (i j : Int) : Int := (iDiv_ex i j).choose
noncomputable def iMod (i j : Int) : Int := (iMod_ex i j).choose
theorem iDiv_eq (i j : Int) : iDiv i j = i.fdiv j := (iDiv_ex i j).choose_spec
theorem iMod_eq (i j : Int) : iMod i j = i.fmod j := (iMod_ex i j).choose_spec
noncomputable def dDiv (a b : D) : Re D := dIc (fun _ j => decide (j ≠ 0)) (fun i j => .int (iDiv i j)) a b
theorem rr_div : RR K A W (rI Sx.CDivP fun i j => .int (i.fdiv j)) dDiv := rr_I (fun i j h => (of_decide_eq_true h : j ≠ 0)) fun i j _ => by rw [iDiv_eq]; exact .int _
def CModX (_ j : Int) : Prop := j ≠ 0
theorem op_modX {X : Cx} : OpR X (binaryOp .Mod) (rI CModX fun i j => .int (i.fmod j)) := opI fun i j _ _ _ _ _ hc q => mod_int hc q
noncomputable def dMod (a b : D) : Re D := dIc (fun _ j => decide (j ≠ 0)) (fun i j => .int (iMod i j)) a b
theorem rr_mod : RR K A W (rI CModX fun i j => .int (i.fmod j)) dMod := rr_I (fun i j h => (of_decide_eq_true h : j ≠ 0)) fun i j _ => by rw [iMod_eq]; exact .int _
noncomputable def powOk (i j : Int) : Bool := hd (0 ≤ j ∧ j ≤ 1000000 ∧ i.natAbs < 2 ^ 64)
noncomputable def dPow (a b : D) : Re D := dIc powOk (fun i j => .int (i ^ j.toNat)) a b
theorem rr_pow : RR K A W (rI CPow fun i j => .int (i ^ j.toNat)) dPow := rr_I (fun i j h => by
  exact (hd_iff _).mp h) fun _ _ _ => .int _
def dNeg : D → Re D
  | .int i => .ok (.int (-i))
  | _ => .bad
theorem r1_neg : R1 K A W (rU fun i => .int (-i)) dNeg := by
  intro X σ ρ G L Q x a g hx p
  cases hx <;> first | exact p.elim | exact ⟨_, rfl, p.at_ g _ (.int _)⟩
/-! ### scalars -/
def sEq : D → D → Option Bool
  | .int i, .int j => some (decide (i = j))
  | .str i, .str j => some (decide (i = j))
  | .bl i, .bl j => some (decide (i = j))
  | .non, .non => some true
  | .non, .int _ => some false
  | .int _, .non => some false
  | .non, .bl _ => some false
  | .bl _, .non => some false
  | .non, .str _ => some false
  | .str _, .non => some false
  | .int _, .str _ => some false
  | .str _, .int _ => some false
  | .bl _, .str _ => some false
  | .str _, .bl _ => some false
  | _, _ => none
def ofB (f : Bool → Bool) : Option Bool → Re D
  | some b => .ok (.bl (f b))
  | none => .bad
def dEq (a b : D) : Re D := ofB id (sEq a b)
def dNe (a b : D) : Re D := ofB (!·) (sEq a b)
theorem sEq_ok {x y : V} {a b : D} {k : Bool} (hx : Is K G x a) (hy : Is K G y b) (h : sEq a b = some k) : scal x y = true ∧ decide (x = y) = k := by
  cases hx <;> cases hy <;> simp only [sEq, Option.some.injEq, reduceCtorEq] at h <;> subst h <;> refine ⟨rfl, ?_⟩ <;> simp
theorem rr_eq : RR K A W rEq dEq := by
  intro X σ ρ G L Q x y a b g hx hy p
  unfold dEq at p
  cases e : sEq a b with
  | none => rw [e] at p; exact p.elim
  | some k =>
    rw [e] at p
    obtain ⟨h1, h2⟩ := sEq_ok hx hy e
    exact ⟨h1, by rw [h2]; exact p.at_ g _ (.bl k)⟩
theorem rr_ne : RR K A W rNe dNe := by
  intro X σ ρ G L Q x y a b g hx hy p
  unfold dNe at p
  cases e : sEq a b with
  | none => rw [e] at p; exact p.elim
  | some k =>
    rw [e] at p
    obtain ⟨h1, h2⟩ := sEq_ok hx hy e
    exact ⟨h1, by rw [h2]; exact p.at_ g _ (.bl (!k))⟩
def isNon : D → Bool
  | .non => true
  | _ => false
theorem isNon_ok {x : V} {a : D} (hx : Is K G x a) : decide (x = .non) = isNon a := by
  cases hx <;> simp [isNon]
def dIsN (a b : D) : Re D := ib (isNon b) (.ok (.bl (isNon a))) .bad
def dNotN (a b : D) : Re D := ib (isNon b) (.ok (.bl (!isNon a))) .bad
theorem rr_isN : RR K A W (fun x y H Q => y = .non ∧ Q (.bl (decide (x = .non))) H) dIsN := by
  intro X σ ρ G L Q x y a b g hx hy p
  unfold dIsN at p
  cases hy <;> simp only [isNon, ib_t, ib_f] at p <;> first | exact p.elim | skip
  exact ⟨rfl, by rw [isNon_ok hx]; exact p.at_ g _ (.bl _)⟩
theorem rr_notN : RR K A W (fun x y H Q => y = .non ∧ Q (.bl (!decide (x = .non))) H) dNotN := by
  intro X σ ρ G L Q x y a b g hx hy p
  unfold dNotN at p
  cases hy <;> simp only [isNon, ib_t, ib_f] at p <;> first | exact p.elim | skip
  exact ⟨rfl, by rw [isNon_ok hx]; exact p.at_ g _ (.bl _)⟩
/-! ### built-ins -/
def dInt : List D → Re D
  | [.int i] => .ok (.int i)
  | [.bl b] => .ok (.int (if b then 1 else 0))
  | _ => .bad
theorem rc_int : RC K A W rInt dInt := by
  intro X σ ρ G L Q xs as g hx p
  match as, xs, hx, p with
  | [.int i], [_], .cons (.int _) .nil, p => exact .inl ⟨i, rfl, p.at_ g _ (.int i)⟩
  | [.bl b], [_], .cons (.bl _) .nil, p => exact .inr ⟨b, rfl, p.at_ g _ (.int _)⟩
  | [], _, _, p => exact p.elim
  | .non :: _, _, _, p => exact p.elim
  | .str _ :: _, _, _, p => exact p.elim
  | .tup _ :: _, _, _, p => exact p.elim
  | .lst _ :: _, _, _, p => exact p.elim
  | .ins _ _ :: _, _, _, p => exact p.elim
  | .dic :: _, _, _, p => exact p.elim
  | .int _ :: _ :: _, _, _, p => exact p.elim
  | .bl _ :: _ :: _, _, _, p => exact p.elim
def dI1 (f : Int → Int) : List D → Re D
  | [.int i] => .ok (.int (f i))
  | _ => .bad
def dI2 (f : Int → Int → Int) : List D → Re D
  | [.int i, .int j] => .ok (.int (f i j))
  | _ => .bad
theorem dI1_ok {f : Int → Int} {as : List D} {d : D} (h : dI1 f as = .ok d) : ∃ i, as = [.int i] ∧ d = .int (f i) := by
  unfold dI1 at h; split at h
  · cases h; exact ⟨_, rfl, rfl⟩
  · cases h
theorem dI2_ok {f : Int → Int → Int} {as : List D} {d : D} (h : dI2 f as = .ok d) : ∃ i j, as = [.int i, .int j] ∧ d = .int (f i j) := by
  unfold dI2 at h; split at h
  · cases h; exact ⟨_, _, rfl, rfl⟩
  · cases h
theorem nx_I1 {f : Int → Int} (as : List D) : noX (dI1 f as) := fun C x => by unfold dI1; split <;> simp
theorem nx_I2 {f : Int → Int → Int} (as : List D) : noX (dI2 f as) := fun C x => by unfold dI2; split <;> simp
def dAbs (as : List D) : Re D := dI1 (fun i => (i.natAbs : Int)) as
theorem rc_abs : RC K A W rAbs dAbs := by
  intro X σ ρ G L Q xs as g hx p
  obtain ⟨d, e, p⟩ := p.lift (nx_I1 as)
  obtain ⟨i, rfl, rfl⟩ := dI1_ok e
  have := IsL.ints_eq (ns := [i]) hx
  subst this
  exact Sx.r_abs (p.at_ g _ (.int _))
def dMin (as : List D) : Re D := dI2 (fun i j => min i j) as
def dMax (as : List D) : Re D := dI2 (fun i j => max i j) as
def dGcd (as : List D) : Re D := dI2 (fun i j => (Int.gcd i j : Int)) as
theorem rc_min : RC K A W Sx.rMin dMin := by
  intro X σ ρ G L Q xs as g hx p
  obtain ⟨d, e, p⟩ := p.lift (nx_I2 as)
  obtain ⟨i, j, rfl, rfl⟩ := dI2_ok e
  have := IsL.ints_eq (ns := [i, j]) hx
  subst this
  exact Sx.r_min (p.at_ g _ (.int _))
theorem rc_max : RC K A W Sx.rMax dMax := by
  intro X σ ρ G L Q xs as g hx p
  obtain ⟨d, e, p⟩ := p.lift (nx_I2 as)
  obtain ⟨i, j, rfl, rfl⟩ := dI2_ok e
  have := IsL.ints_eq (ns := [i, j]) hx
  subst this
  exact Sx.r_max (p.at_ g _ (.int _))
theorem rc_gcd : RC K A W rGcd dGcd := by
  intro X σ ρ G L Q xs as g hx p
  obtain ⟨d, e, p⟩ := p.lift (nx_I2 as)
  obtain ⟨i, j, rfl, rfl⟩ := dI2_ok e
  have := IsL.ints_eq (ns := [i, j]) hx
  subst this
  exact Sx.r_gcd (p.at_ g _ (.int _))
/-- len -/
noncomputable def dLen1 : D → Re D
  | .lst ds => .ok (.int ds.length)
  | .tup ds => .ok (.int ds.length)
  | .str x => hf (x.length ≤ 1000000) (.ok (.int x.length)) .bad
  | _ => .bad
noncomputable def dLen : List D → Re D
  | [d] => dLen1 d
  | _ => .bad
theorem rc_len : RC K A W (Sx.rLen K) dLen := by
  intro X σ ρ G L Q xs as g hx p
  match as, xs, hx, p with
  | [], _, _, p => exact p.elim
  | _ :: _ :: _, _, _, p => exact p.elim
  | [d], [v], .cons hv .nil, p =>
    cases hv with
    | lst hs hd => exact Sx.r_lenL (Same.seq g.fr.same hs) (by rw [hd.length]; exact p.at_ g _ (.int _))
    | tup hs hd => exact Sx.r_lenT (Sx.Same.seqT g.fr.same hs) (by rw [hd.length]; exact p.at_ g _ (.int _))
    | str x =>
      simp only [lift, dLen, dLen1] at p
      by_cases e : x.length ≤ 1000000
      · simp only [hf_pos e] at p
        exact Sx.r_lenS (Nat.le_trans e (by decide)) (p.at_ g _ (.int _))
      · simp only [hf_neg e] at p; exact p.elim
    | _ => exact p.elim
noncomputable def lenV : Option Sl → Re D
  | some (.ow ds) => .ok (.int ds.length)
  | some (.rf ds) => .ok (.int ds.length)
  | some (.pl d) => dLen1 d
  | _ => .bad
noncomputable def mLenV (i : Nat) (ρ : Env) : Out D := lift (lenV ρ[i]?) ρ
theorem re_lenV {i : Nat} : RE K A W (tCB (Sx.rLen K) (tCons (tVar i) tNil)) (mLenV i) := by
  intro X σ ρ G L Q g p
  unfold mLenV lenV at p
  split at p
  · rename_i ds e
    obtain ⟨q, ys, e1, hs, hy⟩ := g.seqL (.inl e)
    exact ⟨.ref q, e1, Sx.r_lenL hs (by rw [hy.length]; exact p.at_ g _ (.int _))⟩
  · rename_i ds e
    obtain ⟨q, ys, e1, hs, hy⟩ := g.seqL (.inr (.inl e))
    exact ⟨.ref q, e1, Sx.r_lenL hs (by rw [hy.length]; exact p.at_ g _ (.int _))⟩
  · rename_i d e
    obtain ⟨v, e1, hv⟩ := g.get e
    exact ⟨v, e1, rc_len X σ ρ G L Q [v] [d] g (.cons hv .nil) p⟩
  · exact p.elim
/-- isinstance(e, C) -/
def mIsi (c : Tn) (m : M D) : M D := bnd m fun d => ret (.bl (isub d.tn c))
theorem re_isiB {n : String} {t : TE} {m : M D} (hn : n ∈ btys) (h : RE K A W t m) : RE K A W (tCB (rIsi K) (tCons t (tCons (tC (.ty n)) tNil))) (mIsi (.b n) m) := by
  intro X σ ρ G L Q g p
  refine h X σ ρ G L _ g (p.seq fun d ρ1 G1 L1 s1 g1 p1 v hv => ?_)
  have hv2 := hv.mono (g1.fr.same (K := K))
  exact ⟨v, .ty n, _, _, _, rfl, .ty n, hv2.tyx, hv2.kit (c := .b n) hn, p1.at_ g1 _ (.bl _)⟩
theorem re_isiC {C : Str} {t : TE} {m : M D} (hn : C ∈ Rows.cls K) (h : RE K A W t m) : RE K A W (tCB (rIsi K) (tCons t (tCons (tC (.ref (He.ga K C))) tNil))) (mIsi (.c C) m) := by
  intro X σ ρ G L Q g p
  refine h X σ ρ G L _ g (p.seq fun d ρ1 G1 L1 s1 g1 p1 v hv => ?_)
  have hv2 := hv.mono (g1.fr.same (K := K))
  exact ⟨v, .ref (He.ga K C), _, _, _, rfl, .own _, hv2.tyx, hv2.kit (c := .c C) hn, p1.at_ g1 _ (.bl _)⟩
/-- x[i]: lists, tuples, texts -/
noncomputable def dIx : D → D → Re D
  | .lst ds, .int k => listAt ds k
  | .tup ds, .int k => listAt ds k
  | .str x, .int k => hf (x.length ≤ 1000000) (match L2.atI x.cps.toList k with
    | some c => .ok (.str ⟨#[c]⟩)
    | none => .bad) .bad
  | _, _ => .bad
theorem rr_ix : RR K A W (rIx K) dIx := by
  intro X σ ρ G L Q x y a b g hx hy p
  cases hy with
  | int k =>
    cases hx with
    | @lst q xs ds hs hd =>
      simp only [dIx, listAt] at p
      cases e : L2.atI ds k with
      | none => rw [e] at p; exact p.elim
      | some d =>
        rw [e] at p
        obtain ⟨w, e4, hw⟩ := hd.atI e
        exact .inl ⟨q, xs, k, w, rfl, rfl, Same.seq g.fr.same hs, e4, p.at_ g w hw⟩
    | @tup q xs ds hs hd =>
      simp only [dIx, listAt] at p
      cases e : L2.atI ds k with
      | none => rw [e] at p; exact p.elim
      | some d =>
        rw [e] at p
        obtain ⟨w, e4, hw⟩ := hd.atI e
        exact .inr (.inl ⟨q, xs, k, w, rfl, rfl, Sx.Same.seqT g.fr.same hs, e4, p.at_ g w hw⟩)
    | str z =>
      simp only [dIx] at p
      by_cases hl : z.length ≤ 1000000
      · rw [hf_pos hl] at p
        cases e : L2.atI z.cps.toList k with
        | none => rw [e] at p; exact p.elim
        | some c =>
          rw [e] at p
          exact .inr (.inr ⟨z, k, c, rfl, rfl, Nat.le_trans hl (by decide), e, p.at_ g _ (.str _)⟩)
      · rw [hf_neg hl] at p; exact p.elim
    | _ => exact p.elim
  | _ => cases hx <;> exact p.elim
/-! ### operators of an own class -/
def opC (C : Str) (g : D → D → Re D) (mL mR : MFn) : D → D → Re D
  | .int i, .int j => g (.int i) (.int j)
  | .ins C1 f1, .int j => if C1 = C then frzR (mL [.ins C1 f1, .int j]) else .bad
  | .ins C1 f1, .ins C2 f2 => if C1 = C ∧ C2 = C then frzR (mL [.ins C1 f1, .ins C2 f2]) else .bad
  | .int i, .ins C1 f1 => if C1 = C then frzR (mR [.ins C1 f1, .int i]) else .bad
  | _, _ => .bad
theorem re_opX {C : Str} {r : R2} {g : D → D → Re D} {mL mR : MFn} {ta tb : TE} {a b : M D} (hr : RR K A W r g) (ha : RE K A W ta a) (hb : RE K A W tb b) :
    RE K A W (tOpX r (He.ga K C) (Fr (spM K mL)) (Fr (spM K mR)) W ta tb) (mBin (opC C g mL mR) a b) := by
  intro X σ ρ G L Q gd p
  refine ha X σ ρ G L _ gd (p.seq fun x ρ1 G1 L1 s1 g1 p1 v hv => ?_)
  refine hb X σ ρ1 G1 L1 _ g1 (p1.seq fun y ρ2 G2 L2 s2 g2 p2 u hu => ?_)
  have hv := hv.mono s2
  cases hv with
  | int i =>
    cases hu with
    | int j => exact .inl ⟨⟨i, j, rfl, rfl⟩, hr X σ ρ2 G2 L2 Q _ _ _ _ g2 (.int i) (.int j) p2⟩
    | @ins q dx C1 fs gs hc hn h hs =>
      simp only [opC] at p2
      by_cases e : C1 = C
      · rw [if_pos e] at p2
        subst e
        exact .inr (.inr ⟨i, q, dx, fs, rfl, rfl, g2.fr.same _ _ h, fr_call g2 (.cons (.ins hc hn h hs) (.cons (.int i) .nil)) p2⟩)
      · rw [if_neg e] at p2; exact p2.elim
    | _ => exact p2.elim
  | @ins q dx C1 fs gs hc hn h hs =>
    cases hu with
    | int j =>
      simp only [opC] at p2
      by_cases e : C1 = C
      · rw [if_pos e] at p2
        subst e
        exact .inr (.inl ⟨q, dx, fs, rfl, g2.fr.same _ _ h, .inl ⟨j, rfl⟩, fr_call g2 (.cons (.ins hc hn h hs) (.cons (.int j) .nil)) p2⟩)
      · rw [if_neg e] at p2; exact p2.elim
    | @ins q2 dx2 C2 fs2 gs2 hc2 hn2 h2 hs2 =>
      simp only [opC] at p2
      by_cases e : C1 = C ∧ C2 = C
      · rw [if_pos e] at p2
        obtain ⟨rfl, rfl⟩ := e
        exact .inr (.inl ⟨q, dx, fs, rfl, g2.fr.same _ _ h, .inr ⟨q2, dx2, fs2, rfl, g2.fr.same _ _ h2⟩, fr_call g2 (.cons (.ins hc hn h hs) (.cons (.ins hc2 hn2 h2 hs2) .nil)) p2⟩)
      · rw [if_neg e] at p2; exact p2.elim
    | _ => exact p2.elim
  | _ => cases hu <;> exact p2.elim
def negC (C : Str) (m : MFn) : D → Re D
  | .int i => .ok (.int (-i))
  | .ins C1 f1 => if C1 = C then frzR (m [.ins C1 f1]) else .bad
  | _ => .bad
theorem re_negX {C : Str} {m : MFn} {ta : TE} {a : M D} (ha : RE K A W ta a) : RE K A W (tNegX (He.ga K C) (Fr (spM K m)) W ta) (mUn (negC C m) a) := by
  intro X σ ρ G L Q gd p
  refine ha X σ ρ G L _ gd (p.seq fun x ρ1 G1 L1 s1 g1 p1 v hv => ?_)
  cases hv with
  | int i => exact .inl ⟨i, rfl, p1.at_ g1 _ (.int _)⟩
  | @ins q dx C1 fs gs hc hn h hs =>
    simp only [negC] at p1
    by_cases e : C1 = C
    · rw [if_pos e] at p1
      subst e
      exact .inr ⟨q, dx, fs, rfl, g1.fr.same _ _ h, fr_call g1 (.cons (.ins hc hn h hs) .nil) p1⟩
    · rw [if_neg e] at p1; exact p1.elim
  | _ => exact p1.elim
theorem nf_bt {C : Str} : ∀ n ∈ btys, PySem.W.notFirst K (He.ga K C) (.type n) = true := by
  intro n hn
  have : n = "int" ∨ n = "bool" ∨ n = "str" ∨ n = "list" ∨ n = "tuple" ∨ n = "dict" ∨ n = "NoneType" := by simpa [btys] using hn
  rcases this with rfl | rfl | rfl | rfl | rfl | rfl | rfl
  · exact (inferInstance : Sx.NF K C (.b "int")).h
  · exact (inferInstance : Sx.NF K C (.b "bool")).h
  · exact (inferInstance : Sx.NF K C (.b "str")).h
  · exact (inferInstance : Sx.NF K C (.b "list")).h
  · exact (inferInstance : Sx.NF K C (.b "tuple")).h
  · exact (Sx.nf_b (n := "dict") (l := [.type "dict", .type "object"]) (by decide +kernel) rfl : Sx.NF K C (.b "dict")).h
  · exact (inferInstance : Sx.NF K C (.b "NoneType")).h
theorem Is.nf {C : Str} {v : V} {d : D} (hC : C ∈ Rows.cls K) (h : Is K G v d) : PySem.W.notFirst K (He.ga K C) (d.tn.val K) = true := by
  cases h with
  | ins hc _ _ _ => exact (Rows.ok C hC).nf _ hc
  | _ => exact nf_bt _ (by decide)
def eqC (C : Str) (m : MFn) (a b : D) : Re D := match a with
  | .ins C1 f1 => if C1 = C then frzR (m [.ins C1 f1, b]) else .bad
  | _ => dEq a b
theorem re_eqX {C : Str} {m : MFn} {ta tb : TE} {a b : M D} (ha : RE K A W ta a) (hb : RE K A W tb b) : RE K A W (tEqX K (He.ga K C) (Fr (spM K m)) W ta tb) (mBin (eqC C m) a b) := by
  intro X σ ρ G L Q gd p
  refine ha X σ ρ G L _ gd (p.seq fun x ρ1 G1 L1 s1 g1 p1 v hv => ?_)
  refine hb X σ ρ1 G1 L1 _ g1 (p1.seq fun y ρ2 G2 L2 s2 g2 p2 u hu => ?_)
  have hv := hv.mono s2
  have sc : ∀ {x y : D}, (lift (dEq x y) ρ2 = lift (dEq x y) ρ2) → Is K G2 v x → Is K G2 u y → PO K A X W σ G2 (fun d G' L' => ∀ v, Is K G' v d → Q v (upds K G' L')) (lift (dEq x y) ρ2) → kEq K (He.ga K C) (Fr (spM K m)) (WE W σ) Q v u (upds K G2 L2) := fun {x y} _ h1 h2 q => by
    obtain ⟨z1, z2⟩ := rr_eq X σ ρ2 G2 L2 Q v u x y g2 h1 h2 q
    exact .inl ⟨z1, z2⟩
  cases x with
  | ins C1 f1 =>
    simp only [eqC] at p2
    by_cases e : C1 = C
    · rw [if_pos e] at p2
      subst e
      cases hv with
      | @ins q dx _ fs _ hc hn h hs =>
        exact .inr ⟨q, dx, fs, _, rfl, g2.fr.same _ _ h, (hu.mono g2.fr.same).tyx, hu.nf hc, fr_call g2 (.cons (.ins hc hn h hs) (.cons hu .nil)) p2⟩
    · rw [if_neg e] at p2; exact p2.elim
  | non => exact sc rfl hv hu p2
  | bl _ => exact sc rfl hv hu p2
  | int _ => exact sc rfl hv hu p2
  | str _ => exact sc rfl hv hu p2
  | tup _ => exact sc rfl hv hu p2
  | lst _ => exact sc rfl hv hu p2
  | dic => exact sc rfl hv hu p2
/-- x op= y by the plain method -/
def ipC (C : Str) (mL : MFn) : D → D → Re D
  | .ins C1 f1, .int j => if C1 = C then frzR (mL [.ins C1 f1, .int j]) else .bad
  | .ins C1 f1, .ins C2 f2 => if C1 = C ∧ C2 = C then frzR (mL [.ins C1 f1, .ins C2 f2]) else .bad
  | _, _ => .bad
theorem rr_ip {C : Str} {mL : MFn} {E : XK} : RR K A (wx E) (rIpX (He.ga K C) (Fr (spM K mL)) E) (ipC C mL) := by
  intro X σ ρ G L Q x y a b g hx hy p
  cases hx with
  | @ins q dx C1 fs gs hc hn h hs =>
    cases hy with
    | int j =>
      simp only [ipC] at p
      by_cases e : C1 = C
      · rw [if_pos e] at p
        subst e
        exact ⟨q, dx, fs, rfl, g.fr.same _ _ h, .inl ⟨j, rfl⟩, fr_call (W := wx E) g (.cons (.ins hc hn h hs) (.cons (.int j) .nil)) p⟩
      · rw [if_neg e] at p; exact p.elim
    | @ins q2 dx2 C2 fs2 gs2 hc2 hn2 h2 hs2 =>
      simp only [ipC] at p
      by_cases e : C1 = C ∧ C2 = C
      · rw [if_pos e] at p
        obtain ⟨rfl, rfl⟩ := e
        exact ⟨q, dx, fs, rfl, g.fr.same _ _ h, .inr ⟨q2, dx2, fs2, rfl, g.fr.same _ _ h2⟩, fr_call (W := wx E) g (.cons (.ins hc hn h hs) (.cons (.ins hc2 hn2 h2 hs2) .nil)) p⟩
      · rw [if_neg e] at p; exact p.elim
    | _ => exact p.elim
  | _ => cases hy <;> exact p.elim
end
end Mi

namespace Mi
open PySem PySem.Spec PyProof.Rows L2
open Sx (Tn Fx btys tCallW tMethW tMakeW Fr wx tMkE)
section
variable {K : PySem.W.Frag} [Rows K] {A : Anc} {X : Cells} {W : WX} {σ : L2.St} {ρ : Env} {G G' : Hp} {L : Cells}
section
variable {P : Program} {w : World} {mg : Str → Option Value} {base : Heap} {x qual : Str} {params : Arguments} {body : List Stmt} {scope : Scope} {dvs : List V} {kws : List (Str × V)} {f : Addr} {fd : FuncData} {N ps : List Str} {k : Nat} {b : M Fl} {C : Str}
theorem fn_I (F : ∃ fd, FunD K x qual params body scope [] kws f fd) (S : FnScope N ps scope)
    (hbi : ∀ (kV doc pm : Value) (an : Option Addr) (cdv ct : Value) (us : List Value), us.length = ps.length → bindArgs (PySem.W.fnOf x qual params body scope .none kV doc pm an cdv ct) ⟨us, []⟩ = pure (ps.zip us))
    (hC : C ∈ Rows.cls K) (hb : Body K P w mg base qual scope f N k body b) : FnR P w K mg base (L2.CX P w) (k + 1) f (spI K C (runI C N.length ps.length b)) := by
  obtain ⟨fd, F⟩ := F
  have Gx := FnOk.raw (fok_I (P := P) (w := w) (mg := mg) (base := base) F S hC hb) (F.bindsN hbi) .nil
  exact Gx.imp fun vs H Q E h => by rw [List.append_nil]; exact h
/-- one default, an int -/
theorem fn_I1 {n : Int} (F : ∃ fd, FunD K x qual params body scope [.int n] kws f fd) (S : FnScope N ps scope) (hp : 0 < ps.length)
    (hb1 : ∀ (T : Addr) (kV doc pm : Value) (an : Option Addr) (cdv ct : Value) (us its : List Value), us.length = ps.length → its.length = 1 →
      ∃ k, bindArgs (PySem.W.fnOf x qual params body scope (.ref T) kV doc pm an cdv ct) ⟨us, []⟩ = seqItems? (.ref T) >>= k ∧ k (some its.toArray) = pure (ps.zip (us ++ its.drop 1)))
    (hb0 : ∀ (T : Addr) (kV doc pm : Value) (an : Option Addr) (cdv ct : Value) (us its : List Value), us.length = ps.length - 1 → its.length = 1 →
      ∃ k, bindArgs (PySem.W.fnOf x qual params body scope (.ref T) kV doc pm an cdv ct) ⟨us, []⟩ = seqItems? (.ref T) >>= k ∧ k (some its.toArray) = pure (ps.zip (us ++ its.drop 0)))
    (hC : C ∈ Rows.cls K) (hb : Body K P w mg base qual scope f N k body b) : FnR P w K mg base (L2.CX P w) (k + 1) f (spI K C (runI C N.length ps.length b)) ∧
      FnR P w K mg base (L2.CX P w) (k + 1) f (spI K C fun ds => runI C N.length ps.length b (ds ++ [.int n])) := by
  obtain ⟨fd, F⟩ := F
  have z := Sx.fnr1 (P := P) (w := w) (mg := mg) (base := base) F (fok_I F S hC hb) hp hb1 hb0
  refine ⟨z.1, z.2.imp fun vs H Q E h => ?_⟩
  obtain ⟨a, dx, vs', ds, G, rfl, rfl, n1, n2, ne, hv, h⟩ := h
  exact ⟨a, dx, vs' ++ [.int n], ds ++ [.int n], G, rfl, rfl, n1, n2, ne, hv.snoc (.int n), h⟩
theorem fnr_falseM {f : Addr} : FnR P w K mg base (L2.CX P w) 0 f (Fr (spM K fun _ => .bad)) := fun _ _ _ _ _ _ _ _ _ _ _ h => by
  obtain ⟨_, _, _, _, _, _, h⟩ := h
  exact h.elim
end
theorem rr_ipI {g : Int → Int → Int} : RR K A W (ipI g) (dI fun i j => .int (g i j)) := by
  intro X σ ρ G L Q x y a b g hx hy p
  cases hx <;> cases hy <;> first | exact p.elim | exact ⟨_, _, rfl, rfl, p.at_ g _ (.int _)⟩
/-! ### slices -/
def mNoP : M (Option Int) := ret none
theorem ro_none : RO K A W tNoPart mNoP := fun X σ ρ G L Q g p => p.at_ g
def asI : D → Re Int
  | .int i => .ok i
  | _ => .bad
def mPart (m : M D) : M (Option Int) := bnd m fun d => bnd (lift (asI d)) fun i => ret (some i)
theorem ro_some {t : TE} {m : M D} (h : RE K A W t m) : RO K A W (tPart t) (mPart m) := by
  intro X σ ρ G L Q g p
  refine h X σ ρ G L _ g (p.seq fun d ρ1 G1 L1 s1 g1 p1 v hv => ?_)
  cases hv with
  | int i => exact ⟨i, rfl, p1.at_ g1⟩
  | _ => exact p1.elim
def cutD (xs : List D) (lo hi : Option Int) : List D := (xs.drop (HT.sIx xs.length 0 lo)).take (HT.sIx xs.length xs.length hi - HT.sIx xs.length 0 lo)
theorem IsL.cut {vs : List V} {ds : List D} (h : IsL K G vs ds) (lo hi : Option Int) : IsL K G (cutV vs lo hi) (cutD ds lo hi) := by
  unfold cutV cutD
  rw [h.length]
  exact (h.drop _).take _
def mSlL (e : M D) (lo hi : M (Option Int)) : M (List D) := bnd e fun d => bnd lo fun l => bnd hi fun u => bnd (lift (asL d)) fun ds => ret (cutD ds l u)
theorem rn_slL {te : TE} {tl th : TO} {e : M D} {lo hi : M (Option Int)} (he : RE K A W te e) (hl : RO K A W tl lo) (hh : RO K A W th hi) : RN K A W (tSl (rSlL K) te tl th) (mSlL e lo hi) := by
  intro X σ ρ G L Q g p
  refine he X σ ρ G L _ g (p.seq fun d ρ1 G1 L1 s1 g1 p1 v hv => ?_)
  refine hl X σ ρ1 G1 L1 _ g1 (p1.seq fun l ρ2 G2 L2 s2 g2 p2 => ?_)
  refine hh X σ ρ2 G2 L2 _ g2 (p2.seq fun u ρ3 G3 L3 s3 g3 p3 => ?_)
  cases hv.mono (s2.trans s3) with
  | @lst a xs ds hs hd =>
    refine ⟨a, xs, rfl, Same.seq g3.fr.same hs, fun q n => ?_⟩
    obtain ⟨n1, n2⟩ := free_of n
    exact PO.at_ (a := cutD ds l u) p3 g3 q _ n1 n2 (hd.cut l u)
  | _ => exact p3.elim
end
end Mi

namespace Mi
open PySem
section
variable (d : D) (ds : List D) (C f : Str) (gs : List (Str × D)) (x : Option (Str × D)) (k : Int) (c : List D)
theorem mkR_ex (C' : Str) : mkR C (.ex C' x) = .ex C' x := rfl
theorem bo_pl : bound (some (.pl d)) = true := rfl
theorem bo_ow : bound (some (.ow ds)) = true := rfl
theorem bo_rf : bound (some (.rf ds)) = true := rfl
theorem bo_un : bound (some .un) = false := rfl
theorem sa_ow : seqAt (some (.ow ds)) (.int k) = listAt ds k := rfl
theorem sa_rf : seqAt (some (.rf ds)) (.int k) = listAt ds k := rfl
theorem sa_pl : seqAt (some (.pl (.lst ds))) (.int k) = listAt ds k := rfl
theorem oa_un : okAsg (some .un) = true := rfl
theorem oa_pl : okAsg (some (.pl d)) = true := rfl
theorem oa_ow : okAsg (some (.ow ds)) = true := rfl
theorem co_ow : cellOf (some (.ow ds)) = some ds := rfl
theorem co_rf : cellOf (some (.rf ds)) = some ds := rfl
theorem co_pl : cellOf (some (.pl d)) = none := rfl
theorem st_ow : setC c (some (.ow ds)) = .ow c := rfl
theorem st_rf : setC c (some (.rf ds)) = .rf c := rfl
theorem lv_ow : lenV (some (.ow ds)) = .ok (.int ds.length) := rfl
theorem lv_rf : lenV (some (.rf ds)) = .ok (.int ds.length) := rfl
theorem lv_pl : lenV (some (.pl d)) = dLen1 d := rfl
theorem ne_un : notExn .un = true := rfl
theorem ne_pl : notExn (.pl d) = true := rfl
theorem ne_ow : notExn (.ow ds) = true := rfl
theorem ne_rf : notExn (.rf ds) = true := rfl
theorem ne_se : notExn (.se C gs) = true := rfl
theorem ne_ex : notExn (.exn C x) = false := rfl
theorem th_un : thin (some .un) = true := rfl
theorem th_pl : thin (some (.pl d)) = true := rfl
theorem ie_ex : isExn (some (.exn C x)) = true := rfl
theorem xf_ex (C' f' : Str) : xfld C f (some (.exn C' (some (f', d)))) = if C' = C ∧ f' = f then .ok d else .bad := rfl
theorem cl_un (ρ : Env) (v : Nat) (h : ρ[v]? = some .un) : clr v ρ = .ok () (ρ.set v .un) := by unfold clr; rw [h]
theorem cl_pl (ρ : Env) (v : Nat) (h : ρ[v]? = some (.pl d)) : clr v ρ = .ok () (ρ.set v .un) := by unfold clr; rw [h]
end
end Mi

namespace Mi
open PySem PySem.Spec PyProof.Rows L2
open Sx (Tn Fx btys Fr wx)
/-! ### == of any data -/
/-- classes with their __eq__ -/
abbrev Tab := List (Str × MFn)
def asB : Re Rv → Option Bool
  | .ok (.pl (.bl b)) => some b
  | _ => none
def appT : Tab → Str → List D → Option Bool
  | [], _, _ => none
  | (C, m) :: T, c, ds => if C = c then asB (m ds) else appT T c ds
def eqK : D → D → Option Bool
  | .int i, .int j => some (decide (i = j))
  | .str i, .str j => some (decide (i = j))
  | .bl i, .bl j => some (decide (i = j))
  | .bl a, .int b => some (decide ((if a then 1 else 0) = b))
  | .int a, .bl b => some (decide (a = (if b then 1 else 0)))
  | .non, .non => some true
  | .tup _, .tup _ => none
  | .lst _, .lst _ => none
  | .ins _ _, _ => none
  | .dic, _ => none
  | _, .ins _ _ => none
  | _, .dic => none
  | _, _ => some false
open Classical in
noncomputable def itE (f : D → D → Option Bool) (d e : D) : Option Bool := match f d e with
  | some true => some true
  | some false => if d = e then none else some false
  | none => none
noncomputable def eqLs (f : D → D → Option Bool) : List D → List D → Option Bool
  | [], [] => some true
  | [], _ :: _ => some false
  | _ :: _, [] => some false
  | x :: xs, y :: ys => match itE f x y with
    | some true => eqLs f xs ys
    | some false => some false
    | none => none
noncomputable def eqB (T : Tab) (f : D → D → Option Bool) (d e : D) : Option Bool := match d with
  | .ins C fs => appT T C [.ins C fs, e]
  | .tup xs => (match e with
    | .tup ys => eqLs f xs ys
    | e => eqK (.tup xs) e)
  | .lst xs => (match e with
    | .lst ys => if xs.length = ys.length then eqLs f xs ys else some false
    | e => eqK (.lst xs) e)
  | d => eqK d e
noncomputable def eqN (T : Tab) : Nat → D → D → Option Bool
  | 0 => eqB T fun _ _ => none
  | n + 1 => eqB T (eqN T n)
theorem itE_of {f : D → D → Option Bool} {d e : D} {b : Bool} (h : f d e = some b) (k : d = e → b = true) : itE f d e = some b := by
  unfold itE
  rw [h]
  cases b with
  | true => rfl
  | false =>
    have : ¬ d = e := fun z => by cases k z
    simp only [if_neg this]
theorem itE_ok {f : D → D → Option Bool} {d e : D} {b : Bool} (h : itE f d e = some b) : f d e = some b ∧ (d = e → b = true) := by
  unfold itE at h
  cases q : f d e with
  | none => rw [q] at h; cases h
  | some c =>
    rw [q] at h
    cases c with
    | true => cases h; exact ⟨rfl, fun _ => rfl⟩
    | false =>
      by_cases z : d = e
      · simp only [if_pos z] at h; cases h
      · simp only [if_neg z] at h; cases h; exact ⟨rfl, fun y => absurd y z⟩
theorem appT_mem {T : Tab} {c : Str} {ds : List D} {b : Bool} (h : appT T c ds = some b) : ∃ m, (c, m) ∈ T ∧ m ds = .ok (.pl (.bl b)) := by
  induction T with
  | nil => cases h
  | cons p T ih =>
    obtain ⟨C, m⟩ := p
    unfold appT at h
    by_cases e : C = c
    · rw [if_pos e] at h
      refine ⟨m, by rw [e]; exact List.mem_cons_self, ?_⟩
      unfold asB at h
      split at h
      · rename_i e2; cases h; exact e2
      · cases h
    · rw [if_neg e] at h
      obtain ⟨m, h1, h2⟩ := ih h
      exact ⟨m, List.mem_cons_of_mem _ h1, h2⟩
section
variable {Xc : Cx} [Rows Xc.K] {pins : List (Addr × Obj)} {σ : L2.St} {H G : Hp} {L : Cells} {s : Shared}
theorem Is.cls (I : Inv Xc pins σ H s) {a : Addr} {d : D} (h : Is Xc.K H (.ref a) d) : ∃ o, s.heap.get? a = some o ∧ o.cls = d.tn.val Xc.K := by
  cases h with
  | tup h _ => obtain ⟨_, _, ⟨o, e, c, _, _⟩, _⟩ := I.tuple h; exact ⟨o, e, c⟩
  | lst h _ => obtain ⟨_, _, ⟨o, _, e, c, _, _⟩, _⟩ := I.list h; exact ⟨o, e, c⟩
  | ins hc hn h hs =>
    obtain ⟨mA, J, _⟩ := ins_get I.hok h
    obtain ⟨od, J, _⟩ := J.look
    exact ⟨_, J.at_, J.cls⟩
  | dic h =>
    obtain ⟨_, _, vs, _, o, es, ep, h1, h2, _⟩ := (show ObjOk Xc.prog Xc.w H s.heap a (.dK []) from I.hok a _ h)
    exact ⟨o, h1, h2.1⟩
mutual
theorem Is.uniq (I : Inv Xc pins σ H s) : ∀ {v : V} {d e : D}, Is Xc.K H v d → Is Xc.K H v e → d = e
  | _, _, _, .non, h => by cases h; rfl
  | _, _, _, .bl _, h => by cases h; rfl
  | _, _, _, .int _, h => by cases h; rfl
  | _, _, _, .str _, h => by cases h; rfl
  | _, _, _, .tup h1 hs, h => by
    obtain ⟨o, e1, c1⟩ := Is.cls I (.tup h1 hs)
    obtain ⟨o2, e2, c2⟩ := Is.cls I h
    rw [e1] at e2; cases e2
    rw [c1] at c2
    cases h with
    | tup h2 hs2 =>
      have := I.tuple_inj h1 h2
      subst this
      rw [IsL.uniq I hs hs2]
    | lst _ _ => simp [Tn.val] at c2
    | ins _ _ _ _ => simp [Tn.val] at c2
    | dic _ => simp [Tn.val] at c2
  | _, _, _, .lst h1 hs, h => by
    obtain ⟨o, e1, c1⟩ := Is.cls I (.lst h1 hs)
    obtain ⟨o2, e2, c2⟩ := Is.cls I h
    rw [e1] at e2; cases e2
    rw [c1] at c2
    cases h with
    | lst h2 hs2 =>
      have := I.list_inj h1 h2
      subst this
      rw [IsL.uniq I hs hs2]
    | tup _ _ => simp [Tn.val] at c2
    | ins _ _ _ _ => simp [Tn.val] at c2
    | dic _ => simp [Tn.val] at c2
  | _, _, _, .ins (C := C1) hc hn h1 hs, h => by
    obtain ⟨o, e1, c1⟩ := Is.cls I (.ins hc hn h1 hs)
    obtain ⟨o2, e2, c2⟩ := Is.cls I h
    rw [e1] at e2; cases e2
    rw [c1] at c2
    cases h with
    | @ins _ _ C2 _ _ hc2 hn2 h2 hs2 =>
      have q1 := (Rows.ok _ hc).ko _ hc2
      have q2 := (Rows.ok _ hc).ko _ hc
      have c2 : Value.ref (He.ga Xc.K C1) = .ref (He.ga Xc.K C2) := c2
      rw [← c2, q2] at q1
      have q3 : C1 = C2 := by simpa using q1
      subst q3
      rw [h1] at h2
      cases h2
      rw [IsF.uniq I hs hs2]
    | tup _ _ => simp [Tn.val] at c2
    | lst _ _ => simp [Tn.val] at c2
    | dic _ => simp [Tn.val] at c2
  | _, _, _, .dic h1, h => by
    obtain ⟨o, e1, c1⟩ := Is.cls I (.dic h1)
    obtain ⟨o2, e2, c2⟩ := Is.cls I h
    rw [e1] at e2; cases e2
    rw [c1] at c2
    cases h with
    | dic _ => rfl
    | ins _ _ _ _ => simp [Tn.val] at c2
    | tup _ _ => simp [Tn.val] at c2
    | lst _ _ => simp [Tn.val] at c2
theorem IsL.uniq (I : Inv Xc pins σ H s) : ∀ {v : List V} {d e : List D}, IsL Xc.K H v d → IsL Xc.K H v e → d = e
  | _, _, _, .nil, h => by cases h; rfl
  | _, _, _, .cons h hs, k => by
    cases k with
    | cons h2 hs2 => rw [Is.uniq I h h2, IsL.uniq I hs hs2]
theorem IsF.uniq (I : Inv Xc pins σ H s) : ∀ {v : List (Str × V)} {d e : List (Str × D)}, IsF Xc.K H v d → IsF Xc.K H v e → d = e
  | _, _, _, .nil, h => by cases h; rfl
  | _, _, _, .cons h hs, k => by
    cases k with
    | cons h2 hs2 => rw [Is.uniq I h h2, IsF.uniq I hs hs2]
end
/-! ### the comparison itself -/
def LoopS (Xc : Cx) (pins : List (Addr × Obj)) (σ : L2.St) (G : Hp) (L : Cells) (s' : Shared) : Prop := ∃ G', Inv Xc pins σ (upds Xc.K G' L) s' ∧ Same G G' ∧ Frs G' L
theorem LoopS.mono {G1 : Hp} {s' : Shared} (e : Same G G1) (h : LoopS Xc pins σ G1 L s') : LoopS Xc pins σ G L s' := by
  obtain ⟨G', a, b, c⟩ := h
  exact ⟨G', a, e.trans b, c⟩
def RcS (Xc : Cx) [Rows Xc.K] (n : Nat) (f : D → D → Option Bool) : Prop := ∀ (A : Around) (pins : List (Addr × Obj)) (s : Shared) (σ : L2.St) (G : Hp) (L : Cells) (x y : V) (u v : Value) (d e : D) (b : Bool), Sub Xc n A → Inv Xc pins σ (upds Xc.K G L) s → Frs G L →
  RelV x u → RelV y v → Is Xc.K G x d → Is Xc.K G y e → f d e = some b →
  wpAny (model Xc.prog Xc.w) A (richCompare .Eq u v) (fun r s' => r = .bool b ∧ LoopS Xc pins σ G L s') Xc.xe s ∧ wpAny (model Xc.prog Xc.w) A (richCompare .NotEq u v) (fun r s' => r = .bool (!b) ∧ LoopS Xc pins σ G L s') Xc.xe s
theorem RelV.inj1 {x y : V} {u : Value} (h : RelV x u) (k : RelV y u) : x = y := by
  have := Vals.inj (xs := [x]) (ys := [y]) (us := [u]) (.cons h .nil) (.cons k .nil)
  exact (List.cons.inj this).1
theorem RcS.item {n : Nat} {f : D → D → Option Bool} (h : RcS Xc n f) {A : Around} {x y : V} {u v : Value} {d e : D} {b : Bool} (sb : Sub Xc n A) (I : Inv Xc pins σ (upds Xc.K G L) s) (fr : Frs G L)
    (rx : RelV x u) (ry : RelV y v) (hx : Is Xc.K G x d) (hy : Is Xc.K G y e) (q : itE f d e = some b) : wpAny (model Xc.prog Xc.w) A (eqBool u v) (fun r s' => r = b ∧ LoopS Xc pins σ G L s') Xc.xe s := by
  obtain ⟨q1, q2⟩ := itE_ok q
  unfold eqBool
  refine wpAny_holding ?_
  refine wpAny_ite_split (fun hab => ?_) (fun _ => ?_)
  · have e1 := eq_of_beq hab
    subst e1
    have e2 := RelV.inj1 rx ry
    subst e2
    have e3 := q2 (Is.uniq I (hx.mono fr.same) (hy.mono fr.same))
    subst e3
    exact wpAny_bind (wpAny_rule (wpAny_pure ⟨rfl, G, I, Same.refl _, fr⟩))
  · have nf : ∀ bits tok, u ≠ .float bits tok := fun bits tok z => by
      subst z
      cases hx <;> first | (cases rx; done) | (obtain ⟨_, z⟩ := rx; cases z; done)
    dsimp only
    split
    · rename_i z; exact absurd (Prod.mk.inj z).1 (nf _ _)
    · refine wpAny_bind (wpAny_mono (h A pins s σ G L x y u v d e b sb I fr rx ry hx hy q1).1 (fun r s' z => ?_) fun _ _ z => z)
      obtain ⟨rfl, z⟩ := z
      exact wpAny_truthy_bool ⟨rfl, z⟩
theorem eqLs_step {f : D → D → Option Bool} {ds es : List D} {i : Nat} {b : Bool} (h1 : i < ds.length) (h2 : i < es.length) (h : eqLs f (ds.drop i) (es.drop i) = some b) :
    (itE f ds[i] es[i] = some true ∧ eqLs f (ds.drop (i + 1)) (es.drop (i + 1)) = some b) ∨ (itE f ds[i] es[i] = some false ∧ b = false) := by
  rw [List.drop_eq_getElem_cons h1, List.drop_eq_getElem_cons h2, eqLs] at h
  split at h
  · rename_i e; exact .inl ⟨e, h⟩
  · rename_i e; cases h; exact .inr ⟨e, rfl⟩
  · cases h
theorem eqLs_end {f : D → D → Option Bool} {ds es : List D} {b : Bool} (h : eqLs f (ds.drop (min ds.length es.length)) (es.drop (min ds.length es.length)) = some b) : b = (ds.length == es.length) := by
  rcases Nat.lt_trichotomy ds.length es.length with c | c | c
  · rw [Nat.min_eq_left (Nat.le_of_lt c), List.drop_length, List.drop_eq_getElem_cons c, eqLs] at h
    cases h
    simp; omega
  · rw [c, Nat.min_self, ← c, List.drop_length, c, List.drop_length, eqLs] at h
    cases h
    simp [c]
  · rw [Nat.min_eq_right (Nat.le_of_lt c), List.drop_length, List.drop_eq_getElem_cons c, eqLs] at h
    cases h
    simp; omega
theorem turnS {n : Nat} {f : D → D → Option Bool} (h : RcS Xc n f) {A : Around} (sb : Sub Xc (n + 1) A) {xs ys : List V} {ds es : List D} {its its2 : List Value} {b : Bool} (hx : IsL Xc.K G xs ds) (hy : IsL Xc.K G ys es)
    (r : Vals xs its) (r2 : Vals ys its2) (i : Nat) (h1 : i < its.toArray.size) (h2 : i < its2.toArray.size) (s' : Shared) (l : eqLs f (ds.drop i) (es.drop i) = some b ∧ LoopS Xc pins σ G L s') :
    wpAny (model Xc.prog Xc.w) A.in1 (eqBool its.toArray[i] its2.toArray[i]) (fun r s2 => if r = true then eqLs f (ds.drop (i + 1)) (es.drop (i + 1)) = some b ∧ LoopS Xc pins σ G L s2 else b = false ∧ LoopS Xc pins σ G L s2) Xc.xe s' := by
  obtain ⟨q, G1, I1, e1, fr1⟩ := l
  have g1 : its[i]? = some its.toArray[i] := by
    have h1' : i < its.length := by simpa using h1
    rw [List.getElem?_eq_getElem h1'] <;> simp
  have g2 : its2[i]? = some its2.toArray[i] := by
    have h2' : i < its2.length := by simpa using h2
    rw [List.getElem?_eq_getElem h2'] <;> simp
  have k1 : i < xs.length := by rw [r.length]; simpa using h1
  have k2 : i < ys.length := by rw [r2.length]; simpa using h2
  have j1 : i < ds.length := by rw [← hx.length]; exact k1
  have j2 : i < es.length := by rw [← hy.length]; exact k2
  obtain ⟨u, hu, ru⟩ := r.get (List.getElem?_eq_getElem k1)
  obtain ⟨v, hv, rv⟩ := r2.get (List.getElem?_eq_getElem k2)
  rw [g1] at hu
  rw [g2] at hv
  rw [Option.some.inj hu, Option.some.inj hv]
  obtain ⟨d, hd1, hd⟩ := hx.getV (List.getElem?_eq_getElem k1)
  obtain ⟨e, he1, he⟩ := hy.getV (List.getElem?_eq_getElem k2)
  rw [List.getElem?_eq_getElem j1] at hd1
  rw [List.getElem?_eq_getElem j2] at he1
  cases hd1
  cases he1
  rcases eqLs_step j1 j2 q with ⟨z1, z2⟩ | ⟨z1, z2⟩
  · refine wpAny_mono (h.item sb.in1 I1 fr1 ru rv (hd.mono e1) (he.mono e1) z1) (fun r s2 q => ?_) fun _ _ x => x
    obtain ⟨rfl, q⟩ := q
    exact ⟨z2, q.mono e1⟩
  · refine wpAny_mono (h.item sb.in1 I1 fr1 ru rv (hd.mono e1) (he.mono e1) z1) (fun r s2 q => ?_) fun _ _ x => x
    obtain ⟨rfl, q⟩ := q
    exact ⟨z2, q.mono e1⟩
theorem rcS_tup {n : Nat} {f : D → D → Option Bool} (h : RcS Xc n f) {A : Around} (sb : Sub Xc (n + 1) A) (I : Inv Xc pins σ (upds Xc.K G L) s) (fr : Frs G L) {x y : V} {u v : Value} {ds es : List D} {b : Bool} (rx : RelV x u) (ry : RelV y v)
    (hx : Is Xc.K G x (.tup ds)) (hy : Is Xc.K G y (.tup es)) (q : eqLs f ds es = some b) :
    wpAny (model Xc.prog Xc.w) A (richCompare .Eq u v) (fun r s' => r = .bool b ∧ LoopS Xc pins σ G L s') Xc.xe s ∧ wpAny (model Xc.prog Xc.w) A (richCompare .NotEq u v) (fun r s' => r = .bool (!b) ∧ LoopS Xc pins σ G L s') Xc.xe s := by
  cases hx with
  | @tup a xs _ ha hs =>
    cases hy with
    | @tup c ys _ hc ht =>
      cases rx
      cases ry
      obtain ⟨its, r, e, z⟩ := I.tuple (Sx.Same.seqT fr.same ha)
      obtain ⟨its2, r2, e2, z2⟩ := I.tuple (Sx.Same.seqT fr.same hc)
      have l1 : its.toArray.size = ds.length := by rw [List.size_toArray, ← r.length, hs.length]
      have l2 : its2.toArray.size = es.length := by rw [List.size_toArray, ← r2.length, ht.length]
      refine ⟨Gq.rc_tup_eqT sb.room.units0 (fun i s' => eqLs f (ds.drop i) (es.drop i) = some b ∧ LoopS Xc pins σ G L s') (fun s' => b = false ∧ LoopS Xc pins σ G L s') e e2 (fun i h1 h2 s' l => turnS h sb hs ht r r2 i h1 h2 s' l) (fun s' l => ?_) (fun s' l => ?_) ⟨q, G, I, Same.refl _, fr⟩,
        Gq.rc_tup_neT sb.room.units0 (fun i s' => eqLs f (ds.drop i) (es.drop i) = some b ∧ LoopS Xc pins σ G L s') (fun s' => b = false ∧ LoopS Xc pins σ G L s') e e2 (fun i h1 h2 s' l => turnS h sb hs ht r r2 i h1 h2 s' l) (fun s' l => ?_) (fun s' l => ?_) ⟨q, G, I, Same.refl _, fr⟩⟩
      · rw [l1, l2] at l ⊢
        exact ⟨by rw [eqLs_end l.1], l.2⟩
      · exact ⟨by rw [l.1], l.2⟩
      · rw [l1, l2] at l ⊢
        exact ⟨by rw [eqLs_end l.1]; rfl, l.2⟩
      · exact ⟨by rw [l.1]; rfl, l.2⟩
theorem rcS_lst {n : Nat} {f : D → D → Option Bool} (h : RcS Xc n f) {A : Around} (sb : Sub Xc (n + 1) A) (I : Inv Xc pins σ (upds Xc.K G L) s) (fr : Frs G L) {x y : V} {u v : Value} {ds es : List D} {b : Bool} (rx : RelV x u) (ry : RelV y v)
    (hx : Is Xc.K G x (.lst ds)) (hy : Is Xc.K G y (.lst es)) (q : (if ds.length = es.length then eqLs f ds es else some false) = some b) :
    wpAny (model Xc.prog Xc.w) A (richCompare .Eq u v) (fun r s' => r = .bool b ∧ LoopS Xc pins σ G L s') Xc.xe s ∧ wpAny (model Xc.prog Xc.w) A (richCompare .NotEq u v) (fun r s' => r = .bool (!b) ∧ LoopS Xc pins σ G L s') Xc.xe s := by
  cases hx with
  | @lst a xs _ ha hs =>
    cases hy with
    | @lst c ys _ hc ht =>
      cases rx
      cases ry
      have obj : ∀ s', LoopS Xc pins σ G L s' → ∃ its its2 : List Value, Vals xs its ∧ Vals ys its2 ∧ PlainL s'.heap a its.toArray ∧ PlainL s'.heap c its2.toArray := fun s' l => by
        obtain ⟨G1, I1, e1, fr1⟩ := l
        obtain ⟨its, r, e, z⟩ := I1.list (Same.seq (e1.trans fr1.same) ha)
        obtain ⟨its2, r2, e2, z2⟩ := I1.list (Same.seq (e1.trans fr1.same) hc)
        exact ⟨its, its2, r, r2, e, e2⟩
      let J : Nat → Shared → Prop := fun i s' => (ds.length = es.length → eqLs f (ds.drop i) (es.drop i) = some b) ∧ (ds.length ≠ es.length → i = 0) ∧ LoopS Xc pins σ G L s'
      have T : ds.length = es.length → Gq.ListT Xc.prog Xc.w A Xc.xe a c ds.length es.length (fun i s' => eqLs f (ds.drop i) (es.drop i) = some b ∧ LoopS Xc pins σ G L s') (fun s' => b = false ∧ LoopS Xc pins σ G L s') := fun el => by
        refine ⟨fun i s' l => ?_, fun s' l => ?_⟩
        · obtain ⟨its, its2, r, r2, ⟨o, m, w1, w2, w3, w4⟩, ⟨o', m', w1', w2', w3', w4'⟩⟩ := obj s' l.2
          refine ⟨its.toArray, its2.toArray, m, m', none, none, o.slots, o'.slots, ?_, ?_, by rw [List.size_toArray, ← r.length, hs.length], by rw [List.size_toArray, ← r2.length, ht.length], fun h1 h2 => turnS h sb hs ht r r2 i h1 h2 s' l⟩
          · rw [w1]; obtain ⟨c1, c2, c3, c4⟩ := o; dsimp only at w2 w3 w4; rw [w2, w3, w4]
          · rw [w1']; obtain ⟨c1, c2, c3, c4⟩ := o'; dsimp only at w2' w3' w4'; rw [w2', w3', w4']
        · obtain ⟨its, its2, r, r2, ⟨o, m, w1, w2, w3, w4⟩, ⟨o', m', w1', w2', w3', w4'⟩⟩ := obj s' l.2
          refine ⟨its.toArray, its2.toArray, m, m', none, none, o.slots, o'.slots, ?_, ?_, by rw [List.size_toArray, ← r.length, hs.length], by rw [List.size_toArray, ← r2.length, ht.length]⟩
          · rw [w1]; obtain ⟨c1, c2, c3, c4⟩ := o; dsimp only at w2 w3 w4; rw [w2, w3, w4]
          · rw [w1']; obtain ⟨c1, c2, c3, c4⟩ := o'; dsimp only at w2' w3' w4'; rw [w2', w3', w4']
      have S0 : LoopS Xc pins σ G L s := ⟨G, I, Same.refl _, fr⟩
      by_cases el : ds.length = es.length
      · rw [if_pos el] at q
        have fin : ∀ s', eqLs f (ds.drop ds.length) (es.drop ds.length) = some b ∧ LoopS Xc pins σ G L s' → b = true ∧ LoopS Xc pins σ G L s' := fun s' l => by
          have l1 := l.1
          rw [List.drop_length, el, List.drop_length, eqLs] at l1
          cases l1
          exact ⟨rfl, l.2⟩
        exact ⟨Gq.rc_list_eqT sb.room.units0 _ _ (T el) (fun _ s' l => ⟨by rw [(fin s' l).1], l.2⟩) (fun s' l => ⟨by rw [l.1], l.2⟩) ⟨q, S0⟩ (fun z => absurd el z),
          Gq.rc_list_neT sb.room.units0 _ _ (T el) (fun _ s' l => ⟨by rw [(fin s' l).1]; rfl, l.2⟩) (fun s' l => ⟨by rw [l.1]; rfl, l.2⟩) ⟨q, S0⟩ (fun z => absurd el z)⟩
      · rw [if_neg el] at q
        cases q
        obtain ⟨its, its2, r, r2, ⟨o, m, w1, w2, w3, w4⟩, ⟨o', m', w1', w2', w3', w4'⟩⟩ := obj s S0
        have hl : s.heap.IsList a its.toArray := ⟨o, w1, w2, m, w4⟩
        have hr : s.heap.IsList c its2.toArray := ⟨o', w1', w2', m', w4'⟩
        have hsz : (its.toArray.size != its2.toArray.size) = true := by
          rw [List.size_toArray, List.size_toArray, ← r.length, ← r2.length, hs.length, ht.length]
          simpa using el
        exact ⟨SeqAt.RcAt.lists_lengths hl hr hsz sb.room.units0 Xc.prog Xc.w Xc.xe _ ⟨rfl, S0⟩, SeqAt.RcNeAt.lists_lengths hl hr hsz sb.room.units0 Xc.prog Xc.w Xc.xe _ ⟨rfl, S0⟩⟩
end
end Mi

namespace Mi
open PySem PySem.Spec PyProof.Rows L2
open Sx (Tn Fx btys Fr wx)
section
variable {Xc : Cx} [Rows Xc.K] {pins : List (Addr × Obj)} {σ : L2.St} {H G : Hp} {L : Cells} {s : Shared} {A : Around}
theorem beqd {α : Type} [BEq α] [LawfulBEq α] [DecidableEq α] (a b : α) : (a == b) = decide (a = b) := by rw [Bool.eq_iff_iff]; simp
theorem both {u v : Value} {b : Bool} (h1 : SeqAt.RcAt A s u v b) (h2 : SeqAt.RcNeAt A s u v (!b)) (S0 : LoopS Xc pins σ G L s) :
    wpAny (model Xc.prog Xc.w) A (richCompare .Eq u v) (fun r s' => r = .bool b ∧ LoopS Xc pins σ G L s') Xc.xe s ∧ wpAny (model Xc.prog Xc.w) A (richCompare .NotEq u v) (fun r s' => r = .bool (!b) ∧ LoopS Xc pins σ G L s') Xc.xe s :=
  ⟨h1 _ _ _ _ ⟨rfl, S0⟩, h2 _ _ _ _ ⟨rfl, S0⟩⟩
theorem tupO (I : Inv Xc pins σ (upds Xc.K G L) s) (fr : Frs G L) {a : Addr} {xs : List V} (h : SqT Xc.K G a xs) : ∃ its, s.heap.IsTuple a its := by
  obtain ⟨its, r, e, z⟩ := I.tuple (Sx.Same.seqT fr.same h)
  exact ⟨_, e⟩
theorem lstO (I : Inv Xc pins σ (upds Xc.K G L) s) (fr : Frs G L) {a : Addr} {xs : List V} (h : SqL Xc.K G a xs) : ∃ its, s.heap.IsList a its := by
  obtain ⟨its, r, ⟨o, m, w1, w2, w3, w4⟩, z⟩ := I.list (Same.seq fr.same h)
  exact ⟨_, o, w1, w2, m, w4⟩
theorem rcS_K {n : Nat} (sb : Sub Xc n A) (I : Inv Xc pins σ (upds Xc.K G L) s) (fr : Frs G L) {x y : V} {u v : Value} {d e : D} {b : Bool} (r1 : RelV x u) (r2 : RelV y v) (hx : Is Xc.K G x d) (hy : Is Xc.K G y e) (q : eqK d e = some b) :
    wpAny (model Xc.prog Xc.w) A (richCompare .Eq u v) (fun r s' => r = .bool b ∧ LoopS Xc pins σ G L s') Xc.xe s ∧ wpAny (model Xc.prog Xc.w) A (richCompare .NotEq u v) (fun r s' => r = .bool (!b) ∧ LoopS Xc pins σ G L s') Xc.xe s := by
  have S0 : LoopS Xc pins σ G L s := ⟨G, I, Same.refl _, fr⟩
  have hu := sb.room.units0
  cases hx with
  | non =>
    cases r1
    cases hy with
    | non =>
      cases r2
      cases q; exact both (SeqAt.RcAt.none_none  ) (SeqAt.RcNeAt.none_none  ) S0
    | bl b2 =>
      cases r2
      cases q; exact both (SeqAt.RcAt.none_bool  b2) (SeqAt.RcNeAt.none_bool  b2) S0
    | int i2 =>
      obtain ⟨t2, rfl⟩ := r2
      cases q; exact both (SeqAt.RcAt.none_int  i2 _) (SeqAt.RcNeAt.none_int  i2 _) S0
    | str x2 =>
      obtain ⟨t2, rfl⟩ := r2
      cases q; exact both (SeqAt.RcAt.none_str  x2 _) (SeqAt.RcNeAt.none_str  x2 _) S0
    | tup h2 hs2 =>
      cases r2
      obtain ⟨its, e2⟩ := tupO I fr h2
      cases q; exact both (SeqAt.RcAt.none_tuple e2 hu) (SeqAt.RcNeAt.none_tuple e2 hu) S0
    | lst h2 hs2 =>
      cases r2
      obtain ⟨its, e2⟩ := lstO I fr h2
      cases q; exact both (SeqAt.RcAt.none_list e2 hu) (SeqAt.RcNeAt.none_list e2 hu) S0
    | ins _ _ _ _ => cases q
    | dic _ => cases q
  | bl b1 =>
    cases r1
    cases hy with
    | non =>
      cases r2
      cases q; exact both (SeqAt.RcAt.bool_none b1 ) (SeqAt.RcNeAt.bool_none b1 ) S0
    | bl b2 =>
      cases r2
      simp only [eqK, Option.some.injEq] at q; subst q
      exact both (by rw [← beqd]; exact SeqAt.RcAt.bool_bool b1 b2) (by rw [← beqd]; exact SeqAt.RcNeAt.bool_bool b1 b2) S0
    | int i2 =>
      obtain ⟨t2, rfl⟩ := r2
      simp only [eqK, Option.some.injEq] at q; subst q
      exact both (by rw [← beqd]; exact SeqAt.RcAt.bool_int b1 i2 _) (by rw [← beqd]; exact SeqAt.RcNeAt.bool_int b1 i2 _) S0
    | str x2 =>
      obtain ⟨t2, rfl⟩ := r2
      cases q; exact both (SeqAt.RcAt.bool_str b1 x2 _) (SeqAt.RcNeAt.bool_str b1 x2 _) S0
    | tup h2 hs2 =>
      cases r2
      obtain ⟨its, e2⟩ := tupO I fr h2
      cases q; exact both (SeqAt.RcAt.bool_tuple b1 e2 hu) (SeqAt.RcNeAt.bool_tuple b1 e2 hu) S0
    | lst h2 hs2 =>
      cases r2
      obtain ⟨its, e2⟩ := lstO I fr h2
      cases q; exact both (SeqAt.RcAt.bool_list b1 e2 hu) (SeqAt.RcNeAt.bool_list b1 e2 hu) S0
    | ins _ _ _ _ => cases q
    | dic _ => cases q
  | int i1 =>
    obtain ⟨t1, rfl⟩ := r1
    cases hy with
    | non =>
      cases r2
      cases q; exact both (SeqAt.RcAt.int_none i1 _ ) (SeqAt.RcNeAt.int_none i1 _ ) S0
    | bl b2 =>
      cases r2
      simp only [eqK, Option.some.injEq] at q; subst q
      exact both (by rw [← beqd]; exact SeqAt.RcAt.int_bool i1 _ b2) (by rw [← beqd]; exact SeqAt.RcNeAt.int_bool i1 _ b2) S0
    | int i2 =>
      obtain ⟨t2, rfl⟩ := r2
      simp only [eqK, Option.some.injEq] at q; subst q
      exact both (by rw [← beqd]; exact SeqAt.RcAt.int_int i1 _ i2 _) (by rw [← beqd]; exact SeqAt.RcNeAt.int_int i1 _ i2 _) S0
    | str x2 =>
      obtain ⟨t2, rfl⟩ := r2
      cases q; exact both (SeqAt.RcAt.int_str i1 _ x2 _) (SeqAt.RcNeAt.int_str i1 _ x2 _) S0
    | tup h2 hs2 =>
      cases r2
      obtain ⟨its, e2⟩ := tupO I fr h2
      cases q; exact both (SeqAt.RcAt.int_tuple i1 _ e2 hu) (SeqAt.RcNeAt.int_tuple i1 _ e2 hu) S0
    | lst h2 hs2 =>
      cases r2
      obtain ⟨its, e2⟩ := lstO I fr h2
      cases q; exact both (SeqAt.RcAt.int_list i1 _ e2 hu) (SeqAt.RcNeAt.int_list i1 _ e2 hu) S0
    | ins _ _ _ _ => cases q
    | dic _ => cases q
  | str x1 =>
    obtain ⟨t1, rfl⟩ := r1
    cases hy with
    | non =>
      cases r2
      cases q; exact both (SeqAt.RcAt.str_none x1 _ ) (SeqAt.RcNeAt.str_none x1 _ ) S0
    | bl b2 =>
      cases r2
      cases q; exact both (SeqAt.RcAt.str_bool x1 _ b2) (SeqAt.RcNeAt.str_bool x1 _ b2) S0
    | int i2 =>
      obtain ⟨t2, rfl⟩ := r2
      cases q; exact both (SeqAt.RcAt.str_int x1 _ i2 _) (SeqAt.RcNeAt.str_int x1 _ i2 _) S0
    | str x2 =>
      obtain ⟨t2, rfl⟩ := r2
      simp only [eqK, Option.some.injEq] at q; subst q
      exact both (by rw [← beqd]; exact SeqAt.RcAt.str_str x1 _ x2 _) (by rw [← beqd]; exact SeqAt.RcNeAt.str_str x1 _ x2 _) S0
    | tup h2 hs2 =>
      cases r2
      obtain ⟨its, e2⟩ := tupO I fr h2
      cases q; exact both (SeqAt.RcAt.str_tuple x1 _ e2 hu) (SeqAt.RcNeAt.str_tuple x1 _ e2 hu) S0
    | lst h2 hs2 =>
      cases r2
      obtain ⟨its, e2⟩ := lstO I fr h2
      cases q; exact both (SeqAt.RcAt.str_list x1 _ e2 hu) (SeqAt.RcNeAt.str_list x1 _ e2 hu) S0
    | ins _ _ _ _ => cases q
    | dic _ => cases q
  | tup h1 hs1 =>
    cases r1
    obtain ⟨its1, e1⟩ := tupO I fr h1
    cases hy with
    | non =>
      cases r2
      cases q; exact both (SeqAt.RcAt.tuple_none e1 hu) (SeqAt.RcNeAt.tuple_none e1 hu) S0
    | bl b2 =>
      cases r2
      cases q; exact both (SeqAt.RcAt.tuple_bool b2 e1 hu) (SeqAt.RcNeAt.tuple_bool b2 e1 hu) S0
    | int i2 =>
      obtain ⟨t2, rfl⟩ := r2
      cases q; exact both (SeqAt.RcAt.tuple_int i2 _ e1 hu) (SeqAt.RcNeAt.tuple_int i2 _ e1 hu) S0
    | str x2 =>
      obtain ⟨t2, rfl⟩ := r2
      cases q; exact both (SeqAt.RcAt.tuple_str x2 _ e1 hu) (SeqAt.RcNeAt.tuple_str x2 _ e1 hu) S0
    | tup h2 hs2 =>
      cases q
    | lst h2 hs2 =>
      cases r2
      obtain ⟨its, e2⟩ := lstO I fr h2
      cases q; exact both (SeqAt.RcAt.tuple_list e1 e2 hu) (SeqAt.RcNeAt.tuple_list e1 e2 hu) S0
    | ins _ _ _ _ => cases q
    | dic _ => cases q
  | lst h1 hs1 =>
    cases r1
    obtain ⟨its1, e1⟩ := lstO I fr h1
    cases hy with
    | non =>
      cases r2
      cases q; exact both (SeqAt.RcAt.list_none e1 hu) (SeqAt.RcNeAt.list_none e1 hu) S0
    | bl b2 =>
      cases r2
      cases q; exact both (SeqAt.RcAt.list_bool b2 e1 hu) (SeqAt.RcNeAt.list_bool b2 e1 hu) S0
    | int i2 =>
      obtain ⟨t2, rfl⟩ := r2
      cases q; exact both (SeqAt.RcAt.list_int i2 _ e1 hu) (SeqAt.RcNeAt.list_int i2 _ e1 hu) S0
    | str x2 =>
      obtain ⟨t2, rfl⟩ := r2
      cases q; exact both (SeqAt.RcAt.list_str x2 _ e1 hu) (SeqAt.RcNeAt.list_str x2 _ e1 hu) S0
    | tup h2 hs2 =>
      cases r2
      obtain ⟨its, e2⟩ := tupO I fr h2
      cases q; exact both (SeqAt.RcAt.list_tuple e1 e2 hu) (SeqAt.RcNeAt.list_tuple e1 e2 hu) S0
    | lst h2 hs2 =>
      cases q
    | ins _ _ _ _ => cases q
    | dic _ => cases q
  | ins _ _ _ _ => cases q
  | dic _ => cases hy <;> cases q
/-- the classes of a table -/
structure EqT (P : Program) (w : World) (K : PySem.W.Frag) [Rows K] (mg : Str → Option Value) (base : Heap) (k : Nat) (T : Tab) : Prop where
  at_ : ∀ p ∈ T, ∃ f, Meth K (He.ga K p.1) "__eq__" f ∧ FnR P w K mg base (L2.CX P w) k f (Fr (spM K p.2)) ∧ PySem.W.findIn K (.ref (He.ga K p.1)) "__ne__" = some (some (.builtin "object.__ne__"))
theorem rcS_ins {k n : Nat} {T : Tab} (ET : EqT Xc.prog Xc.w Xc.K Xc.mg Xc.base k T) (sb : Sub Xc (k + 1 + n) A) (I : Inv Xc pins σ (upds Xc.K G L) s) (fr : Frs G L) {x y : V} {u v : Value} {C : Str} {fs : List (Str × D)} {e : D} {b : Bool} (r1 : RelV x u) (r2 : RelV y v)
    (hx : Is Xc.K G x (.ins C fs)) (hy : Is Xc.K G y e) (q : appT T C [.ins C fs, e] = some b) :
    wpAny (model Xc.prog Xc.w) A (richCompare .Eq u v) (fun r s' => r = .bool b ∧ LoopS Xc pins σ G L s') Xc.xe s ∧ wpAny (model Xc.prog Xc.w) A (richCompare .NotEq u v) (fun r s' => r = .bool (!b) ∧ LoopS Xc pins σ G L s') Xc.xe s := by
  obtain ⟨m, hm, em⟩ := appT_mem q
  obtain ⟨f, hM, F, hne⟩ := ET.at_ _ hm
  have run : ∀ {A' : Around}, Sub Xc k A' → wpAny (model Xc.prog Xc.w) A' (call (.ref f) [u, v]) (fun r s' => r = .bool b ∧ LoopS Xc pins σ G L s') Xc.xe s := fun {A'} sb' => by
    have e0 : Env0 Xc.prog Xc.w Xc.K Xc.mg Xc.base A' Xc.stack s (upds Xc.K G L) := by
      have e := I.env0
      exact ⟨by rw [sb'.fr]; exact e.frames, e.mod, e.bs, e.bsz, e.funs, e.frf, e.hok, e.bare⟩
    have hsp : Fr (spM Xc.K m) [x, y] (upds Xc.K G L) (fun v' H' => v' = .bl b ∧ ∃ G', H' = upds Xc.K G' L ∧ Same G G' ∧ Frs G' L) (fun _ _ _ => False) := by
      refine fr_cells fr ⟨_, .cons hx (.cons hy .nil), ?_⟩
      rw [em]
      exact fun v' H2 sm hv fr2 => ⟨hv.bl_eq, H2, rfl, sm, fr2⟩
    refine wpAny_call (codeAny_mono (F A' Xc.stack s _ [u, v] [x, y] _ _ sb'.room e0 (.cons r1 (.cons r2 .nil)) hsp) fun r s' hq => ?_)
    cases r with
    | error er =>
      obtain ⟨_, _, _, _, _, _, _, _, _, _, _, _, z⟩ := hq
      exact z.elim
    | ok fl =>
      cases fl with
      | ret w =>
        obtain ⟨z, H', I', rz, ez, G', rfl, sm, fr2⟩ := I.after hq
        subst ez
        cases rz
        exact ⟨rfl, G', I', sm, fr2⟩
      | next => exact False.elim hq
      | brk => exact False.elim hq
      | cont => exact False.elim hq
  cases hx with
  | @ins a dx _ vs _ hc hn ha hs =>
    obtain ⟨mA, J, _⟩ := ins_get I.hok (fr.same _ _ ha)
    obtain ⟨od, J, _⟩ := J.look
    obtain ⟨m0, hF⟩ := I.fr
    have hy2 := hy.mono (fr.same (K := Xc.K))
    obtain ⟨P, kx, pp, _⟩ := kit_of I r2 hy2.tyx
    obtain ⟨_, _, _, hmo⟩ := Sx.tyi_ok (Rows.ok _ hc).ty
    cases r1
    have s1 : Sub Xc k A := sb.mono (by omega)
    have s2 : Sub Xc k A.in1 := (sb.mono (by omega : k + 1 ≤ k + 1 + n)).in1
    refine ⟨PySem.W.cmp_K (op := .Eq) sb.room.units0 hF I.ok.mod.kin J (kx.ty _ _ I.kIn pp) (hy2.nf hc) hM.at_ hM.fn (wpAny_mono (run s1) (fun r s' z => ?_) fun _ _ z => z),
      Gq.ne_K (by have := sb.room.un; omega) hF I.ok.mod.kin J (kx.ty _ _ I.kIn pp) (hy2.nf hc) hne hM.at_ hM.fn hmo (wpAny_mono (run s2) (fun r s' z => ?_) fun _ _ z => z)⟩
    · obtain ⟨rfl, z⟩ := z
      exact ⟨rfl, z⟩
    · obtain ⟨rfl, z⟩ := z
      exact ⟨b, rfl, rfl, z⟩
theorem rcS_B {k n : Nat} {T : Tab} {f : D → D → Option Bool} (ET : EqT Xc.prog Xc.w Xc.K Xc.mg Xc.base k T) (hf : RcS Xc (k + 1 + n) f) : RcS Xc (k + 1 + (n + 1)) (eqB T f) := by
  intro A pins s σ G L x y u v d e b sb I fr r1 r2 hx hy q
  cases d with
  | ins C fs => exact rcS_ins ET sb I fr r1 r2 hx hy q
  | tup xs =>
    cases e with
    | tup ys => exact rcS_tup hf sb I fr r1 r2 hx hy q
    | _ => exact rcS_K sb I fr r1 r2 hx hy q
  | lst xs =>
    cases e with
    | lst ys => exact rcS_lst hf sb I fr r1 r2 hx hy q
    | _ => exact rcS_K sb I fr r1 r2 hx hy q
  | _ => exact rcS_K sb I fr r1 r2 hx hy q
theorem rcS_N {k : Nat} {T : Tab} (ET : EqT Xc.prog Xc.w Xc.K Xc.mg Xc.base k T) : ∀ n, RcS Xc (k + 1 + (n + 1)) (eqN T n)
  | 0 => rcS_B (n := 0) ET (fun _ _ _ _ _ _ _ _ _ _ _ _ _ _ _ _ _ _ _ _ q => by cases q)
  | n + 1 => rcS_B ET (rcS_N ET n)
end
/-! ### as an expression -/
def kEqA (K : PySem.W.Frag) [Rows K] (neg : Bool) (T : Tab) (n : Nat) (Q : VK) : V → V → Hp → Prop := fun x y H => ∃ G L d e b, H = upds K G L ∧ Frs G L ∧ Is K G x d ∧ Is K G y e ∧ eqN T n d e = some b ∧ ∀ G', Same G G' → Frs G' L → Q (.bl (b != neg)) (upds K G' L)
def tEqA (K : PySem.W.Frag) [Rows K] (neg : Bool) (T : Tab) (n : Nat) (ta tb : TE) : TE := fun σ H Q => ta σ H fun x H1 => tb σ H1 fun y H2 => kEqA K neg T n Q x y H2
def cop : Bool → CmpOp
  | false => .Eq
  | true => .NotEq
section
variable {X : Cx} {iR : Rows X.K} {k n : Nat} {T : Tab} {a b : Expr} {ta tb : TE} {pos : Pos}
theorem run_eqA {pins : List (Addr × Obj)} {σ : L2.St} {H : Hp} {s : Shared} {Q : VK} {x y : V} {u v : Value} (neg : Bool) (ET : EqT X.prog X.w X.K X.mg X.base k T) (hr : Room (k + 1 + (n + 1)) X.A) (I : Inv X pins σ H s) (rx : RelV x u) (ry : RelV y v) (h : kEqA X.K neg T n Q x y H) :
    wpAny (model X.prog X.w) X.A (compareOp (cop neg) u v) (EP X pins σ Q) X.xe s := by
  obtain ⟨G, L, d, e, b, rfl, fr, hx, hy, q, k2⟩ := h
  have z := rcS_N ET n X.A pins s σ G L x y u v d e b ⟨hr, rfl⟩ I fr rx ry hx hy q
  cases neg with
  | false =>
    show wpAny (model X.prog X.w) X.A (richCompare .Eq u v) _ _ _
    refine wpAny_mono z.1 (fun r s' z => ?_) fun _ _ z => z
    obtain ⟨rfl, G', I', sm, fr2⟩ := z
    exact ⟨.bl b, _, I', rfl, by have := k2 G' sm fr2; simpa using this⟩
  | true =>
    show wpAny (model X.prog X.w) X.A (richCompare .NotEq u v) _ _ _
    refine wpAny_mono z.2 (fun r s' z => ?_) fun _ _ z => z
    obtain ⟨rfl, G', I', sm, fr2⟩ := z
    exact ⟨.bl (!b), _, I', rfl, by have := k2 G' sm fr2; simpa using this⟩
theorem pe_eqA (neg : Bool) (ET : EqT X.prog X.w X.K X.mg X.base k T) (hr : Room (k + 1 + (n + 1)) X.A) (ha : PE X a ta) (hb : PE X b tb) : PE X (.Compare a [cop neg] [b] pos) (tEqA X.K neg T n ta tb) := by
  refine ⟨fun pins s σ H Q I h => ?_⟩
  exact wpAny_Compare1 (binT ha hb I h fun v u s2 x y H2 I2 rx ry q => run_eqA neg ET hr I2 rx ry q) (nomark _ (by cases neg <;> decide) (by cases neg <;> decide))
theorem pt_eqA (neg : Bool) (ET : EqT X.prog X.w X.K X.mg X.base k T) (hr : Room (k + 1 + (n + 1)) X.A) (ha : PE X a ta) (hb : PE X b tb) : PT X (.Compare a [cop neg] [b] pos) (tTest (tEqA X.K neg T n ta tb)) := by
  refine ⟨fun pins s σ H Q I h => ?_⟩
  refine wpAny_isTrue_Compare1 (thn (ha.run pins s σ H _ I h) fun v s1 ⟨x, H1, I1, r1, q1⟩ => thn (hb.run pins s1 σ H1 _ I1 q1) fun u s2 ⟨y, H2, I2, r2, q2⟩ => ?_) (nomark _ (by cases neg <;> decide) (by cases neg <;> decide))
  refine thn (run_eqA neg ET hr I2 r1 r2 q2) fun c s3 ⟨z, H3, I3, r3, m, e, q3⟩ => ?_
  subst e
  cases r3
  exact wpAny_truthy_bool ⟨H3, I3, q3⟩
theorem pe_eqE (ET : EqT X.prog X.w X.K X.mg X.base k T) (hr : Room (k + 1 + (n + 1)) X.A) (ha : PE X a ta) (hb : PE X b tb) : PE X (.Compare a [.Eq] [b] pos) (tEqA X.K false T n ta tb) := pe_eqA false ET hr ha hb
theorem pt_eqE (ET : EqT X.prog X.w X.K X.mg X.base k T) (hr : Room (k + 1 + (n + 1)) X.A) (ha : PE X a ta) (hb : PE X b tb) : PT X (.Compare a [.Eq] [b] pos) (tTest (tEqA X.K false T n ta tb)) := pt_eqA false ET hr ha hb
theorem pe_neE (ET : EqT X.prog X.w X.K X.mg X.base k T) (hr : Room (k + 1 + (n + 1)) X.A) (ha : PE X a ta) (hb : PE X b tb) : PE X (.Compare a [.NotEq] [b] pos) (tEqA X.K true T n ta tb) := pe_eqA true ET hr ha hb
theorem pt_neE (ET : EqT X.prog X.w X.K X.mg X.base k T) (hr : Room (k + 1 + (n + 1)) X.A) (ha : PE X a ta) (hb : PE X b tb) : PT X (.Compare a [.NotEq] [b] pos) (tTest (tEqA X.K true T n ta tb)) := pt_eqA true ET hr ha hb
end
section
variable {K : PySem.W.Frag} [Rows K] {A : Anc} {X : Cells} {W : WX} {σ : L2.St} {ρ : Env} {G G' : Hp} {L : Cells}
noncomputable def dEqA (neg : Bool) (T : Tab) (n : Nat) (d e : D) : Re D := match eqN T n d e with
  | some b => .ok (.bl (b != neg))
  | none => .bad
theorem re_eqA {neg : Bool} {T : Tab} {n : Nat} {ta tb : TE} {a b : M D} (ha : RE K A W ta a) (hb : RE K A W tb b) : RE K A W (tEqA K neg T n ta tb) (mBin (dEqA neg T n) a b) := by
  intro X σ ρ G L Q gd p
  refine ha X σ ρ G L _ gd (p.seq fun x ρ1 G1 L1 s1 g1 p1 v hv => ?_)
  refine hb X σ ρ1 G1 L1 _ g1 (p1.seq fun y ρ2 G2 L2 s2 g2 p2 u hu => ?_)
  unfold dEqA at p2
  cases e : eqN T n x y with
  | none => rw [e] at p2; exact p2.elim
  | some c =>
    rw [e] at p2
    exact ⟨G2, L2, x, y, c, rfl, g2.fr, hv.mono s2, hu, e, fun G' sm fr => p2 G' L2 sm (g2.mono sm fr) _ (.bl _)⟩
end
end Mi

namespace Mi
open PySem PySem.Spec PyProof.Rows L2
open Sx (Tn Fx btys Fr wx tMakeKw FnKw)
section
variable {K : PySem.W.Frag} [Rows K] {A : Anc} {X : Cells} {W : WX} {σ : L2.St} {ρ : Env} {G G' : Hp} {L : Cells}
/-- C(k = v, ..), the keywords in the order of the parameters -/
def mMakeK (C : Str) (n k : Nat) (f : MFi) (a b : M (List D)) : M D := bnd a fun ds => bnd b fun es => ib (ds.length == n && es.length == k) (lift (mkR C (f (ds ++ es)))) fail
theorem re_makeK {C : Str} {n k : Nat} {f : MFi} {t tk : TA} {a b : M (List D)} (hC : C ∈ Rows.cls K) (h : RA K A W t a) (hk : RA K A W tk b) :
    RE K A W (tMakeKw (He.ga K C) n k (Fr (spI K C f)) (fun vs zs => vs ++ zs) W t tk) (mMakeK C n k f a b) := by
  intro X σ ρ G L Q g p
  refine h X σ ρ G L _ g (p.seq fun ds ρ0 G0 L0 s0 g0 p0 us hus => ?_)
  refine hk X σ ρ0 G0 L0 _ g0 (p0.seq fun es ρ1 G1 L1 s1 g1 p1 zs hzs => ?_)
  by_cases hl : (ds.length == n && es.length == k) = true
  · rw [ib_pos hl] at p1
    have hl2 : ds.length = n ∧ es.length = k := by simpa using hl
    refine ⟨by rw [hus.length]; exact hl2.1, by rw [hzs.length]; exact hl2.2, ?_⟩
    have hvs : IsL K G1 (us ++ zs) (ds ++ es) := (hus.mono s1).append hzs
    intro x dx hx hdx hne
    obtain ⟨nx1, nx2⟩ := free_of hx
    obtain ⟨nd1, nd2⟩ := free_of hdx
    have e1 : upd (upd (upds K G1 L1) dx (.own x)) x (.ins (He.ga K C) dx []) = upds K (upd (upd G1 dx (.own x)) x (.ins (He.ga K C) dx [])) L1 := by rw [upds_new nd2, upds_new nx2]
    rw [e1]
    refine fr_cells ((g1.fr.new nd2).new nx2) ⟨x, dx, us ++ zs, ds ++ es, G1, rfl, rfl, nx1, nd1, hne, hvs, ?_⟩
    cases e : f (ds ++ es) with
    | ok gs =>
      rw [e] at p1
      intro dx' fs G' s fr hs hn fr2
      refine ⟨rfl, ?_⟩
      have sm : Same G' (upds K G' [(x, .is C dx' fs)]) := fr.same
      exact p1 _ L1 (s.trans sm) (g1.mono (s.trans sm) fr2) _ (.ins hC hn (by simp only [upds, put1]; exact upd_same) (hs.mono sm))
    | ex C' y => rw [e] at p1; exact fun od H' s hx fr => p1 od H' L1 s (g1.mono s fr) hx
    | bad => rw [e] at p1; exact p1
  · rw [ib_neg hl] at p1
    exact p1.elim
/-- {} -/
def mDic : M D := ret .dic
theorem re_dic : RE K A W tDNewK mDic := by
  intro X σ ρ G L Q g p
  intro q n
  obtain ⟨n1, n2⟩ := free_of n
  rw [upds_new n2]
  have sm : Same G (upd G q (.dK [])) := Sx.Same.updR (Same.refl _) n1
  exact p _ _ sm (g.mono sm (g.fr.new n2)) _ (.dic upd_same)
end
end Mi

namespace Mi
open PySem
/-! ### == by values -/
section
variable (T : Tab) (g f : D → D → Option Bool) (n : Nat) (i j : Int) (x y : Str) (b c : Bool) (C : Str) (fs : List (Str × D)) (d e : D) (ds es : List D)
def bO (o : Option Bool) (k : Bool → Option Bool) : Option Bool := match o with
  | some b => k b
  | none => none
def rO (neg : Bool) (o : Option Bool) : Re D := match o with
  | some b => .ok (.bl (b != neg))
  | none => .bad
theorem bO_s (k : Bool → Option Bool) : bO (some b) k = k b := rfl
theorem rO_f : rO false (some b) = .ok (.bl b) := by cases b <;> rfl
theorem rO_t : rO true (some b) = .ok (.bl (!b)) := by cases b <;> rfl
theorem dEqA_eq (neg : Bool) : dEqA neg T n d e = rO neg (eqN T n d e) := rfl
theorem eqN_0 : eqN T 0 = eqB T fun _ _ => none := rfl
theorem eqN_s : eqN T (n + 1) = eqB T (eqN T n) := rfl
theorem eqN_1 : eqN T 1 = eqB T (eqN T 0) := rfl
theorem eqN_2 : eqN T 2 = eqB T (eqN T 1) := rfl
theorem eqN_3 : eqN T 3 = eqB T (eqN T 2) := rfl
theorem eqB_ins : eqB T g (.ins C fs) e = appT T C [.ins C fs, e] := rfl
theorem eqB_tt : eqB T g (.tup ds) (.tup es) = eqLs g ds es := rfl
theorem eqB_ll : eqB T g (.lst ds) (.lst es) = if ds.length = es.length then eqLs g ds es else some false := rfl
theorem eqB_int : eqB T g (.int i) e = eqK (.int i) e := rfl
theorem eqB_str : eqB T g (.str x) e = eqK (.str x) e := rfl
theorem eqB_bl : eqB T g (.bl b) e = eqK (.bl b) e := rfl
theorem eqB_non : eqB T g .non e = eqK .non e := rfl
theorem eqK_ii : eqK (.int i) (.int j) = some (decide (i = j)) := rfl
theorem eqK_ss : eqK (.str x) (.str y) = some (decide (x = y)) := rfl
theorem eqK_bb : eqK (.bl b) (.bl c) = some (decide (b = c)) := rfl
theorem eqK_nn : eqK .non .non = some true := rfl
theorem eqK_ni : eqK .non (.int i) = some false := rfl
theorem eqK_in : eqK (.int i) .non = some false := rfl
theorem eqK_ns : eqK .non (.str x) = some false := rfl
theorem eqK_sn : eqK (.str x) .non = some false := rfl
theorem eqK_is : eqK (.int i) (.str x) = some false := rfl
theorem eqK_si : eqK (.str x) (.int i) = some false := rfl
theorem eqK_nt : eqK .non (.tup ds) = some false := rfl
theorem eqK_nl : eqK .non (.lst ds) = some false := rfl
theorem eqB_tn : eqB T g (.tup ds) .non = some false := rfl
theorem eqB_ln : eqB T g (.lst ds) .non = some false := rfl
theorem eqLs_nil : eqLs f [] [] = some true := by rw [eqLs]
theorem eqLs_nc : eqLs f [] (d :: ds) = some false := by rw [eqLs]
theorem eqLs_cn : eqLs f (d :: ds) [] = some false := by rw [eqLs]
theorem eqLs_cc : eqLs f (d :: ds) (e :: es) = bO (itE f d e) fun b => ib b (eqLs f ds es) (some false) := by
  rw [eqLs]
  cases itE f d e with
  | none => rfl
  | some b => cases b <;> rfl
theorem itE_int : itE (eqB T g) (.int i) (.int j) = some (decide (i = j)) := itE_of rfl fun h => by cases h; simp
theorem itE_str : itE (eqB T g) (.str x) (.str y) = some (decide (x = y)) := itE_of rfl fun h => by cases h; simp
theorem itE_bl : itE (eqB T g) (.bl b) (.bl c) = some (decide (b = c)) := itE_of rfl fun h => by cases h; simp
theorem itE_non : itE (eqB T g) .non .non = some true := itE_of rfl fun h => rfl
end
end Mi

namespace Sx
open PySem PySem.Spec PyProof.Rows L2
open Sem (wp)
open AutoSeq1 (wpAny_loadPart')
/-! ### enumerate(tuple) -/
theorem meets_enumT (l : Addr) (items : Array Value) (n : Nat) (dct : Option Addr) (sl : Array (Option Value)) :
    Meets (Builtin.«enumerate.__new__» ⟨[.type "enumerate", .ref l], []⟩) (fun _ R s => s.heap.get? l = some { cls := .type "tuple", dict := dct, data := .seq items n, slots := sl } ∧
      R (.ok (.ret (.ref (s.heap.push { cls := .type "tuple_iterator", data := .fields #[.ref l, .int 0 0] }).objs.size)))
        { s with heap := (s.heap.push { cls := .type "tuple_iterator", data := .fields #[.ref l, .int 0 0] }).push { cls := .type "enumerate", data := .fields #[.none, .bool false, .ref s.heap.objs.size, rawInt 0, .none, .none] } }) :=
  .of_wp fun prog w A R s h => by
    obtain ⟨hp, g, d, tk, os⟩ := s; obtain ⟨hl, h⟩ := h
    have hsub := sub_enumerate
    have hL : Heap.IsTuple (Shared.heap ⟨hp, g, d, tk, os⟩) l items := ⟨_, hl, rfl, n, rfl⟩
    wp_walk using wpAny_loadPart' hl
    refine wpAny_stack_any fun st => wpAny_pure ?_
    split
    · rename_i c _ _ _ _ _
      cases (c == Value.type "enumerate")
      · wp_walk using wpAny_loadPart' hl, wpAny_pyIter_tuple hL
        exact ⟨_, rfl, h⟩
      · wp_walk using wpAny_loadPart' hl, wpAny_pyIter_tuple hL
        exact ⟨_, rfl, h⟩
    · wp_walk using wpAny_loadPart' hl, wpAny_pyIter_tuple hL
      exact ⟨_, rfl, h⟩
theorem call_enumT {prog : Program} {w : World} {A : Around} {E : Value → Shared → Prop} {s : Shared} {l : Addr} {items : Array Value} {Q : Value → Shared → Prop} (hL : s.heap.IsTuple l items)
    (h : ∀ h', IsEnum h' (s.heap.objs.size + 1) s.heap.objs.size 0 .none → h'.IsTupleIter s.heap.objs.size l 0 → h'.objs.size = s.heap.objs.size + 2 →
      (∀ b o, s.heap.get? b = some o → h'.get? b = some o) → Q (.ref (s.heap.objs.size + 1)) { s with heap := h' }) :
    wpAny (model prog w) A (call (.type "enumerate") [.ref l]) Q E s := by
  obtain ⟨⟨c, dct, dt, sl⟩, hl, hc, n, hd⟩ := hL
  replace hc : c = .type "tuple" := hc
  replace hd : dt = .seq items n := hd
  subst hc hd
  refine callType_new F.called_enumerate (by decide) (F.typeCall_enumerate_1 _) (F.newCall_enumerate_1 _) (fun obj => F.args_object_init_2 obj _) F.entry_enumerate_new
    (meets_enumT l items n dct sl) ⟨hl, ?_⟩
  have hz : (s.heap.push { cls := .type "tuple_iterator", data := .fields #[.ref l, .int 0 0] }).objs.size = s.heap.objs.size + 1 := Heap.size_push ..
  show _ ∧ _
  rw [hz]
  have he : IsEnum ((s.heap.push { cls := .type "tuple_iterator", data := .fields #[.ref l, .int 0 0] }).push { cls := .type "enumerate", data := .fields #[.none, .bool false, .ref s.heap.objs.size, rawInt 0, .none, .none] }) (s.heap.objs.size + 1) s.heap.objs.size 0 .none := by
    have := Heap.get?_push_size (s.heap.push { cls := .type "tuple_iterator", data := .fields #[.ref l, .int 0 0] }) (o := { cls := .type "enumerate", data := .fields #[.none, .bool false, .ref s.heap.objs.size, rawInt 0, .none, .none] }) rfl
    rw [hz] at this; exact this
  exact ⟨⟨_, he, rfl⟩, h _ he ⟨_, Heap.get?_push_of_some _ (Heap.get?_push_size _ rfl), rfl, rfl⟩ (by rw [Heap.size_push, hz]) fun b o x => Heap.get?_push_of_some _ (Heap.get?_push_of_some _ x)⟩
theorem enumT_end {prog : Program} {w : World} {A : Around} {E : Value → Shared → Prop} {s : Shared} {e it l : Addr} {i : Nat} {items : Array Value} {old : Value} {Q : Option Value → Shared → Prop} (hh : A.handled = none)
    (he : IsEnum s.heap e it i old) (hit : s.heap.IsTupleIter it l i) (hl : s.heap.IsTuple l items) (hx : items[i]? = none)
    (hQ : ∀ h', Heap.ExtBut it s.heap h' → Q none { s with heap := h' }) : wpAny (model prog w) A (pyNext (.ref e)) Q E s := by
  have hT : s.TypeIs (.ref e) "enumerate" := ⟨_, he, rfl⟩
  unfold pyNext
  refine wpAny_bind (wpAny_attempt (wpAny_callSpecial?_slot (name := Str.ofString "__next__") hT F.slot_enumerate_next
    (wpAny_call_entry F.slot_enumerate_next hT F.entry_enumerate_next ?_ (F.args_enumerate_next_1 _))))
  show wpAny _ _ (field (.ref e) 2 >>= _) _ _ _
  refine wpAny_bind (wpAny_field he rfl (x := .ref it) rfl ?_)
  refine wpAny_bind (wpAny_nextOf_tuple_end hh hit hl hx fun h' x he' hx' => ?_)
  obtain ⟨o, ho, hc⟩ := hx'
  refine wpAny_bind (wpAny_isInstance (T := "StopIteration") (b := true) ⟨o, ho, hc⟩ isSubtype_stop ?_)
  exact wpAny_pure (hQ _ he')
/-- the tuple at a, each item in a new pair -/
def IteT (K : PySem.W.Frag) (a : Addr) : It :=
  ⟨fun i H => ∃ (xs : List V) (x : V), SqT K H a xs ∧ xs[i]? = some x, fun i H v H' => ∃ T x, v = .ref T ∧ H T = none ∧ H' = upd H T (.tup [.int (i : Nat), x]) ∧ ∀ xs, SqT K H a xs → xs[i]? = some x, fun i H => ∃ xs : List V, SqT K H a xs ∧ xs.length ≤ i⟩
theorem turn_enumT {P : Program} {w : World} {K : PySem.W.Frag} {elts : List Expr} {kk : Nat} {tpos : Pos} (a e it : Addr) :
    Turn P w K (.Tuple elts kk tpos) (IteT K a) [e, it] e (fun i h => (∃ old, IsEnum h e it ((i : Nat) : Int) old) ∧ h.IsTupleIter it a i ∧ e ≠ it) where
  mem := by simp
  obj := fun i h st b hb => by
    obtain ⟨⟨old, he⟩, ⟨o, ho, hc, hd⟩, _⟩ := st
    have e' : b = e ∨ b = it := by simpa using hb
    rcases e' with z | z
    · rw [z]; exact ⟨_, he, fun v q => nomatch q⟩
    · rw [z]; exact ⟨o, ho, fun v q => by rw [hd] at q; cases q⟩
  keep := fun i h h' st k => let ⟨⟨old, he⟩, hi, hne⟩ := st; ⟨⟨old, k e (by simp) _ he⟩, hi.at fun o q => k it (by simp) o q, hne⟩
  item := by
    intro X hP hw hK hc i pins s σ H E I hf st hg
    subst hP hw hK
    obtain ⟨⟨old, he⟩, hit, hne⟩ := st
    obtain ⟨xs, x, hq, hx⟩ := hg
    obtain ⟨its, rv, p, hz⟩ := I.tuple hq
    obtain ⟨u, hu, ru⟩ := rv.get hx
    have hel : e < s.heap.objs.size := Heap.lt_size he
    have hil : it < s.heap.objs.size := by obtain ⟨_, q, _⟩ := hit; exact Heap.lt_size q
    have nea : e ≠ a := fun z => by
      obtain ⟨o, ho, hc, _⟩ := p
      rw [← z, he] at ho
      cases ho
      exact absurd hc (by simp)
    have nia : a ≠ it := fun z => by
      obtain ⟨o, ho, hc, _⟩ := p
      obtain ⟨o2, ho2, hc2, _⟩ := hit
      rw [z, ho2] at ho
      cases ho
      rw [hc2] at hc
      exact absurd hc (by simp)
    have hil2 : i < its.toArray.size := by
      have := (List.getElem?_eq_some_iff.mp hu).1
      simpa using this
    refine wpAny_pyNext_enum_itemD (Draws.tuple (A := X.A.in1) (show X.A.in1.handled = none from I.ok.hd hc) it a nia its.toArray) he ⟨hit, p⟩ hil2 hne (by simp [hne, nea]) fun y h' tk hy ho hit' hT hsz hk => ?_
    have ey : y = u := by
      have h1 : its[i]? = some y := by simpa using hy
      rw [hu] at h1
      exact (Option.some.inj h1).symm
    subst ey
    refine ⟨_, rfl, wpAny_letOwnedTupleGo_enum (s := { s with heap := h', toks := tk + 1 }) ho fun h'' he' sb => ?_⟩
    have hT2 : h''.get? s.heap.objs.size = some { cls := .type "tuple", data := .seq #[.int i tk, y] } := (sb.2 _ (Nat.ne_of_gt hel)).trans hT
    have new : ObjOk X.prog X.w (upd H s.heap.objs.size (.tup [.int (i : Nat), x])) h'' s.heap.objs.size (.tup [.int (i : Nat), x]) :=
      ⟨by show 2 ≤ sizeLine; decide, [.int i tk, y], .cons ⟨_, rfl⟩ (.cons ru .nil), ⟨_, hT2, rfl, _, rfl⟩⟩
    have I1 : Inv X pins σ (upd H s.heap.objs.size (.tup [.int (i : Nat), x])) { s with heap := h'', toks := tk + 1 } :=
      I.turnedNew (ch := [e, it]) (fun b ob hb q => (sb.2 b (fun z => hb (by simp [z]))).trans (hk b ob (fun z => hb (by simp [z])) (fun z => hb (by simp [z])) q)) hf (Nat.le_refl _) new
    refine ⟨.ref s.heap.objs.size, _, I1, rfl, ⟨_, x, rfl, I.hok.fresh (Nat.le_refl _), rfl, fun ys hy => by rw [I.tuple_inj hy hq]; exact hx⟩, ⟨⟨y, ?_⟩, hit'.1.at fun o q => (sb.2 it (Ne.symm hne)).trans q, hne⟩, fun b hb => ?_⟩
    · have e1 : ((i + 1 : Nat) : Int) = (i : Int) + 1 := by omega
      rw [e1]; exact he'
    · have hb' : b < s.heap.objs.size := by
        have e' : b = e ∨ b = it := by simpa using hb
        rcases e' with z | z
        · rw [z]; exact hel
        · rw [z]; exact hil
      rw [upd_ne (Nat.ne_of_lt hb')]
      exact (hf b hb).1
  done := by
    intro X hP hw hK hc i pins s σ H E I hf st hg
    subst hP hw hK
    obtain ⟨⟨old, he⟩, hit, hne⟩ := st
    obtain ⟨xs, hq, hx⟩ := hg
    obtain ⟨its, rv, p, hz⟩ := I.tuple hq
    obtain ⟨f0, f1, f2, f3, f4, f5⟩ := hf it (by simp)
    have hl := rv.length
    exact enumT_end (I.ok.hd hc) he hit p (by simp; omega) fun h' eb => ⟨rfl, I.turned (t' := s.toks) (fun b o hb q => eb b o hb q) f0 f1 f3 f4 f5⟩
  self := fun A i s Q E st h => let ⟨⟨_, he⟩, _⟩ := st; wpAny_pyIter_enum he h
def iEnumQ (K : PySem.W.Frag) (ta : TA) : TI := fun σ H R => ta σ H fun vs H1 => ∃ a, vs = [.ref a] ∧ (((∃ xs, SqL K H1 a xs) ∧ R (Ite K a) H1) ∨ ((∃ xs, SqT K H1 a xs) ∧ R (IteT K a) H1))
theorem pi_enumQ {X : Cx} {e : Expr} {ta : TA} {p pos tpos : Pos} {elts : List Expr} {kk : Nat} (hg : Gl X "enumerate") (hm : X.mg "enumerate" = none) (ha : PA X [e] ta) (hs : starEach [e] X.env = [(false, eval e X.env)] := by rfl) :
    PI X (.Tuple elts kk tpos) (.Call (.Name "enumerate" p) [e] [] pos) (iEnumQ X.K ta) := by
  refine ⟨fun pins s σ H R I h => ?_⟩
  refine Call_ (ld_blt I hg hm boot_enumerate (PyProof.Rows.callWith_type1 (thn (ha.run pos pins s σ H _ I h) fun us s1 ⟨vs, H1, I1, r1, q1⟩ => ?_) hs rfl))
  obtain ⟨a, ex, q1⟩ := q1
  subst ex
  cases r1 with
  | cons r rr =>
    cases rr
    cases r
    rcases q1 with ⟨⟨xs, hq⟩, q⟩ | ⟨⟨xs, hq⟩, q⟩
    · obtain ⟨its, rv, p', hz⟩ := I1.list hq
      refine call_enumerate_list p'.isList fun h' he hit hsz hk => wpAny_pyIter_enum he ?_
      have I2 : Inv X pins σ H1 { s1 with heap := h' } := I1.kept (t' := s1.toks) hk
      refine ⟨s1.heap.objs.size + 1, [s1.heap.objs.size + 1, s1.heap.objs.size], _, _, H1, rfl, I2, turn_enum a (s1.heap.objs.size + 1) s1.heap.objs.size, ⟨⟨.none, he⟩, hit, Nat.succ_ne_self _⟩, fun b hb => ?_, q⟩
      have e' : b = s1.heap.objs.size + 1 ∨ b = s1.heap.objs.size := by simpa using hb
      have hle : s1.heap.objs.size ≤ b := by
        rcases e' with z | z
        · rw [z]; exact Nat.le_add_right _ _
        · rw [z]; exact Nat.le_refl _
      exact I1.fpOk hle (I1.hok.fresh hle)
    · obtain ⟨its, rv, p', hz⟩ := I1.tuple hq
      refine call_enumT p' fun h' he hit hsz hk => wpAny_pyIter_enum he ?_
      have I2 : Inv X pins σ H1 { s1 with heap := h' } := I1.kept (t' := s1.toks) hk
      refine ⟨s1.heap.objs.size + 1, [s1.heap.objs.size + 1, s1.heap.objs.size], _, _, H1, rfl, I2, turn_enumT a (s1.heap.objs.size + 1) s1.heap.objs.size, ⟨⟨.none, he⟩, hit, Nat.succ_ne_self _⟩, fun b hb => ?_, q⟩
      have e' : b = s1.heap.objs.size + 1 ∨ b = s1.heap.objs.size := by simpa using hb
      have hle : s1.heap.objs.size ≤ b := by
        rcases e' with z | z
        · rw [z]; exact Nat.le_add_right _ _
        · rw [z]; exact Nat.le_refl _
      exact I1.fpOk hle (I1.hok.fresh hle)
/-! ### C.f, a constant of a class -/
theorem conI_of {K : PySem.W.Frag} {x f : Str} {i : Int} (c : (Fx.conI x f i).ok K = true) : ClX.CRead K (He.ga K x) (.type "type") ∧ ∃ t, ClX.CVal K (He.ga K x) (.type "type") f (.int i) (.int i t) := by
  obtain ⟨c1, c⟩ := He.ba c
  obtain ⟨c2, c3⟩ := He.ba c
  refine ⟨⟨c1, He.eqO_ok c2⟩, ?_⟩
  split at c3
  · rename_i j t e
    have := of_decide_eq_true c3
    subst this
    exact ⟨t, e, ⟨_, rfl⟩⟩
  · cases c3
theorem pe_clsI {X : Cx} {x f : Str} {i : Int} {p pos : Pos} {C : Addr} (c : ClX.CRead X.K C (.type "type") ∧ ∃ t, ClX.CVal X.K C (.type "type") f (.int i) (.int i t)) (hg : Gl X x) (hm : X.mg x = some (.ref C))
    (hb : attributeBase (.Name x p) f X.env (eval (.Name x p) X.env) = eval (.Name x p) X.env := by rfl) (hdb : (x == ("__debug__" : Str)) = false := by decide) : PE X (.Attribute (.Name x p) f pos) (tC (.int i)) := by
  refine ⟨fun pins s σ H Q I h => ?_⟩
  obtain ⟨c1, t, c2⟩ := c
  exact (ClX.pe_cval (pe_glob (v := .ref C) hg hm rfl (by exact hdb)) hb).run pins s σ H Q I ⟨C, _, .int i, _, rfl, c1, c2, h⟩
end Sx

namespace Sx
open PySem PySem.Spec PyProof.Rows L2
theorem room_un {k : Nat} {A : Around} (r : Room k A) : A.units + 65 < cLine := by have := r.un; omega
/-- o(e, ..), o an instance -/
def tCallOW (C : Addr) (m : Str) (sp : Sp) (W : WX) (tf : TE) (t : TA) : TE := fun σ H Q => tf σ H fun y H1 => ∃ a dx fs, y = V.ref a ∧ H1 a = some (.ins C dx fs) ∧ fs.lookup m = none ∧ t σ H1 fun vs H2 => (∃ dx fs, H2 a = some (.ins C dx fs)) ∧ sp (V.ref a :: vs) H2 Q (WE W σ)
theorem callO_mk {K : PySem.W.Frag} {C f : Addr} {x q : Str} {params : Arguments} {body : List Stmt} {scope : Scope} {dvs : List V} {kws : List (Str × V)} (h : Meth K C "__call__" f) (d : ∃ fd, FunD K x q params body scope dvs kws f fd) : StX.CallO K C f := by
  obtain ⟨fd, F⟩ := d
  obtain ⟨oc, od, dV, kV, doc, pm, an, cdv, ct, osl, _, lk, _⟩ := F.ex
  exact ⟨h.at_, h.fn, by unfold PySem.W.fnIn; rw [lk]⟩
section
variable {X : Cx} {fe e : Expr} {es : List Expr} {pos : Pos} {C f : Addr} {k : Nat} {sp : Sp} {W : WX} {tf : TE} {t : TA}
theorem pe_callOW (hf : PE X fe tf) (c : StX.CallO X.K C f) (F : FnR X.prog X.w X.K X.mg X.base (L2.CX X.prog X.w) k f sp) (hr : Room k X.A) (tk : Takes X W) (ha : PA X (e :: es) t)
    (ht : eval (.Call fe (e :: es) [] pos) X.env = (do callWith pos (← eval fe X.env) [] (backTo pos (starEach (e :: es) X.env)) (backToKw pos (keywordEach [] X.env))) := by rfl)
    (he : starEach (e :: es) X.env = (false, eval e X.env) :: starEach es X.env := by rfl) (hpl : (backTo pos (starEach es X.env)).any (·.1) = false := by rfl) : PE X (.Call fe (e :: es) [] pos) (tCallOW C "__call__" sp W tf t) := by
  refine ⟨fun pins s σ H Q I h => ?_⟩
  refine Call_ (thn (hf.run pins s σ H _ I h) fun u s1 ⟨y, H1, I1, ry, a, _, _, ey, _, _, q⟩ => ?_) ht
  subst ey
  obtain rfl : u = Value.ref a := ry
  refine StX.callO_with (thn (ha.run pos pins s1 σ H1 _ I1 q) fun us s2 ⟨vs, H2, I2, r, hi, q2⟩ => ?_) he hpl
  obtain ⟨ox, od, J, hd⟩ := StX.insC_at (X := X) I2 (.inr hi)
  exact ⟨⟨C, ox, od, J, hd⟩, wpAny_call (PySem.W.kco_code I2.kIn J hd c.at_ c.fn c.fi (run_fnW (us := .ref a :: us) (vs := .ref a :: vs) F hr tk I2 (.cons rfl r) q2))⟩
end
end Sx
namespace Mi
open PySem PySem.Spec PyProof.Rows L2
open Sx (Tn Fx btys tCallW tMethW tMakeW Fr wx tMkE)
section
variable {K : PySem.W.Frag} [Rows K] {A : Anc} {X : Cells} {W : WX} {σ : L2.St} {ρ : Env} {G G' H : Hp} {L : Cells}
/-! ### list(x), tuple(x) -/
def rLstOf (K : PySem.W.Frag) : List V → Hp → VK → Prop := fun xs H Q => ∃ p ys, xs = [.ref p] ∧ (SqL K H p ys ∨ SqT K H p ys) ∧ ∀ l, H l = none → Q (.ref l) (upd H l (.lst ys))
def rTupOf (K : PySem.W.Frag) : List V → Hp → VK → Prop := fun xs H Q => ∃ p ys, xs = [.ref p] ∧ ((SqL K H p ys ∧ ∀ l, H l = none → Q (.ref l) (upd H l (.tup ys))) ∨ (SqT K H p ys ∧ Q (.ref p) H))
def dList : List D → Re (List D)
  | [d] => asQ d
  | _ => .bad
theorem rcn_list : RCn K A W (rLstOf K) dList := by
  intro X σ ρ G L Q xs as g hx p
  match as, xs, hx, p with
  | [], _, _, p => exact p.elim
  | _ :: _ :: _, _, _, p => exact p.elim
  | [d], [v], .cons hv .nil, p =>
    cases hv with
    | @lst a xs ds hs hd =>
      refine ⟨a, xs, rfl, .inl (Same.seq g.fr.same hs), fun q n => ?_⟩
      obtain ⟨n1, n2⟩ := free_of n
      exact PO.at_ (a := ds) p g q xs n1 n2 hd
    | @tup a xs ds hs hd =>
      refine ⟨a, xs, rfl, .inr (Sx.Same.seqT g.fr.same hs), fun q n => ?_⟩
      obtain ⟨n1, n2⟩ := free_of n
      exact PO.at_ (a := ds) p g q xs n1 n2 hd
    | _ => exact p.elim
def dTuple : List D → Re D
  | [.lst ds] => .ok (.tup ds)
  | [.tup ds] => .ok (.tup ds)
  | _ => .bad
theorem rc_tuple : RC K A W (rTupOf K) dTuple := by
  intro X σ ρ G L Q xs as g hx p
  match as, xs, hx, p with
  | [], _, _, p => exact p.elim
  | d1 :: d2 :: ds, _, _, p =>
    have e : dTuple (d1 :: d2 :: ds) = .bad := by unfold dTuple; cases d1 <;> rfl
    rw [e] at p; exact p.elim
  | [d], [v], .cons hv .nil, p =>
    cases hv with
    | @lst a xs ds hs hd =>
      refine ⟨a, xs, rfl, .inl ⟨Same.seq g.fr.same hs, fun q n => ?_⟩⟩
      obtain ⟨n1, n2⟩ := free_of n
      rw [upds_new n2]
      have sm : Same G (upd G q (.tup xs)) := Sx.Same.updR (Same.refl _) n1
      exact p _ L sm (g.mono sm (g.fr.new n2)) _ (.tup (SqT.of upd_same) (hd.mono sm))
    | @tup a xs ds hs hd =>
      exact ⟨a, xs, rfl, .inr ⟨Sx.Same.seqT g.fr.same hs, p.at_ g _ (.tup hs hd)⟩⟩
    | _ => exact p.elim
/-- .. of the list in a slot -/
def lsV : Option Sl → Re (List D)
  | some (.ow ds) => .ok ds
  | some (.rf ds) => .ok ds
  | some (.pl (.lst ds)) => .ok ds
  | _ => .bad
theorem lsV_ok {s : Option Sl} {ds : List D} (h : lsV s = .ok ds) : s = some (.ow ds) ∨ s = some (.rf ds) ∨ s = some (.pl (.lst ds)) := by
  unfold lsV at h
  split at h <;> first | (cases h; simp) | cases h
theorem lsV_nx (s : Option Sl) : (∃ ds, lsV s = .ok ds) ∨ lsV s = .bad := by
  unfold lsV
  split <;> simp
def mLstV (i : Nat) (ρ : Env) : Out (List D) := lift (lsV ρ[i]?) ρ
theorem rn_lstV {i : Nat} : RN K A W (tCB (rLstOf K) (tCons (tVar i) tNil)) (mLstV i) := by
  intro X σ ρ G L Q g p
  unfold mLstV at p
  rcases lsV_nx ρ[i]? with ⟨ds, e⟩ | e
  · rw [e] at p
    obtain ⟨a, ys, e1, hs, hy⟩ := g.seqL (lsV_ok e)
    refine ⟨.ref a, e1, a, ys, rfl, .inl hs, fun q n => ?_⟩
    obtain ⟨n1, n2⟩ := free_of n
    exact PO.at_ (a := ds) p g q ys n1 n2 hy
  · rw [e] at p; exact p.elim
def mTupV (i : Nat) (ρ : Env) : Out D := bnd (lift (lsV ρ[i]?)) (fun ds => ret (.tup ds)) ρ
theorem re_tupV {i : Nat} : RE K A W (tCB (rTupOf K) (tCons (tVar i) tNil)) (mTupV i) := by
  intro X σ ρ G L Q g p
  unfold mTupV bnd at p
  rcases lsV_nx ρ[i]? with ⟨ds, e⟩ | e
  · rw [e] at p
    obtain ⟨a, ys, e1, hs, hy⟩ := g.seqL (lsV_ok e)
    refine ⟨.ref a, e1, a, ys, rfl, .inl ⟨hs, fun q n => ?_⟩⟩
    obtain ⟨n1, n2⟩ := free_of n
    rw [upds_new n2]
    have sm : Same G (upd G q (.tup ys)) := Sx.Same.updR (Same.refl _) n1
    exact p _ L sm (g.mono sm (g.fr.new n2)) _ (.tup (SqT.of upd_same) (hy.mono sm))
  · rw [e] at p; exact p.elim
/-! ### [..] * k -/
noncomputable def repOk (n : Nat) (k : Int) : Bool := hd ((0 ≤ k ∧ k ≤ 100000) ∧ n ≤ 10)
noncomputable def mRep (a : M (List D)) (b : M D) : M (List D) := bnd a fun ds => bnd b fun y => bnd (lift (asI y)) fun k => ib (repOk ds.length k) (ret (List.replicate k.toNat ds).flatten) fail
theorem IsL.rep {vs : List V} {ds : List D} (h : IsL K G vs ds) : ∀ n : Nat, IsL K G (List.replicate n vs).flatten (List.replicate n ds).flatten
  | 0 => .nil
  | n + 1 => by
    rw [List.replicate_succ, List.replicate_succ, List.flatten_cons, List.flatten_cons]
    exact h.append (IsL.rep h n)
theorem rn_rep {ta tb : TE} {a : M (List D)} {b : M D} (ha : RN K A W ta a) (hb : RE K A W tb b) : RN K A W (tOp rRep ta tb) (mRep a b) := by
  intro X σ ρ G L Q g p
  refine ha X σ ρ G L _ g (p.seq fun ds ρ1 G1 L1 s1 g1 p1 q ys n1 n2 hy => ?_)
  rw [upds_new n2]
  have sm : Same G1 (upd G1 q (.lst ys)) := Sx.Same.updR (Same.refl _) n1
  have g1' := g1.mono sm (g1.fr.new n2)
  refine hb X σ ρ1 _ L1 _ g1' (PO.seq (p1.mono sm) fun y ρ2 G2 L2 s2 g2 p2 w hw => ?_)
  cases hw with
  | int k =>
    simp only [bnd, lift, asI] at p2
    by_cases hk : repOk ds.length k = true
    · rw [ib_pos hk] at p2
      have hk2 : (0 ≤ k ∧ k ≤ 100000) ∧ ds.length ≤ 10 := (hd_iff _).mp hk
      have hb : ys.length * k.toNat ≤ sizeLine := by
        rw [hy.length]
        have h1 : k.toNat ≤ 100000 := by omega
        have h2 := Nat.mul_le_mul hk2.2 h1
        rw [sizeLine_eq]; omega
      refine ⟨q, k, ys, rfl, rfl, g2.fr.same _ _ (s2 _ _ upd_same), by omega, by omega, hb, fun r n => ?_⟩
      obtain ⟨m1, m2⟩ := free_of n
      exact PO.at_ (a := (List.replicate k.toNat ds).flatten) p2 g2 r _ m1 m2 ((hy.mono (sm.trans s2)).rep _)
    · rw [ib_neg hk] at p2; exact p2.elim
  | _ => exact p2.elim
/-! ### t[lo:hi] -/
def asT2 : D → Re (List D)
  | .tup ds => .ok ds
  | _ => .bad
def mSlT (e : M D) (lo hi : M (Option Int)) : M D := bnd e fun d => bnd lo fun l => bnd hi fun u => bnd (lift (asT2 d)) fun ds => ret (.tup (cutD ds l u))
theorem re_slT {te : TE} {tl th : TO} {e : M D} {lo hi : M (Option Int)} (he : RE K A W te e) (hl : RO K A W tl lo) (hh : RO K A W th hi) : RE K A W (tSl (rSlA K) te tl th) (mSlT e lo hi) := by
  intro X σ ρ G L Q g p
  refine he X σ ρ G L _ g (p.seq fun d ρ1 G1 L1 s1 g1 p1 v hv => ?_)
  refine hl X σ ρ1 G1 L1 _ g1 (p1.seq fun l ρ2 G2 L2 s2 g2 p2 => ?_)
  refine hh X σ ρ2 G2 L2 _ g2 (p2.seq fun u ρ3 G3 L3 s3 g3 p3 => ?_)
  cases hv.mono (s2.trans s3) with
  | @tup a xs ds hs hd =>
    refine ⟨a, xs, rfl, Sx.Same.seqT g3.fr.same hs, fun hw => ?_, fun hw q n => ?_⟩
    · have : cutD ds l u = ds := by
        unfold cutD
        rw [← hd.length, hw.1, hw.2, hd.length]
        simp
      have p4 : PO K A X W σ G3 _ (Out.ok (D.tup (cutD ds l u)) ρ3) := p3
      rw [this] at p4
      exact p4.at_ g3 _ (.tup hs hd)
    · obtain ⟨n1, n2⟩ := free_of n
      rw [upds_new n2]
      have sm : Same G3 (upd G3 q (.tup (cutV xs l u))) := Sx.Same.updR (Same.refl _) n1
      exact (show PO K A X W σ G3 _ (Out.ok (D.tup (cutD ds l u)) ρ3) from p3) _ L3 sm (g3.mono sm (g3.fr.new n2)) _ (.tup (SqT.of upd_same) ((hd.cut l u).mono sm))
  | _ => exact p3.elim
/-! ### isinstance(e, (A, B)) -/
def mIsiT (cs : List Tn) (m : M D) : M D := bnd m fun d => ret (.bl (cs.any fun c => isub d.tn c))
theorem re_isiT2 {n1 n2 : String} {t : TE} {m : M D} (h1 : n1 ∈ btys) (h2 : n2 ∈ btys) (h : RE K A W t m) :
    RE K A W (tCB (rIsiT K) (tCons t (tCons (tTup (tCons (tC (.ty n1)) (tCons (tC (.ty n2)) tNil))) tNil))) (mIsiT [.b n1, .b n2] m) := by
  intro X σ ρ G L Q g p
  refine h X σ ρ G L _ g (p.seq fun d ρ1 G1 L1 s1 g1 p1 v hv => ?_)
  refine ⟨by show 2 ≤ sizeLine; decide, fun q n => ?_⟩
  obtain ⟨m1, m2⟩ := free_of n
  rw [upds_new m2]
  have sm : Same G1 (upd G1 q (.tup [.ty n1, .ty n2])) := Sx.Same.updR (Same.refl _) m1
  have g2 := g1.mono sm (g1.fr.new (o := .tup [.ty n1, .ty n2]) m2)
  have hv2 := (hv.mono sm).mono (g2.fr.same (K := K))
  have k1 := hv2.kit (c := .b n1) h1
  have k2 := hv2.kit (c := .b n2) h2
  refine ⟨v, q, [.ty n1, .ty n2], _, [.type n1, .type n2], [Tn.b n1, Tn.b n2].any (fun c => isub d.tn c), rfl, g2.fr.same _ _ upd_same, .cons (.ty n1) (.cons (.ty n2) .nil), hv2.tyx, ?_, ?_⟩
  · unfold PySem.W.kitAny
    rw [show PySem.W.kitOne K (d.tn.val K) (.type n1) = _ from k1, List.any_cons]
    generalize isub d.tn (.b n1) = b1
    cases b1 with
    | true => rfl
    | false =>
      simp only [PySem.W.kitAny]
      rw [show PySem.W.kitOne K (d.tn.val K) (.type n2) = _ from k2, List.any_cons]
      generalize isub d.tn (.b n2) = b2
      cases b2 <;> rfl
  · exact p1 _ L1 sm g2 _ (.bl _)
/-! ### enumerate of a list or a tuple -/
def enumQ : List D → Re (List D)
  | [.lst ds] => .ok (enumL ds)
  | [.tup ds] => .ok (enumL ds)
  | _ => .bad
theorem nx_enumQ (ds : List D) : noX (enumQ ds) := fun C x => by unfold enumQ; split <;> simp
theorem it_enumT {a : Addr} {xs : List V} {ds : List D} (hs : SqT K G a xs) (hd : IsL K G xs ds) : ItOk K (Sx.IteT K a) (enumL ds) G := by
  intro i G2 L2 sm f
  have h2 : SqT K (upds K G2 L2) a xs := Sx.Same.seqT (sm.trans f.same) hs
  have hl := hd.length
  refine ⟨fun d e => ?_, fun q => ⟨xs, h2, by simpa [enumL, hl] using q⟩⟩
  have hi : i < ds.length := by
    have := (List.getElem?_eq_some_iff.mp e).1
    simpa [enumL] using this
  have e0 : d = .tup [.int i, ds[i]] := by
    unfold enumL at e
    simp [hi] at e
    exact e.symm
  subst e0
  obtain ⟨v, e1, hv⟩ := hd.get (List.getElem?_eq_getElem hi)
  refine ⟨⟨xs, v, h2, e1⟩, fun x H' hy => ?_⟩
  obtain ⟨T, y, rfl, n, rfl, hx⟩ := hy
  have e2 := hx xs h2
  rw [e1] at e2
  cases e2
  obtain ⟨n1, n2⟩ := free_of n
  have sm2 : Same G2 (upd G2 T (.tup [.int (i : Nat), v])) := Sx.Same.updR (Same.refl _) n1
  exact ⟨_, upds_new n2, sm2, f.new n2, .tup (SqT.of upd_same) (.cons (.int _) (.cons (hv.mono (sm.trans sm2)) .nil))⟩
theorem ri_enumQ {t : TA} {m : M (List D)} (h : RA K A W t m) : RI K A W (Sx.iEnumQ K t) (mItA enumQ m) := by
  intro X σ ρ G L R g p
  refine h X σ ρ G L _ g (p.seq fun ds ρ1 G1 L1 s1 g1 p1 vs hvs => ?_)
  obtain ⟨es, e, p1⟩ := p1.lift (nx_enumQ ds)
  unfold enumQ at e
  split at e
  · cases e
    match vs, hvs with
    | [_], .cons (.lst (a := a) (xs := xs) hs hd) .nil => exact ⟨a, rfl, .inl ⟨⟨xs, Same.seq g1.fr.same hs⟩, p1.at_ g1 _ (it_enum hs hd)⟩⟩
  · cases e
    match vs, hvs with
    | [_], .cons (.tup (a := a) (xs := xs) hs hd) .nil => exact ⟨a, rfl, .inr ⟨⟨xs, Sx.Same.seqT g1.fr.same hs⟩, p1.at_ g1 _ (it_enumT hs hd)⟩⟩
  · cases e
/-! ### None in a list of pairs of ints and Nones -/
def isPr : D → Bool
  | .non => true
  | .tup [.int _, .int _] => true
  | _ => false
def prP : D → PyData
  | .tup [.int i, .int j] => .tuple [.int i, .int j]
  | _ => .none
def isN : D → Bool
  | .non => true
  | _ => false
def dInN : D → D → Re D
  | .non, .lst ds => ib (ds.all isPr) (.ok (.bl (ds.any isN))) .bad
  | _, _ => .bad
theorem isPr_c {d : D} (h : isPr d = true) : d = .non ∨ ∃ i j, d = .tup [.int i, .int j] := by
  unfold isPr at h
  split at h
  · exact .inl rfl
  · exact .inr ⟨_, _, rfl⟩
  · cases h
theorem Is.pair {v : V} {i j : Int} (h : Is K H v (.tup [.int i, .int j])) : ∃ a, v = .ref a ∧ SqT K H a [.int i, .int j] := by
  cases h with
  | tup h hs =>
    cases hs with
    | cons h1 hs =>
      cases hs with
      | cons h2 hs =>
        cases hs
        cases h1
        cases h2
        exact ⟨_, rfl, h⟩
theorem dp_one {v : V} {d : D} (h : Is K H v d) (e : isPr d = true) : Dp K H v (prP d) := by
  rcases isPr_c e with rfl | ⟨i, j, rfl⟩
  · rw [h.non_eq]; exact .non
  · obtain ⟨a, rfl, hs⟩ := h.pair
    exact .tup hs (.cons (.int i) (.cons (.int j) .nil))
theorem dp_pr : ∀ {vs : List V} {ds : List D}, IsL K H vs ds → ds.all isPr = true → DpAll K H vs (ds.map prP)
  | _, _, .nil, _ => .nil
  | _, _, .cons h hs, e => .cons (dp_one h (Bool.and_eq_true_iff.mp e).1) (dp_pr hs (Bool.and_eq_true_iff.mp e).2)
theorem prP_c (d : D) : prP d = .none ∨ ∃ i j, prP d = .tuple [.int i, .int j] := by
  unfold prP
  split
  · exact .inr ⟨_, _, rfl⟩
  · exact .inl rfl
theorem pr_lay : ∀ ds : List D, PyData.canLayAll0 (ds.map prP) = true
  | [] => by simp only [List.map_nil, PyData.canLayAll0]
  | d :: ds => by
    rw [List.map_cons]
    simp only [PyData.canLayAll0]
    rw [pr_lay ds, Bool.and_true]
    rcases prP_c d with e | ⟨i, j, e⟩
    · rw [e]; simp only [PyData.canLay0]
    · rw [e]; simp only [PyData.canLay0, PyData.canLayAll0, Bool.and_self]
theorem pr_dep : ∀ ds : List D, PyData.depthAll (ds.map prP) ≤ 1
  | [] => by simp only [List.map_nil, PyData.depthAll]; exact Nat.zero_le _
  | d :: ds => by
    rw [List.map_cons]
    simp only [PyData.depthAll]
    refine Nat.max_le.mpr ⟨?_, pr_dep ds⟩
    rcases prP_c d with e | ⟨i, j, e⟩
    · rw [e]; simp only [PyData.depth]; exact Nat.zero_le _
    · rw [e]; simp only [PyData.depth, PyData.depthAll]; decide
theorem pr_eqv {d : D} (h : isPr d = true) : PyData.eqv (prP d) .none = isN d := by
  unfold isPr at h
  split at h
  · rfl
  · rfl
  · cases h
theorem pr_any : ∀ {ds : List D}, ds.all isPr = true → ((ds.map prP).any fun z => PyData.eqv z .none) = ds.any isN
  | [], _ => rfl
  | d :: ds, e => by
    simp only [List.all_cons, Bool.and_eq_true] at e
    rw [List.map_cons, List.any_cons, List.any_cons, pr_any e.2, pr_eqv e.1]
theorem rr_inN : RR K A W (rInD K) dInN := by
  intro X σ ρ G L Q x y a b g hx hy p
  cases hx with
  | non =>
    cases hy with
    | @lst q xs ds hs hd =>
      simp only [dInN] at p
      by_cases hp : ds.all isPr = true
      · rw [ib_pos hp] at p
        refine ⟨.none, ds.map prP, .non, .lst (Same.seq g.fr.same hs) (dp_pr (hd.mono g.fr.same) hp), by decide, ?_, ?_⟩
        · unfold SeqAt.shaped
          have h1 : (PyData.list (ds.map prP)).canLay0 = true := by simp only [PyData.canLay0]; exact pr_lay ds
          have h2 : (PyData.list (ds.map prP)).depth ≤ 64 := by
            simp only [PyData.depth]
            exact Nat.le_trans (Nat.succ_le_succ (pr_dep ds)) (by decide)
          rw [h1, decide_eq_true h2]
          rfl
        · rw [pr_any hp]
          exact p.at_ g _ (.bl _)
      · rw [ib_neg hp] at p; exact p.elim
    | _ => exact p.elim
  | _ => exact p.elim
/-! ### an instance that is called -/
theorem re_callO {C : Str} {f : MFn} {to : TE} {t : TA} {o : M D} {a : M (List D)} (ho : RE K A W to o) (ha : RA K A W t a) : RE K A W (Sx.tCallOW (He.ga K C) "__call__" (Fr (spM K f)) W to t) (mMeth C "__call__" f o a) := by
  intro X σ ρ G L Q g p
  refine ho X σ ρ G L _ g (p.seq fun d ρ1 G1 L1 s1 g1 p1 v hv => ?_)
  cases hv with
  | @ins b dx C' fs gs hc hn hb hs =>
    simp only [bnd, lift, recv] at p1
    by_cases e : C' = C ∧ gs.lookup ("__call__" : Str) = none
    · simp only [if_pos e] at p1
      obtain ⟨rfl, e2⟩ := e
      refine ⟨b, dx, fs, rfl, g1.fr.same _ _ hb, hs.none e2, ha X σ ρ1 G1 L1 _ g1 (PO.seq (m := a) (c := fun ds => lift (frzR (f (.ins C' gs :: ds)))) p1 fun ds ρ2 G2 L2 s2 g2 p2 vs hvs => ?_)⟩
      exact ⟨⟨dx, fs, g2.fr.same _ _ (s2 _ _ hb)⟩, fr_call g2 (.cons (Is.mono s2 (.ins hc hn hb hs)) hvs) p2⟩
    · simp only [if_neg e] at p1; exact p1.elim
  | _ => exact p1.elim
/-! ### a, b, c = x, y, z -/
def three : List D → Re (D × D × D)
  | [a, b, c] => .ok (a, b, c)
  | _ => .bad
def mPar3 (i j k : Nat) (m : M (List D)) : M Fl := bnd m fun ds => bnd (lift (three ds)) fun x => bnd (sto i (.pl x.1)) fun _ => bnd (sto j (.pl x.2.1)) fun _ => bnd (sto k (.pl x.2.2)) fun _ => ret .nx
theorem rs_par3 {i j k : Nat} {t : TA} {m : M (List D)} (h : RA K A W t m) : RS K A W (tPar3 i j k t) (mPar3 i j k m) := by
  intro X σ ρ G L E g p
  refine h X σ ρ G L _ g (p.seqE fun ds ρ1 G1 L1 s1 g1 p1 vs hvs => ?_)
  match ds, vs, hvs, p1 with
  | [a, b, c], [v, w, u], .cons hv (.cons hw (.cons hu .nil)), p1 =>
    refine ⟨v, w, u, rfl, ?_⟩
    simp only [bnd, lift, three, sto] at p1
    by_cases ho : okAsg ρ1[i]? = true
    · rw [ib_pos ho] at p1
      obtain ⟨G2, L2, s2, e2, g2⟩ := g1.sto ho hv
      by_cases ho2 : okAsg (ρ1.set i (.pl a))[j]? = true
      · simp only [ib_pos ho2] at p1
        obtain ⟨G3, L3, s3, e3, g3⟩ := g2.sto ho2 (hw.mono s2)
        by_cases ho3 : okAsg ((ρ1.set i (.pl a)).set j (.pl b))[k]? = true
        · simp only [ib_pos ho3] at p1
          obtain ⟨G4, L4, s4, e4, g4⟩ := g3.sto ho3 ((hu.mono s2).mono s3)
          rw [e2, e3, e4]
          exact p1 _ _ _ ((s2.trans s3).trans s4) g4
        · simp only [ib_neg ho3] at p1
          exact p1.elim
      · simp only [ib_neg ho2] at p1
        exact p1.elim
    · rw [ib_neg ho] at p1
      exact p1.elim
  | [], _, _, p1 => exact p1.elim
  | [_], _, _, p1 => exact p1.elim
  | [_, _], _, _, p1 => exact p1.elim
  | _ :: _ :: _ :: _ :: _, _, _, p1 => exact p1.elim
end
end Mi

namespace Mi
open PySem PySem.Spec PyProof.Rows L2
open Sx (Tn Fx btys tCallW tMethW tMakeW Fr wx tMkE)
/-! ### an owned list that is lent to a call -/
mutual
/-- no list in it -/
def noL : D → Bool
  | .tup ds => noLs ds
  | .ins _ gs => noLf gs
  | .lst _ => false
  | .non => true
  | .bl _ => true
  | .int _ => true
  | .str _ => true
  | .dic => true
def noLs : List D → Bool
  | [] => true
  | d :: ds => noL d && noLs ds
def noLf : List (Str × D) → Bool
  | [] => true
  | (_, d) :: gs => noL d && noLf gs
end
theorem noL_tup (ds : List D) : noL (.tup ds) = noLs ds := by unfold noL; rfl
theorem noL_ins (C : Str) (gs : List (Str × D)) : noL (.ins C gs) = noLf gs := by unfold noL; rfl
theorem noL_lst (ds : List D) : noL (.lst ds) = false := by unfold noL; rfl
theorem noL_int (i : Int) : noL (.int i) = true := by unfold noL; rfl
theorem noL_str (i : Str) : noL (.str i) = true := by unfold noL; rfl
theorem noL_bl (i : Bool) : noL (.bl i) = true := by unfold noL; rfl
theorem noL_non : noL .non = true := by unfold noL; rfl
theorem noL_dic : noL .dic = true := by unfold noL; rfl
theorem noLs_nil : noLs [] = true := by unfold noLs; rfl
theorem noLs_cons (d : D) (ds : List D) : noLs (d :: ds) = (noL d && noLs ds) := by rw [noLs]
theorem noLf_nil : noLf [] = true := by unfold noLf; rfl
theorem noLf_cons (f : Str) (d : D) (ds : List (Str × D)) : noLf ((f, d) :: ds) = (noL d && noLf ds) := by rw [noLf]
def noLx : Option (Str × D) → Bool
  | none => true
  | some (_, d) => noL d
/-- the heap without p -/
def wo (H : Hp) (p : Addr) : Hp := fun a => if a = p then none else H a
section
variable {K : PySem.W.Frag} [Rows K] {A : Anc} {X : Cells} {W : WX} {σ : L2.St} {ρ : Env} {G G' H : Hp} {L : Cells} {p : Addr} {ys : List V}
theorem wo_at : wo H p p = none := if_pos rfl
theorem wo_ne {a : Addr} (h : a ≠ p) : wo H p a = H a := if_neg h
theorem wo_put (h : H p = some (.lst ys)) : upd (wo H p) p (.lst ys) = H := by
  funext a
  by_cases e : a = p
  · subst e; rw [upd_same, h]
  · rw [upd_ne e, wo_ne e]
theorem wo_seqT {a : Addr} {xs : List V} (hp : H p = some (.lst ys)) (h : SqT K H a xs) : SqT K (wo H p) a xs := by
  rcases h with (h | ⟨o, h⟩) | h
  · have ne : a ≠ p := fun e => by rw [e, hp] at h; cases h
    exact .inl (.inl (by rw [wo_ne ne]; exact h))
  · have ne : a ≠ p := fun e => by rw [e, hp] at h; cases h
    exact .inl (.inr ⟨o, by rw [wo_ne ne]; exact h⟩)
  · exact .inr h
mutual
theorem Is.off (hp : H p = some (.lst ys)) : ∀ {v : V} {d : D}, Is K H v d → noL d = true → Is K (wo H p) v d
  | _, _, .non, _ => .non
  | _, _, .bl b, _ => .bl b
  | _, _, .int i, _ => .int i
  | _, _, .str x, _ => .str x
  | _, _, .tup (ds := ds) h hs, e => .tup (wo_seqT hp h) (IsL.off hp hs (by rw [← noL_tup]; exact e))
  | _, _, .lst (ds := ds) h hs, e => by rw [noL_lst] at e; cases e
  | _, _, .ins (a := a) (C := C) (gs := gs) hc hn h hs, e => .ins hc hn (by
      have ne : a ≠ p := fun e => by rw [e, hp] at h; cases h
      rw [wo_ne ne]; exact h) (IsF.off hp hs (by rw [← noL_ins C]; exact e))
  | _, _, .dic (a := a) h, _ => .dic (by
      have ne : a ≠ p := fun e => by rw [e, hp] at h; cases h
      rw [wo_ne ne]; exact h)
theorem IsL.off (hp : H p = some (.lst ys)) : ∀ {vs : List V} {ds : List D}, IsL K H vs ds → noLs ds = true → IsL K (wo H p) vs ds
  | _, _, .nil, _ => .nil
  | _, _, .cons (d := d) (ds := ds) h hs, e => .cons (Is.off hp h (by rw [noLs_cons] at e; exact (Bool.and_eq_true_iff.mp e).1)) (IsL.off hp hs (by rw [noLs_cons] at e; exact (Bool.and_eq_true_iff.mp e).2))
theorem IsF.off (hp : H p = some (.lst ys)) : ∀ {fs : List (Str × V)} {gs : List (Str × D)}, IsF K H fs gs → noLf gs = true → IsF K (wo H p) fs gs
  | _, _, .nil, _ => .nil
  | _, _, .cons (d := d) (gs := gs) h hs, e => .cons (Is.off hp h (by rw [noLf_cons] at e; exact (Bool.and_eq_true_iff.mp e).1)) (IsF.off hp hs (by rw [noLf_cons] at e; exact (Bool.and_eq_true_iff.mp e).2))
end
theorem XIs.off {C : Str} {x : Option (Str × D)} {od : Option Addr} (hp : H p = some (.lst ys)) (h : XIs K H C x od) (e : noLx x = true) : XIs K (wo H p) C x od := by
  refine ⟨h.1, ?_⟩
  match x, h.2, e with
  | none, h, _ => exact h
  | some (f, d), ⟨a, v, h1, h2, h3⟩, e =>
    have ne : a ≠ p := fun e => by rw [e, hp] at h2; cases h2
    exact ⟨a, v, h1, by rw [wo_ne ne]; exact h2, h3.off hp e⟩
theorem Good.lend {i : Nat} {c : List D} (g : Good K G A X σ ρ L) (e : cellOf ρ[i]? = some c) : ∃ p ys L2, σ[i]? = some (some (.ref p)) ∧ upds K G L = upds K (upd G p (.lst ys)) L2 ∧ Frs (upd G p (.lst ys)) L2 ∧
    Same G (upd G p (.lst ys)) ∧ Is K (upd G p (.lst ys)) (.ref p) (.lst c) ∧
    ∀ H2, Same (upd G p (.lst ys)) H2 → Frs H2 L2 → H2 p = some (.lst ys) ∧ Same G (wo H2 p) ∧ Good K (wo H2 p) A X σ ρ L ∧ upds K H2 L2 = upds K (wo H2 p) L := by
  obtain ⟨p, ys, La, Lb, e1, rfl, hy, _⟩ := g.cell e
  obtain ⟨q1, q2⟩ := mid_eq (K := K) g.fr
  have gp : G p = none := g.fr.no p (by rw [ads_app, ads_app]; simp [ads, ad1])
  have sm : Same G (upd G p (.lst ys)) := Sx.Same.updR (Same.refl _) gp
  refine ⟨p, ys, La ++ Lb, e1, q1, q2, sm, .lst (SqL.of upd_same) (hy.mono sm), fun H2 s fr => ?_⟩
  have hp : H2 p = some (.lst ys) := s _ _ upd_same
  have s2 : Same G (wo H2 p) := fun a o ea => by
    have ne : a ≠ p := fun z => by rw [z, gp] at ea; cases ea
    rw [wo_ne ne]
    exact s _ _ (sm _ _ ea)
  have f1 : Frs (wo H2 p) [(p, .ls ys)] := Frs.ls frs_nil wo_at (fun z => by cases z)
  have eq : upds K (wo H2 p) [(p, .ls ys)] = H2 := wo_put hp
  have f2 : Frs (upds K (wo H2 p) [(p, .ls ys)]) (La ++ Lb) := by rw [eq]; exact fr
  have f3 := mid_frs (K := K) f1 f2
  refine ⟨hp, s2, g.mono s2 f3, ?_⟩
  rw [(mid_eq f3).1, eq]
def brw (i : Nat) (f : D → Re D) (ρ : Env) : Out D := match cellOf ρ[i]? with
  | some c => (match f (.lst c) with
    | .ok d => ib (noL d) (.ok d ρ) .bad
    | .ex C x => ib (noLx x) (.ex C x ρ) .bad
    | .bad => .bad)
  | none => .bad
/-- arguments, the last of them lent -/
def RAB (K : PySem.W.Frag) [Rows K] (A : Anc) (W : WX) (i : Nat) (t : TA) (m : M (List D)) : Prop := ∀ X σ ρ G L Q, Good K G A X σ ρ L → PO K A X W σ G (fun ds G' L' => ∀ vs p, IsL K G' vs ds → σ[i]? = some (some (.ref p)) → Q (vs ++ [.ref p]) (upds K G' L')) (m ρ) → t σ (upds K G L) Q
def mOwn (i : Nat) (ρ : Env) : Out (List D) := ib (cellOf ρ[i]?).isSome (.ok [] ρ) .bad
theorem rab_last {i : Nat} : RAB K A W i (tCons (tVar i) tNil) (mOwn i) := by
  intro X σ ρ G L Q g p
  unfold mOwn at p
  by_cases hb : (cellOf ρ[i]?).isSome = true
  · rw [ib_pos hb] at p
    obtain ⟨c0, e0⟩ := Option.isSome_iff_exists.mp hb
    obtain ⟨q, ys, e1, hq, _, _⟩ := g.cellS e0
    exact ⟨.ref q, e1, p.at_ g [] q .nil e1⟩
  · rw [ib_neg hb] at p; exact p.elim
theorem rab_cons {i : Nat} {ta : TE} {tr : TA} {a : M D} {r : M (List D)} (ha : RE K A W ta a) (hr : RAB K A W i tr r) : RAB K A W i (tCons ta tr) (mCons a r) := by
  intro X σ ρ G L Q gd p
  refine ha X σ ρ G L _ gd (p.seq fun x ρ1 G1 L1 s1 g1 p1 v hv => ?_)
  refine hr X σ ρ1 G1 L1 _ g1 (p1.seq fun xs ρ2 G2 L2 s2 g2 p2 vs q hvs hq => ?_)
  exact p2.at_ g2 (v :: vs) q (.cons (hv.mono s2) hvs) hq
def mCallB (i : Nat) (f : MFn) (m : M (List D)) : M D := bnd m fun ds => brw i fun l => frzR (f (ds ++ [l]))
theorem re_callB {i : Nat} {f : MFn} {t : TA} {m : M (List D)} (h : RAB K A W i t m) : RE K A W (tCallW (Fr (spM K f)) W t) (mCallB i f m) := by
  intro X σ ρ G L Q g p
  refine h X σ ρ G L _ g (p.seq fun ds ρ1 G1 L1 s1 g1 p1 vs q hvs hq => ?_)
  unfold brw at p1
  cases ec : cellOf ρ1[i]? with
  | none => rw [ec] at p1; exact p1.elim
  | some c =>
    rw [ec] at p1
    obtain ⟨p', ys, L2, e1, e2, f2, sm, hl, k⟩ := g1.lend ec
    rw [hq] at e1
    cases e1
    rw [e2]
    refine fr_cells f2 ⟨ds ++ [.lst c], (hvs.mono sm).append (.cons hl .nil), ?_⟩
    cases e : f (ds ++ [.lst c]) with
    | ok r =>
      simp only [e, frzR] at p1
      by_cases hn : noL r.d = true
      · rw [ib_pos hn] at p1
        cases r with
        | pl d =>
          intro v H2 s hd fr
          obtain ⟨hp, s2, g2, eq⟩ := k H2 s fr
          rw [eq]
          exact p1 _ L1 s2 g2 v (hd.off hp hn)
        | nw es =>
          have : noL (.lst es) = true := hn
          rw [noL_lst] at this
          cases this
      · rw [ib_neg hn] at p1; exact p1.elim
    | ex C x =>
      simp only [e, frzR] at p1
      by_cases hn : noLx x = true
      · rw [ib_pos hn] at p1
        intro od H2 s hx fr
        obtain ⟨hp, s2, g2, eq⟩ := k H2 s fr
        show W _ od σ (upds K H2 L2)
        rw [eq]
        exact p1 od _ L1 s2 g2 (hx.off hp hn)
      · rw [ib_neg hn] at p1; exact p1.elim
    | bad => simp only [e, frzR] at p1; exact p1
def mMakeB (C : Str) (i : Nat) (f : MFi) (m : M (List D)) : M D := bnd m fun ds => brw i fun l => mkR C (f (ds ++ [l]))
theorem re_makeB {C : Str} {i : Nat} {f : MFi} {t : TA} {m : M (List D)} (hC : C ∈ Rows.cls K) (h : RAB K A W i t m) : RE K A W (tMakeW (He.ga K C) (Fr (spI K C f)) W t) (mMakeB C i f m) := by
  intro X σ ρ G L Q g p
  refine h X σ ρ G L _ g (p.seq fun ds ρ1 G1 L1 s1 g1 p1 vs q hvs hq => ?_)
  unfold brw at p1
  cases ec : cellOf ρ1[i]? with
  | none => rw [ec] at p1; exact p1.elim
  | some c =>
    rw [ec] at p1
    obtain ⟨p', ys, L2, e1, e2, f2, sm, hl, k⟩ := g1.lend ec
    rw [hq] at e1
    cases e1
    rw [e2]
    intro x dx hx hdx hne
    obtain ⟨nx1, nx2⟩ := free_of hx
    obtain ⟨nd1, nd2⟩ := free_of hdx
    have e3 : upd (upd (upds K (upd G1 q (.lst ys)) L2) dx (.own x)) x (.ins (He.ga K C) dx []) = upds K (upd (upd (upd G1 q (.lst ys)) dx (.own x)) x (.ins (He.ga K C) dx [])) L2 := by rw [upds_new nd2, upds_new nx2]
    rw [e3]
    refine fr_cells ((f2.new nd2).new nx2) ⟨x, dx, vs ++ [.ref q], ds ++ [.lst c], _, rfl, rfl, nx1, nd1, hne, (hvs.mono sm).append (.cons hl .nil), ?_⟩
    cases e : f (ds ++ [.lst c]) with
    | ok gs =>
      simp only [e, mkR] at p1
      by_cases hn : noL (.ins C gs) = true
      · rw [ib_pos hn] at p1
        intro dx' fs G' s fr hs hna fr2
        refine ⟨rfl, ?_⟩
        have sm2 : Same G' (upds K G' [(x, .is C dx' fs)]) := fr.same
        obtain ⟨hp, s2, g2, eq⟩ := k _ (s.trans sm2) fr2
        rw [eq]
        exact p1 _ L1 s2 g2 _ ((Is.ins hC hna (by simp only [upds, put1]; exact upd_same) (hs.mono sm2)).off hp hn)
      · rw [ib_neg hn] at p1; exact p1.elim
    | ex C' y =>
      simp only [e, mkR] at p1
      by_cases hn : noLx y = true
      · rw [ib_pos hn] at p1
        intro od H2 s hx fr
        obtain ⟨hp, s2, g2, eq⟩ := k H2 s fr
        show W _ od σ (upds K H2 L2)
        rw [eq]
        exact p1 od _ L1 s2 g2 (hx.off hp hn)
      · rw [ib_neg hn] at p1; exact p1.elim
    | bad => simp only [e, mkR] at p1; exact p1
end
end Mi

namespace Mi
open PySem PySem.Spec PyProof.Rows L2
open Sx (Tn Fx btys Fr)
/-! ### len(x), the class's own __len__ -/
def rLenA (K : PySem.W.Frag) [Rows K] (C : Str) (m : MFn) : List V → Hp → VK → Prop := fun xs H Q => ∃ x, xs = [x] ∧ ∃ G L gs n, H = upds K G L ∧ Frs G L ∧ Is K G x (.ins C gs) ∧ m [.ins C gs] = .ok (.pl (.int n)) ∧ 0 ≤ n ∧ n < 2 ^ 63 ∧ ∀ G', Same G G' → Frs G' L → Q (.int n) (upds K G' L)
section
variable {X : Cx} {iR : Rows X.K} {k : Nat} {C : Str} {f : Addr} {m : MFn}
theorem call_lenA (hM : Meth X.K (He.ga X.K C) "__len__" f) (F : FnR X.prog X.w X.K X.mg X.base (L2.CX X.prog X.w) k f (Fr (spM X.K m))) (hr : Room (k + 1) X.A) : CallR X (.builtin "len") (rLenA X.K C m) := by
  intro pins s σ H xs us Q I r h
  obtain ⟨x, rfl, G, L, gs, n, rfl, fr, hx, em, h0, h1, q⟩ := h
  obtain ⟨u, rfl, rx⟩ := vals1 r
  have sb : Sub X k X.A.in1 := (⟨hr, rfl⟩ : Sub X (k + 1) X.A).in1
  have run : wpAny (model X.prog X.w) X.A.in1 (call (.ref f) [u]) (fun r s' => (∃ t, r = .int n t) ∧ LoopS X pins σ G L s') X.xe s := by
    have e0 : Env0 X.prog X.w X.K X.mg X.base X.A.in1 X.stack s (upds X.K G L) := by
      have e := I.env0
      exact ⟨by rw [sb.fr]; exact e.frames, e.mod, e.bs, e.bsz, e.funs, e.frf, e.hok, e.bare⟩
    have hsp : Fr (spM X.K m) [x] (upds X.K G L) (fun v' H' => v' = .int n ∧ ∃ G', H' = upds X.K G' L ∧ Same G G' ∧ Frs G' L) (fun _ _ _ => False) := by
      refine fr_cells fr ⟨_, .cons hx .nil, ?_⟩
      rw [em]
      exact fun v' H2 sm hv fr2 => ⟨hv.int_eq, H2, rfl, sm, fr2⟩
    refine wpAny_call (codeAny_mono (F X.A.in1 X.stack s _ [u] [x] _ _ sb.room e0 (.cons rx .nil) hsp) fun r s' hq => ?_)
    cases r with
    | error er =>
      obtain ⟨_, _, _, _, _, _, _, _, _, _, _, _, z⟩ := hq
      exact z.elim
    | ok fl =>
      cases fl with
      | ret w =>
        obtain ⟨z, H', I', rz, ez, G', rfl, sm, fr2⟩ := I.after hq
        subst ez
        obtain ⟨t, rfl⟩ := rz
        exact ⟨⟨t, rfl⟩, G', I', sm, fr2⟩
      | next => exact False.elim hq
      | brk => exact False.elim hq
      | cont => exact False.elim hq
  cases hx with
  | @ins a dx _ vs _ hc hn ha hs =>
    obtain ⟨mA, J, _⟩ := ins_get I.hok (fr.same _ _ ha)
    obtain ⟨od, J, _⟩ := J.look
    cases rx
    refine Calls.call_function_entry kind_len plain_len entry_len (args_len1 _) ?_
    unfold Builtin.«len»
    refine wpAny_bind (m := oneArg "len" _) (wpAny_pure ?_)
    refine wpAny_bind (m := callSpecial? (.ref a) (Str.ofString "__len__")) (PySem.W.special_fn I.kIn J hM.at_ (beq_iff_eq.mp hM.fn) (wpAny_mono run (fun r s' hr => ?_) fun _ _ y => y))
    obtain ⟨⟨t, rfl⟩, G', I', sm, fr2⟩ := hr
    refine wpAny_bind (wpAny_holding (wpAny_pure ?_))
    refine wpAny_bind (wpAny_letGo ?_)
    show wpAny _ _ (if n < 0 then _ else _) _ _ _
    rw [if_neg (by omega)]
    show wpAny _ _ (if n ≥ 2 ^ 63 then _ else _) _ _ _
    rw [if_neg (by omega)]
    exact wpAny_bind (wpAny_mkInt (wpAny_pure ⟨_, rfl, ⟨.int n, _, I'.tok _, ⟨_, rfl⟩, q G' sm fr2⟩⟩))
end
section
variable {K : PySem.W.Frag} [Rows K] {A : Anc} {X : Cells} {W : WX} {σ : L2.St} {ρ : Env} {G G' : Hp} {L : Cells}
noncomputable def lenOf : Re Rv → Re D
  | .ok (.pl (.int n)) => hf (0 ≤ n ∧ n < 2 ^ 63) (.ok (.int n)) .bad
  | _ => .bad
noncomputable def dLenA1 (C : Str) (m : MFn) : D → Re D
  | .ins C' gs => if C' = C then lenOf (m [.ins C' gs]) else .bad
  | _ => .bad
noncomputable def dLenA (C : Str) (m : MFn) : List D → Re D
  | [d] => dLenA1 C m d
  | _ => .bad
theorem rc_lenA {C : Str} {m : MFn} : RC K A W (rLenA K C m) (dLenA C m) := by
  intro X σ ρ G L Q xs as g hx p
  match as, xs, hx, p with
  | [], _, _, p => exact p.elim
  | _ :: _ :: _, _, _, p => exact p.elim
  | [d], [v], .cons hv .nil, p =>
    cases d with
    | ins C' gs =>
      simp only [dLenA, dLenA1] at p
      by_cases e : C' = C
      · subst e
        rw [if_pos rfl] at p
        cases em : m [.ins C' gs] with
        | ok rv =>
          rw [em] at p
          cases rv with
          | nw ds => exact p.elim
          | pl d =>
            cases d with
            | int n =>
              simp only [lenOf] at p
              by_cases hn : 0 ≤ n ∧ n < 2 ^ 63
              · rw [hf_pos hn] at p
                exact ⟨v, rfl, G, L, gs, n, rfl, g.fr, hv, em, hn.1, hn.2, fun G' sm fr => p G' L sm (g.mono sm fr) _ (.int _)⟩
              · rw [hf_neg hn] at p; exact p.elim
            | _ => exact p.elim
        | ex C2 x => rw [em] at p; exact p.elim
        | bad => rw [em] at p; exact p.elim
      · rw [if_neg e] at p; exact p.elim
    | _ => exact p.elim
/-! ### x[lo:hi] of the list in a slot -/
def cutO (lo hi : Option Int) (r : Re (List D)) : Re (List D) := match r with
  | .ok ds => .ok (cutD ds lo hi)
  | .ex C x => .ex C x
  | .bad => .bad
def mSlV (i : Nat) (lo hi : M (Option Int)) (ρ : Env) : Out (List D) := ib (bound ρ[i]?) (bnd lo (fun l => bnd hi fun u ρ' => lift (cutO l u (lsV ρ'[i]?)) ρ') ρ) .bad
theorem rn_slV {i : Nat} {tl th : TO} {lo hi : M (Option Int)} (hl : RO K A W tl lo) (hh : RO K A W th hi) : RN K A W (tSl (rSlL K) (tVar i) tl th) (mSlV i lo hi) := by
  intro X σ ρ G L Q g p
  unfold mSlV at p
  by_cases hb : bound ρ[i]? = true
  · rw [ib_pos hb] at p
    obtain ⟨v, e1⟩ := g.bound hb
    refine ⟨v, e1, hl X σ ρ G L _ g (p.seq fun l ρ2 G2 L2 s2 g2 p2 => hh X σ ρ2 G2 L2 _ g2 (p2.seq fun u ρ3 G3 L3 s3 g3 p3 => ?_))⟩
    rcases lsV_nx ρ3[i]? with ⟨ds, e⟩ | e
    · rw [e] at p3
      obtain ⟨a, ys, e2, hs, hy⟩ := g3.seqL (lsV_ok e)
      rw [e1] at e2
      cases e2
      refine ⟨a, ys, rfl, hs, fun q n => ?_⟩
      obtain ⟨n1, n2⟩ := free_of n
      exact PO.at_ (a := cutD ds l u) p3 g3 q _ n1 n2 (hy.cut l u)
    · rw [e] at p3; exact p3.elim
  · rw [ib_neg hb] at p; exact p.elim
/-! ### list + list -/
def rCatQ (K : PySem.W.Frag) : R2 := fun x y H Q => ∃ l b xs zs, x = .ref l ∧ y = .ref b ∧ SqL K H l xs ∧ SqL K H b zs ∧ xs.length + zs.length ≤ sizeLine ∧ ∀ p, H p = none → Q (.ref p) (upd H p (.lst (xs ++ zs)))
theorem op_catQ {X : Cx} : OpR X (binaryOp .Add) (rCatQ X.K) := by
  intro pins s σ H x y v u Q I rx ry h
  obtain ⟨l, b, xs, zs, rfl, rfl, hH, hB, hz, q⟩ := h
  cases rx
  cases ry
  obtain ⟨its, r, pl, hl⟩ := I.list hH
  obtain ⟨its2, r2, pl2, hl2⟩ := I.list hB
  obtain ⟨⟨cls, dd, data, sl⟩, ho, hc, n, hd⟩ := id pl.isList
  obtain ⟨⟨cls2, dd2, data2, sl2⟩, ho2, hc2, n2, hd2⟩ := id pl2.isList
  simp only at hc hd hc2 hd2
  subst hc hd hc2 hd2
  have e1 := r.length
  have e2 := r2.length
  refine concat_meets ⟨_, ho, rfl⟩ ⟨_, ho2, rfl⟩ noFill_list_add seq_list_add PySem.F.slot_list_add PySem.F.entry_list_add (PySem.F.args_list_add_2 _ _) (list_addW l b its.toArray its2.toArray n n2 dd dd2 sl sl2 (by rw [List.size_toArray, List.size_toArray]; omega)) ⟨ho, ho2, ?_⟩
  have ea : its.toArray ++ its2.toArray = (its ++ its2).toArray := by simp
  rw [ea]
  exact ⟨.ref _, _, I.lnew (t' := s.toks) (r.append r2) (by rw [List.length_append]; omega), rfl, q _ I.fresh⟩
noncomputable def dCat : D → D → Re (List D)
  | .lst a, .lst b => hf (a.length + b.length ≤ 1000000) (.ok (a ++ b)) .bad
  | _, _ => .bad
theorem rrn_cat : RRn K A W (rCatQ K) dCat := by
  intro X σ ρ G L Q x y a b g hx hy p
  cases hx with
  | @lst l xs ds hs hd =>
    cases hy with
    | @lst m ys es hs2 hd2 =>
      simp only [dCat] at p
      by_cases hz : ds.length + es.length ≤ 1000000
      · rw [hf_pos hz] at p
        refine ⟨l, m, xs, ys, rfl, rfl, Same.seq g.fr.same hs, Same.seq g.fr.same hs2, by rw [hd.length, hd2.length, sizeLine_eq]; omega, fun q n => ?_⟩
        obtain ⟨n1, n2⟩ := free_of n
        exact PO.at_ (a := ds ++ es) p g q _ n1 n2 (hd.append hd2)
      · rw [hf_neg hz] at p; exact p.elim
    | _ => exact p.elim
  | _ => cases hy <;> exact p.elim
end
end Mi

namespace Sx
open PySem PySem.Spec PyProof.Rows L2
class Sy (K : PySem.W.Frag) : Prop where
  says : SaysM fa fn fz K
abbrev PP : Program := PySem.Challenge.pw_seriessquares_k09_series_made
/-- a def of this text keeps its promise -/
abbrev Fn (w : World) (K : PySem.W.Frag) (mg : Str → Option Value) (base : Heap) (k : Nat) (f : Addr) (sp : Sp) : Prop := FnR PP w K mg base (L2.CX PP w) k f sp
theorem g_is_integer {K : PySem.W.Frag} [Sy K] {mg : Str → Option Value} (M : Mg K mg) : mg "is_integer" = some (.ref (He.ga K "is_integer")) := glo_of M ((Sy.says.fact (K := K) 0 (f := .glo "is_integer")))
theorem g_is_sequence {K : PySem.W.Frag} [Sy K] {mg : Str → Option Value} (M : Mg K mg) : mg "is_sequence" = some (.ref (He.ga K "is_sequence")) := glo_of M ((Sy.says.fact (K := K) 1 (f := .glo "is_sequence")))
theorem g_plain_digits {K : PySem.W.Frag} [Sy K] {mg : Str → Option Value} (M : Mg K mg) : mg "plain_digits" = some (.ref (He.ga K "plain_digits")) := glo_of M ((Sy.says.fact (K := K) 2 (f := .glo "plain_digits")))
theorem g_is_prime {K : PySem.W.Frag} [Sy K] {mg : Str → Option Value} (M : Mg K mg) : mg "is_prime" = some (.ref (He.ga K "is_prime")) := glo_of M ((Sy.says.fact (K := K) 3 (f := .glo "is_prime")))
theorem g_inverse {K : PySem.W.Frag} [Sy K] {mg : Str → Option Value} (M : Mg K mg) : mg "inverse" = some (.ref (He.ga K "inverse")) := glo_of M ((Sy.says.fact (K := K) 4 (f := .glo "inverse")))
theorem g_refused_place {K : PySem.W.Frag} [Sy K] {mg : Str → Option Value} (M : Mg K mg) : mg "refused_place" = some (.ref (He.ga K "refused_place")) := glo_of M ((Sy.says.fact (K := K) 5 (f := .glo "refused_place")))
theorem g_product {K : PySem.W.Frag} [Sy K] {mg : Str → Option Value} (M : Mg K mg) : mg "product" = some (.ref (He.ga K "product")) := glo_of M ((Sy.says.fact (K := K) 6 (f := .glo "product")))
theorem g_is_number {K : PySem.W.Frag} [Sy K] {mg : Str → Option Value} (M : Mg K mg) : mg "is_number" = some (.ref (He.ga K "is_number")) := glo_of M ((Sy.says.fact (K := K) 7 (f := .glo "is_number")))
theorem g__law_state {K : PySem.W.Frag} [Sy K] {mg : Str → Option Value} (M : Mg K mg) : mg "_law_state" = some (.ref (He.ga K "_law_state")) := glo_of M ((Sy.says.fact (K := K) 8 (f := .glo "_law_state")))
theorem g__law_draw {K : PySem.W.Frag} [Sy K] {mg : Str → Option Value} (M : Mg K mg) : mg "_law_draw" = some (.ref (He.ga K "_law_draw")) := glo_of M ((Sy.says.fact (K := K) 9 (f := .glo "_law_draw")))
theorem g__law_gcd {K : PySem.W.Frag} [Sy K] {mg : Str → Option Value} (M : Mg K mg) : mg "_law_gcd" = some (.ref (He.ga K "_law_gcd")) := glo_of M ((Sy.says.fact (K := K) 10 (f := .glo "_law_gcd")))
theorem g__law_is_integer {K : PySem.W.Frag} [Sy K] {mg : Str → Option Value} (M : Mg K mg) : mg "_law_is_integer" = some (.ref (He.ga K "_law_is_integer")) := glo_of M ((Sy.says.fact (K := K) 11 (f := .glo "_law_is_integer")))
theorem g__law_inverse {K : PySem.W.Frag} [Sy K] {mg : Str → Option Value} (M : Mg K mg) : mg "_law_inverse" = some (.ref (He.ga K "_law_inverse")) := glo_of M ((Sy.says.fact (K := K) 12 (f := .glo "_law_inverse")))
theorem g__law_pair {K : PySem.W.Frag} [Sy K] {mg : Str → Option Value} (M : Mg K mg) : mg "_law_pair" = some (.ref (He.ga K "_law_pair")) := glo_of M ((Sy.says.fact (K := K) 13 (f := .glo "_law_pair")))
theorem g__law_plus {K : PySem.W.Frag} [Sy K] {mg : Str → Option Value} (M : Mg K mg) : mg "_law_plus" = some (.ref (He.ga K "_law_plus")) := glo_of M ((Sy.says.fact (K := K) 14 (f := .glo "_law_plus")))
theorem g__law_minus {K : PySem.W.Frag} [Sy K] {mg : Str → Option Value} (M : Mg K mg) : mg "_law_minus" = some (.ref (He.ga K "_law_minus")) := glo_of M ((Sy.says.fact (K := K) 15 (f := .glo "_law_minus")))
theorem g__law_times {K : PySem.W.Frag} [Sy K] {mg : Str → Option Value} (M : Mg K mg) : mg "_law_times" = some (.ref (He.ga K "_law_times")) := glo_of M ((Sy.says.fact (K := K) 16 (f := .glo "_law_times")))
theorem g__law_given {K : PySem.W.Frag} [Sy K] {mg : Str → Option Value} (M : Mg K mg) : mg "_law_given" = some (.ref (He.ga K "_law_given")) := glo_of M ((Sy.says.fact (K := K) 17 (f := .glo "_law_given")))
theorem g__law_read {K : PySem.W.Frag} [Sy K] {mg : Str → Option Value} (M : Mg K mg) : mg "_law_read" = some (.ref (He.ga K "_law_read")) := glo_of M ((Sy.says.fact (K := K) 18 (f := .glo "_law_read")))
theorem g__law_row {K : PySem.W.Frag} [Sy K] {mg : Str → Option Value} (M : Mg K mg) : mg "_law_row" = some (.ref (He.ga K "_law_row")) := glo_of M ((Sy.says.fact (K := K) 19 (f := .glo "_law_row")))
theorem g__law_passed {K : PySem.W.Frag} [Sy K] {mg : Str → Option Value} (M : Mg K mg) : mg "_law_passed" = some (.ref (He.ga K "_law_passed")) := glo_of M ((Sy.says.fact (K := K) 20 (f := .glo "_law_passed")))
theorem g__law_is_prime {K : PySem.W.Frag} [Sy K] {mg : Str → Option Value} (M : Mg K mg) : mg "_law_is_prime" = some (.ref (He.ga K "_law_is_prime")) := glo_of M ((Sy.says.fact (K := K) 21 (f := .glo "_law_is_prime")))
theorem g__law_prime {K : PySem.W.Frag} [Sy K] {mg : Str → Option Value} (M : Mg K mg) : mg "_law_prime" = some (.ref (He.ga K "_law_prime")) := glo_of M ((Sy.says.fact (K := K) 22 (f := .glo "_law_prime")))
theorem g__law_number {K : PySem.W.Frag} [Sy K] {mg : Str → Option Value} (M : Mg K mg) : mg "_law_number" = some (.ref (He.ga K "_law_number")) := glo_of M ((Sy.says.fact (K := K) 23 (f := .glo "_law_number")))
theorem g__law_unit {K : PySem.W.Frag} [Sy K] {mg : Str → Option Value} (M : Mg K mg) : mg "_law_unit" = some (.ref (He.ga K "_law_unit")) := glo_of M ((Sy.says.fact (K := K) 24 (f := .glo "_law_unit")))
theorem g__law_expansion {K : PySem.W.Frag} [Sy K] {mg : Str → Option Value} (M : Mg K mg) : mg "_law_expansion" = some (.ref (He.ga K "_law_expansion")) := glo_of M ((Sy.says.fact (K := K) 25 (f := .glo "_law_expansion")))
theorem g__law_small {K : PySem.W.Frag} [Sy K] {mg : Str → Option Value} (M : Mg K mg) : mg "_law_small" = some (.ref (He.ga K "_law_small")) := glo_of M ((Sy.says.fact (K := K) 26 (f := .glo "_law_small")))
theorem g__law_planted {K : PySem.W.Frag} [Sy K] {mg : Str → Option Value} (M : Mg K mg) : mg "_law_planted" = some (.ref (He.ga K "_law_planted")) := glo_of M ((Sy.says.fact (K := K) 27 (f := .glo "_law_planted")))
theorem g__law_coefficients {K : PySem.W.Frag} [Sy K] {mg : Str → Option Value} (M : Mg K mg) : mg "_law_coefficients" = some (.ref (He.ga K "_law_coefficients")) := glo_of M ((Sy.says.fact (K := K) 28 (f := .glo "_law_coefficients")))
theorem g__law_told_series {K : PySem.W.Frag} [Sy K] {mg : Str → Option Value} (M : Mg K mg) : mg "_law_told_series" = some (.ref (He.ga K "_law_told_series")) := glo_of M ((Sy.says.fact (K := K) 29 (f := .glo "_law_told_series")))
theorem g__law_refused {K : PySem.W.Frag} [Sy K] {mg : Str → Option Value} (M : Mg K mg) : mg "_law_refused" = some (.ref (He.ga K "_law_refused")) := glo_of M ((Sy.says.fact (K := K) 30 (f := .glo "_law_refused")))
theorem g__law_further {K : PySem.W.Frag} [Sy K] {mg : Str → Option Value} (M : Mg K mg) : mg "_law_further" = some (.ref (He.ga K "_law_further")) := glo_of M ((Sy.says.fact (K := K) 31 (f := .glo "_law_further")))
theorem g__law_counted {K : PySem.W.Frag} [Sy K] {mg : Str → Option Value} (M : Mg K mg) : mg "_law_counted" = some (.ref (He.ga K "_law_counted")) := glo_of M ((Sy.says.fact (K := K) 32 (f := .glo "_law_counted")))
theorem g__law_refusals {K : PySem.W.Frag} [Sy K] {mg : Str → Option Value} (M : Mg K mg) : mg "_law_refusals" = some (.ref (He.ga K "_law_refusals")) := glo_of M ((Sy.says.fact (K := K) 33 (f := .glo "_law_refusals")))
theorem g__law_more_refusals {K : PySem.W.Frag} [Sy K] {mg : Str → Option Value} (M : Mg K mg) : mg "_law_more_refusals" = some (.ref (He.ga K "_law_more_refusals")) := glo_of M ((Sy.says.fact (K := K) 34 (f := .glo "_law_more_refusals")))
theorem g_law {K : PySem.W.Frag} [Sy K] {mg : Str → Option Value} (M : Mg K mg) : mg "law" = some (.ref (He.ga K "law")) := glo_of M ((Sy.says.fact (K := K) 35 (f := .glo "law")))
theorem g_SeriesError {K : PySem.W.Frag} [Sy K] {mg : Str → Option Value} (M : Mg K mg) : mg "SeriesError" = some (.ref (He.ga K "SeriesError")) := glo_of M ((Sy.says.fact (K := K) 36 (f := .glo "SeriesError")))
theorem g_NoRatio {K : PySem.W.Frag} [Sy K] {mg : Str → Option Value} (M : Mg K mg) : mg "NoRatio" = some (.ref (He.ga K "NoRatio")) := glo_of M ((Sy.says.fact (K := K) 37 (f := .glo "NoRatio")))
theorem g_NoField {K : PySem.W.Frag} [Sy K] {mg : Str → Option Value} (M : Mg K mg) : mg "NoField" = some (.ref (He.ga K "NoField")) := glo_of M ((Sy.says.fact (K := K) 38 (f := .glo "NoField")))
theorem g_NoNumber {K : PySem.W.Frag} [Sy K] {mg : Str → Option Value} (M : Mg K mg) : mg "NoNumber" = some (.ref (He.ga K "NoNumber")) := glo_of M ((Sy.says.fact (K := K) 39 (f := .glo "NoNumber")))
theorem g_OtherField {K : PySem.W.Frag} [Sy K] {mg : Str → Option Value} (M : Mg K mg) : mg "OtherField" = some (.ref (He.ga K "OtherField")) := glo_of M ((Sy.says.fact (K := K) 40 (f := .glo "OtherField")))
theorem g_NoSeries {K : PySem.W.Frag} [Sy K] {mg : Str → Option Value} (M : Mg K mg) : mg "NoSeries" = some (.ref (He.ga K "NoSeries")) := glo_of M ((Sy.says.fact (K := K) 41 (f := .glo "NoSeries")))
theorem g_NoCount {K : PySem.W.Frag} [Sy K] {mg : Str → Option Value} (M : Mg K mg) : mg "NoCount" = some (.ref (He.ga K "NoCount")) := glo_of M ((Sy.says.fact (K := K) 42 (f := .glo "NoCount")))
theorem g_Ratio {K : PySem.W.Frag} [Sy K] {mg : Str → Option Value} (M : Mg K mg) : mg "Ratio" = some (.ref (He.ga K "Ratio")) := glo_of M ((Sy.says.fact (K := K) 43 (f := .glo "Ratio")))
theorem g_Exact {K : PySem.W.Frag} [Sy K] {mg : Str → Option Value} (M : Mg K mg) : mg "Exact" = some (.ref (He.ga K "Exact")) := glo_of M ((Sy.says.fact (K := K) 44 (f := .glo "Exact")))
theorem g_Field {K : PySem.W.Frag} [Sy K] {mg : Str → Option Value} (M : Mg K mg) : mg "Field" = some (.ref (He.ga K "Field")) := glo_of M ((Sy.says.fact (K := K) 45 (f := .glo "Field")))
theorem g_Series {K : PySem.W.Frag} [Sy K] {mg : Str → Option Value} (M : Mg K mg) : mg "Series" = some (.ref (He.ga K "Series")) := glo_of M ((Sy.says.fact (K := K) 46 (f := .glo "Series")))
theorem f_ValueError {K : PySem.W.Frag} [Sy K] {mg : Str → Option Value} (M : Mg K mg) : mg "ValueError" = none := free_of M ((Sy.says.fact (K := K) 47 (f := .free "ValueError")))
theorem f_staticmethod {K : PySem.W.Frag} [Sy K] {mg : Str → Option Value} (M : Mg K mg) : mg "staticmethod" = none := free_of M ((Sy.says.fact (K := K) 48 (f := .free "staticmethod")))
theorem f_isinstance {K : PySem.W.Frag} [Sy K] {mg : Str → Option Value} (M : Mg K mg) : mg "isinstance" = none := free_of M ((Sy.says.fact (K := K) 49 (f := .free "isinstance")))
theorem f_enumerate {K : PySem.W.Frag} [Sy K] {mg : Str → Option Value} (M : Mg K mg) : mg "enumerate" = none := free_of M ((Sy.says.fact (K := K) 50 (f := .free "enumerate")))
theorem f_range {K : PySem.W.Frag} [Sy K] {mg : Str → Option Value} (M : Mg K mg) : mg "range" = none := free_of M ((Sy.says.fact (K := K) 51 (f := .free "range")))
theorem f_abs {K : PySem.W.Frag} [Sy K] {mg : Str → Option Value} (M : Mg K mg) : mg "abs" = none := free_of M ((Sy.says.fact (K := K) 52 (f := .free "abs")))
theorem f_list {K : PySem.W.Frag} [Sy K] {mg : Str → Option Value} (M : Mg K mg) : mg "list" = none := free_of M ((Sy.says.fact (K := K) 53 (f := .free "list")))
theorem f_int {K : PySem.W.Frag} [Sy K] {mg : Str → Option Value} (M : Mg K mg) : mg "int" = none := free_of M ((Sy.says.fact (K := K) 54 (f := .free "int")))
theorem f_tuple {K : PySem.W.Frag} [Sy K] {mg : Str → Option Value} (M : Mg K mg) : mg "tuple" = none := free_of M ((Sy.says.fact (K := K) 55 (f := .free "tuple")))
theorem f_NotImplemented {K : PySem.W.Frag} [Sy K] {mg : Str → Option Value} (M : Mg K mg) : mg "NotImplemented" = none := free_of M ((Sy.says.fact (K := K) 56 (f := .free "NotImplemented")))
theorem f_len {K : PySem.W.Frag} [Sy K] {mg : Str → Option Value} (M : Mg K mg) : mg "len" = none := free_of M ((Sy.says.fact (K := K) 57 (f := .free "len")))
theorem f_min {K : PySem.W.Frag} [Sy K] {mg : Str → Option Value} (M : Mg K mg) : mg "min" = none := free_of M ((Sy.says.fact (K := K) 58 (f := .free "min")))
theorem f_bool {K : PySem.W.Frag} [Sy K] {mg : Str → Option Value} (M : Mg K mg) : mg "bool" = none := free_of M ((Sy.says.fact (K := K) 59 (f := .free "bool")))
theorem f_str {K : PySem.W.Frag} [Sy K] {mg : Str → Option Value} (M : Mg K mg) : mg "str" = none := free_of M ((Sy.says.fact (K := K) 60 (f := .free "str")))
theorem f_max {K : PySem.W.Frag} [Sy K] {mg : Str → Option Value} (M : Mg K mg) : mg "max" = none := free_of M ((Sy.says.fact (K := K) 61 (f := .free "max")))
theorem g_gcd {K : PySem.W.Frag} [Sy K] {mg : Str → Option Value} (M : Mg K mg) : mg "gcd" = some (.builtin "math.gcd") := blt_of M ((Sy.says.fact (K := K) 62 (f := .blt "gcd" "math.gcd")))
theorem g_import_math_gcd {K : PySem.W.Frag} [Sy K] {mg : Str → Option Value} (M : Mg K mg) : mg "gcd" = some (.builtin "math.gcd") := blt_of M ((Sy.says.fact (K := K) 62 (f := .blt "gcd" "math.gcd")))
theorem g_READ_DIGITS {K : PySem.W.Frag} [Sy K] {mg : Str → Option Value} (M : Mg K mg) : ∃ t, mg "READ_DIGITS" = some (.int 60 t) := int_of M ((Sy.says.fact (K := K) 63 (f := .int "READ_DIGITS" 60)))
theorem g_MOST_PRIME {K : PySem.W.Frag} [Sy K] {mg : Str → Option Value} (M : Mg K mg) : ∃ t, mg "MOST_PRIME" = some (.int 9973 t) := int_of M ((Sy.says.fact (K := K) 64 (f := .int "MOST_PRIME" 9973)))
theorem g_MOST_GIVEN {K : PySem.W.Frag} [Sy K] {mg : Str → Option Value} (M : Mg K mg) : ∃ t, mg "MOST_GIVEN" = some (.int 32 t) := int_of M ((Sy.says.fact (K := K) 65 (f := .int "MOST_GIVEN" 32)))
theorem g_MOST_KNOWN {K : PySem.W.Frag} [Sy K] {mg : Str → Option Value} (M : Mg K mg) : ∃ t, mg "MOST_KNOWN" = some (.int 79 t) := int_of M ((Sy.says.fact (K := K) 66 (f := .int "MOST_KNOWN" 79)))
instance i_Ratio {K : PySem.W.Frag} [Sy K] : IsCls K "Ratio" := ⟨cls_of ((Sy.says.fact (K := K) 67 (f := .cls "Ratio"))), (Sy.says.fact (K := K) 68 (f := .tyi "Ratio"))⟩
theorem self_Ratio {K : PySem.W.Frag} [Sy K] : PySem.W.selfFirst K (He.ga K "Ratio") = true := (Sy.says.fact (K := K) 69 (f := .self "Ratio"))
instance i_Ratio_top {K : PySem.W.Frag} [Sy K] : HasFld K "Ratio" "top" := ⟨He.noat_ok ((Sy.says.fact (K := K) 70 (f := .noat "Ratio" "top")))⟩
instance i_Ratio_bottom {K : PySem.W.Frag} [Sy K] : HasFld K "Ratio" "bottom" := ⟨He.noat_ok ((Sy.says.fact (K := K) 71 (f := .noat "Ratio" "bottom")))⟩
theorem mk_Ratio {K : PySem.W.Frag} [Sy K] : Mk K (He.ga K "Ratio") (He.ma K (He.ga K "Ratio") "__init__") := mkr_of ((Sy.says.fact (K := K) 72 (f := .mkr "Ratio")))
instance i_Exact {K : PySem.W.Frag} [Sy K] : IsCls K "Exact" := ⟨cls_of ((Sy.says.fact (K := K) 73 (f := .cls "Exact"))), (Sy.says.fact (K := K) 74 (f := .tyi "Exact"))⟩
theorem self_Exact {K : PySem.W.Frag} [Sy K] : PySem.W.selfFirst K (He.ga K "Exact") = true := (Sy.says.fact (K := K) 75 (f := .self "Exact"))
instance i_Exact_exact {K : PySem.W.Frag} [Sy K] : HasFld K "Exact" "exact" := ⟨He.noat_ok ((Sy.says.fact (K := K) 76 (f := .noat "Exact" "exact")))⟩
theorem mk_Exact {K : PySem.W.Frag} [Sy K] : Mk K (He.ga K "Exact") (He.ma K (He.ga K "Exact") "__init__") := mkr_of ((Sy.says.fact (K := K) 77 (f := .mkr "Exact")))
instance i_Field {K : PySem.W.Frag} [Sy K] : IsCls K "Field" := ⟨cls_of ((Sy.says.fact (K := K) 78 (f := .cls "Field"))), (Sy.says.fact (K := K) 79 (f := .tyi "Field"))⟩
theorem self_Field {K : PySem.W.Frag} [Sy K] : PySem.W.selfFirst K (He.ga K "Field") = true := (Sy.says.fact (K := K) 80 (f := .self "Field"))
instance i_Field_prime {K : PySem.W.Frag} [Sy K] : HasFld K "Field" "prime" := ⟨He.noat_ok ((Sy.says.fact (K := K) 81 (f := .noat "Field" "prime")))⟩
theorem mk_Field {K : PySem.W.Frag} [Sy K] : Mk K (He.ga K "Field") (He.ma K (He.ga K "Field") "__init__") := mkr_of ((Sy.says.fact (K := K) 82 (f := .mkr "Field")))
instance i_Series {K : PySem.W.Frag} [Sy K] : IsCls K "Series" := ⟨cls_of ((Sy.says.fact (K := K) 83 (f := .cls "Series"))), (Sy.says.fact (K := K) 84 (f := .tyi "Series"))⟩
theorem self_Series {K : PySem.W.Frag} [Sy K] : PySem.W.selfFirst K (He.ga K "Series") = true := (Sy.says.fact (K := K) 85 (f := .self "Series"))
instance i_Series_field {K : PySem.W.Frag} [Sy K] : HasFld K "Series" "field" := ⟨He.noat_ok ((Sy.says.fact (K := K) 86 (f := .noat "Series" "field")))⟩
instance i_Series_coefficients {K : PySem.W.Frag} [Sy K] : HasFld K "Series" "coefficients" := ⟨He.noat_ok ((Sy.says.fact (K := K) 87 (f := .noat "Series" "coefficients")))⟩
instance i_Series_known {K : PySem.W.Frag} [Sy K] : HasFld K "Series" "known" := ⟨He.noat_ok ((Sy.says.fact (K := K) 88 (f := .noat "Series" "known")))⟩
theorem mk_Series {K : PySem.W.Frag} [Sy K] : Mk K (He.ga K "Series") (He.ma K (He.ga K "Series") "__init__") := mkr_of ((Sy.says.fact (K := K) 89 (f := .mkr "Series")))
theorem m_Ratio___init__ {K : PySem.W.Frag} [Sy K] : Meth K (He.ga K "Ratio") "__init__" (He.ma K (He.ga K "Ratio") "__init__") := meth_of ((Sy.says.fact (K := K) 90 (f := .meth "Ratio" "__init__")))
theorem m_Ratio___eq__ {K : PySem.W.Frag} [Sy K] : Meth K (He.ga K "Ratio") "__eq__" (He.ma K (He.ga K "Ratio") "__eq__") := meth_of ((Sy.says.fact (K := K) 91 (f := .meth "Ratio" "__eq__")))
theorem m_Ratio___add__ {K : PySem.W.Frag} [Sy K] : Meth K (He.ga K "Ratio") "__add__" (He.ma K (He.ga K "Ratio") "__add__") := meth_of ((Sy.says.fact (K := K) 92 (f := .meth "Ratio" "__add__")))
theorem m_Ratio___radd__ {K : PySem.W.Frag} [Sy K] : Meth K (He.ga K "Ratio") "__radd__" (He.ma K (He.ga K "Ratio") "__radd__") := meth_of ((Sy.says.fact (K := K) 93 (f := .meth "Ratio" "__radd__")))
theorem m_Ratio___sub__ {K : PySem.W.Frag} [Sy K] : Meth K (He.ga K "Ratio") "__sub__" (He.ma K (He.ga K "Ratio") "__sub__") := meth_of ((Sy.says.fact (K := K) 94 (f := .meth "Ratio" "__sub__")))
theorem m_Ratio___rsub__ {K : PySem.W.Frag} [Sy K] : Meth K (He.ga K "Ratio") "__rsub__" (He.ma K (He.ga K "Ratio") "__rsub__") := meth_of ((Sy.says.fact (K := K) 95 (f := .meth "Ratio" "__rsub__")))
theorem m_Ratio___mul__ {K : PySem.W.Frag} [Sy K] : Meth K (He.ga K "Ratio") "__mul__" (He.ma K (He.ga K "Ratio") "__mul__") := meth_of ((Sy.says.fact (K := K) 96 (f := .meth "Ratio" "__mul__")))
theorem m_Ratio___rmul__ {K : PySem.W.Frag} [Sy K] : Meth K (He.ga K "Ratio") "__rmul__" (He.ma K (He.ga K "Ratio") "__rmul__") := meth_of ((Sy.says.fact (K := K) 97 (f := .meth "Ratio" "__rmul__")))
theorem m_Ratio___neg__ {K : PySem.W.Frag} [Sy K] : Meth K (He.ga K "Ratio") "__neg__" (He.ma K (He.ga K "Ratio") "__neg__") := meth_of ((Sy.says.fact (K := K) 98 (f := .meth "Ratio" "__neg__")))
theorem m_Ratio_text {K : PySem.W.Frag} [Sy K] : Meth K (He.ga K "Ratio") "text" (He.ma K (He.ga K "Ratio") "text") := meth_of ((Sy.says.fact (K := K) 99 (f := .meth "Ratio" "text")))
theorem m_Exact___init__ {K : PySem.W.Frag} [Sy K] : Meth K (He.ga K "Exact") "__init__" (He.ma K (He.ga K "Exact") "__init__") := meth_of ((Sy.says.fact (K := K) 100 (f := .meth "Exact" "__init__")))
theorem m_Field___init__ {K : PySem.W.Frag} [Sy K] : Meth K (He.ga K "Field") "__init__" (He.ma K (He.ga K "Field") "__init__") := meth_of ((Sy.says.fact (K := K) 101 (f := .meth "Field" "__init__")))
theorem m_Field___eq__ {K : PySem.W.Frag} [Sy K] : Meth K (He.ga K "Field") "__eq__" (He.ma K (He.ga K "Field") "__eq__") := meth_of ((Sy.says.fact (K := K) 102 (f := .meth "Field" "__eq__")))
theorem m_Field_number {K : PySem.W.Frag} [Sy K] : Meth K (He.ga K "Field") "number" (He.ma K (He.ga K "Field") "number") := meth_of ((Sy.says.fact (K := K) 103 (f := .meth "Field" "number")))
theorem m_Series___init__ {K : PySem.W.Frag} [Sy K] : Meth K (He.ga K "Series") "__init__" (He.ma K (He.ga K "Series") "__init__") := meth_of ((Sy.says.fact (K := K) 104 (f := .meth "Series" "__init__")))
theorem m_Series___eq__ {K : PySem.W.Frag} [Sy K] : Meth K (He.ga K "Series") "__eq__" (He.ma K (He.ga K "Series") "__eq__") := meth_of ((Sy.says.fact (K := K) 105 (f := .meth "Series" "__eq__")))
theorem m_Series___len__ {K : PySem.W.Frag} [Sy K] : Meth K (He.ga K "Series") "__len__" (He.ma K (He.ga K "Series") "__len__") := meth_of ((Sy.says.fact (K := K) 106 (f := .meth "Series" "__len__")))
theorem m_Series_first {K : PySem.W.Frag} [Sy K] : Meth K (He.ga K "Series") "first" (He.ma K (He.ga K "Series") "first") := meth_of ((Sy.says.fact (K := K) 107 (f := .meth "Series" "first")))
theorem m_Series_then {K : PySem.W.Frag} [Sy K] : Meth K (He.ga K "Series") "then" (He.ma K (He.ga K "Series") "then") := meth_of ((Sy.says.fact (K := K) 108 (f := .meth "Series" "then")))
theorem m_Series_count_with {K : PySem.W.Frag} [Sy K] : Meth K (He.ga K "Series") "count_with" (He.ma K (He.ga K "Series") "count_with") := meth_of ((Sy.says.fact (K := K) 109 (f := .meth "Series" "count_with")))
theorem m_Series___add__ {K : PySem.W.Frag} [Sy K] : Meth K (He.ga K "Series") "__add__" (He.ma K (He.ga K "Series") "__add__") := meth_of ((Sy.says.fact (K := K) 110 (f := .meth "Series" "__add__")))
theorem m_Series___sub__ {K : PySem.W.Frag} [Sy K] : Meth K (He.ga K "Series") "__sub__" (He.ma K (He.ga K "Series") "__sub__") := meth_of ((Sy.says.fact (K := K) 111 (f := .meth "Series" "__sub__")))
theorem m_Series___mul__ {K : PySem.W.Frag} [Sy K] : Meth K (He.ga K "Series") "__mul__" (He.ma K (He.ga K "Series") "__mul__") := meth_of ((Sy.says.fact (K := K) 112 (f := .meth "Series" "__mul__")))
theorem m_Series___rmul__ {K : PySem.W.Frag} [Sy K] : Meth K (He.ga K "Series") "__rmul__" (He.ma K (He.ga K "Series") "__rmul__") := meth_of ((Sy.says.fact (K := K) 113 (f := .meth "Series" "__rmul__")))
theorem m_Series___neg__ {K : PySem.W.Frag} [Sy K] : Meth K (He.ga K "Series") "__neg__" (He.ma K (He.ga K "Series") "__neg__") := meth_of ((Sy.says.fact (K := K) 114 (f := .meth "Series" "__neg__")))
theorem nee_Ratio {K : PySem.W.Frag} [Sy K] : PySem.W.findIn K (.ref (He.ga K "Ratio")) "__ne__" = some (some (.builtin "object.__ne__")) := He.eqO_ok ((Sy.says.fact (K := K) 115 (f := .nee "Ratio")))
theorem nee_Field {K : PySem.W.Frag} [Sy K] : PySem.W.findIn K (.ref (He.ga K "Field")) "__ne__" = some (some (.builtin "object.__ne__")) := He.eqO_ok ((Sy.says.fact (K := K) 116 (f := .nee "Field")))
theorem nee_Series {K : PySem.W.Frag} [Sy K] : PySem.W.findIn K (.ref (He.ga K "Series")) "__ne__" = some (some (.builtin "object.__ne__")) := He.eqO_ok ((Sy.says.fact (K := K) 117 (f := .nee "Series")))
theorem oex_SeriesError {K : PySem.W.Frag} [Sy K] : OexC K (He.ga K "SeriesError") := oex_ok ((Sy.says.fact (K := K) 118 (f := .oex "SeriesError")))
theorem xf_SeriesError {K : PySem.W.Frag} [Sy K] : XfC K (He.ga K "SeriesError") := xfB_ok ((Sy.says.fact (K := K) 119 (f := .xf "SeriesError")))
theorem xis_SeriesError {K : PySem.W.Frag} [Sy K] : (Fx.xis "SeriesError").ok K = true := (Sy.says.fact (K := K) 120 (f := .xis "SeriesError"))
instance {K : PySem.W.Frag} [Sy K] : IsExc K "SeriesError" := ⟨excC_of xf_SeriesError xis_SeriesError⟩
theorem oex_NoRatio {K : PySem.W.Frag} [Sy K] : OexC K (He.ga K "NoRatio") := oex_ok ((Sy.says.fact (K := K) 121 (f := .oex "NoRatio")))
theorem xf_NoRatio {K : PySem.W.Frag} [Sy K] : XfC K (He.ga K "NoRatio") := xfB_ok ((Sy.says.fact (K := K) 122 (f := .xf "NoRatio")))
theorem xis_NoRatio {K : PySem.W.Frag} [Sy K] : (Fx.xis "NoRatio").ok K = true := (Sy.says.fact (K := K) 123 (f := .xis "NoRatio"))
instance {K : PySem.W.Frag} [Sy K] : IsExc K "NoRatio" := ⟨excC_of xf_NoRatio xis_NoRatio⟩
theorem sup_NoRatio {K : PySem.W.Frag} [Sy K] : SupC PySem.Challenge.pw_seriessquares_k09_series_made K (He.ga K "NoRatio") (He.ma K (He.ga K "NoRatio") "__init__") "word" ∧ PySem.W.findIn K (.ref (He.ga K "NoRatio")) "__init__" = some (some (.ref (He.ma K (He.ga K "NoRatio") "__init__"))) ∧ PySem.W.typeIn K (.ref (He.ma K (He.ga K "NoRatio") "__init__")) = some (.type "function") :=
  sup_ok (P := PySem.Challenge.pw_seriessquares_k09_series_made) (x := "NoRatio") (fld := "word") (d := z_NoRatio) ((Sy.says.fact (K := K) 121 (f := .oex "NoRatio"))) ((Sy.says.fact (K := K) 124 (f := .sup "NoRatio" "word"))) (Sy.says.sup_ 0) (by decide +kernel) rfl (by decide +kernel)
    ⟨_, _, _, _, _, _, _, _, _, _, _, _, rfl, rfl, by decide +kernel, by decide +kernel, by decide +kernel, by decide +kernel, by decide +kernel, rfl, rfl, rfl, by decide +kernel, fun _ _ _ _ _ _ _ _ _ => rfl, _, fun _ => rfl⟩
theorem oex_NoField {K : PySem.W.Frag} [Sy K] : OexC K (He.ga K "NoField") := oex_ok ((Sy.says.fact (K := K) 125 (f := .oex "NoField")))
theorem noini_NoField {K : PySem.W.Frag} [Sy K] : (Fx.noi "NoField").ok K = true := (Sy.says.fact (K := K) 126 (f := .noi "NoField"))
theorem xf_NoField {K : PySem.W.Frag} [Sy K] : XfC K (He.ga K "NoField") := xfB_ok ((Sy.says.fact (K := K) 127 (f := .xf "NoField")))
theorem xis_NoField {K : PySem.W.Frag} [Sy K] : (Fx.xis "NoField").ok K = true := (Sy.says.fact (K := K) 128 (f := .xis "NoField"))
instance {K : PySem.W.Frag} [Sy K] : IsExc K "NoField" := ⟨excC_of xf_NoField xis_NoField⟩
theorem oex_NoNumber {K : PySem.W.Frag} [Sy K] : OexC K (He.ga K "NoNumber") := oex_ok ((Sy.says.fact (K := K) 129 (f := .oex "NoNumber")))
theorem noini_NoNumber {K : PySem.W.Frag} [Sy K] : (Fx.noi "NoNumber").ok K = true := (Sy.says.fact (K := K) 130 (f := .noi "NoNumber"))
theorem xf_NoNumber {K : PySem.W.Frag} [Sy K] : XfC K (He.ga K "NoNumber") := xfB_ok ((Sy.says.fact (K := K) 131 (f := .xf "NoNumber")))
theorem xis_NoNumber {K : PySem.W.Frag} [Sy K] : (Fx.xis "NoNumber").ok K = true := (Sy.says.fact (K := K) 132 (f := .xis "NoNumber"))
instance {K : PySem.W.Frag} [Sy K] : IsExc K "NoNumber" := ⟨excC_of xf_NoNumber xis_NoNumber⟩
theorem oex_OtherField {K : PySem.W.Frag} [Sy K] : OexC K (He.ga K "OtherField") := oex_ok ((Sy.says.fact (K := K) 133 (f := .oex "OtherField")))
theorem noini_OtherField {K : PySem.W.Frag} [Sy K] : (Fx.noi "OtherField").ok K = true := (Sy.says.fact (K := K) 134 (f := .noi "OtherField"))
theorem xf_OtherField {K : PySem.W.Frag} [Sy K] : XfC K (He.ga K "OtherField") := xfB_ok ((Sy.says.fact (K := K) 135 (f := .xf "OtherField")))
theorem xis_OtherField {K : PySem.W.Frag} [Sy K] : (Fx.xis "OtherField").ok K = true := (Sy.says.fact (K := K) 136 (f := .xis "OtherField"))
instance {K : PySem.W.Frag} [Sy K] : IsExc K "OtherField" := ⟨excC_of xf_OtherField xis_OtherField⟩
theorem oex_NoSeries {K : PySem.W.Frag} [Sy K] : OexC K (He.ga K "NoSeries") := oex_ok ((Sy.says.fact (K := K) 137 (f := .oex "NoSeries")))
theorem xf_NoSeries {K : PySem.W.Frag} [Sy K] : XfC K (He.ga K "NoSeries") := xfB_ok ((Sy.says.fact (K := K) 138 (f := .xf "NoSeries")))
theorem xis_NoSeries {K : PySem.W.Frag} [Sy K] : (Fx.xis "NoSeries").ok K = true := (Sy.says.fact (K := K) 139 (f := .xis "NoSeries"))
instance {K : PySem.W.Frag} [Sy K] : IsExc K "NoSeries" := ⟨excC_of xf_NoSeries xis_NoSeries⟩
theorem sup_NoSeries {K : PySem.W.Frag} [Sy K] : SupC PySem.Challenge.pw_seriessquares_k09_series_made K (He.ga K "NoSeries") (He.ma K (He.ga K "NoSeries") "__init__") "place" ∧ PySem.W.findIn K (.ref (He.ga K "NoSeries")) "__init__" = some (some (.ref (He.ma K (He.ga K "NoSeries") "__init__"))) ∧ PySem.W.typeIn K (.ref (He.ma K (He.ga K "NoSeries") "__init__")) = some (.type "function") :=
  sup_ok (P := PySem.Challenge.pw_seriessquares_k09_series_made) (x := "NoSeries") (fld := "place") (d := z_NoSeries) ((Sy.says.fact (K := K) 137 (f := .oex "NoSeries"))) ((Sy.says.fact (K := K) 140 (f := .sup "NoSeries" "place"))) (Sy.says.sup_ 1) (by decide +kernel) rfl (by decide +kernel)
    ⟨_, _, _, _, _, _, _, _, _, _, _, _, rfl, rfl, by decide +kernel, by decide +kernel, by decide +kernel, by decide +kernel, by decide +kernel, rfl, rfl, rfl, by decide +kernel, fun _ _ _ _ _ _ _ _ _ => rfl, _, fun _ => rfl⟩
theorem oex_NoCount {K : PySem.W.Frag} [Sy K] : OexC K (He.ga K "NoCount") := oex_ok ((Sy.says.fact (K := K) 141 (f := .oex "NoCount")))
theorem noini_NoCount {K : PySem.W.Frag} [Sy K] : (Fx.noi "NoCount").ok K = true := (Sy.says.fact (K := K) 142 (f := .noi "NoCount"))
theorem xf_NoCount {K : PySem.W.Frag} [Sy K] : XfC K (He.ga K "NoCount") := xfB_ok ((Sy.says.fact (K := K) 143 (f := .xf "NoCount")))
theorem xis_NoCount {K : PySem.W.Frag} [Sy K] : (Fx.xis "NoCount").ok K = true := (Sy.says.fact (K := K) 144 (f := .xis "NoCount"))
instance {K : PySem.W.Frag} [Sy K] : IsExc K "NoCount" := ⟨excC_of xf_NoCount xis_NoCount⟩
instance iRows {K : PySem.W.Frag} [Sy K] : Mi.Rows K := ⟨["Ratio", "Exact", "Field", "Series"], Mi.rows_ok ((Sy.says.fact (K := K) 145 (f := .rows ["Ratio", "Exact", "Field", "Series"]))), ["SeriesError", "NoRatio", "NoField", "NoNumber", "OtherField", "NoSeries", "NoCount"], Mi.rowsX_ok ((Sy.says.fact (K := K) 146 (f := .rowsX ["SeriesError", "NoRatio", "NoField", "NoNumber", "OtherField", "NoSeries", "NoCount"])))⟩
theorem c_Ratio {K : PySem.W.Frag} [Sy K] : ("Ratio" : Str) ∈ Mi.Rows.cls K := .head _
theorem c_Exact {K : PySem.W.Frag} [Sy K] : ("Exact" : Str) ∈ Mi.Rows.cls K := .tail _ (.head _)
theorem c_Field {K : PySem.W.Frag} [Sy K] : ("Field" : Str) ∈ Mi.Rows.cls K := .tail _ (.tail _ (.head _))
theorem c_Series {K : PySem.W.Frag} [Sy K] : ("Series" : Str) ∈ Mi.Rows.cls K := .tail _ (.tail _ (.tail _ (.head _)))
theorem x_SeriesError {K : PySem.W.Frag} [Sy K] : ("SeriesError" : Str) ∈ Mi.Rows.exs K := .head _
theorem x_NoRatio {K : PySem.W.Frag} [Sy K] : ("NoRatio" : Str) ∈ Mi.Rows.exs K := .tail _ (.head _)
theorem x_NoField {K : PySem.W.Frag} [Sy K] : ("NoField" : Str) ∈ Mi.Rows.exs K := .tail _ (.tail _ (.head _))
theorem x_NoNumber {K : PySem.W.Frag} [Sy K] : ("NoNumber" : Str) ∈ Mi.Rows.exs K := .tail _ (.tail _ (.tail _ (.head _)))
theorem x_OtherField {K : PySem.W.Frag} [Sy K] : ("OtherField" : Str) ∈ Mi.Rows.exs K := .tail _ (.tail _ (.tail _ (.tail _ (.head _))))
theorem x_NoSeries {K : PySem.W.Frag} [Sy K] : ("NoSeries" : Str) ∈ Mi.Rows.exs K := .tail _ (.tail _ (.tail _ (.tail _ (.tail _ (.head _)))))
theorem x_NoCount {K : PySem.W.Frag} [Sy K] : ("NoCount" : Str) ∈ Mi.Rows.exs K := .tail _ (.tail _ (.tail _ (.tail _ (.tail _ (.tail _ (.head _))))))
theorem seer_K {K : PySem.W.Frag} [Sy K] : (Fx.seer).ok K = true := (Sy.says.fact (K := K) 147 (f := .seer))
theorem def_is_integer {K : PySem.W.Frag} [Sy K] : ∃ fd, FunD K d_is_integer.name d_is_integer.qual (defArgs s_is_integer) (defBody s_is_integer) (defScope s_is_integer) (d_is_integer.dvs K) [] (He.fAd K d_is_integer.at_) fd := Sy.says.def_ 0
theorem kp_is_integer {K : PySem.W.Frag} [Sy K] : PySem.W.keepIn K (.ref (He.fAd K d_is_integer.at_)) = true := let ⟨_, F⟩ := def_is_integer (K := K); F.kp
theorem def_is_sequence {K : PySem.W.Frag} [Sy K] : ∃ fd, FunD K d_is_sequence.name d_is_sequence.qual (defArgs s_is_sequence) (defBody s_is_sequence) (defScope s_is_sequence) (d_is_sequence.dvs K) [] (He.fAd K d_is_sequence.at_) fd := Sy.says.def_ 1
theorem kp_is_sequence {K : PySem.W.Frag} [Sy K] : PySem.W.keepIn K (.ref (He.fAd K d_is_sequence.at_)) = true := let ⟨_, F⟩ := def_is_sequence (K := K); F.kp
theorem def_plain_digits {K : PySem.W.Frag} [Sy K] : ∃ fd, FunD K d_plain_digits.name d_plain_digits.qual (defArgs s_plain_digits) (defBody s_plain_digits) (defScope s_plain_digits) (d_plain_digits.dvs K) [] (He.fAd K d_plain_digits.at_) fd := Sy.says.def_ 2
theorem kp_plain_digits {K : PySem.W.Frag} [Sy K] : PySem.W.keepIn K (.ref (He.fAd K d_plain_digits.at_)) = true := let ⟨_, F⟩ := def_plain_digits (K := K); F.kp
theorem def_is_prime {K : PySem.W.Frag} [Sy K] : ∃ fd, FunD K d_is_prime.name d_is_prime.qual (defArgs s_is_prime) (defBody s_is_prime) (defScope s_is_prime) (d_is_prime.dvs K) [] (He.fAd K d_is_prime.at_) fd := Sy.says.def_ 3
theorem kp_is_prime {K : PySem.W.Frag} [Sy K] : PySem.W.keepIn K (.ref (He.fAd K d_is_prime.at_)) = true := let ⟨_, F⟩ := def_is_prime (K := K); F.kp
theorem def_inverse {K : PySem.W.Frag} [Sy K] : ∃ fd, FunD K d_inverse.name d_inverse.qual (defArgs s_inverse) (defBody s_inverse) (defScope s_inverse) (d_inverse.dvs K) [] (He.fAd K d_inverse.at_) fd := Sy.says.def_ 4
theorem kp_inverse {K : PySem.W.Frag} [Sy K] : PySem.W.keepIn K (.ref (He.fAd K d_inverse.at_)) = true := let ⟨_, F⟩ := def_inverse (K := K); F.kp
theorem def_refused_place {K : PySem.W.Frag} [Sy K] : ∃ fd, FunD K d_refused_place.name d_refused_place.qual (defArgs s_refused_place) (defBody s_refused_place) (defScope s_refused_place) (d_refused_place.dvs K) [] (He.fAd K d_refused_place.at_) fd := Sy.says.def_ 5
theorem kp_refused_place {K : PySem.W.Frag} [Sy K] : PySem.W.keepIn K (.ref (He.fAd K d_refused_place.at_)) = true := let ⟨_, F⟩ := def_refused_place (K := K); F.kp
theorem def_product {K : PySem.W.Frag} [Sy K] : ∃ fd, FunD K d_product.name d_product.qual (defArgs s_product) (defBody s_product) (defScope s_product) (d_product.dvs K) [] (He.fAd K d_product.at_) fd := Sy.says.def_ 6
theorem kp_product {K : PySem.W.Frag} [Sy K] : PySem.W.keepIn K (.ref (He.fAd K d_product.at_)) = true := let ⟨_, F⟩ := def_product (K := K); F.kp
theorem def_is_number {K : PySem.W.Frag} [Sy K] : ∃ fd, FunD K d_is_number.name d_is_number.qual (defArgs s_is_number) (defBody s_is_number) (defScope s_is_number) (d_is_number.dvs K) [] (He.fAd K d_is_number.at_) fd := Sy.says.def_ 7
theorem kp_is_number {K : PySem.W.Frag} [Sy K] : PySem.W.keepIn K (.ref (He.fAd K d_is_number.at_)) = true := let ⟨_, F⟩ := def_is_number (K := K); F.kp
theorem def__law_state {K : PySem.W.Frag} [Sy K] : ∃ fd, FunD K d__law_state.name d__law_state.qual (defArgs s__law_state) (defBody s__law_state) (defScope s__law_state) (d__law_state.dvs K) [] (He.fAd K d__law_state.at_) fd := Sy.says.def_ 8
theorem kp__law_state {K : PySem.W.Frag} [Sy K] : PySem.W.keepIn K (.ref (He.fAd K d__law_state.at_)) = true := let ⟨_, F⟩ := def__law_state (K := K); F.kp
theorem def__law_draw {K : PySem.W.Frag} [Sy K] : ∃ fd, FunD K d__law_draw.name d__law_draw.qual (defArgs s__law_draw) (defBody s__law_draw) (defScope s__law_draw) (d__law_draw.dvs K) [] (He.fAd K d__law_draw.at_) fd := Sy.says.def_ 9
theorem kp__law_draw {K : PySem.W.Frag} [Sy K] : PySem.W.keepIn K (.ref (He.fAd K d__law_draw.at_)) = true := let ⟨_, F⟩ := def__law_draw (K := K); F.kp
theorem def__law_gcd {K : PySem.W.Frag} [Sy K] : ∃ fd, FunD K d__law_gcd.name d__law_gcd.qual (defArgs s__law_gcd) (defBody s__law_gcd) (defScope s__law_gcd) (d__law_gcd.dvs K) [] (He.fAd K d__law_gcd.at_) fd := Sy.says.def_ 10
theorem kp__law_gcd {K : PySem.W.Frag} [Sy K] : PySem.W.keepIn K (.ref (He.fAd K d__law_gcd.at_)) = true := let ⟨_, F⟩ := def__law_gcd (K := K); F.kp
theorem def__law_is_integer {K : PySem.W.Frag} [Sy K] : ∃ fd, FunD K d__law_is_integer.name d__law_is_integer.qual (defArgs s__law_is_integer) (defBody s__law_is_integer) (defScope s__law_is_integer) (d__law_is_integer.dvs K) [] (He.fAd K d__law_is_integer.at_) fd := Sy.says.def_ 11
theorem kp__law_is_integer {K : PySem.W.Frag} [Sy K] : PySem.W.keepIn K (.ref (He.fAd K d__law_is_integer.at_)) = true := let ⟨_, F⟩ := def__law_is_integer (K := K); F.kp
theorem def__law_inverse {K : PySem.W.Frag} [Sy K] : ∃ fd, FunD K d__law_inverse.name d__law_inverse.qual (defArgs s__law_inverse) (defBody s__law_inverse) (defScope s__law_inverse) (d__law_inverse.dvs K) [] (He.fAd K d__law_inverse.at_) fd := Sy.says.def_ 12
theorem kp__law_inverse {K : PySem.W.Frag} [Sy K] : PySem.W.keepIn K (.ref (He.fAd K d__law_inverse.at_)) = true := let ⟨_, F⟩ := def__law_inverse (K := K); F.kp
theorem def__law_pair {K : PySem.W.Frag} [Sy K] : ∃ fd, FunD K d__law_pair.name d__law_pair.qual (defArgs s__law_pair) (defBody s__law_pair) (defScope s__law_pair) (d__law_pair.dvs K) [] (He.fAd K d__law_pair.at_) fd := Sy.says.def_ 13
theorem kp__law_pair {K : PySem.W.Frag} [Sy K] : PySem.W.keepIn K (.ref (He.fAd K d__law_pair.at_)) = true := let ⟨_, F⟩ := def__law_pair (K := K); F.kp
theorem def__law_plus {K : PySem.W.Frag} [Sy K] : ∃ fd, FunD K d__law_plus.name d__law_plus.qual (defArgs s__law_plus) (defBody s__law_plus) (defScope s__law_plus) (d__law_plus.dvs K) [] (He.fAd K d__law_plus.at_) fd := Sy.says.def_ 14
theorem kp__law_plus {K : PySem.W.Frag} [Sy K] : PySem.W.keepIn K (.ref (He.fAd K d__law_plus.at_)) = true := let ⟨_, F⟩ := def__law_plus (K := K); F.kp
theorem def__law_minus {K : PySem.W.Frag} [Sy K] : ∃ fd, FunD K d__law_minus.name d__law_minus.qual (defArgs s__law_minus) (defBody s__law_minus) (defScope s__law_minus) (d__law_minus.dvs K) [] (He.fAd K d__law_minus.at_) fd := Sy.says.def_ 15
theorem kp__law_minus {K : PySem.W.Frag} [Sy K] : PySem.W.keepIn K (.ref (He.fAd K d__law_minus.at_)) = true := let ⟨_, F⟩ := def__law_minus (K := K); F.kp
theorem def__law_times {K : PySem.W.Frag} [Sy K] : ∃ fd, FunD K d__law_times.name d__law_times.qual (defArgs s__law_times) (defBody s__law_times) (defScope s__law_times) (d__law_times.dvs K) [] (He.fAd K d__law_times.at_) fd := Sy.says.def_ 16
theorem kp__law_times {K : PySem.W.Frag} [Sy K] : PySem.W.keepIn K (.ref (He.fAd K d__law_times.at_)) = true := let ⟨_, F⟩ := def__law_times (K := K); F.kp
theorem def__law_given {K : PySem.W.Frag} [Sy K] : ∃ fd, FunD K d__law_given.name d__law_given.qual (defArgs s__law_given) (defBody s__law_given) (defScope s__law_given) (d__law_given.dvs K) [] (He.fAd K d__law_given.at_) fd := Sy.says.def_ 17
theorem kp__law_given {K : PySem.W.Frag} [Sy K] : PySem.W.keepIn K (.ref (He.fAd K d__law_given.at_)) = true := let ⟨_, F⟩ := def__law_given (K := K); F.kp
theorem def__law_read {K : PySem.W.Frag} [Sy K] : ∃ fd, FunD K d__law_read.name d__law_read.qual (defArgs s__law_read) (defBody s__law_read) (defScope s__law_read) (d__law_read.dvs K) [] (He.fAd K d__law_read.at_) fd := Sy.says.def_ 18
theorem kp__law_read {K : PySem.W.Frag} [Sy K] : PySem.W.keepIn K (.ref (He.fAd K d__law_read.at_)) = true := let ⟨_, F⟩ := def__law_read (K := K); F.kp
theorem def__law_row {K : PySem.W.Frag} [Sy K] : ∃ fd, FunD K d__law_row.name d__law_row.qual (defArgs s__law_row) (defBody s__law_row) (defScope s__law_row) (d__law_row.dvs K) [] (He.fAd K d__law_row.at_) fd := Sy.says.def_ 19
theorem kp__law_row {K : PySem.W.Frag} [Sy K] : PySem.W.keepIn K (.ref (He.fAd K d__law_row.at_)) = true := let ⟨_, F⟩ := def__law_row (K := K); F.kp
theorem def__law_passed {K : PySem.W.Frag} [Sy K] : ∃ fd, FunD K d__law_passed.name d__law_passed.qual (defArgs s__law_passed) (defBody s__law_passed) (defScope s__law_passed) (d__law_passed.dvs K) [] (He.fAd K d__law_passed.at_) fd := Sy.says.def_ 20
theorem kp__law_passed {K : PySem.W.Frag} [Sy K] : PySem.W.keepIn K (.ref (He.fAd K d__law_passed.at_)) = true := let ⟨_, F⟩ := def__law_passed (K := K); F.kp
theorem def__law_is_prime {K : PySem.W.Frag} [Sy K] : ∃ fd, FunD K d__law_is_prime.name d__law_is_prime.qual (defArgs s__law_is_prime) (defBody s__law_is_prime) (defScope s__law_is_prime) (d__law_is_prime.dvs K) [] (He.fAd K d__law_is_prime.at_) fd := Sy.says.def_ 21
theorem kp__law_is_prime {K : PySem.W.Frag} [Sy K] : PySem.W.keepIn K (.ref (He.fAd K d__law_is_prime.at_)) = true := let ⟨_, F⟩ := def__law_is_prime (K := K); F.kp
theorem def__law_prime {K : PySem.W.Frag} [Sy K] : ∃ fd, FunD K d__law_prime.name d__law_prime.qual (defArgs s__law_prime) (defBody s__law_prime) (defScope s__law_prime) (d__law_prime.dvs K) [] (He.fAd K d__law_prime.at_) fd := Sy.says.def_ 22
theorem kp__law_prime {K : PySem.W.Frag} [Sy K] : PySem.W.keepIn K (.ref (He.fAd K d__law_prime.at_)) = true := let ⟨_, F⟩ := def__law_prime (K := K); F.kp
theorem def__law_number {K : PySem.W.Frag} [Sy K] : ∃ fd, FunD K d__law_number.name d__law_number.qual (defArgs s__law_number) (defBody s__law_number) (defScope s__law_number) (d__law_number.dvs K) [] (He.fAd K d__law_number.at_) fd := Sy.says.def_ 23
theorem kp__law_number {K : PySem.W.Frag} [Sy K] : PySem.W.keepIn K (.ref (He.fAd K d__law_number.at_)) = true := let ⟨_, F⟩ := def__law_number (K := K); F.kp
theorem def__law_unit {K : PySem.W.Frag} [Sy K] : ∃ fd, FunD K d__law_unit.name d__law_unit.qual (defArgs s__law_unit) (defBody s__law_unit) (defScope s__law_unit) (d__law_unit.dvs K) [] (He.fAd K d__law_unit.at_) fd := Sy.says.def_ 24
theorem kp__law_unit {K : PySem.W.Frag} [Sy K] : PySem.W.keepIn K (.ref (He.fAd K d__law_unit.at_)) = true := let ⟨_, F⟩ := def__law_unit (K := K); F.kp
theorem def__law_expansion {K : PySem.W.Frag} [Sy K] : ∃ fd, FunD K d__law_expansion.name d__law_expansion.qual (defArgs s__law_expansion) (defBody s__law_expansion) (defScope s__law_expansion) (d__law_expansion.dvs K) [] (He.fAd K d__law_expansion.at_) fd := Sy.says.def_ 25
theorem kp__law_expansion {K : PySem.W.Frag} [Sy K] : PySem.W.keepIn K (.ref (He.fAd K d__law_expansion.at_)) = true := let ⟨_, F⟩ := def__law_expansion (K := K); F.kp
theorem def__law_small {K : PySem.W.Frag} [Sy K] : ∃ fd, FunD K d__law_small.name d__law_small.qual (defArgs s__law_small) (defBody s__law_small) (defScope s__law_small) (d__law_small.dvs K) [] (He.fAd K d__law_small.at_) fd := Sy.says.def_ 26
theorem kp__law_small {K : PySem.W.Frag} [Sy K] : PySem.W.keepIn K (.ref (He.fAd K d__law_small.at_)) = true := let ⟨_, F⟩ := def__law_small (K := K); F.kp
theorem def__law_planted {K : PySem.W.Frag} [Sy K] : ∃ fd, FunD K d__law_planted.name d__law_planted.qual (defArgs s__law_planted) (defBody s__law_planted) (defScope s__law_planted) (d__law_planted.dvs K) [] (He.fAd K d__law_planted.at_) fd := Sy.says.def_ 27
theorem kp__law_planted {K : PySem.W.Frag} [Sy K] : PySem.W.keepIn K (.ref (He.fAd K d__law_planted.at_)) = true := let ⟨_, F⟩ := def__law_planted (K := K); F.kp
theorem def__law_coefficients {K : PySem.W.Frag} [Sy K] : ∃ fd, FunD K d__law_coefficients.name d__law_coefficients.qual (defArgs s__law_coefficients) (defBody s__law_coefficients) (defScope s__law_coefficients) (d__law_coefficients.dvs K) [] (He.fAd K d__law_coefficients.at_) fd := Sy.says.def_ 28
theorem kp__law_coefficients {K : PySem.W.Frag} [Sy K] : PySem.W.keepIn K (.ref (He.fAd K d__law_coefficients.at_)) = true := let ⟨_, F⟩ := def__law_coefficients (K := K); F.kp
theorem def__law_told_series {K : PySem.W.Frag} [Sy K] : ∃ fd, FunD K d__law_told_series.name d__law_told_series.qual (defArgs s__law_told_series) (defBody s__law_told_series) (defScope s__law_told_series) (d__law_told_series.dvs K) [] (He.fAd K d__law_told_series.at_) fd := Sy.says.def_ 29
theorem kp__law_told_series {K : PySem.W.Frag} [Sy K] : PySem.W.keepIn K (.ref (He.fAd K d__law_told_series.at_)) = true := let ⟨_, F⟩ := def__law_told_series (K := K); F.kp
theorem def__law_refused {K : PySem.W.Frag} [Sy K] : ∃ fd, FunD K d__law_refused.name d__law_refused.qual (defArgs s__law_refused) (defBody s__law_refused) (defScope s__law_refused) (d__law_refused.dvs K) [] (He.fAd K d__law_refused.at_) fd := Sy.says.def_ 30
theorem kp__law_refused {K : PySem.W.Frag} [Sy K] : PySem.W.keepIn K (.ref (He.fAd K d__law_refused.at_)) = true := let ⟨_, F⟩ := def__law_refused (K := K); F.kp
theorem def__law_further {K : PySem.W.Frag} [Sy K] : ∃ fd, FunD K d__law_further.name d__law_further.qual (defArgs s__law_further) (defBody s__law_further) (defScope s__law_further) (d__law_further.dvs K) [] (He.fAd K d__law_further.at_) fd := Sy.says.def_ 31
theorem kp__law_further {K : PySem.W.Frag} [Sy K] : PySem.W.keepIn K (.ref (He.fAd K d__law_further.at_)) = true := let ⟨_, F⟩ := def__law_further (K := K); F.kp
theorem def__law_counted {K : PySem.W.Frag} [Sy K] : ∃ fd, FunD K d__law_counted.name d__law_counted.qual (defArgs s__law_counted) (defBody s__law_counted) (defScope s__law_counted) (d__law_counted.dvs K) [] (He.fAd K d__law_counted.at_) fd := Sy.says.def_ 32
theorem kp__law_counted {K : PySem.W.Frag} [Sy K] : PySem.W.keepIn K (.ref (He.fAd K d__law_counted.at_)) = true := let ⟨_, F⟩ := def__law_counted (K := K); F.kp
theorem def__law_refusals {K : PySem.W.Frag} [Sy K] : ∃ fd, FunD K d__law_refusals.name d__law_refusals.qual (defArgs s__law_refusals) (defBody s__law_refusals) (defScope s__law_refusals) (d__law_refusals.dvs K) [] (He.fAd K d__law_refusals.at_) fd := Sy.says.def_ 33
theorem kp__law_refusals {K : PySem.W.Frag} [Sy K] : PySem.W.keepIn K (.ref (He.fAd K d__law_refusals.at_)) = true := let ⟨_, F⟩ := def__law_refusals (K := K); F.kp
theorem def__law_more_refusals {K : PySem.W.Frag} [Sy K] : ∃ fd, FunD K d__law_more_refusals.name d__law_more_refusals.qual (defArgs s__law_more_refusals) (defBody s__law_more_refusals) (defScope s__law_more_refusals) (d__law_more_refusals.dvs K) [] (He.fAd K d__law_more_refusals.at_) fd := Sy.says.def_ 34
theorem kp__law_more_refusals {K : PySem.W.Frag} [Sy K] : PySem.W.keepIn K (.ref (He.fAd K d__law_more_refusals.at_)) = true := let ⟨_, F⟩ := def__law_more_refusals (K := K); F.kp
theorem def_law {K : PySem.W.Frag} [Sy K] : ∃ fd, FunD K d_law.name d_law.qual (defArgs s_law) (defBody s_law) (defScope s_law) (d_law.dvs K) [] (He.fAd K d_law.at_) fd := Sy.says.def_ 35
theorem kp_law {K : PySem.W.Frag} [Sy K] : PySem.W.keepIn K (.ref (He.fAd K d_law.at_)) = true := let ⟨_, F⟩ := def_law (K := K); F.kp
theorem def_Ratio___init__ {K : PySem.W.Frag} [Sy K] : ∃ fd, FunD K d_Ratio___init__.name d_Ratio___init__.qual (defArgs s_Ratio___init__) (defBody s_Ratio___init__) (defScope s_Ratio___init__) (d_Ratio___init__.dvs K) [] (He.fAd K d_Ratio___init__.at_) fd := Sy.says.def_ 36
theorem kp_Ratio___init__ {K : PySem.W.Frag} [Sy K] : PySem.W.keepIn K (.ref (He.fAd K d_Ratio___init__.at_)) = true := let ⟨_, F⟩ := def_Ratio___init__ (K := K); F.kp
theorem def_Ratio___eq__ {K : PySem.W.Frag} [Sy K] : ∃ fd, FunD K d_Ratio___eq__.name d_Ratio___eq__.qual (defArgs s_Ratio___eq__) (defBody s_Ratio___eq__) (defScope s_Ratio___eq__) (d_Ratio___eq__.dvs K) [] (He.fAd K d_Ratio___eq__.at_) fd := Sy.says.def_ 37
theorem kp_Ratio___eq__ {K : PySem.W.Frag} [Sy K] : PySem.W.keepIn K (.ref (He.fAd K d_Ratio___eq__.at_)) = true := let ⟨_, F⟩ := def_Ratio___eq__ (K := K); F.kp
theorem def_Ratio___add__ {K : PySem.W.Frag} [Sy K] : ∃ fd, FunD K d_Ratio___add__.name d_Ratio___add__.qual (defArgs s_Ratio___add__) (defBody s_Ratio___add__) (defScope s_Ratio___add__) (d_Ratio___add__.dvs K) [] (He.fAd K d_Ratio___add__.at_) fd := Sy.says.def_ 38
theorem kp_Ratio___add__ {K : PySem.W.Frag} [Sy K] : PySem.W.keepIn K (.ref (He.fAd K d_Ratio___add__.at_)) = true := let ⟨_, F⟩ := def_Ratio___add__ (K := K); F.kp
theorem def_Ratio___radd__ {K : PySem.W.Frag} [Sy K] : ∃ fd, FunD K d_Ratio___radd__.name d_Ratio___radd__.qual (defArgs s_Ratio___radd__) (defBody s_Ratio___radd__) (defScope s_Ratio___radd__) (d_Ratio___radd__.dvs K) [] (He.fAd K d_Ratio___radd__.at_) fd := Sy.says.def_ 39
theorem kp_Ratio___radd__ {K : PySem.W.Frag} [Sy K] : PySem.W.keepIn K (.ref (He.fAd K d_Ratio___radd__.at_)) = true := let ⟨_, F⟩ := def_Ratio___radd__ (K := K); F.kp
theorem def_Ratio___sub__ {K : PySem.W.Frag} [Sy K] : ∃ fd, FunD K d_Ratio___sub__.name d_Ratio___sub__.qual (defArgs s_Ratio___sub__) (defBody s_Ratio___sub__) (defScope s_Ratio___sub__) (d_Ratio___sub__.dvs K) [] (He.fAd K d_Ratio___sub__.at_) fd := Sy.says.def_ 40
theorem kp_Ratio___sub__ {K : PySem.W.Frag} [Sy K] : PySem.W.keepIn K (.ref (He.fAd K d_Ratio___sub__.at_)) = true := let ⟨_, F⟩ := def_Ratio___sub__ (K := K); F.kp
theorem def_Ratio___rsub__ {K : PySem.W.Frag} [Sy K] : ∃ fd, FunD K d_Ratio___rsub__.name d_Ratio___rsub__.qual (defArgs s_Ratio___rsub__) (defBody s_Ratio___rsub__) (defScope s_Ratio___rsub__) (d_Ratio___rsub__.dvs K) [] (He.fAd K d_Ratio___rsub__.at_) fd := Sy.says.def_ 41
theorem kp_Ratio___rsub__ {K : PySem.W.Frag} [Sy K] : PySem.W.keepIn K (.ref (He.fAd K d_Ratio___rsub__.at_)) = true := let ⟨_, F⟩ := def_Ratio___rsub__ (K := K); F.kp
theorem def_Ratio___mul__ {K : PySem.W.Frag} [Sy K] : ∃ fd, FunD K d_Ratio___mul__.name d_Ratio___mul__.qual (defArgs s_Ratio___mul__) (defBody s_Ratio___mul__) (defScope s_Ratio___mul__) (d_Ratio___mul__.dvs K) [] (He.fAd K d_Ratio___mul__.at_) fd := Sy.says.def_ 42
theorem kp_Ratio___mul__ {K : PySem.W.Frag} [Sy K] : PySem.W.keepIn K (.ref (He.fAd K d_Ratio___mul__.at_)) = true := let ⟨_, F⟩ := def_Ratio___mul__ (K := K); F.kp
theorem def_Ratio___rmul__ {K : PySem.W.Frag} [Sy K] : ∃ fd, FunD K d_Ratio___rmul__.name d_Ratio___rmul__.qual (defArgs s_Ratio___rmul__) (defBody s_Ratio___rmul__) (defScope s_Ratio___rmul__) (d_Ratio___rmul__.dvs K) [] (He.fAd K d_Ratio___rmul__.at_) fd := Sy.says.def_ 43
theorem kp_Ratio___rmul__ {K : PySem.W.Frag} [Sy K] : PySem.W.keepIn K (.ref (He.fAd K d_Ratio___rmul__.at_)) = true := let ⟨_, F⟩ := def_Ratio___rmul__ (K := K); F.kp
theorem def_Ratio___neg__ {K : PySem.W.Frag} [Sy K] : ∃ fd, FunD K d_Ratio___neg__.name d_Ratio___neg__.qual (defArgs s_Ratio___neg__) (defBody s_Ratio___neg__) (defScope s_Ratio___neg__) (d_Ratio___neg__.dvs K) [] (He.fAd K d_Ratio___neg__.at_) fd := Sy.says.def_ 44
theorem kp_Ratio___neg__ {K : PySem.W.Frag} [Sy K] : PySem.W.keepIn K (.ref (He.fAd K d_Ratio___neg__.at_)) = true := let ⟨_, F⟩ := def_Ratio___neg__ (K := K); F.kp
theorem def_Ratio_text {K : PySem.W.Frag} [Sy K] : ∃ fd, FunD K d_Ratio_text.name d_Ratio_text.qual (defArgs s_Ratio_text) (defBody s_Ratio_text) (defScope s_Ratio_text) (d_Ratio_text.dvs K) [] (He.fAd K d_Ratio_text.at_) fd := Sy.says.def_ 45
theorem kp_Ratio_text {K : PySem.W.Frag} [Sy K] : PySem.W.keepIn K (.ref (He.fAd K d_Ratio_text.at_)) = true := let ⟨_, F⟩ := def_Ratio_text (K := K); F.kp
theorem def_Exact___init__ {K : PySem.W.Frag} [Sy K] : ∃ fd, FunD K d_Exact___init__.name d_Exact___init__.qual (defArgs s_Exact___init__) (defBody s_Exact___init__) (defScope s_Exact___init__) (d_Exact___init__.dvs K) [] (He.fAd K d_Exact___init__.at_) fd := Sy.says.def_ 46
theorem kp_Exact___init__ {K : PySem.W.Frag} [Sy K] : PySem.W.keepIn K (.ref (He.fAd K d_Exact___init__.at_)) = true := let ⟨_, F⟩ := def_Exact___init__ (K := K); F.kp
theorem def_Field___init__ {K : PySem.W.Frag} [Sy K] : ∃ fd, FunD K d_Field___init__.name d_Field___init__.qual (defArgs s_Field___init__) (defBody s_Field___init__) (defScope s_Field___init__) (d_Field___init__.dvs K) [] (He.fAd K d_Field___init__.at_) fd := Sy.says.def_ 47
theorem kp_Field___init__ {K : PySem.W.Frag} [Sy K] : PySem.W.keepIn K (.ref (He.fAd K d_Field___init__.at_)) = true := let ⟨_, F⟩ := def_Field___init__ (K := K); F.kp
theorem def_Field___eq__ {K : PySem.W.Frag} [Sy K] : ∃ fd, FunD K d_Field___eq__.name d_Field___eq__.qual (defArgs s_Field___eq__) (defBody s_Field___eq__) (defScope s_Field___eq__) (d_Field___eq__.dvs K) [] (He.fAd K d_Field___eq__.at_) fd := Sy.says.def_ 48
theorem kp_Field___eq__ {K : PySem.W.Frag} [Sy K] : PySem.W.keepIn K (.ref (He.fAd K d_Field___eq__.at_)) = true := let ⟨_, F⟩ := def_Field___eq__ (K := K); F.kp
theorem def_Field_number {K : PySem.W.Frag} [Sy K] : ∃ fd, FunD K d_Field_number.name d_Field_number.qual (defArgs s_Field_number) (defBody s_Field_number) (defScope s_Field_number) (d_Field_number.dvs K) [] (He.fAd K d_Field_number.at_) fd := Sy.says.def_ 49
theorem kp_Field_number {K : PySem.W.Frag} [Sy K] : PySem.W.keepIn K (.ref (He.fAd K d_Field_number.at_)) = true := let ⟨_, F⟩ := def_Field_number (K := K); F.kp
theorem def_Series___init__ {K : PySem.W.Frag} [Sy K] : ∃ fd, FunD K d_Series___init__.name d_Series___init__.qual (defArgs s_Series___init__) (defBody s_Series___init__) (defScope s_Series___init__) (d_Series___init__.dvs K) [] (He.fAd K d_Series___init__.at_) fd := Sy.says.def_ 50
theorem kp_Series___init__ {K : PySem.W.Frag} [Sy K] : PySem.W.keepIn K (.ref (He.fAd K d_Series___init__.at_)) = true := let ⟨_, F⟩ := def_Series___init__ (K := K); F.kp
theorem def_Series___eq__ {K : PySem.W.Frag} [Sy K] : ∃ fd, FunD K d_Series___eq__.name d_Series___eq__.qual (defArgs s_Series___eq__) (defBody s_Series___eq__) (defScope s_Series___eq__) (d_Series___eq__.dvs K) [] (He.fAd K d_Series___eq__.at_) fd := Sy.says.def_ 51
theorem kp_Series___eq__ {K : PySem.W.Frag} [Sy K] : PySem.W.keepIn K (.ref (He.fAd K d_Series___eq__.at_)) = true := let ⟨_, F⟩ := def_Series___eq__ (K := K); F.kp
theorem def_Series___len__ {K : PySem.W.Frag} [Sy K] : ∃ fd, FunD K d_Series___len__.name d_Series___len__.qual (defArgs s_Series___len__) (defBody s_Series___len__) (defScope s_Series___len__) (d_Series___len__.dvs K) [] (He.fAd K d_Series___len__.at_) fd := Sy.says.def_ 52
theorem kp_Series___len__ {K : PySem.W.Frag} [Sy K] : PySem.W.keepIn K (.ref (He.fAd K d_Series___len__.at_)) = true := let ⟨_, F⟩ := def_Series___len__ (K := K); F.kp
theorem def_Series_first {K : PySem.W.Frag} [Sy K] : ∃ fd, FunD K d_Series_first.name d_Series_first.qual (defArgs s_Series_first) (defBody s_Series_first) (defScope s_Series_first) (d_Series_first.dvs K) [] (He.fAd K d_Series_first.at_) fd := Sy.says.def_ 53
theorem kp_Series_first {K : PySem.W.Frag} [Sy K] : PySem.W.keepIn K (.ref (He.fAd K d_Series_first.at_)) = true := let ⟨_, F⟩ := def_Series_first (K := K); F.kp
theorem def_Series_then {K : PySem.W.Frag} [Sy K] : ∃ fd, FunD K d_Series_then.name d_Series_then.qual (defArgs s_Series_then) (defBody s_Series_then) (defScope s_Series_then) (d_Series_then.dvs K) [] (He.fAd K d_Series_then.at_) fd := Sy.says.def_ 54
theorem kp_Series_then {K : PySem.W.Frag} [Sy K] : PySem.W.keepIn K (.ref (He.fAd K d_Series_then.at_)) = true := let ⟨_, F⟩ := def_Series_then (K := K); F.kp
theorem def_Series_count_with {K : PySem.W.Frag} [Sy K] : ∃ fd, FunD K d_Series_count_with.name d_Series_count_with.qual (defArgs s_Series_count_with) (defBody s_Series_count_with) (defScope s_Series_count_with) (d_Series_count_with.dvs K) [] (He.fAd K d_Series_count_with.at_) fd := Sy.says.def_ 55
theorem kp_Series_count_with {K : PySem.W.Frag} [Sy K] : PySem.W.keepIn K (.ref (He.fAd K d_Series_count_with.at_)) = true := let ⟨_, F⟩ := def_Series_count_with (K := K); F.kp
theorem def_Series___add__ {K : PySem.W.Frag} [Sy K] : ∃ fd, FunD K d_Series___add__.name d_Series___add__.qual (defArgs s_Series___add__) (defBody s_Series___add__) (defScope s_Series___add__) (d_Series___add__.dvs K) [] (He.fAd K d_Series___add__.at_) fd := Sy.says.def_ 56
theorem kp_Series___add__ {K : PySem.W.Frag} [Sy K] : PySem.W.keepIn K (.ref (He.fAd K d_Series___add__.at_)) = true := let ⟨_, F⟩ := def_Series___add__ (K := K); F.kp
theorem def_Series___sub__ {K : PySem.W.Frag} [Sy K] : ∃ fd, FunD K d_Series___sub__.name d_Series___sub__.qual (defArgs s_Series___sub__) (defBody s_Series___sub__) (defScope s_Series___sub__) (d_Series___sub__.dvs K) [] (He.fAd K d_Series___sub__.at_) fd := Sy.says.def_ 57
theorem kp_Series___sub__ {K : PySem.W.Frag} [Sy K] : PySem.W.keepIn K (.ref (He.fAd K d_Series___sub__.at_)) = true := let ⟨_, F⟩ := def_Series___sub__ (K := K); F.kp
theorem def_Series___mul__ {K : PySem.W.Frag} [Sy K] : ∃ fd, FunD K d_Series___mul__.name d_Series___mul__.qual (defArgs s_Series___mul__) (defBody s_Series___mul__) (defScope s_Series___mul__) (d_Series___mul__.dvs K) [] (He.fAd K d_Series___mul__.at_) fd := Sy.says.def_ 58
theorem kp_Series___mul__ {K : PySem.W.Frag} [Sy K] : PySem.W.keepIn K (.ref (He.fAd K d_Series___mul__.at_)) = true := let ⟨_, F⟩ := def_Series___mul__ (K := K); F.kp
theorem def_Series___rmul__ {K : PySem.W.Frag} [Sy K] : ∃ fd, FunD K d_Series___rmul__.name d_Series___rmul__.qual (defArgs s_Series___rmul__) (defBody s_Series___rmul__) (defScope s_Series___rmul__) (d_Series___rmul__.dvs K) [] (He.fAd K d_Series___rmul__.at_) fd := Sy.says.def_ 59
theorem kp_Series___rmul__ {K : PySem.W.Frag} [Sy K] : PySem.W.keepIn K (.ref (He.fAd K d_Series___rmul__.at_)) = true := let ⟨_, F⟩ := def_Series___rmul__ (K := K); F.kp
theorem def_Series___neg__ {K : PySem.W.Frag} [Sy K] : ∃ fd, FunD K d_Series___neg__.name d_Series___neg__.qual (defArgs s_Series___neg__) (defBody s_Series___neg__) (defScope s_Series___neg__) (d_Series___neg__.dvs K) [] (He.fAd K d_Series___neg__.at_) fd := Sy.says.def_ 60
theorem kp_Series___neg__ {K : PySem.W.Frag} [Sy K] : PySem.W.keepIn K (.ref (He.fAd K d_Series___neg__.at_)) = true := let ⟨_, F⟩ := def_Series___neg__ (K := K); F.kp
end Sx

namespace Mi
open PySem PySem.Spec PyProof.Rows L2 Sx
noncomputable section
variable {w : World} {K : PySem.W.Frag} [Sy K] {mg : Str → Option Value} {base : Heap}

def T_none : Tab := []
theorem et_none (M : Mg K mg) : EqT PP w K mg base 0 T_none := ⟨fun p h => by cases h⟩
def b_is_integer : M Fl := (mRet (mAndV (mIsi (.b "int") (mVar 0)) (mNotV (mIsi (.b "bool") (mVar 0)))))
theorem sc_is_integer : FnScope ["value"] ["value"] (defScope s_is_integer) := ⟨rfl, rfl, rfl, by decide +kernel, rfl, by decide +kernel, by decide +kernel⟩
def m_is_integer : MFn := runM 1 1 b_is_integer
theorem bd_is_integer (M : Mg K mg) : Body K PP w mg base d_is_integer.qual (defScope s_is_integer) (He.fAd K d_is_integer.at_) ["value"] 3 (defBody s_is_integer) b_is_integer := fun cdv A outer s H E hr => ⟨_, (pss_one (ps_ret (pe_and (pe_callB call_isi (by rfl) (f_isinstance (K := K) M) (by decide +kernel) (pa_cons (pv 0) (pa_cons (pe_bltn (v := .ty "int") (by rfl) (f_int (K := K) M) (by decide +kernel) rfl) pa_nil))) (pe_one (pe_not (pe_callB call_isi (by rfl) (f_isinstance (K := K) M) (by decide +kernel) (pa_cons (pv 0) (pa_cons (pe_bltn (v := .ty "bool") (by rfl) (f_bool (K := K) M) (by decide +kernel) rfl) pa_nil)))))))), fun A => (rs_ret (re_and (re_isiB (by decide) re_var) (re_not (re_isiB (by decide) re_var))))⟩
theorem ok_is_integer (M : Mg K mg) : Fn w K mg base 4 (He.ga K "is_integer") (spM K m_is_integer) := fn_M def_is_integer sc_is_integer (fun _ _ _ _ _ _ us hl => match us, hl with | [_], _ => rfl) (bd_is_integer M)
def b_Ratio___init__ : M Fl := (mSeq (mIfS (mNot (mB (mCall m_is_integer (mCons (mVar 1) mNil)))) (mRaise "NoRatio" "word" (mCons (mC (.str "top")) mNil)) mSkip) (mSeq (mIfS (mNot (mB (mCall m_is_integer (mCons (mVar 2) mNil)))) (mRaise "NoRatio" "word" (mCons (mC (.str "bottom")) mNil)) mSkip) (mSeq (mIfS (mB (mBin dEq (mVar 2) (mC (.int 0)))) (mRaise "NoRatio" "word" (mCons (mC (.str "zero")) mNil)) mSkip) (mSeq (mAsg 3 (mCB dGcd (mCons (mVar 1) (mCons (mVar 2) mNil)))) (mSeq (mIfS (mB (mBin dLt (mVar 2) (mC (.int 0)))) (mAsg 3 (mUn dNeg (mVar 3))) mSkip) (mSeq (mSetF "Ratio" 0 "top" (mBin dDiv (mVar 1) (mVar 3))) (mSetF "Ratio" 0 "bottom" (mBin dDiv (mVar 2) (mVar 3)))))))))
theorem sc_Ratio___init__ : FnScope ["self", "top", "bottom", "shared"] ["self", "top", "bottom"] (defScope s_Ratio___init__) := ⟨rfl, rfl, rfl, by decide +kernel, rfl, by decide +kernel, by decide +kernel⟩
def m_Ratio___init__ : MFi := runI "Ratio" 4 3 b_Ratio___init__
theorem bd_Ratio___init__ (M : Mg K mg) : Body K PP w mg base d_Ratio___init__.qual (defScope s_Ratio___init__) (He.fAd K d_Ratio___init__.at_) ["self", "top", "bottom", "shared"] 32 (defBody s_Ratio___init__) b_Ratio___init__ := fun cdv A outer s H E hr => ⟨_, (pss_cons (ps_if (pt_not (pt_val (pe_fnW (Sx.FnR.frame (ok_is_integer (K := K) M)) (hr.mono (by decide)) rfl (g_is_integer (K := K) M) (kp_is_integer (K := K)) (takes_of rfl rfl rfl rfl) (pa_cons (pv 1) pa_nil)))) (pss_one (ps_raise rfl (takes_of rfl rfl rfl rfl) (pmk_sup rfl (sup_NoRatio (K := K)).1 (sup_NoRatio (K := K)).2.1 (sup_NoRatio (K := K)).2.2 (hr.mono (by decide)) rfl (g_NoRatio (K := K) M) (pa_cons pe_str pa_nil)))) pss_nil) (pss_cons (ps_if (pt_not (pt_val (pe_fnW (Sx.FnR.frame (ok_is_integer (K := K) M)) (hr.mono (by decide)) rfl (g_is_integer (K := K) M) (kp_is_integer (K := K)) (takes_of rfl rfl rfl rfl) (pa_cons (pv 2) pa_nil)))) (pss_one (ps_raise rfl (takes_of rfl rfl rfl rfl) (pmk_sup rfl (sup_NoRatio (K := K)).1 (sup_NoRatio (K := K)).2.1 (sup_NoRatio (K := K)).2.2 (hr.mono (by decide)) rfl (g_NoRatio (K := K) M) (pa_cons pe_str pa_nil)))) pss_nil) (pss_cons (ps_if (pt_cmpR op_eq (pv 2) pe_int (nomark _)) (pss_one (ps_raise rfl (takes_of rfl rfl rfl rfl) (pmk_sup rfl (sup_NoRatio (K := K)).1 (sup_NoRatio (K := K)).2.1 (sup_NoRatio (K := K)).2.2 (hr.mono (by decide)) rfl (g_NoRatio (K := K) M) (pa_cons pe_str pa_nil)))) pss_nil) (pss_cons (ps_set (i := 3) sc_Ratio___init__.nd rfl (by first | exact Or.inl rfl | exact Or.inr rfl) (pe_callBfun cr_gcd rfl (g_gcd (K := K) M) (pa_cons (pv 1) (pa_cons (pv 2) pa_nil)))) (pss_cons (ps_if (pt_cmpR op_lt (pv 2) pe_int (nomark _)) (pss_one (ps_set (i := 3) sc_Ratio___init__.nd rfl (by first | exact Or.inl rfl | exact Or.inr rfl) (pe_un un_neg (pv 3)))) pss_nil) (pss_cons (ps_fld (pv 0) (pe_op (op_fdivP (seer_K (K := K)) (hr.mono (by decide)) rfl rfl rfl rfl rfl rfl) (pv 1) (pv 3)) rfl) (pss_one (ps_fld (pv 0) (pe_op (op_fdivP (seer_K (K := K)) (hr.mono (by decide)) rfl rfl rfl rfl rfl rfl) (pv 2) (pv 3)) rfl)))))))), fun A => (rs_seq (rs_if (rt_not (rt_B (re_call (ra_cons re_var ra_nil)))) (rs_raise x_NoRatio (ra_cons re_str ra_nil)) rs_skip) (rs_seq (rs_if (rt_not (rt_B (re_call (ra_cons re_var ra_nil)))) (rs_raise x_NoRatio (ra_cons re_str ra_nil)) rs_skip) (rs_seq (rs_if (rt_test (re_op rr_eq re_var re_int)) (rs_raise x_NoRatio (ra_cons re_str ra_nil)) rs_skip) (rs_seq (rs_asg (re_CB rc_gcd (ra_cons re_var (ra_cons re_var ra_nil)))) (rs_seq (rs_if (rt_test (re_op rr_lt re_var re_int)) (rs_asg (re_un r1_neg re_var)) rs_skip) (rs_seq (rs_setF (C := "Ratio") (i_Ratio_top (K := K)).no (re_op rr_div re_var re_var)) (rs_setF (C := "Ratio") (i_Ratio_bottom (K := K)).no (re_op rr_div re_var re_var))))))))⟩
def m_Ratio___init___1 : MFi := fun ds => m_Ratio___init__ (ds ++ [.int 1])
theorem oks_Ratio___init__ (M : Mg K mg) : Fn w K mg base 33 (He.ma K (He.ga K "Ratio") "__init__") (spI K "Ratio" m_Ratio___init__) ∧ Fn w K mg base 33 (He.ma K (He.ga K "Ratio") "__init__") (spI K "Ratio" m_Ratio___init___1) := fn_I1 def_Ratio___init__ sc_Ratio___init__ (by decide) (fun _ _ _ _ _ _ _ us its hl hi => match us, its, hl, hi with | [_, _, _], [_], _, _ => ⟨_, rfl, rfl⟩) (fun _ _ _ _ _ _ _ us its hl hi => match us, its, hl, hi with | [_, _], [_], _, _ => ⟨_, rfl, rfl⟩) c_Ratio (bd_Ratio___init__ M)
theorem ok_Ratio___init__ (M : Mg K mg) : Fn w K mg base 33 (He.ma K (He.ga K "Ratio") "__init__") (spI K "Ratio" m_Ratio___init__) := (oks_Ratio___init__ M).1
theorem ok_Ratio___init___1 (M : Mg K mg) : Fn w K mg base 33 (He.ma K (He.ga K "Ratio") "__init__") (spI K "Ratio" m_Ratio___init___1) := (oks_Ratio___init__ M).2
def b_Series___len__ : M Fl := (mRet (mCB dLen (mCons (mFld "coefficients" (mVar 0)) mNil)))
theorem sc_Series___len__ : FnScope ["self"] ["self"] (defScope s_Series___len__) := ⟨rfl, rfl, rfl, by decide +kernel, rfl, by decide +kernel, by decide +kernel⟩
def m_Series___len__ : MFn := runM 1 1 b_Series___len__
theorem bd_Series___len__ (M : Mg K mg) : Body K PP w mg base d_Series___len__.qual (defScope s_Series___len__) (He.fAd K d_Series___len__.at_) ["self"] 3 (defBody s_Series___len__) b_Series___len__ := fun cdv A outer s H E hr => ⟨_, (pss_one (ps_ret (pe_callB Sx.call_lenN (by rfl) (f_len (K := K) M) (by decide +kernel) (pa_cons (pe_fld (pv 0) rfl) pa_nil)))), fun A => (rs_ret (re_CB rc_len (ra_cons (re_fld re_var) ra_nil)))⟩
theorem ok_Series___len__ (M : Mg K mg) : Fn w K mg base 4 (He.ma K (He.ga K "Series") "__len__") (spM K m_Series___len__) := fn_M def_Series___len__ sc_Series___len__ (fun _ _ _ _ _ _ us hl => match us, hl with | [_], _ => rfl) (bd_Series___len__ M)
def b_Ratio___eq__ : M Fl := (mSeq (mIfS (mB (mIsi (.c "Ratio") (mVar 1))) (mRet (mAndV (mBin dEq (mFld "top" (mVar 0)) (mFld "top" (mVar 1))) (mBin dEq (mFld "bottom" (mVar 0)) (mFld "bottom" (mVar 1))))) mSkip) (mRet (mAndV (mCall m_is_integer (mCons (mVar 1) mNil)) (mAndV (mBin dEq (mFld "bottom" (mVar 0)) (mC (.int 1))) (mBin dEq (mFld "top" (mVar 0)) (mVar 1))))))
theorem sc_Ratio___eq__ : FnScope ["self", "other"] ["self", "other"] (defScope s_Ratio___eq__) := ⟨rfl, rfl, rfl, by decide +kernel, rfl, by decide +kernel, by decide +kernel⟩
def m_Ratio___eq__ : MFn := runM 2 2 b_Ratio___eq__
theorem bd_Ratio___eq__ (M : Mg K mg) : Body K PP w mg base d_Ratio___eq__.qual (defScope s_Ratio___eq__) (He.fAd K d_Ratio___eq__.at_) ["self", "other"] 4 (defBody s_Ratio___eq__) b_Ratio___eq__ := fun cdv A outer s H E hr => ⟨_, (pss_cons (ps_if (pt_val (pe_callB call_isi (by rfl) (f_isinstance (K := K) M) (by decide +kernel) (pa_cons (pv 1) (pa_cons (pe_glob (v := .ref (He.ga _ "Ratio")) rfl (g_Ratio (K := K) M) rfl) pa_nil)))) (pss_one (ps_ret (pe_and (pe_cmpR op_eq (pe_fld (pv 0) rfl) (pe_fld (pv 1) rfl) (nomark _)) (pe_one (pe_cmpR op_eq (pe_fld (pv 0) rfl) (pe_fld (pv 1) rfl) (nomark _)))))) pss_nil) (pss_one (ps_ret (pe_and (pe_fnW (Sx.FnR.frame (ok_is_integer (K := K) M)) (hr.mono (by decide)) rfl (g_is_integer (K := K) M) (kp_is_integer (K := K)) (takes_of rfl rfl rfl rfl) (pa_cons (pv 1) pa_nil)) (pe_and (pe_cmpR op_eq (pe_fld (pv 0) rfl) pe_int (nomark _)) (pe_one (pe_cmpR op_eq (pe_fld (pv 0) rfl) (pv 1) (nomark _)))))))), fun A => (rs_seq (rs_if (rt_B (re_isiC c_Ratio re_var)) (rs_ret (re_and (re_op rr_eq (re_fld re_var) (re_fld re_var)) (re_op rr_eq (re_fld re_var) (re_fld re_var)))) rs_skip) (rs_ret (re_and (re_call (ra_cons re_var ra_nil)) (re_and (re_op rr_eq (re_fld re_var) re_int) (re_op rr_eq (re_fld re_var) re_var)))))⟩
theorem ok_Ratio___eq__ (M : Mg K mg) : Fn w K mg base 5 (He.ma K (He.ga K "Ratio") "__eq__") (spM K m_Ratio___eq__) := fn_M def_Ratio___eq__ sc_Ratio___eq__ (fun _ _ _ _ _ _ us hl => match us, hl with | [_, _], _ => rfl) (bd_Ratio___eq__ M)
def T_Ratio : Tab := [("Ratio", m_Ratio___eq__)]
theorem et_Ratio (M : Mg K mg) : EqT PP w K mg base 5 T_Ratio := ⟨fun p h => by
  simp only [T_Ratio, List.mem_cons, List.not_mem_nil, or_false] at h
  rcases h with rfl
  · exact ⟨_, Sx.m_Ratio___eq__ (K := K), Sx.FnR.frame ((ok_Ratio___eq__ (K := K) M).mono (by decide)), nee_Ratio (K := K)⟩⟩
def lc_inverse_0 : M Bool := (mB (mBin dGt (mVar 3) (mC (.int 1))))
def lb_inverse_1 : M Fl := (mSeq (mAsg 6 (mBin dDiv (mVar 2) (mVar 3))) (mSeq (mPar 2 3 (mCons (mVar 3) (mCons (mBin dSub (mVar 2) (mBin dMul (mVar 6) (mVar 3))) mNil))) (mPar 4 5 (mCons (mVar 5) (mCons (mBin dSub (mVar 4) (mBin dMul (mVar 6) (mVar 5))) mNil)))))
def b_inverse : M Fl := (mSeq (mPar 2 3 (mCons (mVar 1) (mCons (mBin dMod (mVar 0) (mVar 1)) mNil))) (mSeq (mAsgT (gT 2 (gsC (gV 4) (gsC (gV 5) gsN))) (mTup (mCons (mC (.int 0)) (mCons (mC (.int 1)) mNil)))) (mSeq (mWhile lc_inverse_0 lb_inverse_1) (mRet (mBin dMod (mVar 5) (mVar 1))))))
theorem sc_inverse : FnScope ["value", "prime", "before", "rest", "old", "factor", "quotient"] ["value", "prime"] (defScope s_inverse) := ⟨rfl, rfl, rfl, by decide +kernel, rfl, by decide +kernel, by decide +kernel⟩
def m_inverse : MFn := runM 7 2 b_inverse
theorem bd_inverse (M : Mg K mg) : Body K PP w mg base d_inverse.qual (defScope s_inverse) (He.fAd K d_inverse.at_) ["value", "prime", "before", "rest", "old", "factor", "quotient"] 32 (defBody s_inverse) b_inverse := fun cdv A outer s H E hr => ⟨_, (pss_cons (ps_par (i := 2) (j := 3) (by rfl) sc_inverse.nd rfl rfl (by decide) rfl rfl (pa_cons (pv 1) (pa_cons (pe_op op_modX (pv 0) (pv 1)) pa_nil)) (by rfl)) (pss_cons (ps_asg (pe_tup (pa_cons pe_int (pa_cons pe_int pa_nil))) (pg_tup rfl (pgs_cons (pg_name (i := 4) sc_inverse.nd rfl (by first | exact Or.inl rfl | exact Or.inr rfl)) (pgs_cons (pg_name (i := 5) sc_inverse.nd rfl (by first | exact Or.inl rfl | exact Or.inr rfl)) pgs_nil)))) (pss_cons (ps_while (passes_of rfl) (pt_cmpR op_gt (pv 3) pe_int (nomark _)) (pss_cons (ps_set (i := 6) sc_inverse.nd rfl (by first | exact Or.inl rfl | exact Or.inr rfl) (pe_op (op_fdivP (seer_K (K := K)) (hr.mono (by decide)) rfl rfl rfl rfl rfl rfl) (pv 2) (pv 3))) (pss_cons (ps_par (i := 2) (j := 3) (by rfl) sc_inverse.nd rfl rfl (by decide) rfl rfl (pa_cons (pv 3) (pa_cons (pe_op op_sub (pv 2) (pe_op op_mulX (pv 6) (pv 3))) pa_nil)) (by rfl)) (pss_one (ps_par (i := 4) (j := 5) (by rfl) sc_inverse.nd rfl rfl (by decide) rfl rfl (pa_cons (pv 5) (pa_cons (pe_op op_sub (pv 4) (pe_op op_mulX (pv 6) (pv 5))) pa_nil)) (by rfl)))))) (pss_one (ps_ret (pe_op op_modX (pv 5) (pv 1))))))), fun A => (rs_seq (rs_par (ra_cons re_var (ra_cons (re_op rr_mod re_var re_var) ra_nil))) (rs_seq (rs_asgT (re_tup (ra_cons re_int (ra_cons re_int ra_nil))) (rg_tup (rgs_cons rg_name (rgs_cons rg_name rgs_nil)))) (rs_seq (rs_while (rt_test (re_op rr_gt re_var re_int)) (rs_seq (rs_asg (re_op rr_div re_var re_var)) (rs_seq (rs_par (ra_cons re_var (ra_cons (re_op rr_sub re_var (re_op rr_mul re_var re_var)) ra_nil))) (rs_par (ra_cons re_var (ra_cons (re_op rr_sub re_var (re_op rr_mul re_var re_var)) ra_nil)))))) (rs_ret (re_op rr_mod re_var re_var)))))⟩
theorem ok_inverse (M : Mg K mg) : Fn w K mg base 33 (He.ga K "inverse") (spM K m_inverse) := fn_M def_inverse sc_inverse (fun _ _ _ _ _ _ us hl => match us, hl with | [_, _], _ => rfl) (bd_inverse M)
def b_Field_number : M Fl := (mSeq (mIfS (mB (mCall m_is_integer (mCons (mVar 1) mNil))) (mSeq (mIfS (mB (mBin dEq (mFld "prime" (mVar 0)) (mC (.int 0)))) (mRet (mMake "Ratio" m_Ratio___init___1 (mCons (mVar 1) mNil))) mSkip) (mRet (mBin dMod (mVar 1) (mFld "prime" (mVar 0))))) mSkip) (mSeq (mIfS (mNot (mB (mIsi (.c "Ratio") (mVar 1)))) (mRaise0 "NoNumber") mSkip) (mSeq (mIfS (mB (mBin dEq (mFld "prime" (mVar 0)) (mC (.int 0)))) (mRet (mVar 1)) mSkip) (mSeq (mIfS (mB (mBin dEq (mBin dMod (mFld "bottom" (mVar 1)) (mFld "prime" (mVar 0))) (mC (.int 0)))) (mRaise0 "NoNumber") mSkip) (mRet (mBin dMod (mBin dMul (mFld "top" (mVar 1)) (mCall m_inverse (mCons (mFld "bottom" (mVar 1)) (mCons (mFld "prime" (mVar 0)) mNil)))) (mFld "prime" (mVar 0))))))))
theorem sc_Field_number : FnScope ["self", "value"] ["self", "value"] (defScope s_Field_number) := ⟨rfl, rfl, rfl, by decide +kernel, rfl, by decide +kernel, by decide +kernel⟩
def m_Field_number : MFn := runM 2 2 b_Field_number
theorem bd_Field_number (M : Mg K mg) : Body K PP w mg base d_Field_number.qual (defScope s_Field_number) (He.fAd K d_Field_number.at_) ["self", "value"] 34 (defBody s_Field_number) b_Field_number := fun cdv A outer s H E hr => ⟨_, (pss_cons (ps_if (pt_val (pe_fnW (Sx.FnR.frame (ok_is_integer (K := K) M)) (hr.mono (by decide)) rfl (g_is_integer (K := K) M) (kp_is_integer (K := K)) (takes_of rfl rfl rfl rfl) (pa_cons (pv 1) pa_nil))) (pss_cons (ps_if (pt_cmpR op_eq (pe_fld (pv 0) rfl) pe_int (nomark _)) (pss_one (ps_ret (pe_mkW (mk_Ratio (K := K)) (Sx.FnR.frame (ok_Ratio___init___1 (K := K) M)) (hr.mono (by decide)) rfl (g_Ratio (K := K) M) (takes_of rfl rfl rfl rfl) (pa_cons (pv 1) pa_nil)))) pss_nil) (pss_one (ps_ret (pe_op op_modX (pv 1) (pe_fld (pv 0) rfl))))) pss_nil) (pss_cons (ps_if (pt_not (pt_val (pe_callB call_isi (by rfl) (f_isinstance (K := K) M) (by decide +kernel) (pa_cons (pv 1) (pa_cons (pe_glob (v := .ref (He.ga _ "Ratio")) rfl (g_Ratio (K := K) M) rfl) pa_nil))))) (pss_one (ps_raise rfl (takes_of rfl rfl rfl rfl) (pmk_none (oex_NoNumber (K := K)) (noini_NoNumber (K := K)) rfl (g_NoNumber (K := K) M)))) pss_nil) (pss_cons (ps_if (pt_cmpR op_eq (pe_fld (pv 0) rfl) pe_int (nomark _)) (pss_one (ps_ret (pv 1))) pss_nil) (pss_cons (ps_if (pt_cmpR op_eq (pe_op op_modX (pe_fld (pv 1) rfl) (pe_fld (pv 0) rfl)) pe_int (nomark _)) (pss_one (ps_raise rfl (takes_of rfl rfl rfl rfl) (pmk_none (oex_NoNumber (K := K)) (noini_NoNumber (K := K)) rfl (g_NoNumber (K := K) M)))) pss_nil) (pss_one (ps_ret (pe_op op_modX (pe_op op_mulX (pe_fld (pv 1) rfl) (pe_fnW (Sx.FnR.frame (ok_inverse (K := K) M)) (hr.mono (by decide)) rfl (g_inverse (K := K) M) (kp_inverse (K := K)) (takes_of rfl rfl rfl rfl) (pa_cons (pe_fld (pv 1) rfl) (pa_cons (pe_fld (pv 0) rfl) pa_nil)))) (pe_fld (pv 0) rfl)))))))), fun A => (rs_seq (rs_if (rt_B (re_call (ra_cons re_var ra_nil))) (rs_seq (rs_if (rt_test (re_op rr_eq (re_fld re_var) re_int)) (rs_ret (re_make c_Ratio (ra_cons re_var ra_nil))) rs_skip) (rs_ret (re_op rr_mod re_var (re_fld re_var)))) rs_skip) (rs_seq (rs_if (rt_not (rt_B (re_isiC c_Ratio re_var))) (rs_raise0 x_NoNumber) rs_skip) (rs_seq (rs_if (rt_test (re_op rr_eq (re_fld re_var) re_int)) (rs_ret re_var) rs_skip) (rs_seq (rs_if (rt_test (re_op rr_eq (re_op rr_mod (re_fld re_var) (re_fld re_var)) re_int)) (rs_raise0 x_NoNumber) rs_skip) (rs_ret (re_op rr_mod (re_op rr_mul (re_fld re_var) (re_call (ra_cons (re_fld re_var) (ra_cons (re_fld re_var) ra_nil)))) (re_fld re_var)))))))⟩
theorem ok_Field_number (M : Mg K mg) : Fn w K mg base 35 (He.ma K (He.ga K "Field") "number") (spM K m_Field_number) := fn_M def_Field_number sc_Field_number (fun _ _ _ _ _ _ us hl => match us, hl with | [_, _], _ => rfl) (bd_Field_number M)
def lb_refused_place_0 : M Fl := (mTry "NoNumber" (mDrop (mMeth "Field" "number" m_Field_number (mVar 0) (mCons (mVar 3) mNil))) (mRet (mVar 2)))
def b_refused_place : M Fl := (mSeq (mFor (mItA enumQ (mCons (mVar 1) mNil)) (gT 2 (gsC (gV 2) (gsC (gV 3) gsN))) lb_refused_place_0) (mRet (mUn dNeg (mC (.int 1)))))
theorem sc_refused_place : FnScope ["field", "values", "place", "value"] ["field", "values"] (defScope s_refused_place) := ⟨rfl, rfl, rfl, by decide +kernel, rfl, by decide +kernel, by decide +kernel⟩
def m_refused_place : MFn := runM 4 2 b_refused_place
theorem bd_refused_place (M : Mg K mg) : Body K PP w mg base d_refused_place.qual (defScope s_refused_place) (He.fAd K d_refused_place.at_) ["field", "values", "place", "value"] 35 (defBody s_refused_place) b_refused_place := fun cdv A outer s H E hr => ⟨_, (pss_cons (ps_for (passes_of rfl) rfl (pi_enumQ (by rfl) (f_enumerate (K := K) M) (pa_cons (pv 1) pa_nil)) (pg_tup rfl (pgs_cons (pg_name (i := 2) sc_refused_place.nd rfl (by first | exact Or.inl rfl | exact Or.inr rfl)) (pgs_cons (pg_name (i := 3) sc_refused_place.nd rfl (by first | exact Or.inl rfl | exact Or.inr rfl)) pgs_nil))) (pss_one (ps_try_only rfl rfl ⟨rfl, by decide, .inl (g_NoNumber (K := K) M)⟩ (takes_of rfl rfl rfl rfl) (fun W pn xe tk pown => (pss_one (ps_expr (pe_meW (pv 0) (Sx.IsCls.cl (K := K) (C := "Field")) (Sx.m_Field_number (K := K)) (Sx.FnR.frame (ok_Field_number (K := K) M)) (hr.mono (by decide)) tk (pa_cons (pv 3) pa_nil))))) (fun a oe cls d pn hz hf => (pss_one (ps_ret (pv 2))))))) (pss_one (ps_ret (pe_un un_neg pe_int)))), fun A => (rs_seq (rs_for (ri_enumQ (ra_cons re_var ra_nil)) (rg_tup (rgs_cons rg_name (rgs_cons rg_name rgs_nil))) (rs_tryO x_NoNumber (fun _ => (rs_drop (re_meth re_var (ra_cons re_var ra_nil)))) (fun _ _ _ => (rs_ret re_var)))) (rs_ret (re_un r1_neg re_int)))⟩
theorem ok_refused_place (M : Mg K mg) : Fn w K mg base 36 (He.ga K "refused_place") (spM K m_refused_place) := fn_M def_refused_place sc_refused_place (fun _ _ _ _ _ _ us hl => match us, hl with | [_, _], _ => rfl) (bd_refused_place M)
def b_is_sequence : M Fl := (mRet (mIsiT [.b "list", .b "tuple"] (mVar 0)))
theorem sc_is_sequence : FnScope ["value"] ["value"] (defScope s_is_sequence) := ⟨rfl, rfl, rfl, by decide +kernel, rfl, by decide +kernel, by decide +kernel⟩
def m_is_sequence : MFn := runM 1 1 b_is_sequence
theorem bd_is_sequence (M : Mg K mg) : Body K PP w mg base d_is_sequence.qual (defScope s_is_sequence) (He.fAd K d_is_sequence.at_) ["value"] 3 (defBody s_is_sequence) b_is_sequence := fun cdv A outer s H E hr => ⟨_, (pss_one (ps_ret (pe_callB call_isiT (by rfl) (f_isinstance (K := K) M) (by decide +kernel) (pa_cons (pv 0) (pa_cons (pe_tup (pa_cons (pe_bltn (v := .ty "list") (by rfl) (f_list (K := K) M) (by decide +kernel) rfl) (pa_cons (pe_bltn (v := .ty "tuple") (by rfl) (f_tuple (K := K) M) (by decide +kernel) rfl) pa_nil))) pa_nil))))), fun A => (rs_ret (re_isiT2 (by decide) (by decide) re_var))⟩
theorem ok_is_sequence (M : Mg K mg) : Fn w K mg base 4 (He.ga K "is_sequence") (spM K m_is_sequence) := fn_M def_is_sequence sc_is_sequence (fun _ _ _ _ _ _ us hl => match us, hl with | [_], _ => rfl) (bd_is_sequence M)
def le_Series___init___0 : M D := (mMeth "Field" "number" m_Field_number (mVar 1) (mCons (mVar 5) mNil))
def b_Series___init__ : M Fl := (mSeq (mIfS (mB (mIsi (.c "Exact") (mVar 2))) (mAsg 3 (mFld "exact" (mVar 2))) (mSeq (mIfS (mOr (mNot (mB (mCall m_is_sequence (mCons (mVar 2) mNil)))) (mNot (mB (mChain dLe dLe (mC (.int 1)) (mCB dLen (mCons (mVar 2) mNil)) (mC (.int 32)))))) (mRaise "NoSeries" "place" (mCons (mUn dNeg (mC (.int 1))) mNil)) mSkip) (mSeq (mAsg 4 (mCall m_refused_place (mCons (mVar 1) (mCons (mVar 2) mNil)))) (mSeq (mIfS (mB (mBin dGe (mVar 4) (mC (.int 0)))) (mRaise "NoSeries" "place" (mCons (mVar 4) mNil)) mSkip) (mAsg 3 (mFrz (mLc 5 (mItQ (mVar 2)) (ret true) le_Series___init___0))))))) (mSeq (mIfS (mB (mBin (dEqA false T_Ratio 0) (mBin dIx (mVar 3) (mC (.int 0))) (mC (.int 0)))) (mRaise "NoSeries" "place" (mCons (mC (.int 0)) mNil)) mSkip) (mSeq (mSetF "Series" 0 "field" (mVar 1)) (mSeq (mSetF "Series" 0 "coefficients" (mCB dTuple (mCons (mVar 3) mNil))) (mSetF "Series" 0 "known" (mCB dLen (mCons (mVar 3) mNil)))))))
theorem sc_Series___init__ : FnScope ["self", "field", "coefficients", "numbers", "place", "value"] ["self", "field", "coefficients"] (defScope s_Series___init__) := ⟨rfl, rfl, rfl, by decide +kernel, rfl, by decide +kernel, by decide +kernel⟩
def m_Series___init__ : MFi := runI "Series" 6 3 b_Series___init__
theorem bd_Series___init__ (M : Mg K mg) : Body K PP w mg base d_Series___init__.qual (defScope s_Series___init__) (He.fAd K d_Series___init__.at_) ["self", "field", "coefficients", "numbers", "place", "value"] 36 (defBody s_Series___init__) b_Series___init__ := fun cdv A outer s H E hr => ⟨_, (pss_cons (ps_if (pt_val (pe_callB call_isi (by rfl) (f_isinstance (K := K) M) (by decide +kernel) (pa_cons (pv 2) (pa_cons (pe_glob (v := .ref (He.ga _ "Exact")) rfl (g_Exact (K := K) M) rfl) pa_nil)))) (pss_one (ps_set (i := 3) sc_Series___init__.nd rfl (by first | exact Or.inl rfl | exact Or.inr rfl) (pe_fld (pv 2) rfl))) (pss_cons (ps_if (PW.pt (pw_or (pt_not (pt_val (pe_fnW (Sx.FnR.frame (ok_is_sequence (K := K) M)) (hr.mono (by decide)) rfl (g_is_sequence (K := K) M) (kp_is_sequence (K := K)) (takes_of rfl rfl rfl rfl) (pa_cons (pv 2) pa_nil)))) (pw_or1 (pt_not (pt_chain op_le op_le pe_int (pe_callB Sx.call_lenN (by rfl) (f_len (K := K) M) (by decide +kernel) (pa_cons (pv 2) pa_nil)) (pe_glob (v := .int 32) rfl (g_MOST_GIVEN (K := K) M).choose_spec ⟨_, rfl⟩)))))) (pss_one (ps_raise rfl (takes_of rfl rfl rfl rfl) (pmk_sup rfl (sup_NoSeries (K := K)).1 (sup_NoSeries (K := K)).2.1 (sup_NoSeries (K := K)).2.2 (hr.mono (by decide)) rfl (g_NoSeries (K := K) M) (pa_cons (pe_un un_neg pe_int) pa_nil)))) pss_nil) (pss_cons (ps_set (i := 4) sc_Series___init__.nd rfl (by first | exact Or.inl rfl | exact Or.inr rfl) (pe_fnW (Sx.FnR.frame (ok_refused_place (K := K) M)) (hr.mono (by decide)) rfl (g_refused_place (K := K) M) (kp_refused_place (K := K)) (takes_of rfl rfl rfl rfl) (pa_cons (pv 1) (pa_cons (pv 2) pa_nil)))) (pss_cons (ps_if (pt_cmpR op_ge (pv 4) pe_int (nomark _)) (pss_one (ps_raise rfl (takes_of rfl rfl rfl rfl) (pmk_sup rfl (sup_NoSeries (K := K)).1 (sup_NoSeries (K := K)).2.1 (sup_NoSeries (K := K)).2.2 (hr.mono (by decide)) rfl (g_NoSeries (K := K) M) (pa_cons (pv 4) pa_nil)))) pss_nil) (pss_one (ps_setLc (i := 3) (own := [("value", 5)]) (g := gName 5) rfl sc_Series___init__.nd rfl rfl (sw_true rfl rfl rfl (by decide +kernel)) (pi_seq (pv 2)) (blkOk_by (own := [("value", 5)]) (N := ["self", "field", "coefficients", "numbers", "place", "value"]) (sc := defScope s_Series___init__) (by decide +kernel)) (fun _ _ _ _ _ => (pg_name (i := 5) sc_Series___init__.nd rfl (by first | exact Or.inl rfl | exact Or.inr rfl))) (fun _ _ _ _ _ => pts_nil) (fun _ _ _ _ _ => (pe_meW (pv 1) (Sx.IsCls.cl (K := K) (C := "Field")) (Sx.m_Field_number (K := K)) (Sx.FnR.frame (ok_Field_number (K := K) M)) (hr.mono (by decide)) takes0 (pa_cons (pv 5) pa_nil))))))))) (pss_cons (ps_if (pt_eqE (n := 0) (et_Ratio (K := K) M) (hr.mono (by decide)) (pe_ix ix_seq (pv 3) pe_int (fun _ _ => rfl)) pe_int) (pss_one (ps_raise rfl (takes_of rfl rfl rfl rfl) (pmk_sup rfl (sup_NoSeries (K := K)).1 (sup_NoSeries (K := K)).2.1 (sup_NoSeries (K := K)).2.2 (hr.mono (by decide)) rfl (g_NoSeries (K := K) M) (pa_cons pe_int pa_nil)))) pss_nil) (pss_cons (ps_fld (pv 0) (pv 1) rfl) (pss_cons (ps_fld (pv 0) (pe_callTy call_tuple_of (by rfl) (f_tuple (K := K) M) (by decide +kernel) (pa_cons (pv 3) pa_nil)) rfl) (pss_one (ps_fld (pv 0) (pe_callB Sx.call_lenN (by rfl) (f_len (K := K) M) (by decide +kernel) (pa_cons (pv 3) pa_nil)) rfl)))))), fun A => (rs_seq (rs_if (rt_B (re_isiC c_Exact re_var)) (rs_asg (re_fld re_var)) (rs_seq (rs_if (rt_or (rt_not (rt_B (re_call (ra_cons re_var ra_nil)))) (rt_not (rt_test (re_chain rr_le rr_le re_int (re_CB rc_len (ra_cons re_var ra_nil)) re_int)))) (rs_raise x_NoSeries (ra_cons (re_un r1_neg re_int) ra_nil)) rs_skip) (rs_seq (rs_asg (re_call (ra_cons re_var (ra_cons re_var ra_nil)))) (rs_seq (rs_if (rt_test (re_op rr_ge re_var re_int)) (rs_raise x_NoSeries (ra_cons re_var ra_nil)) rs_skip) (rs_asg (re_frz (rn_lc (ri_seq re_var) rt_yes (re_meth re_var (ra_cons re_var ra_nil))))))))) (rs_seq (rs_if (rt_test (re_eqA (re_op rr_ix re_var re_int) re_int)) (rs_raise x_NoSeries (ra_cons re_int ra_nil)) rs_skip) (rs_seq (rs_setF (C := "Series") (i_Series_field (K := K)).no re_var) (rs_seq (rs_setF (C := "Series") (i_Series_coefficients (K := K)).no (re_CB rc_tuple (ra_cons re_var ra_nil))) (rs_setF (C := "Series") (i_Series_known (K := K)).no (re_CB rc_len (ra_cons re_var ra_nil)))))))⟩
theorem ok_Series___init__ (M : Mg K mg) : Fn w K mg base 37 (He.ma K (He.ga K "Series") "__init__") (spI K "Series" m_Series___init__) := fn_I def_Series___init__ sc_Series___init__ (fun _ _ _ _ _ _ us hl => match us, hl with | [_, _, _], _ => rfl) c_Series (bd_Series___init__ M)
def b_Exact___init__ : M Fl := (mSetF "Exact" 0 "exact" (mVar 1))
theorem sc_Exact___init__ : FnScope ["self", "numbers"] ["self", "numbers"] (defScope s_Exact___init__) := ⟨rfl, rfl, rfl, by decide +kernel, rfl, by decide +kernel, by decide +kernel⟩
def m_Exact___init__ : MFi := runI "Exact" 2 2 b_Exact___init__
theorem bd_Exact___init__ (M : Mg K mg) : Body K PP w mg base d_Exact___init__.qual (defScope s_Exact___init__) (He.fAd K d_Exact___init__.at_) ["self", "numbers"] 3 (defBody s_Exact___init__) b_Exact___init__ := fun cdv A outer s H E hr => ⟨_, (pss_one (ps_fld (pv 0) (pv 1) rfl)), fun A => (rs_setF (C := "Exact") (i_Exact_exact (K := K)).no re_var)⟩
theorem ok_Exact___init__ (M : Mg K mg) : Fn w K mg base 4 (He.ma K (He.ga K "Exact") "__init__") (spI K "Exact" m_Exact___init__) := fn_I def_Exact___init__ sc_Exact___init__ (fun _ _ _ _ _ _ us hl => match us, hl with | [_, _], _ => rfl) c_Exact (bd_Exact___init__ M)
def b_Series_first : M Fl := (mSeq (mIfS (mOr (mNot (mB (mCall m_is_integer (mCons (mVar 1) mNil)))) (mNot (mB (mChain dLe dLe (mC (.int 1)) (mVar 1) (mFld "known" (mVar 0)))))) (mRaise0 "NoCount") mSkip) (mRet (mMake "Series" m_Series___init__ (mCons (mFld "field" (mVar 0)) (mCons (mMake "Exact" m_Exact___init__ (mCons (mFrz (mCBn dList (mCons (mSlT (mFld "coefficients" (mVar 0)) mNoP (mPart (mVar 1))) mNil))) mNil)) mNil)))))
theorem sc_Series_first : FnScope ["self", "count"] ["self", "count"] (defScope s_Series_first) := ⟨rfl, rfl, rfl, by decide +kernel, rfl, by decide +kernel, by decide +kernel⟩
def m_Series_first : MFn := runM 2 2 b_Series_first
theorem bd_Series_first (M : Mg K mg) : Body K PP w mg base d_Series_first.qual (defScope s_Series_first) (He.fAd K d_Series_first.at_) ["self", "count"] 38 (defBody s_Series_first) b_Series_first := fun cdv A outer s H E hr => ⟨_, (pss_cons (ps_if (PW.pt (pw_or (pt_not (pt_val (pe_fnW (Sx.FnR.frame (ok_is_integer (K := K) M)) (hr.mono (by decide)) rfl (g_is_integer (K := K) M) (kp_is_integer (K := K)) (takes_of rfl rfl rfl rfl) (pa_cons (pv 1) pa_nil)))) (pw_or1 (pt_not (pt_chain op_le op_le pe_int (pv 1) (pe_fld (pv 0) rfl)))))) (pss_one (ps_raise rfl (takes_of rfl rfl rfl rfl) (pmk_none (oex_NoCount (K := K)) (noini_NoCount (K := K)) rfl (g_NoCount (K := K) M)))) pss_nil) (pss_one (ps_ret (pe_mkW (mk_Series (K := K)) (Sx.FnR.frame (ok_Series___init__ (K := K) M)) (hr.mono (by decide)) rfl (g_Series (K := K) M) (takes_of rfl rfl rfl rfl) (pa_cons (pe_fld (pv 0) rfl) (pa_cons (pe_mkW (mk_Exact (K := K)) (Sx.FnR.frame (ok_Exact___init__ (K := K) M)) (hr.mono (by decide)) rfl (g_Exact (K := K) M) (takes_of rfl rfl rfl rfl) (pa_cons (pe_callTy call_list_of (by rfl) (f_list (K := K) M) (by decide +kernel) (pa_cons (pe_slice sl_tupA (pe_fld (pv 0) rfl) po_none (po_some (pv 1))) pa_nil)) pa_nil)) pa_nil)))))), fun A => (rs_seq (rs_if (rt_or (rt_not (rt_B (re_call (ra_cons re_var ra_nil)))) (rt_not (rt_test (re_chain rr_le rr_le re_int re_var (re_fld re_var))))) (rs_raise0 x_NoCount) rs_skip) (rs_ret (re_make c_Series (ra_cons (re_fld re_var) (ra_cons (re_make c_Exact (ra_cons (re_frz (rn_CB rcn_list (ra_cons (re_slT (re_fld re_var) ro_none (ro_some re_var)) ra_nil))) ra_nil)) ra_nil)))))⟩
theorem ok_Series_first (M : Mg K mg) : Fn w K mg base 39 (He.ma K (He.ga K "Series") "first") (spM K m_Series_first) := fn_M def_Series_first sc_Series_first (fun _ _ _ _ _ _ us hl => match us, hl with | [_, _], _ => rfl) (bd_Series_first M)
def b__law_counted : M Fl := (mSeq (mTry "NoCount" (mDrop (mMeth "Series" "first" m_Series_first (mVar 0) (mCons (mVar 1) mNil))) (mRet (mC (.str "refused")))) (mRet (mC (.str "made"))))
theorem sc__law_counted : FnScope ["_law_series", "_law_count"] ["_law_series", "_law_count"] (defScope s__law_counted) := ⟨rfl, rfl, rfl, by decide +kernel, rfl, by decide +kernel, by decide +kernel⟩
def m__law_counted : MFn := runM 2 2 b__law_counted
theorem bd__law_counted (M : Mg K mg) : Body K PP w mg base d__law_counted.qual (defScope s__law_counted) (He.fAd K d__law_counted.at_) ["_law_series", "_law_count"] 39 (defBody s__law_counted) b__law_counted := fun cdv A outer s H E hr => ⟨_, (pss_cons (ps_try_only rfl rfl ⟨rfl, by decide, .inl (g_NoCount (K := K) M)⟩ (takes_of rfl rfl rfl rfl) (fun W pn xe tk pown => (pss_one (ps_expr (pe_meW (pv 0) (Sx.IsCls.cl (K := K) (C := "Series")) (Sx.m_Series_first (K := K)) (Sx.FnR.frame (ok_Series_first (K := K) M)) (hr.mono (by decide)) tk (pa_cons (pv 1) pa_nil))))) (fun a oe cls d pn hz hf => (pss_one (ps_ret pe_str)))) (pss_one (ps_ret pe_str))), fun A => (rs_seq (rs_tryO x_NoCount (fun _ => (rs_drop (re_meth re_var (ra_cons re_var ra_nil)))) (fun _ _ _ => (rs_ret re_str))) (rs_ret re_str))⟩
theorem ok__law_counted (M : Mg K mg) : Fn w K mg base 40 (He.ga K "_law_counted") (spM K m__law_counted) := fn_M def__law_counted sc__law_counted (fun _ _ _ _ _ _ us hl => match us, hl with | [_, _], _ => rfl) (bd__law_counted M)
end
end Mi

namespace Mi
open PySem PySem.Spec PyProof.Rows L2 Sx
noncomputable section
variable {w : World} {K : PySem.W.Frag} [Sy K] {mg : Str → Option Value} {base : Heap}

def le_Series_then_0 : M D := (mMeth "Field" "number" m_Field_number (mFld "field" (mVar 0)) (mCons (mVar 4) mNil))
def b_Series_then : M Fl := (mSeq (mIfS (mOr (mNot (mB (mCall m_is_sequence (mCons (mVar 1) mNil)))) (mB (mBin dGt (mBin dAdd (mFld "known" (mVar 0)) (mCB dLen (mCons (mVar 1) mNil))) (mC (.int 79))))) (mRaise "NoSeries" "place" (mCons (mUn dNeg (mC (.int 1))) mNil)) mSkip) (mSeq (mAsg 2 (mCall m_refused_place (mCons (mFld "field" (mVar 0)) (mCons (mVar 1) mNil)))) (mSeq (mIfS (mB (mBin dGe (mVar 2) (mC (.int 0)))) (mRaise "NoSeries" "place" (mCons (mVar 2) mNil)) mSkip) (mSeq (mAsg 3 (mFrz (mBinN dCat (mFrz (mCBn dList (mCons (mFld "coefficients" (mVar 0)) mNil))) (mFrz (mLc 4 (mItQ (mVar 1)) (ret true) le_Series_then_0))))) (mRet (mMake "Series" m_Series___init__ (mCons (mFld "field" (mVar 0)) (mCons (mMake "Exact" m_Exact___init__ (mCons (mVar 3) mNil)) mNil))))))))
theorem sc_Series_then : FnScope ["self", "numbers", "place", "found", "value"] ["self", "numbers"] (defScope s_Series_then) := ⟨rfl, rfl, rfl, by decide +kernel, rfl, by decide +kernel, by decide +kernel⟩
def m_Series_then : MFn := runM 5 2 b_Series_then
theorem bd_Series_then (M : Mg K mg) : Body K PP w mg base d_Series_then.qual (defScope s_Series_then) (He.fAd K d_Series_then.at_) ["self", "numbers", "place", "found", "value"] 38 (defBody s_Series_then) b_Series_then := fun cdv A outer s H E hr => ⟨_, (pss_cons (ps_if (PW.pt (pw_or (pt_not (pt_val (pe_fnW (Sx.FnR.frame (ok_is_sequence (K := K) M)) (hr.mono (by decide)) rfl (g_is_sequence (K := K) M) (kp_is_sequence (K := K)) (takes_of rfl rfl rfl rfl) (pa_cons (pv 1) pa_nil)))) (pw_or1 (pt_cmpR op_gt (pe_op op_add (pe_fld (pv 0) rfl) (pe_callB Sx.call_lenN (by rfl) (f_len (K := K) M) (by decide +kernel) (pa_cons (pv 1) pa_nil))) (pe_glob (v := .int 79) rfl (g_MOST_KNOWN (K := K) M).choose_spec ⟨_, rfl⟩) (nomark _))))) (pss_one (ps_raise rfl (takes_of rfl rfl rfl rfl) (pmk_sup rfl (sup_NoSeries (K := K)).1 (sup_NoSeries (K := K)).2.1 (sup_NoSeries (K := K)).2.2 (hr.mono (by decide)) rfl (g_NoSeries (K := K) M) (pa_cons (pe_un un_neg pe_int) pa_nil)))) pss_nil) (pss_cons (ps_set (i := 2) sc_Series_then.nd rfl (by first | exact Or.inl rfl | exact Or.inr rfl) (pe_fnW (Sx.FnR.frame (ok_refused_place (K := K) M)) (hr.mono (by decide)) rfl (g_refused_place (K := K) M) (kp_refused_place (K := K)) (takes_of rfl rfl rfl rfl) (pa_cons (pe_fld (pv 0) rfl) (pa_cons (pv 1) pa_nil)))) (pss_cons (ps_if (pt_cmpR op_ge (pv 2) pe_int (nomark _)) (pss_one (ps_raise rfl (takes_of rfl rfl rfl rfl) (pmk_sup rfl (sup_NoSeries (K := K)).1 (sup_NoSeries (K := K)).2.1 (sup_NoSeries (K := K)).2.2 (hr.mono (by decide)) rfl (g_NoSeries (K := K) M) (pa_cons (pv 2) pa_nil)))) pss_nil) (pss_cons (ps_set (i := 3) sc_Series_then.nd rfl (by first | exact Or.inl rfl | exact Or.inr rfl) (pe_op op_catQ (pe_callTy call_list_of (by rfl) (f_list (K := K) M) (by decide +kernel) (pa_cons (pe_fld (pv 0) rfl) pa_nil)) (pe_lc (own := [("value", 4)]) (g := gName 4) rfl sc_Series_then.nd (pi_seq (pv 1)) (blkOk_by (own := [("value", 4)]) (N := ["self", "numbers", "place", "found", "value"]) (sc := defScope s_Series_then) (by decide +kernel)) (fun _ _ _ _ _ => (pg_name (i := 4) sc_Series_then.nd rfl (by first | exact Or.inl rfl | exact Or.inr rfl))) (fun _ _ _ _ _ => pts_nil) (fun _ _ _ _ _ => (pe_meW (pe_fld (pv 0) rfl) (Sx.IsCls.cl (K := K) (C := "Field")) (Sx.m_Field_number (K := K)) (Sx.FnR.frame (ok_Field_number (K := K) M)) (hr.mono (by decide)) takes0 (pa_cons (pv 4) pa_nil)))))) (pss_one (ps_ret (pe_mkW (mk_Series (K := K)) (Sx.FnR.frame (ok_Series___init__ (K := K) M)) (hr.mono (by decide)) rfl (g_Series (K := K) M) (takes_of rfl rfl rfl rfl) (pa_cons (pe_fld (pv 0) rfl) (pa_cons (pe_mkW (mk_Exact (K := K)) (Sx.FnR.frame (ok_Exact___init__ (K := K) M)) (hr.mono (by decide)) rfl (g_Exact (K := K) M) (takes_of rfl rfl rfl rfl) (pa_cons (pv 3) pa_nil)) pa_nil))))))))), fun A => (rs_seq (rs_if (rt_or (rt_not (rt_B (re_call (ra_cons re_var ra_nil)))) (rt_test (re_op rr_gt (re_op rr_add (re_fld re_var) (re_CB rc_len (ra_cons re_var ra_nil))) re_int))) (rs_raise x_NoSeries (ra_cons (re_un r1_neg re_int) ra_nil)) rs_skip) (rs_seq (rs_asg (re_call (ra_cons (re_fld re_var) (ra_cons re_var ra_nil)))) (rs_seq (rs_if (rt_test (re_op rr_ge re_var re_int)) (rs_raise x_NoSeries (ra_cons re_var ra_nil)) rs_skip) (rs_seq (rs_asg (re_frz (rn_op rrn_cat (re_frz (rn_CB rcn_list (ra_cons (re_fld re_var) ra_nil))) (re_frz (rn_lc (ri_seq re_var) rt_yes (re_meth (re_fld re_var) (ra_cons re_var ra_nil))))))) (rs_ret (re_make c_Series (ra_cons (re_fld re_var) (ra_cons (re_make c_Exact (ra_cons re_var ra_nil)) ra_nil))))))))⟩
theorem ok_Series_then (M : Mg K mg) : Fn w K mg base 39 (He.ma K (He.ga K "Series") "then") (spM K m_Series_then) := fn_M def_Series_then sc_Series_then (fun _ _ _ _ _ _ us hl => match us, hl with | [_, _], _ => rfl) (bd_Series_then M)
def b__law_further : M Fl := (mSeq (mTryAs 2 "NoSeries" (mDrop (mMeth "Series" "then" m_Series_then (mVar 0) (mCons (mVar 1) mNil))) (mRet (mTup (mCons (mC (.str "refused")) (mCons (mXf 2 "NoSeries" "place") mNil))))) (mRet (mTup (mCons (mC (.str "made")) (mCons (mC (.int 0)) mNil)))))
theorem sc__law_further : FnScope ["_law_series", "_law_numbers", "e"] ["_law_series", "_law_numbers"] (defScope s__law_further) := ⟨rfl, rfl, rfl, by decide +kernel, rfl, by decide +kernel, by decide +kernel⟩
def m__law_further : MFn := runM 3 2 b__law_further
theorem bd__law_further (M : Mg K mg) : Body K PP w mg base d__law_further.qual (defScope s__law_further) (He.fAd K d__law_further.at_) ["_law_series", "_law_numbers", "e"] 39 (defBody s__law_further) b__law_further := fun cdv A outer s H E hr => ⟨_, (pss_cons (ps_try_as (i := 2) rfl rfl sc__law_further.nd rfl rfl ⟨rfl, by decide, .inl (g_NoSeries (K := K) M)⟩ (takes_of rfl rfl rfl rfl) (fun W pn xe tk pown => (pss_one (ps_expr (pe_meW (pv 0) (Sx.IsCls.cl (K := K) (C := "Series")) (Sx.m_Series_then (K := K)) (Sx.FnR.frame (ok_Series_then (K := K) M)) (hr.mono (by decide)) tk (pa_cons (pv 1) pa_nil))))) (fun a oe cls d pn hz hf => (pss_one (ps_ret (pe_tup (pa_cons pe_str (pa_cons (pe_xf (xf_NoSeries (K := K)) (sup_NoSeries (K := K)).1.no hz hf (pv 2)) pa_nil))))))) (pss_one (ps_ret (pe_tup (pa_cons pe_str (pa_cons pe_int pa_nil)))))), fun A => (rs_seq (rs_tryA x_NoSeries (fun _ => (rs_drop (re_meth re_var (ra_cons re_var ra_nil)))) (fun _ _ _ => (rs_ret (re_tup (ra_cons re_str (ra_cons re_xf ra_nil)))))) (rs_ret (re_tup (ra_cons re_str (ra_cons re_int ra_nil)))))⟩
theorem ok__law_further (M : Mg K mg) : Fn w K mg base 40 (He.ga K "_law_further") (spM K m__law_further) := fn_M def__law_further sc__law_further (fun _ _ _ _ _ _ us hl => match us, hl with | [_, _], _ => rfl) (bd__law_further M)
def lr__law_more_refusals_5 : M Fl := (mRet (mC (.bl true)))
def lb__law_more_refusals_1 : M Fl := (mIfS (mB (mBin dNe (mCall m__law_counted (mCons (mVar 0) (mCons (mVar 4) mNil))) (mC (.str "refused")))) (mRet (mC (.bl false))) mSkip)
def lr__law_more_refusals_4 : M Fl := (mSeq (mFor (mItQ (mFrz (mLst (mCons (mC (.int 0)) (mCons (mUn dNeg (mC (.int 1))) (mCons (mBin dAdd (mCB (dLenA "Series" m_Series___len__) (mCons (mVar 0) mNil)) (mC (.int 1))) (mCons (mC (.bl true)) (mCons (mC .non) (mCons (mC (.str "1")) (mCons (mMake "Ratio" m_Ratio___init___1 (mCons (mC (.int 1)) mNil)) mNil)))))))))) (gV 4) lb__law_more_refusals_1) lr__law_more_refusals_5)
def lr__law_more_refusals_3 : M Fl := (mSeq (mIfS (mB (mBin (dEqA true T_none 1) (mCall m__law_further (mCons (mVar 0) (mCons (mFrz (mRep (mLst (mCons (mVar 1) mNil)) (mBin dAdd (mVar 3) (mC (.int 1))))) mNil))) (mTup (mCons (mC (.str "refused")) (mCons (mUn dNeg (mC (.int 1))) mNil))))) (mRet (mC (.bl false))) mSkip) lr__law_more_refusals_4)
def lr__law_more_refusals_2 : M Fl := (mSeq (mIfS (mOr (mB (mBin (dEqA true T_none 1) (mCall m__law_further (mCons (mVar 0) (mCons (mFrz (mRep (mLst (mCons (mC (.int 0)) mNil)) (mVar 3))) mNil))) (mTup (mCons (mC (.str "made")) (mCons (mC (.int 0)) mNil))))) (mB (mBin (dEqA true T_none 1) (mCall m__law_further (mCons (mVar 0) (mCons (mFrz (mRep (mLst (mCons (mC (.int 0)) mNil)) (mBin dAdd (mVar 3) (mC (.int 1))))) mNil))) (mTup (mCons (mC (.str "refused")) (mCons (mUn dNeg (mC (.int 1))) mNil)))))) (mRet (mC (.bl false))) mSkip) lr__law_more_refusals_3)
def lr__law_more_refusals_1 : M Fl := (mSeq (mAsg 3 (mBin dSub (mC (.int 79)) (mCB (dLenA "Series" m_Series___len__) (mCons (mVar 0) mNil)))) lr__law_more_refusals_2)
def lb__law_more_refusals_6 : M Fl := (mIfS (mB (mBin (dEqA true T_none 1) (mCall m__law_further (mCons (mVar 0) (mCons (mVar 2) mNil))) (mTup (mCons (mC (.str "refused")) (mCons (mUn dNeg (mC (.int 1))) mNil))))) (mRet (mC (.bl false))) mSkip)
def b__law_more_refusals : M Fl := (mSeq (mFor (mItQ (mFrz (mLst (mCons (mC (.str "123")) (mCons (mC .non) (mCons (mC (.int 5)) (mCons mDic mNil))))))) (gV 2) lb__law_more_refusals_6) lr__law_more_refusals_1)
theorem sc__law_more_refusals : FnScope ["_law_series", "_law_thing", "_law_wrong", "_law_room", "_law_count"] ["_law_series", "_law_thing"] (defScope s__law_more_refusals) := ⟨rfl, rfl, rfl, by decide +kernel, rfl, by decide +kernel, by decide +kernel⟩
def m__law_more_refusals : MFn := runM 5 2 b__law_more_refusals
theorem bd__law_more_refusals (M : Mg K mg) : Body K PP w mg base d__law_more_refusals.qual (defScope s__law_more_refusals) (He.fAd K d__law_more_refusals.at_) ["_law_series", "_law_thing", "_law_wrong", "_law_room", "_law_count"] 40 (defBody s__law_more_refusals) b__law_more_refusals := fun cdv A outer s H E hr => ⟨_, (pss_cons (ps_for (passes_of rfl) rfl (pi_seq (pe_lst (pa_cons pe_str (pa_cons pe_non (pa_cons pe_int (pa_cons pe_dnewK pa_nil)))))) (pg_name (i := 2) sc__law_more_refusals.nd rfl (by first | exact Or.inl rfl | exact Or.inr rfl)) (pss_one (ps_if (pt_neE (n := 1) (et_none (K := K) M) (hr.mono (by decide)) (pe_fnW (Sx.FnR.frame (ok__law_further (K := K) M)) (hr.mono (by decide)) rfl (g__law_further (K := K) M) (kp__law_further (K := K)) (takes_of rfl rfl rfl rfl) (pa_cons (pv 0) (pa_cons (pv 2) pa_nil))) (pe_tup (pa_cons pe_str (pa_cons (pe_un un_neg pe_int) pa_nil)))) (pss_one (ps_ret pe_bl)) pss_nil))) (pss_cons (ps_set (i := 3) sc__law_more_refusals.nd rfl (by first | exact Or.inl rfl | exact Or.inr rfl) (pe_op op_sub pe_int (pe_callB (call_lenA (Sx.m_Series___len__ (K := K)) (Sx.FnR.frame (ok_Series___len__ (K := K) M)) (hr.mono (by decide))) (by rfl) (f_len (K := K) M) (by decide +kernel) (pa_cons (pv 0) pa_nil)))) (pss_cons (ps_if (PW.pt (pw_or (pt_neE (n := 1) (et_none (K := K) M) (hr.mono (by decide)) (pe_fnW (Sx.FnR.frame (ok__law_further (K := K) M)) (hr.mono (by decide)) rfl (g__law_further (K := K) M) (kp__law_further (K := K)) (takes_of rfl rfl rfl rfl) (pa_cons (pv 0) (pa_cons (pe_op op_rep (pe_lst (pa_cons pe_int pa_nil)) (pv 3)) pa_nil))) (pe_tup (pa_cons pe_str (pa_cons pe_int pa_nil)))) (pw_or1 (pt_neE (n := 1) (et_none (K := K) M) (hr.mono (by decide)) (pe_fnW (Sx.FnR.frame (ok__law_further (K := K) M)) (hr.mono (by decide)) rfl (g__law_further (K := K) M) (kp__law_further (K := K)) (takes_of rfl rfl rfl rfl) (pa_cons (pv 0) (pa_cons (pe_op op_rep (pe_lst (pa_cons pe_int pa_nil)) (pe_op op_add (pv 3) pe_int)) pa_nil))) (pe_tup (pa_cons pe_str (pa_cons (pe_un un_neg pe_int) pa_nil))))))) (pss_one (ps_ret pe_bl)) pss_nil) (pss_cons (ps_if (pt_neE (n := 1) (et_none (K := K) M) (hr.mono (by decide)) (pe_fnW (Sx.FnR.frame (ok__law_further (K := K) M)) (hr.mono (by decide)) rfl (g__law_further (K := K) M) (kp__law_further (K := K)) (takes_of rfl rfl rfl rfl) (pa_cons (pv 0) (pa_cons (pe_op op_rep (pe_lst (pa_cons (pv 1) pa_nil)) (pe_op op_add (pv 3) pe_int)) pa_nil))) (pe_tup (pa_cons pe_str (pa_cons (pe_un un_neg pe_int) pa_nil)))) (pss_one (ps_ret pe_bl)) pss_nil) (pss_cons (ps_for (passes_of rfl) rfl (pi_seq (pe_lst (pa_cons pe_int (pa_cons (pe_un un_neg pe_int) (pa_cons (pe_op op_add (pe_callB (call_lenA (Sx.m_Series___len__ (K := K)) (Sx.FnR.frame (ok_Series___len__ (K := K) M)) (hr.mono (by decide))) (by rfl) (f_len (K := K) M) (by decide +kernel) (pa_cons (pv 0) pa_nil)) pe_int) (pa_cons pe_bl (pa_cons pe_non (pa_cons pe_str (pa_cons (pe_mkW (mk_Ratio (K := K)) (Sx.FnR.frame (ok_Ratio___init___1 (K := K) M)) (hr.mono (by decide)) rfl (g_Ratio (K := K) M) (takes_of rfl rfl rfl rfl) (pa_cons pe_int pa_nil)) pa_nil))))))))) (pg_name (i := 4) sc__law_more_refusals.nd rfl (by first | exact Or.inl rfl | exact Or.inr rfl)) (pss_one (ps_if (pt_cmpR op_ne (pe_fnW (Sx.FnR.frame (ok__law_counted (K := K) M)) (hr.mono (by decide)) rfl (g__law_counted (K := K) M) (kp__law_counted (K := K)) (takes_of rfl rfl rfl rfl) (pa_cons (pv 0) (pa_cons (pv 4) pa_nil))) pe_str (nomark _)) (pss_one (ps_ret pe_bl)) pss_nil))) (pss_one (ps_ret pe_bl))))))), fun A => (rs_seq (rs_for (ri_seq (re_frz (rn_lst (ra_cons re_str (ra_cons re_non (ra_cons re_int (ra_cons re_dic ra_nil))))))) rg_name (rs_if (rt_test (re_eqA (re_call (ra_cons re_var (ra_cons re_var ra_nil))) (re_tup (ra_cons re_str (ra_cons (re_un r1_neg re_int) ra_nil))))) (rs_ret re_bl) rs_skip)) (rs_seq (rs_asg (re_op rr_sub re_int (re_CB rc_lenA (ra_cons re_var ra_nil)))) (rs_seq (rs_if (rt_or (rt_test (re_eqA (re_call (ra_cons re_var (ra_cons (re_frz (rn_rep (rn_lst (ra_cons re_int ra_nil)) re_var)) ra_nil))) (re_tup (ra_cons re_str (ra_cons re_int ra_nil))))) (rt_test (re_eqA (re_call (ra_cons re_var (ra_cons (re_frz (rn_rep (rn_lst (ra_cons re_int ra_nil)) (re_op rr_add re_var re_int))) ra_nil))) (re_tup (ra_cons re_str (ra_cons (re_un r1_neg re_int) ra_nil)))))) (rs_ret re_bl) rs_skip) (rs_seq (rs_if (rt_test (re_eqA (re_call (ra_cons re_var (ra_cons (re_frz (rn_rep (rn_lst (ra_cons re_var ra_nil)) (re_op rr_add re_var re_int))) ra_nil))) (re_tup (ra_cons re_str (ra_cons (re_un r1_neg re_int) ra_nil))))) (rs_ret re_bl) rs_skip) (rs_seq (rs_for (ri_seq (re_frz (rn_lst (ra_cons re_int (ra_cons (re_un r1_neg re_int) (ra_cons (re_op rr_add (re_CB rc_lenA (ra_cons re_var ra_nil)) re_int) (ra_cons re_bl (ra_cons re_non (ra_cons re_str (ra_cons (re_make c_Ratio (ra_cons re_int ra_nil)) ra_nil)))))))))) rg_name (rs_if (rt_test (re_op rr_ne (re_call (ra_cons re_var (ra_cons re_var ra_nil))) re_str)) (rs_ret re_bl) rs_skip)) (rs_ret re_bl))))))⟩
theorem ok__law_more_refusals (M : Mg K mg) : Fn w K mg base 41 (He.ga K "_law_more_refusals") (spM K m__law_more_refusals) := fn_M def__law_more_refusals sc__law_more_refusals (fun _ _ _ _ _ _ us hl => match us, hl with | [_, _], _ => rfl) (bd__law_more_refusals M)
def b__law_refused : M Fl := (mSeq (mTryAs 2 "NoSeries" (mDrop (mMake "Series" m_Series___init__ (mCons (mVar 0) (mCons (mVar 1) mNil)))) (mRet (mTup (mCons (mC (.str "refused")) (mCons (mXf 2 "NoSeries" "place") mNil))))) (mRet (mTup (mCons (mC (.str "made")) (mCons (mC (.int 0)) mNil)))))
theorem sc__law_refused : FnScope ["_law_field", "_law_row_here", "e"] ["_law_field", "_law_row_here"] (defScope s__law_refused) := ⟨rfl, rfl, rfl, by decide +kernel, rfl, by decide +kernel, by decide +kernel⟩
def m__law_refused : MFn := runM 3 2 b__law_refused
theorem bd__law_refused (M : Mg K mg) : Body K PP w mg base d__law_refused.qual (defScope s__law_refused) (He.fAd K d__law_refused.at_) ["_law_field", "_law_row_here", "e"] 38 (defBody s__law_refused) b__law_refused := fun cdv A outer s H E hr => ⟨_, (pss_cons (ps_try_as (i := 2) rfl rfl sc__law_refused.nd rfl rfl ⟨rfl, by decide, .inl (g_NoSeries (K := K) M)⟩ (takes_of rfl rfl rfl rfl) (fun W pn xe tk pown => (pss_one (ps_expr (pe_mkW (mk_Series (K := K)) (Sx.FnR.frame (ok_Series___init__ (K := K) M)) (hr.mono (by decide)) rfl (g_Series (K := K) M) tk (pa_cons (pv 0) (pa_cons (pv 1) pa_nil)))))) (fun a oe cls d pn hz hf => (pss_one (ps_ret (pe_tup (pa_cons pe_str (pa_cons (pe_xf (xf_NoSeries (K := K)) (sup_NoSeries (K := K)).1.no hz hf (pv 2)) pa_nil))))))) (pss_one (ps_ret (pe_tup (pa_cons pe_str (pa_cons pe_int pa_nil)))))), fun A => (rs_seq (rs_tryA x_NoSeries (fun _ => (rs_drop (re_make c_Series (ra_cons re_var (ra_cons re_var ra_nil))))) (fun _ _ _ => (rs_ret (re_tup (ra_cons re_str (ra_cons re_xf ra_nil)))))) (rs_ret (re_tup (ra_cons re_str (ra_cons re_int ra_nil)))))⟩
theorem ok__law_refused (M : Mg K mg) : Fn w K mg base 39 (He.ga K "_law_refused") (spM K m__law_refused) := fn_M def__law_refused sc__law_refused (fun _ _ _ _ _ _ us hl => match us, hl with | [_, _], _ => rfl) (bd__law_refused M)
def lr__law_refusals_14 : M Fl := (mRet (mAndV (mBin (dEqA false T_none 1) (mCallB 8 m__law_further (mCons (mVar 9) (mOwn 8))) (mTup (mCons (mC (.str "refused")) (mCons (mCB dMin (mCons (mVar 10) (mCons (mVar 11) mNil))) mNil)))) (mCall m__law_more_refusals (mCons (mVar 9) (mCons (mIdxV 6 (mVar 5)) mNil)))))
def lr__law_refusals_13 : M Fl := (mSeq (mAsg 9 (mMake "Series" m_Series___init__ (mCons (mVar 0) (mCons (mVar 2) mNil)))) lr__law_refusals_14)
def lr__law_refusals_12 : M Fl := (mSeq (mIfS (mB (mBin (dEqA true T_none 1) (mCallB 8 m__law_refused (mCons (mVar 0) (mOwn 8))) (mTup (mCons (mC (.str "refused")) (mCons (mCB dMin (mCons (mVar 10) (mCons (mVar 11) mNil))) mNil))))) (mRet (mC (.bl false))) mSkip) lr__law_refusals_13)
def lr__law_refusals_11 : M Fl := (mSeq (mSetV 8 (mVar 11) (mIdxV 6 (mBin dMod (mBin dAdd (mVar 5) (mC (.int 1))) (mC (.int 7))))) lr__law_refusals_12)
def lr__law_refusals_10 : M Fl := (mSeq (mIfS (mB (mBin (dEqA true T_none 1) (mCall m__law_refused (mCons (mVar 0) (mCons (mFrz (mBinN dCat (mFrz (mLst (mCons (mC (.int 0)) mNil))) (mFrz (mSlV 8 (mPart (mC (.int 1))) mNoP)))) mNil))) (mTup (mCons (mC (.str "refused")) (mCons (mVar 10) mNil))))) (mRet (mC (.bl false))) mSkip) lr__law_refusals_11)
def lr__law_refusals_9 : M Fl := (mSeq (mIfS (mOr (mB (mBin (dEqA true T_none 1) (mCallB 8 m__law_refused (mCons (mVar 0) (mOwn 8))) (mTup (mCons (mC (.str "refused")) (mCons (mVar 10) mNil))))) (mB (mBin (dEqA true T_none 1) (mCall m__law_refused (mCons (mVar 0) (mCons (mTupV 8) mNil))) (mTup (mCons (mC (.str "refused")) (mCons (mVar 10) mNil)))))) (mRet (mC (.bl false))) mSkip) lr__law_refusals_10)
def lr__law_refusals_8 : M Fl := (mSeq (mSetV 8 (mVar 10) (mIdxV 6 (mVar 5))) lr__law_refusals_9)
def lr__law_refusals_7 : M Fl := (mSeq (mAsgN 8 (mCBn dList (mCons (mVar 2) mNil))) lr__law_refusals_8)
def lr__law_refusals_6 : M Fl := (mSeq (mPar 10 11 (mCons (mBin dMod (mCB dInt (mCons (mVar 3) mNil)) (mCB dLen (mCons (mVar 2) mNil))) (mCons (mBin dMod (mCB dInt (mCons (mVar 4) mNil)) (mCB dLen (mCons (mVar 2) mNil))) mNil))) lr__law_refusals_7)
def lr__law_refusals_5 : M Fl := (mSeq (mIfS (mOr (mB (mBin (dEqA true T_none 1) (mCall m__law_refused (mCons (mVar 0) (mCons (mFrz (mBinN dCat (mFrz (mLst (mCons (mVar 1) mNil))) (mFrz (mSlL (mVar 2) (mPart (mC (.int 1))) mNoP)))) mNil))) (mTup (mCons (mC (.str "refused")) (mCons (mC (.int 0)) mNil))))) (mB (mBin (dEqA true T_none 1) (mCall m__law_refused (mCons (mVar 0) (mCons (mVar 2) mNil))) (mTup (mCons (mC (.str "made")) (mCons (mC (.int 0)) mNil)))))) (mRet (mC (.bl false))) mSkip) lr__law_refusals_6)
def lr__law_refusals_4 : M Fl := (mSeq (mIfS (mOr (mB (mBin (dEqA true T_none 1) (mCall m__law_refused (mCons (mVar 0) (mCons (mFrz (mRep (mLst (mCons (mC (.str "x")) mNil)) (mC (.int 33)))) mNil))) (mTup (mCons (mC (.str "refused")) (mCons (mUn dNeg (mC (.int 1))) mNil))))) (mB (mBin (dEqA true T_none 1) (mCall m__law_refused (mCons (mVar 0) (mCons (mFrz (mLst (mCons (mC (.int 0)) (mCons (mC (.int 1)) mNil)))) mNil))) (mTup (mCons (mC (.str "refused")) (mCons (mC (.int 0)) mNil)))))) (mRet (mC (.bl false))) mSkip) lr__law_refusals_5)
def lr__law_refusals_3 : M Fl := (mSeq (mIfS (mOr (mB (mBin (dEqA true T_none 1) (mCall m__law_refused (mCons (mVar 0) (mCons (mFrz (mRep (mLst (mCons (mC (.int 1)) mNil)) (mC (.int 32)))) mNil))) (mTup (mCons (mC (.str "made")) (mCons (mC (.int 0)) mNil))))) (mB (mBin (dEqA true T_none 1) (mCall m__law_refused (mCons (mVar 0) (mCons (mFrz (mRep (mLst (mCons (mC (.int 1)) mNil)) (mC (.int 33)))) mNil))) (mTup (mCons (mC (.str "refused")) (mCons (mUn dNeg (mC (.int 1))) mNil)))))) (mRet (mC (.bl false))) mSkip) lr__law_refusals_4)
def lb__law_refusals_12 : M Fl := (mIfS (mB (mBin (dEqA true T_none 1) (mCall m__law_refused (mCons (mVar 0) (mCons (mVar 7) mNil))) (mTup (mCons (mC (.str "refused")) (mCons (mUn dNeg (mC (.int 1))) mNil))))) (mRet (mC (.bl false))) mSkip)
def lr__law_refusals_2 : M Fl := (mSeq (mFor (mItQ (mFrz (mLst (mCons (mC (.str "123")) (mCons (mC .non) (mCons (mC (.int 5)) (mCons mDic (mCons (mFrz (mLst mNil)) (mCons (mTup mNil) mNil))))))))) (gV 7) lb__law_refusals_12) lr__law_refusals_3)
def lr__law_refusals_1 : M Fl := (mSeq (mIfS (mB (mBin dGt (mVar 1) (mC (.int 0)))) (mSetV 6 (mC (.int 6)) (mMake "Ratio" m_Ratio___init__ (mCons (mC (.int 1)) (mCons (mVar 1) mNil)))) mSkip) lr__law_refusals_2)
def b__law_refusals : M Fl := (mSeq (mAsgN 6 (mLst (mCons (mC (.str "1")) (mCons (mC (.bl true)) (mCons (mC .non) (mCons (mFrz (mLst (mCons (mC (.int 1)) mNil))) (mCons (mTup mNil) (mCons (mC (.str "")) (mCons mDic mNil))))))))) lr__law_refusals_1)
theorem sc__law_refusals : FnScope ["_law_field", "_law_prime_here", "_law_given_here", "_law_first", "_law_second", "_law_odd", "_law_strange", "_law_wrong", "_law_spoilt", "_law_series", "_law_at", "_law_other"] ["_law_field", "_law_prime_here", "_law_given_here", "_law_first", "_law_second", "_law_odd"] (defScope s__law_refusals) := ⟨rfl, rfl, rfl, by decide +kernel, rfl, by decide +kernel, by decide +kernel⟩
def m__law_refusals : MFn := runM 12 6 b__law_refusals
theorem bd__law_refusals (M : Mg K mg) : Body K PP w mg base d__law_refusals.qual (defScope s__law_refusals) (He.fAd K d__law_refusals.at_) ["_law_field", "_law_prime_here", "_law_given_here", "_law_first", "_law_second", "_law_odd", "_law_strange", "_law_wrong", "_law_spoilt", "_law_series", "_law_at", "_law_other"] 41 (defBody s__law_refusals) b__law_refusals := fun cdv A outer s H E hr => ⟨_, (pss_cons (ps_set (i := 6) sc__law_refusals.nd rfl (by first | exact Or.inl rfl | exact Or.inr rfl) (pe_lst (pa_cons pe_str (pa_cons pe_bl (pa_cons pe_non (pa_cons (pe_lst (pa_cons pe_int pa_nil)) (pa_cons (pe_tup pa_nil) (pa_cons pe_str (pa_cons pe_dnewK pa_nil))))))))) (pss_cons (ps_if (pt_cmpR op_gt (pv 1) pe_int (nomark _)) (pss_one (ps_asg (pe_mkW (mk_Ratio (K := K)) (Sx.FnR.frame (ok_Ratio___init__ (K := K) M)) (hr.mono (by decide)) rfl (g_Ratio (K := K) M) (takes_of rfl rfl rfl rfl) (pa_cons pe_int (pa_cons (pv 1) pa_nil))) (pg_sub (pv 6) pe_int set_list))) pss_nil) (pss_cons (ps_for (passes_of rfl) rfl (pi_seq (pe_lst (pa_cons pe_str (pa_cons pe_non (pa_cons pe_int (pa_cons pe_dnewK (pa_cons (pe_lst pa_nil) (pa_cons (pe_tup pa_nil) pa_nil)))))))) (pg_name (i := 7) sc__law_refusals.nd rfl (by first | exact Or.inl rfl | exact Or.inr rfl)) (pss_one (ps_if (pt_neE (n := 1) (et_none (K := K) M) (hr.mono (by decide)) (pe_fnW (Sx.FnR.frame (ok__law_refused (K := K) M)) (hr.mono (by decide)) rfl (g__law_refused (K := K) M) (kp__law_refused (K := K)) (takes_of rfl rfl rfl rfl) (pa_cons (pv 0) (pa_cons (pv 7) pa_nil))) (pe_tup (pa_cons pe_str (pa_cons (pe_un un_neg pe_int) pa_nil)))) (pss_one (ps_ret pe_bl)) pss_nil))) (pss_cons (ps_if (PW.pt (pw_or (pt_neE (n := 1) (et_none (K := K) M) (hr.mono (by decide)) (pe_fnW (Sx.FnR.frame (ok__law_refused (K := K) M)) (hr.mono (by decide)) rfl (g__law_refused (K := K) M) (kp__law_refused (K := K)) (takes_of rfl rfl rfl rfl) (pa_cons (pv 0) (pa_cons (pe_op op_rep (pe_lst (pa_cons pe_int pa_nil)) pe_int) pa_nil))) (pe_tup (pa_cons pe_str (pa_cons pe_int pa_nil)))) (pw_or1 (pt_neE (n := 1) (et_none (K := K) M) (hr.mono (by decide)) (pe_fnW (Sx.FnR.frame (ok__law_refused (K := K) M)) (hr.mono (by decide)) rfl (g__law_refused (K := K) M) (kp__law_refused (K := K)) (takes_of rfl rfl rfl rfl) (pa_cons (pv 0) (pa_cons (pe_op op_rep (pe_lst (pa_cons pe_int pa_nil)) pe_int) pa_nil))) (pe_tup (pa_cons pe_str (pa_cons (pe_un un_neg pe_int) pa_nil))))))) (pss_one (ps_ret pe_bl)) pss_nil) (pss_cons (ps_if (PW.pt (pw_or (pt_neE (n := 1) (et_none (K := K) M) (hr.mono (by decide)) (pe_fnW (Sx.FnR.frame (ok__law_refused (K := K) M)) (hr.mono (by decide)) rfl (g__law_refused (K := K) M) (kp__law_refused (K := K)) (takes_of rfl rfl rfl rfl) (pa_cons (pv 0) (pa_cons (pe_op op_rep (pe_lst (pa_cons pe_str pa_nil)) pe_int) pa_nil))) (pe_tup (pa_cons pe_str (pa_cons (pe_un un_neg pe_int) pa_nil)))) (pw_or1 (pt_neE (n := 1) (et_none (K := K) M) (hr.mono (by decide)) (pe_fnW (Sx.FnR.frame (ok__law_refused (K := K) M)) (hr.mono (by decide)) rfl (g__law_refused (K := K) M) (kp__law_refused (K := K)) (takes_of rfl rfl rfl rfl) (pa_cons (pv 0) (pa_cons (pe_lst (pa_cons pe_int (pa_cons pe_int pa_nil))) pa_nil))) (pe_tup (pa_cons pe_str (pa_cons pe_int pa_nil))))))) (pss_one (ps_ret pe_bl)) pss_nil) (pss_cons (ps_if (PW.pt (pw_or (pt_neE (n := 1) (et_none (K := K) M) (hr.mono (by decide)) (pe_fnW (Sx.FnR.frame (ok__law_refused (K := K) M)) (hr.mono (by decide)) rfl (g__law_refused (K := K) M) (kp__law_refused (K := K)) (takes_of rfl rfl rfl rfl) (pa_cons (pv 0) (pa_cons (pe_op op_catQ (pe_lst (pa_cons (pv 1) pa_nil)) (pe_slice sl_list (pv 2) (po_some pe_int) po_none)) pa_nil))) (pe_tup (pa_cons pe_str (pa_cons pe_int pa_nil)))) (pw_or1 (pt_neE (n := 1) (et_none (K := K) M) (hr.mono (by decide)) (pe_fnW (Sx.FnR.frame (ok__law_refused (K := K) M)) (hr.mono (by decide)) rfl (g__law_refused (K := K) M) (kp__law_refused (K := K)) (takes_of rfl rfl rfl rfl) (pa_cons (pv 0) (pa_cons (pv 2) pa_nil))) (pe_tup (pa_cons pe_str (pa_cons pe_int pa_nil))))))) (pss_one (ps_ret pe_bl)) pss_nil) (pss_cons (ps_par (i := 10) (j := 11) (by rfl) sc__law_refusals.nd rfl rfl (by decide) rfl rfl (pa_cons (pe_op op_modX (pe_callTy Sx.call_intN (by rfl) (f_int (K := K) M) (by decide +kernel) (pa_cons (pv 3) pa_nil)) (pe_callB Sx.call_lenN (by rfl) (f_len (K := K) M) (by decide +kernel) (pa_cons (pv 2) pa_nil))) (pa_cons (pe_op op_modX (pe_callTy Sx.call_intN (by rfl) (f_int (K := K) M) (by decide +kernel) (pa_cons (pv 4) pa_nil)) (pe_callB Sx.call_lenN (by rfl) (f_len (K := K) M) (by decide +kernel) (pa_cons (pv 2) pa_nil))) pa_nil)) (by rfl)) (pss_cons (ps_set (i := 8) sc__law_refusals.nd rfl (by first | exact Or.inl rfl | exact Or.inr rfl) (pe_callTy call_list_of (by rfl) (f_list (K := K) M) (by decide +kernel) (pa_cons (pv 2) pa_nil))) (pss_cons (ps_asg (pe_ix ix_list (pv 6) (pv 5) (fun _ _ => rfl)) (pg_sub (pv 8) (pv 10) set_list)) (pss_cons (ps_if (PW.pt (pw_or (pt_neE (n := 1) (et_none (K := K) M) (hr.mono (by decide)) (pe_fnW (Sx.FnR.frame (ok__law_refused (K := K) M)) (hr.mono (by decide)) rfl (g__law_refused (K := K) M) (kp__law_refused (K := K)) (takes_of rfl rfl rfl rfl) (pa_cons (pv 0) (pa_cons (pv 8) pa_nil))) (pe_tup (pa_cons pe_str (pa_cons (pv 10) pa_nil)))) (pw_or1 (pt_neE (n := 1) (et_none (K := K) M) (hr.mono (by decide)) (pe_fnW (Sx.FnR.frame (ok__law_refused (K := K) M)) (hr.mono (by decide)) rfl (g__law_refused (K := K) M) (kp__law_refused (K := K)) (takes_of rfl rfl rfl rfl) (pa_cons (pv 0) (pa_cons (pe_callTy call_tuple_of (by rfl) (f_tuple (K := K) M) (by decide +kernel) (pa_cons (pv 8) pa_nil)) pa_nil))) (pe_tup (pa_cons pe_str (pa_cons (pv 10) pa_nil))))))) (pss_one (ps_ret pe_bl)) pss_nil) (pss_cons (ps_if (pt_neE (n := 1) (et_none (K := K) M) (hr.mono (by decide)) (pe_fnW (Sx.FnR.frame (ok__law_refused (K := K) M)) (hr.mono (by decide)) rfl (g__law_refused (K := K) M) (kp__law_refused (K := K)) (takes_of rfl rfl rfl rfl) (pa_cons (pv 0) (pa_cons (pe_op op_catQ (pe_lst (pa_cons pe_int pa_nil)) (pe_slice sl_list (pv 8) (po_some pe_int) po_none)) pa_nil))) (pe_tup (pa_cons pe_str (pa_cons (pv 10) pa_nil)))) (pss_one (ps_ret pe_bl)) pss_nil) (pss_cons (ps_asg (pe_ix ix_list (pv 6) (pe_op op_modX (pe_op op_add (pv 5) pe_int) pe_int) (fun _ _ => rfl)) (pg_sub (pv 8) (pv 11) set_list)) (pss_cons (ps_if (pt_neE (n := 1) (et_none (K := K) M) (hr.mono (by decide)) (pe_fnW (Sx.FnR.frame (ok__law_refused (K := K) M)) (hr.mono (by decide)) rfl (g__law_refused (K := K) M) (kp__law_refused (K := K)) (takes_of rfl rfl rfl rfl) (pa_cons (pv 0) (pa_cons (pv 8) pa_nil))) (pe_tup (pa_cons pe_str (pa_cons (pe_callB (Sx.call_minN rfl) (by rfl) (f_min (K := K) M) (by decide +kernel) (pa_cons (pv 10) (pa_cons (pv 11) pa_nil))) pa_nil)))) (pss_one (ps_ret pe_bl)) pss_nil) (pss_cons (ps_set (i := 9) sc__law_refusals.nd rfl (by first | exact Or.inl rfl | exact Or.inr rfl) (pe_mkW (mk_Series (K := K)) (Sx.FnR.frame (ok_Series___init__ (K := K) M)) (hr.mono (by decide)) rfl (g_Series (K := K) M) (takes_of rfl rfl rfl rfl) (pa_cons (pv 0) (pa_cons (pv 2) pa_nil)))) (pss_one (ps_ret (pe_and (pe_eqE (n := 1) (et_none (K := K) M) (hr.mono (by decide)) (pe_fnW (Sx.FnR.frame (ok__law_further (K := K) M)) (hr.mono (by decide)) rfl (g__law_further (K := K) M) (kp__law_further (K := K)) (takes_of rfl rfl rfl rfl) (pa_cons (pv 9) (pa_cons (pv 8) pa_nil))) (pe_tup (pa_cons pe_str (pa_cons (pe_callB (Sx.call_minN rfl) (by rfl) (f_min (K := K) M) (by decide +kernel) (pa_cons (pv 10) (pa_cons (pv 11) pa_nil))) pa_nil)))) (pe_one (pe_fnW (Sx.FnR.frame (ok__law_more_refusals (K := K) M)) (hr.mono (by decide)) rfl (g__law_more_refusals (K := K) M) (kp__law_more_refusals (K := K)) (takes_of rfl rfl rfl rfl) (pa_cons (pv 9) (pa_cons (pe_ix ix_list (pv 6) (pv 5) (fun _ _ => rfl)) pa_nil))))))))))))))))))))), fun A => (rs_seq (rs_asgN (rn_lst (ra_cons re_str (ra_cons re_bl (ra_cons re_non (ra_cons (re_frz (rn_lst (ra_cons re_int ra_nil))) (ra_cons (re_tup ra_nil) (ra_cons re_str (ra_cons re_dic ra_nil))))))))) (rs_seq (rs_if (rt_test (re_op rr_gt re_var re_int)) (rs_setV re_int (re_make c_Ratio (ra_cons re_int (ra_cons re_var ra_nil)))) rs_skip) (rs_seq (rs_for (ri_seq (re_frz (rn_lst (ra_cons re_str (ra_cons re_non (ra_cons re_int (ra_cons re_dic (ra_cons (re_frz (rn_lst ra_nil)) (ra_cons (re_tup ra_nil) ra_nil))))))))) rg_name (rs_if (rt_test (re_eqA (re_call (ra_cons re_var (ra_cons re_var ra_nil))) (re_tup (ra_cons re_str (ra_cons (re_un r1_neg re_int) ra_nil))))) (rs_ret re_bl) rs_skip)) (rs_seq (rs_if (rt_or (rt_test (re_eqA (re_call (ra_cons re_var (ra_cons (re_frz (rn_rep (rn_lst (ra_cons re_int ra_nil)) re_int)) ra_nil))) (re_tup (ra_cons re_str (ra_cons re_int ra_nil))))) (rt_test (re_eqA (re_call (ra_cons re_var (ra_cons (re_frz (rn_rep (rn_lst (ra_cons re_int ra_nil)) re_int)) ra_nil))) (re_tup (ra_cons re_str (ra_cons (re_un r1_neg re_int) ra_nil)))))) (rs_ret re_bl) rs_skip) (rs_seq (rs_if (rt_or (rt_test (re_eqA (re_call (ra_cons re_var (ra_cons (re_frz (rn_rep (rn_lst (ra_cons re_str ra_nil)) re_int)) ra_nil))) (re_tup (ra_cons re_str (ra_cons (re_un r1_neg re_int) ra_nil))))) (rt_test (re_eqA (re_call (ra_cons re_var (ra_cons (re_frz (rn_lst (ra_cons re_int (ra_cons re_int ra_nil)))) ra_nil))) (re_tup (ra_cons re_str (ra_cons re_int ra_nil)))))) (rs_ret re_bl) rs_skip) (rs_seq (rs_if (rt_or (rt_test (re_eqA (re_call (ra_cons re_var (ra_cons (re_frz (rn_op rrn_cat (re_frz (rn_lst (ra_cons re_var ra_nil))) (re_frz (rn_slL re_var (ro_some re_int) ro_none)))) ra_nil))) (re_tup (ra_cons re_str (ra_cons re_int ra_nil))))) (rt_test (re_eqA (re_call (ra_cons re_var (ra_cons re_var ra_nil))) (re_tup (ra_cons re_str (ra_cons re_int ra_nil)))))) (rs_ret re_bl) rs_skip) (rs_seq (rs_par (ra_cons (re_op rr_mod (re_CB rc_int (ra_cons re_var ra_nil)) (re_CB rc_len (ra_cons re_var ra_nil))) (ra_cons (re_op rr_mod (re_CB rc_int (ra_cons re_var ra_nil)) (re_CB rc_len (ra_cons re_var ra_nil))) ra_nil))) (rs_seq (rs_asgN (rn_CB rcn_list (ra_cons re_var ra_nil))) (rs_seq (rs_setV re_var (re_idxV re_var)) (rs_seq (rs_if (rt_or (rt_test (re_eqA (re_callB (rab_cons re_var rab_last)) (re_tup (ra_cons re_str (ra_cons re_var ra_nil))))) (rt_test (re_eqA (re_call (ra_cons re_var (ra_cons re_tupV ra_nil))) (re_tup (ra_cons re_str (ra_cons re_var ra_nil)))))) (rs_ret re_bl) rs_skip) (rs_seq (rs_if (rt_test (re_eqA (re_call (ra_cons re_var (ra_cons (re_frz (rn_op rrn_cat (re_frz (rn_lst (ra_cons re_int ra_nil))) (re_frz (rn_slV (ro_some re_int) ro_none)))) ra_nil))) (re_tup (ra_cons re_str (ra_cons re_var ra_nil))))) (rs_ret re_bl) rs_skip) (rs_seq (rs_setV re_var (re_idxV (re_op rr_mod (re_op rr_add re_var re_int) re_int))) (rs_seq (rs_if (rt_test (re_eqA (re_callB (rab_cons re_var rab_last)) (re_tup (ra_cons re_str (ra_cons (re_CB rc_min (ra_cons re_var (ra_cons re_var ra_nil))) ra_nil))))) (rs_ret re_bl) rs_skip) (rs_seq (rs_asg (re_make c_Series (ra_cons re_var (ra_cons re_var ra_nil)))) (rs_ret (re_and (re_eqA (re_callB (rab_cons re_var rab_last)) (re_tup (ra_cons re_str (ra_cons (re_CB rc_min (ra_cons re_var (ra_cons re_var ra_nil))) ra_nil)))) (re_call (ra_cons re_var (ra_cons (re_idxV re_var) ra_nil)))))))))))))))))))⟩
theorem ok__law_refusals (M : Mg K mg) : Fn w K mg base 42 (He.ga K "_law_refusals") (spM K m__law_refusals) := fn_M def__law_refusals sc__law_refusals (fun _ _ _ _ _ _ us hl => match us, hl with | [_, _, _, _, _, _], _ => rfl) (bd__law_refusals M)
def b__law_is_integer : M Fl := (mRet (mAndV (mIsi (.b "int") (mVar 0)) (mNotV (mIsi (.b "bool") (mVar 0)))))
theorem sc__law_is_integer : FnScope ["_law_told"] ["_law_told"] (defScope s__law_is_integer) := ⟨rfl, rfl, rfl, by decide +kernel, rfl, by decide +kernel, by decide +kernel⟩
def m__law_is_integer : MFn := runM 1 1 b__law_is_integer
theorem bd__law_is_integer (M : Mg K mg) : Body K PP w mg base d__law_is_integer.qual (defScope s__law_is_integer) (He.fAd K d__law_is_integer.at_) ["_law_told"] 3 (defBody s__law_is_integer) b__law_is_integer := fun cdv A outer s H E hr => ⟨_, (pss_one (ps_ret (pe_and (pe_callB call_isi (by rfl) (f_isinstance (K := K) M) (by decide +kernel) (pa_cons (pv 0) (pa_cons (pe_bltn (v := .ty "int") (by rfl) (f_int (K := K) M) (by decide +kernel) rfl) pa_nil))) (pe_one (pe_not (pe_callB call_isi (by rfl) (f_isinstance (K := K) M) (by decide +kernel) (pa_cons (pv 0) (pa_cons (pe_bltn (v := .ty "bool") (by rfl) (f_bool (K := K) M) (by decide +kernel) rfl) pa_nil)))))))), fun A => (rs_ret (re_and (re_isiB (by decide) re_var) (re_not (re_isiB (by decide) re_var))))⟩
theorem ok__law_is_integer (M : Mg K mg) : Fn w K mg base 4 (He.ga K "_law_is_integer") (spM K m__law_is_integer) := fn_M def__law_is_integer sc__law_is_integer (fun _ _ _ _ _ _ us hl => match us, hl with | [_], _ => rfl) (bd__law_is_integer M)
def lc__law_gcd_0 : M Bool := (mB (mBin dNe (mVar 1) (mC (.int 0))))
def lb__law_gcd_1 : M Fl := (mPar 0 1 (mCons (mVar 1) (mCons (mBin dMod (mCB dInt (mCons (mVar 0) mNil)) (mVar 1)) mNil)))
def b__law_gcd : M Fl := (mSeq (mWhile lc__law_gcd_0 lb__law_gcd_1) (mRet (mCB dAbs (mCons (mVar 0) mNil))))
theorem sc__law_gcd : FnScope ["_law_one", "_law_other"] ["_law_one", "_law_other"] (defScope s__law_gcd) := ⟨rfl, rfl, rfl, by decide +kernel, rfl, by decide +kernel, by decide +kernel⟩
def m__law_gcd : MFn := runM 2 2 b__law_gcd
theorem bd__law_gcd (M : Mg K mg) : Body K PP w mg base d__law_gcd.qual (defScope s__law_gcd) (He.fAd K d__law_gcd.at_) ["_law_one", "_law_other"] 3 (defBody s__law_gcd) b__law_gcd := fun cdv A outer s H E hr => ⟨_, (pss_cons (ps_while (passes_of rfl) (pt_cmpR op_ne (pv 1) pe_int (nomark _)) (pss_one (ps_par (i := 0) (j := 1) (by rfl) sc__law_gcd.nd rfl rfl (by decide) rfl rfl (pa_cons (pv 1) (pa_cons (pe_op op_modX (pe_callTy Sx.call_intN (by rfl) (f_int (K := K) M) (by decide +kernel) (pa_cons (pv 0) pa_nil)) (pv 1)) pa_nil)) (by rfl)))) (pss_one (ps_ret (pe_callB Sx.call_absN (by rfl) (f_abs (K := K) M) (by decide +kernel) (pa_cons (pv 0) pa_nil))))), fun A => (rs_seq (rs_while (rt_test (re_op rr_ne re_var re_int)) (rs_par (ra_cons re_var (ra_cons (re_op rr_mod (re_CB rc_int (ra_cons re_var ra_nil)) re_var) ra_nil)))) (rs_ret (re_CB rc_abs (ra_cons re_var ra_nil))))⟩
theorem ok__law_gcd (M : Mg K mg) : Fn w K mg base 4 (He.ga K "_law_gcd") (spM K m__law_gcd) := fn_M def__law_gcd sc__law_gcd (fun _ _ _ _ _ _ us hl => match us, hl with | [_, _], _ => rfl) (bd__law_gcd M)
def b__law_read : M Fl := (mSeq (mIfS (mB (mBin dGt (mVar 0) (mC (.int 0)))) (mSeq (mIfS (mAnd (mB (mCall m__law_is_integer (mCons (mVar 1) mNil))) (mB (mChain dLe dLt (mC (.int 0)) (mVar 1) (mVar 0)))) (mRet (mTup (mCons (mVar 1) (mCons (mC (.int 1)) mNil)))) mSkip) (mRet (mC .non))) mSkip) (mSeq (mIfS (mOr (mNot (mB (mIsi (.c "Ratio") (mVar 1)))) (mOr (mNot (mB (mCall m__law_is_integer (mCons (mFld "top" (mVar 1)) mNil)))) (mNot (mB (mCall m__law_is_integer (mCons (mFld "bottom" (mVar 1)) mNil)))))) (mRet (mC .non)) mSkip) (mSeq (mIfS (mOr (mB (mBin dLt (mFld "bottom" (mVar 1)) (mC (.int 1)))) (mB (mBin dNe (mCall m__law_gcd (mCons (mFld "top" (mVar 1)) (mCons (mFld "bottom" (mVar 1)) mNil))) (mC (.int 1))))) (mRet (mC .non)) mSkip) (mRet (mTup (mCons (mFld "top" (mVar 1)) (mCons (mFld "bottom" (mVar 1)) mNil)))))))
theorem sc__law_read : FnScope ["_law_prime_here", "_law_told"] ["_law_prime_here", "_law_told"] (defScope s__law_read) := ⟨rfl, rfl, rfl, by decide +kernel, rfl, by decide +kernel, by decide +kernel⟩
def m__law_read : MFn := runM 2 2 b__law_read
theorem bd__law_read (M : Mg K mg) : Body K PP w mg base d__law_read.qual (defScope s__law_read) (He.fAd K d__law_read.at_) ["_law_prime_here", "_law_told"] 4 (defBody s__law_read) b__law_read := fun cdv A outer s H E hr => ⟨_, (pss_cons (ps_if (pt_cmpR op_gt (pv 0) pe_int (nomark _)) (pss_cons (ps_if (PW.pt (pw_and (pt_val (pe_fnW (Sx.FnR.frame (ok__law_is_integer (K := K) M)) (hr.mono (by decide)) rfl (g__law_is_integer (K := K) M) (kp__law_is_integer (K := K)) (takes_of rfl rfl rfl rfl) (pa_cons (pv 1) pa_nil))) (pw_and1 (pt_chain op_le op_lt pe_int (pv 1) (pv 0))))) (pss_one (ps_ret (pe_tup (pa_cons (pv 1) (pa_cons pe_int pa_nil))))) pss_nil) (pss_one (ps_ret pe_non))) pss_nil) (pss_cons (ps_if (PW.pt (pw_or (pt_not (pt_val (pe_callB call_isi (by rfl) (f_isinstance (K := K) M) (by decide +kernel) (pa_cons (pv 1) (pa_cons (pe_glob (v := .ref (He.ga _ "Ratio")) rfl (g_Ratio (K := K) M) rfl) pa_nil))))) (pw_or (pt_not (pt_val (pe_fnW (Sx.FnR.frame (ok__law_is_integer (K := K) M)) (hr.mono (by decide)) rfl (g__law_is_integer (K := K) M) (kp__law_is_integer (K := K)) (takes_of rfl rfl rfl rfl) (pa_cons (pe_fld (pv 1) rfl) pa_nil)))) (pw_or1 (pt_not (pt_val (pe_fnW (Sx.FnR.frame (ok__law_is_integer (K := K) M)) (hr.mono (by decide)) rfl (g__law_is_integer (K := K) M) (kp__law_is_integer (K := K)) (takes_of rfl rfl rfl rfl) (pa_cons (pe_fld (pv 1) rfl) pa_nil)))))))) (pss_one (ps_ret pe_non)) pss_nil) (pss_cons (ps_if (PW.pt (pw_or (pt_cmpR op_lt (pe_fld (pv 1) rfl) pe_int (nomark _)) (pw_or1 (pt_cmpR op_ne (pe_fnW (Sx.FnR.frame (ok__law_gcd (K := K) M)) (hr.mono (by decide)) rfl (g__law_gcd (K := K) M) (kp__law_gcd (K := K)) (takes_of rfl rfl rfl rfl) (pa_cons (pe_fld (pv 1) rfl) (pa_cons (pe_fld (pv 1) rfl) pa_nil))) pe_int (nomark _))))) (pss_one (ps_ret pe_non)) pss_nil) (pss_one (ps_ret (pe_tup (pa_cons (pe_fld (pv 1) rfl) (pa_cons (pe_fld (pv 1) rfl) pa_nil)))))))), fun A => (rs_seq (rs_if (rt_test (re_op rr_gt re_var re_int)) (rs_seq (rs_if (rt_and (rt_B (re_call (ra_cons re_var ra_nil))) (rt_test (re_chain rr_le rr_lt re_int re_var re_var))) (rs_ret (re_tup (ra_cons re_var (ra_cons re_int ra_nil)))) rs_skip) (rs_ret re_non)) rs_skip) (rs_seq (rs_if (rt_or (rt_not (rt_B (re_isiC c_Ratio re_var))) (rt_or (rt_not (rt_B (re_call (ra_cons (re_fld re_var) ra_nil)))) (rt_not (rt_B (re_call (ra_cons (re_fld re_var) ra_nil)))))) (rs_ret re_non) rs_skip) (rs_seq (rs_if (rt_or (rt_test (re_op rr_lt (re_fld re_var) re_int)) (rt_test (re_op rr_ne (re_call (ra_cons (re_fld re_var) (ra_cons (re_fld re_var) ra_nil))) re_int))) (rs_ret re_non) rs_skip) (rs_ret (re_tup (ra_cons (re_fld re_var) (ra_cons (re_fld re_var) ra_nil)))))))⟩
theorem ok__law_read (M : Mg K mg) : Fn w K mg base 5 (He.ga K "_law_read") (spM K m__law_read) := fn_M def__law_read sc__law_read (fun _ _ _ _ _ _ us hl => match us, hl with | [_, _], _ => rfl) (bd__law_read M)
def le__law_row_0 : M D := (mCall m__law_read (mCons (mVar 0) (mCons (mVar 3) mNil)))
def b__law_row : M Fl := (mSeq (mIfS (mNot (mB (mIsi (.b "tuple") (mVar 1)))) (mRet (mC .non)) mSkip) (mSeq (mAsg 2 (mFrz (mLc 3 (mItQ (mVar 1)) (ret true) le__law_row_0))) (mSeq (mIfS (mB (mBin dInN (mC .non) (mVar 2))) (mRet (mC .non)) mSkip) (mRet (mVar 2)))))
theorem sc__law_row : FnScope ["_law_prime_here", "_law_told", "_law_found", "_law_number_here"] ["_law_prime_here", "_law_told"] (defScope s__law_row) := ⟨rfl, rfl, rfl, by decide +kernel, rfl, by decide +kernel, by decide +kernel⟩
def m__law_row : MFn := runM 4 2 b__law_row
theorem bd__law_row (M : Mg K mg) : Body K PP w mg base d__law_row.qual (defScope s__law_row) (He.fAd K d__law_row.at_) ["_law_prime_here", "_law_told", "_law_found", "_law_number_here"] 5 (defBody s__law_row) b__law_row := fun cdv A outer s H E hr => ⟨_, (pss_cons (ps_if (pt_not (pt_val (pe_callB call_isi (by rfl) (f_isinstance (K := K) M) (by decide +kernel) (pa_cons (pv 1) (pa_cons (pe_bltn (v := .ty "tuple") (by rfl) (f_tuple (K := K) M) (by decide +kernel) rfl) pa_nil))))) (pss_one (ps_ret pe_non)) pss_nil) (pss_cons (ps_setLc (i := 2) (own := [("_law_number_here", 3)]) (g := gName 3) rfl sc__law_row.nd rfl rfl (sw_true rfl rfl rfl (by decide +kernel)) (pi_seq (pv 1)) (blkOk_by (own := [("_law_number_here", 3)]) (N := ["_law_prime_here", "_law_told", "_law_found", "_law_number_here"]) (sc := defScope s__law_row) (by decide +kernel)) (fun _ _ _ _ _ => (pg_name (i := 3) sc__law_row.nd rfl (by first | exact Or.inl rfl | exact Or.inr rfl))) (fun _ _ _ _ _ => pts_nil) (fun _ _ _ _ _ => (pe_fnW (Sx.FnR.frame (ok__law_read (K := K) M)) (hr.mono (by decide)) rfl (g__law_read (K := K) M) (kp__law_read (K := K)) takes0 (pa_cons (pv 0) (pa_cons (pv 3) pa_nil))))) (pss_cons (ps_if (pt_cmpR (op_inD (Sx.room_un hr)) pe_non (pv 2) (by rfl)) (pss_one (ps_ret pe_non)) pss_nil) (pss_one (ps_ret (pv 2)))))), fun A => (rs_seq (rs_if (rt_not (rt_B (re_isiB (by decide) re_var))) (rs_ret re_non) rs_skip) (rs_seq (rs_asg (re_frz (rn_lc (ri_seq re_var) rt_yes (re_call (ra_cons re_var (ra_cons re_var ra_nil)))))) (rs_seq (rs_if (rt_test (re_op rr_inN re_non re_var)) (rs_ret re_non) rs_skip) (rs_ret re_var))))⟩
theorem ok__law_row (M : Mg K mg) : Fn w K mg base 6 (He.ga K "_law_row") (spM K m__law_row) := fn_M def__law_row sc__law_row (fun _ _ _ _ _ _ us hl => match us, hl with | [_, _], _ => rfl) (bd__law_row M)
def lc_is_prime_0 : M Bool := (mB (mBin dLe (mBin dMul (mVar 1) (mVar 1)) (mVar 0)))
def lb_is_prime_1 : M Fl := (mSeq (mIfS (mB (mBin dEq (mBin dMod (mVar 0) (mVar 1)) (mC (.int 0)))) (mRet (mC (.bl false))) mSkip) (mAug dAdd 1 (mC (.int 1))))
def b_is_prime : M Fl := (mSeq (mIfS (mB (mBin dLt (mVar 0) (mC (.int 2)))) (mRet (mC (.bl false))) mSkip) (mSeq (mAsg 1 (mC (.int 2))) (mSeq (mWhile lc_is_prime_0 lb_is_prime_1) (mRet (mC (.bl true))))))
theorem sc_is_prime : FnScope ["value", "divisor"] ["value"] (defScope s_is_prime) := ⟨rfl, rfl, rfl, by decide +kernel, rfl, by decide +kernel, by decide +kernel⟩
def m_is_prime : MFn := runM 2 1 b_is_prime
theorem bd_is_prime (M : Mg K mg) : Body K PP w mg base d_is_prime.qual (defScope s_is_prime) (He.fAd K d_is_prime.at_) ["value", "divisor"] 3 (defBody s_is_prime) b_is_prime := fun cdv A outer s H E hr => ⟨_, (pss_cons (ps_if (pt_cmpR op_lt (pv 0) pe_int (nomark _)) (pss_one (ps_ret pe_bl)) pss_nil) (pss_cons (ps_set (i := 1) sc_is_prime.nd rfl (by first | exact Or.inl rfl | exact Or.inr rfl) pe_int) (pss_cons (ps_while (passes_of rfl) (pt_cmpR op_le (pe_op op_mulX (pv 1) (pv 1)) (pv 0) (nomark _)) (pss_cons (ps_if (pt_cmpR op_eq (pe_op op_modX (pv 0) (pv 1)) pe_int (nomark _)) (pss_one (ps_ret pe_bl)) pss_nil) (pss_one (ps_aug (i := 1) sc_is_prime.nd rfl (by first | exact Or.inl rfl | exact Or.inr rfl) pe_int ip_add)))) (pss_one (ps_ret pe_bl))))), fun A => (rs_seq (rs_if (rt_test (re_op rr_lt re_var re_int)) (rs_ret re_bl) rs_skip) (rs_seq (rs_asg re_int) (rs_seq (rs_while (rt_test (re_op rr_le (re_op rr_mul re_var re_var) re_var)) (rs_seq (rs_if (rt_test (re_op rr_eq (re_op rr_mod re_var re_var) re_int)) (rs_ret re_bl) rs_skip) (rs_aug rr_ipI re_int))) (rs_ret re_bl))))⟩
theorem ok_is_prime (M : Mg K mg) : Fn w K mg base 4 (He.ga K "is_prime") (spM K m_is_prime) := fn_M def_is_prime sc_is_prime (fun _ _ _ _ _ _ us hl => match us, hl with | [_], _ => rfl) (bd_is_prime M)
def b_Field___init__ : M Fl := (mSeq (mIfS (mNot (mB (mCall m_is_integer (mCons (mVar 1) mNil)))) (mRaise0 "NoField") mSkip) (mSeq (mIfS (mAnd (mB (mBin dNe (mVar 1) (mC (.int 0)))) (mOr (mB (mBin dGt (mVar 1) (mC (.int 9973)))) (mNot (mB (mCall m_is_prime (mCons (mVar 1) mNil)))))) (mRaise0 "NoField") mSkip) (mSetF "Field" 0 "prime" (mVar 1))))
theorem sc_Field___init__ : FnScope ["self", "prime"] ["self", "prime"] (defScope s_Field___init__) := ⟨rfl, rfl, rfl, by decide +kernel, rfl, by decide +kernel, by decide +kernel⟩
def m_Field___init__ : MFi := runI "Field" 2 2 b_Field___init__
theorem bd_Field___init__ (M : Mg K mg) : Body K PP w mg base d_Field___init__.qual (defScope s_Field___init__) (He.fAd K d_Field___init__.at_) ["self", "prime"] 4 (defBody s_Field___init__) b_Field___init__ := fun cdv A outer s H E hr => ⟨_, (pss_cons (ps_if (pt_not (pt_val (pe_fnW (Sx.FnR.frame (ok_is_integer (K := K) M)) (hr.mono (by decide)) rfl (g_is_integer (K := K) M) (kp_is_integer (K := K)) (takes_of rfl rfl rfl rfl) (pa_cons (pv 1) pa_nil)))) (pss_one (ps_raise rfl (takes_of rfl rfl rfl rfl) (pmk_none (oex_NoField (K := K)) (noini_NoField (K := K)) rfl (g_NoField (K := K) M)))) pss_nil) (pss_cons (ps_if (PW.pt (pw_and (pt_cmpR op_ne (pv 1) pe_int (nomark _)) (pw_and1 (PW.pt (pw_or (pt_cmpR op_gt (pv 1) (pe_glob (v := .int 9973) rfl (g_MOST_PRIME (K := K) M).choose_spec ⟨_, rfl⟩) (nomark _)) (pw_or1 (pt_not (pt_val (pe_fnW (Sx.FnR.frame (ok_is_prime (K := K) M)) (hr.mono (by decide)) rfl (g_is_prime (K := K) M) (kp_is_prime (K := K)) (takes_of rfl rfl rfl rfl) (pa_cons (pv 1) pa_nil)))))))))) (pss_one (ps_raise rfl (takes_of rfl rfl rfl rfl) (pmk_none (oex_NoField (K := K)) (noini_NoField (K := K)) rfl (g_NoField (K := K) M)))) pss_nil) (pss_one (ps_fld (pv 0) (pv 1) rfl)))), fun A => (rs_seq (rs_if (rt_not (rt_B (re_call (ra_cons re_var ra_nil)))) (rs_raise0 x_NoField) rs_skip) (rs_seq (rs_if (rt_and (rt_test (re_op rr_ne re_var re_int)) (rt_or (rt_test (re_op rr_gt re_var re_int)) (rt_not (rt_B (re_call (ra_cons re_var ra_nil)))))) (rs_raise0 x_NoField) rs_skip) (rs_setF (C := "Field") (i_Field_prime (K := K)).no re_var)))⟩
def m_Field___init___1 : MFi := fun ds => m_Field___init__ (ds ++ [.int 0])
theorem oks_Field___init__ (M : Mg K mg) : Fn w K mg base 5 (He.ma K (He.ga K "Field") "__init__") (spI K "Field" m_Field___init__) ∧ Fn w K mg base 5 (He.ma K (He.ga K "Field") "__init__") (spI K "Field" m_Field___init___1) := fn_I1 def_Field___init__ sc_Field___init__ (by decide) (fun _ _ _ _ _ _ _ us its hl hi => match us, its, hl, hi with | [_, _], [_], _, _ => ⟨_, rfl, rfl⟩) (fun _ _ _ _ _ _ _ us its hl hi => match us, its, hl, hi with | [_], [_], _, _ => ⟨_, rfl, rfl⟩) c_Field (bd_Field___init__ M)
theorem ok_Field___init__ (M : Mg K mg) : Fn w K mg base 5 (He.ma K (He.ga K "Field") "__init__") (spI K "Field" m_Field___init__) := (oks_Field___init__ M).1
theorem ok_Field___init___1 (M : Mg K mg) : Fn w K mg base 5 (He.ma K (He.ga K "Field") "__init__") (spI K "Field" m_Field___init___1) := (oks_Field___init__ M).2
def b_Field___eq__ : M Fl := (mRet (mAndV (mIsi (.c "Field") (mVar 1)) (mBin dEq (mFld "prime" (mVar 0)) (mFld "prime" (mVar 1)))))
theorem sc_Field___eq__ : FnScope ["self", "other"] ["self", "other"] (defScope s_Field___eq__) := ⟨rfl, rfl, rfl, by decide +kernel, rfl, by decide +kernel, by decide +kernel⟩
def m_Field___eq__ : MFn := runM 2 2 b_Field___eq__
theorem bd_Field___eq__ (M : Mg K mg) : Body K PP w mg base d_Field___eq__.qual (defScope s_Field___eq__) (He.fAd K d_Field___eq__.at_) ["self", "other"] 3 (defBody s_Field___eq__) b_Field___eq__ := fun cdv A outer s H E hr => ⟨_, (pss_one (ps_ret (pe_and (pe_callB call_isi (by rfl) (f_isinstance (K := K) M) (by decide +kernel) (pa_cons (pv 1) (pa_cons (pe_glob (v := .ref (He.ga _ "Field")) rfl (g_Field (K := K) M) rfl) pa_nil))) (pe_one (pe_cmpR op_eq (pe_fld (pv 0) rfl) (pe_fld (pv 1) rfl) (nomark _)))))), fun A => (rs_ret (re_and (re_isiC c_Field re_var) (re_op rr_eq (re_fld re_var) (re_fld re_var))))⟩
theorem ok_Field___eq__ (M : Mg K mg) : Fn w K mg base 4 (He.ma K (He.ga K "Field") "__eq__") (spM K m_Field___eq__) := fn_M def_Field___eq__ sc_Field___eq__ (fun _ _ _ _ _ _ us hl => match us, hl with | [_, _], _ => rfl) (bd_Field___eq__ M)
def T_Field : Tab := [("Field", m_Field___eq__)]
theorem et_Field (M : Mg K mg) : EqT PP w K mg base 4 T_Field := ⟨fun p h => by
  simp only [T_Field, List.mem_cons, List.not_mem_nil, or_false] at h
  rcases h with rfl
  · exact ⟨_, Sx.m_Field___eq__ (K := K), Sx.FnR.frame ((ok_Field___eq__ (K := K) M).mono (by decide)), nee_Field (K := K)⟩⟩
def b__law_told_series : M Fl := (mSeq (mIfS (mOr (mNot (mB (mIsi (.c "Series") (mVar 1)))) (mNot (mB (mBin (dEqA false T_Field 0) (mFld "field" (mVar 1)) (mMake "Field" m_Field___init__ (mCons (mVar 0) mNil)))))) (mRet (mC .non)) mSkip) (mSeq (mAsg 2 (mCall m__law_row (mCons (mVar 0) (mCons (mFld "coefficients" (mVar 1)) mNil)))) (mSeq (mIfS (mOr (mB (mBin dIsN (mVar 2) (mC .non))) (mOr (mB (mBin (dEqA false T_none 2) (mVar 2) (mFrz (mLst mNil)))) (mOr (mB (mBin dEq (mBin dIx (mBin dIx (mVar 2) (mC (.int 0))) (mC (.int 0))) (mC (.int 0)))) (mNot (mB (mCall m__law_is_integer (mCons (mFld "known" (mVar 1)) mNil))))))) (mRet (mC .non)) mSkip) (mSeq (mIfS (mOr (mB (mBin dNe (mFld "known" (mVar 1)) (mCB dLen (mCons (mVar 2) mNil)))) (mB (mBin dNe (mCB (dLenA "Series" m_Series___len__) (mCons (mVar 1) mNil)) (mCB dLen (mCons (mVar 2) mNil))))) (mRet (mC .non)) mSkip) (mRet (mVar 2))))))
theorem sc__law_told_series : FnScope ["_law_prime_here", "_law_told", "_law_row_here"] ["_law_prime_here", "_law_told"] (defScope s__law_told_series) := ⟨rfl, rfl, rfl, by decide +kernel, rfl, by decide +kernel, by decide +kernel⟩
def m__law_told_series : MFn := runM 3 2 b__law_told_series
theorem bd__law_told_series (M : Mg K mg) : Body K PP w mg base d__law_told_series.qual (defScope s__law_told_series) (He.fAd K d__law_told_series.at_) ["_law_prime_here", "_law_told", "_law_row_here"] 6 (defBody s__law_told_series) b__law_told_series := fun cdv A outer s H E hr => ⟨_, (pss_cons (ps_if (PW.pt (pw_or (pt_not (pt_val (pe_callB call_isi (by rfl) (f_isinstance (K := K) M) (by decide +kernel) (pa_cons (pv 1) (pa_cons (pe_glob (v := .ref (He.ga _ "Series")) rfl (g_Series (K := K) M) rfl) pa_nil))))) (pw_or1 (pt_not (pt_eqE (n := 0) (et_Field (K := K) M) (hr.mono (by decide)) (pe_fld (pv 1) rfl) (pe_mkW (mk_Field (K := K)) (Sx.FnR.frame (ok_Field___init__ (K := K) M)) (hr.mono (by decide)) rfl (g_Field (K := K) M) (takes_of rfl rfl rfl rfl) (pa_cons (pv 0) pa_nil))))))) (pss_one (ps_ret pe_non)) pss_nil) (pss_cons (ps_set (i := 2) sc__law_told_series.nd rfl (by first | exact Or.inl rfl | exact Or.inr rfl) (pe_fnW (Sx.FnR.frame (ok__law_row (K := K) M)) (hr.mono (by decide)) rfl (g__law_row (K := K) M) (kp__law_row (K := K)) (takes_of rfl rfl rfl rfl) (pa_cons (pv 0) (pa_cons (pe_fld (pv 1) rfl) pa_nil)))) (pss_cons (ps_if (PW.pt (pw_or (pt_cmpR op_isN (pv 2) pe_non (nomark _)) (pw_or (pt_eqE (n := 2) (et_none (K := K) M) (hr.mono (by decide)) (pv 2) (pe_lst pa_nil)) (pw_or (pt_cmpR op_eq (pe_ix ix_seq (pe_ix ix_seq (pv 2) pe_int (fun _ _ => rfl)) pe_int (fun _ _ => rfl)) pe_int (nomark _)) (pw_or1 (pt_not (pt_val (pe_fnW (Sx.FnR.frame (ok__law_is_integer (K := K) M)) (hr.mono (by decide)) rfl (g__law_is_integer (K := K) M) (kp__law_is_integer (K := K)) (takes_of rfl rfl rfl rfl) (pa_cons (pe_fld (pv 1) rfl) pa_nil))))))))) (pss_one (ps_ret pe_non)) pss_nil) (pss_cons (ps_if (PW.pt (pw_or (pt_cmpR op_ne (pe_fld (pv 1) rfl) (pe_callB Sx.call_lenN (by rfl) (f_len (K := K) M) (by decide +kernel) (pa_cons (pv 2) pa_nil)) (nomark _)) (pw_or1 (pt_cmpR op_ne (pe_callB (call_lenA (Sx.m_Series___len__ (K := K)) (Sx.FnR.frame (ok_Series___len__ (K := K) M)) (hr.mono (by decide))) (by rfl) (f_len (K := K) M) (by decide +kernel) (pa_cons (pv 1) pa_nil)) (pe_callB Sx.call_lenN (by rfl) (f_len (K := K) M) (by decide +kernel) (pa_cons (pv 2) pa_nil)) (nomark _))))) (pss_one (ps_ret pe_non)) pss_nil) (pss_one (ps_ret (pv 2))))))), fun A => (rs_seq (rs_if (rt_or (rt_not (rt_B (re_isiC c_Series re_var))) (rt_not (rt_test (re_eqA (re_fld re_var) (re_make c_Field (ra_cons re_var ra_nil)))))) (rs_ret re_non) rs_skip) (rs_seq (rs_asg (re_call (ra_cons re_var (ra_cons (re_fld re_var) ra_nil)))) (rs_seq (rs_if (rt_or (rt_test (re_op rr_isN re_var re_non)) (rt_or (rt_test (re_eqA re_var (re_frz (rn_lst ra_nil)))) (rt_or (rt_test (re_op rr_eq (re_op rr_ix (re_op rr_ix re_var re_int) re_int) re_int)) (rt_not (rt_B (re_call (ra_cons (re_fld re_var) ra_nil))))))) (rs_ret re_non) rs_skip) (rs_seq (rs_if (rt_or (rt_test (re_op rr_ne (re_fld re_var) (re_CB rc_len (ra_cons re_var ra_nil)))) (rt_test (re_op rr_ne (re_CB rc_lenA (ra_cons re_var ra_nil)) (re_CB rc_len (ra_cons re_var ra_nil))))) (rs_ret re_non) rs_skip) (rs_ret re_var)))))⟩
theorem ok__law_told_series (M : Mg K mg) : Fn w K mg base 7 (He.ga K "_law_told_series") (spM K m__law_told_series) := fn_M def__law_told_series sc__law_told_series (fun _ _ _ _ _ _ us hl => match us, hl with | [_, _], _ => rfl) (bd__law_told_series M)
end
end Mi

namespace Mi
open PySem PySem.Spec PyProof.Rows L2 Sx
noncomputable section
variable {w : World} {K : PySem.W.Frag} [Sy K] {mg : Str → Option Value} {base : Heap}

def b_Series___eq__ : M Fl := (mRet (mAndV (mIsi (.c "Series") (mVar 1)) (mAndV (mBin (dEqA false T_Field 0) (mFld "field" (mVar 0)) (mFld "field" (mVar 1))) (mBin (dEqA false T_Ratio 1) (mFld "coefficients" (mVar 0)) (mFld "coefficients" (mVar 1))))))
theorem sc_Series___eq__ : FnScope ["self", "other"] ["self", "other"] (defScope s_Series___eq__) := ⟨rfl, rfl, rfl, by decide +kernel, rfl, by decide +kernel, by decide +kernel⟩
def m_Series___eq__ : MFn := runM 2 2 b_Series___eq__
theorem bd_Series___eq__ (M : Mg K mg) : Body K PP w mg base d_Series___eq__.qual (defScope s_Series___eq__) (He.fAd K d_Series___eq__.at_) ["self", "other"] 8 (defBody s_Series___eq__) b_Series___eq__ := fun cdv A outer s H E hr => ⟨_, (pss_one (ps_ret (pe_and (pe_callB call_isi (by rfl) (f_isinstance (K := K) M) (by decide +kernel) (pa_cons (pv 1) (pa_cons (pe_glob (v := .ref (He.ga _ "Series")) rfl (g_Series (K := K) M) rfl) pa_nil))) (pe_and (pe_eqE (n := 0) (et_Field (K := K) M) (hr.mono (by decide)) (pe_fld (pv 0) rfl) (pe_fld (pv 1) rfl)) (pe_one (pe_eqE (n := 1) (et_Ratio (K := K) M) (hr.mono (by decide)) (pe_fld (pv 0) rfl) (pe_fld (pv 1) rfl))))))), fun A => (rs_ret (re_and (re_isiC c_Series re_var) (re_and (re_eqA (re_fld re_var) (re_fld re_var)) (re_eqA (re_fld re_var) (re_fld re_var)))))⟩
theorem ok_Series___eq__ (M : Mg K mg) : Fn w K mg base 9 (He.ma K (He.ga K "Series") "__eq__") (spM K m_Series___eq__) := fn_M def_Series___eq__ sc_Series___eq__ (fun _ _ _ _ _ _ us hl => match us, hl with | [_, _], _ => rfl) (bd_Series___eq__ M)
def T_Series : Tab := [("Series", m_Series___eq__)]
theorem et_Series (M : Mg K mg) : EqT PP w K mg base 9 T_Series := ⟨fun p h => by
  simp only [T_Series, List.mem_cons, List.not_mem_nil, or_false] at h
  rcases h with rfl
  · exact ⟨_, Sx.m_Series___eq__ (K := K), Sx.FnR.frame ((ok_Series___eq__ (K := K) M).mono (by decide)), nee_Series (K := K)⟩⟩
def b__law_given : M Fl := (mSeq (mIfS (mB (mBin dEq (mBin dIx (mVar 0) (mC (.int 1))) (mC (.int 1)))) (mRet (mBin dIx (mVar 0) (mC (.int 0)))) mSkip) (mRet (mMake "Ratio" m_Ratio___init__ (mCons (mBin dIx (mVar 0) (mC (.int 0))) (mCons (mBin dIx (mVar 0) (mC (.int 1))) mNil)))))
theorem sc__law_given : FnScope ["_law_pair_here"] ["_law_pair_here"] (defScope s__law_given) := ⟨rfl, rfl, rfl, by decide +kernel, rfl, by decide +kernel, by decide +kernel⟩
def m__law_given : MFn := runM 1 1 b__law_given
theorem bd__law_given (M : Mg K mg) : Body K PP w mg base d__law_given.qual (defScope s__law_given) (He.fAd K d__law_given.at_) ["_law_pair_here"] 34 (defBody s__law_given) b__law_given := fun cdv A outer s H E hr => ⟨_, (pss_cons (ps_if (pt_cmpR op_eq (pe_ix ix_seq (pv 0) pe_int (fun _ _ => rfl)) pe_int (nomark _)) (pss_one (ps_ret (pe_ix ix_seq (pv 0) pe_int (fun _ _ => rfl)))) pss_nil) (pss_one (ps_ret (pe_mkW (mk_Ratio (K := K)) (Sx.FnR.frame (ok_Ratio___init__ (K := K) M)) (hr.mono (by decide)) rfl (g_Ratio (K := K) M) (takes_of rfl rfl rfl rfl) (pa_cons (pe_ix ix_seq (pv 0) pe_int (fun _ _ => rfl)) (pa_cons (pe_ix ix_seq (pv 0) pe_int (fun _ _ => rfl)) pa_nil)))))), fun A => (rs_seq (rs_if (rt_test (re_op rr_eq (re_op rr_ix re_var re_int) re_int)) (rs_ret (re_op rr_ix re_var re_int)) rs_skip) (rs_ret (re_make c_Ratio (ra_cons (re_op rr_ix re_var re_int) (ra_cons (re_op rr_ix re_var re_int) ra_nil)))))⟩
theorem ok__law_given (M : Mg K mg) : Fn w K mg base 35 (He.ga K "_law_given") (spM K m__law_given) := fn_M def__law_given sc__law_given (fun _ _ _ _ _ _ us hl => match us, hl with | [_], _ => rfl) (bd__law_given M)
def b__law_passed : M Fl := (mSeq (mIfS (mB (mBin dEq (mVar 0) (mC (.int 0)))) (mRet (mCall m__law_given (mCons (mVar 1) mNil))) mSkip) (mSeq (mIfS (mB (mBin dEq (mBin dMod (mVar 2) (mC (.int 4))) (mC (.int 3)))) (mSeq (mAsg 3 (mBin dAdd (mC (.int 2)) (mCB dInt (mCons (mBin dEq (mVar 0) (mC (.int 2))) mNil)))) (mRet (mMake "Ratio" m_Ratio___init__ (mCons (mBin dAdd (mBin dMul (mBin dIx (mVar 1) (mC (.int 0))) (mVar 3)) (mVar 0)) (mCons (mVar 3) mNil))))) mSkip) (mRet (mBin dAdd (mBin dIx (mVar 1) (mC (.int 0))) (mBin dMul (mVar 0) (mBin dSub (mBin dMod (mVar 2) (mC (.int 4))) (mC (.int 1))))))))
theorem sc__law_passed : FnScope ["_law_prime_here", "_law_pair_here", "_law_k", "_law_bottom"] ["_law_prime_here", "_law_pair_here", "_law_k"] (defScope s__law_passed) := ⟨rfl, rfl, rfl, by decide +kernel, rfl, by decide +kernel, by decide +kernel⟩
def m__law_passed : MFn := runM 4 3 b__law_passed
theorem bd__law_passed (M : Mg K mg) : Body K PP w mg base d__law_passed.qual (defScope s__law_passed) (He.fAd K d__law_passed.at_) ["_law_prime_here", "_law_pair_here", "_law_k", "_law_bottom"] 35 (defBody s__law_passed) b__law_passed := fun cdv A outer s H E hr => ⟨_, (pss_cons (ps_if (pt_cmpR op_eq (pv 0) pe_int (nomark _)) (pss_one (ps_ret (pe_fnW (Sx.FnR.frame (ok__law_given (K := K) M)) (hr.mono (by decide)) rfl (g__law_given (K := K) M) (kp__law_given (K := K)) (takes_of rfl rfl rfl rfl) (pa_cons (pv 1) pa_nil)))) pss_nil) (pss_cons (ps_if (pt_cmpR op_eq (pe_op op_modX (pv 2) pe_int) pe_int (nomark _)) (pss_cons (ps_set (i := 3) sc__law_passed.nd rfl (by first | exact Or.inl rfl | exact Or.inr rfl) (pe_op op_add pe_int (pe_callTy Sx.call_intN (by rfl) (f_int (K := K) M) (by decide +kernel) (pa_cons (pe_cmpR op_eq (pv 0) pe_int (nomark _)) pa_nil)))) (pss_one (ps_ret (pe_mkW (mk_Ratio (K := K)) (Sx.FnR.frame (ok_Ratio___init__ (K := K) M)) (hr.mono (by decide)) rfl (g_Ratio (K := K) M) (takes_of rfl rfl rfl rfl) (pa_cons (pe_op op_add (pe_op op_mulX (pe_ix ix_seq (pv 1) pe_int (fun _ _ => rfl)) (pv 3)) (pv 0)) (pa_cons (pv 3) pa_nil)))))) pss_nil) (pss_one (ps_ret (pe_op op_add (pe_ix ix_seq (pv 1) pe_int (fun _ _ => rfl)) (pe_op op_mulX (pv 0) (pe_op op_sub (pe_op op_modX (pv 2) pe_int) pe_int))))))), fun A => (rs_seq (rs_if (rt_test (re_op rr_eq re_var re_int)) (rs_ret (re_call (ra_cons re_var ra_nil))) rs_skip) (rs_seq (rs_if (rt_test (re_op rr_eq (re_op rr_mod re_var re_int) re_int)) (rs_seq (rs_asg (re_op rr_add re_int (re_CB rc_int (ra_cons (re_op rr_eq re_var re_int) ra_nil)))) (rs_ret (re_make c_Ratio (ra_cons (re_op rr_add (re_op rr_mul (re_op rr_ix re_var re_int) re_var) re_var) (ra_cons re_var ra_nil))))) rs_skip) (rs_ret (re_op rr_add (re_op rr_ix re_var re_int) (re_op rr_mul re_var (re_op rr_sub (re_op rr_mod re_var re_int) re_int))))))⟩
theorem ok__law_passed (M : Mg K mg) : Fn w K mg base 36 (He.ga K "_law_passed") (spM K m__law_passed) := fn_M def__law_passed sc__law_passed (fun _ _ _ _ _ _ us hl => match us, hl with | [_, _, _], _ => rfl) (bd__law_passed M)
def b__law_draw : M Fl := (mSeq (mSetV 0 (mC (.int 4)) (mBin dAdd (mIdxV 0 (mC (.int 4))) (mC (.int 1)))) (mSeq (mIfS (mAnd (mB (mBin dLe (mIdxV 0 (mC (.int 2))) (mC (.int 1)))) (mB (mBin dLt (mIdxV 0 (mC (.int 1))) (mCB dLen (mCons (mIdxV 0 (mC (.int 0))) mNil))))) (mSeq (mAsg 3 (mBin dIx (mIdxV 0 (mC (.int 0))) (mIdxV 0 (mC (.int 1))))) (mSeq (mSetV 0 (mC (.int 1)) (mBin dAdd (mIdxV 0 (mC (.int 1))) (mC (.int 1)))) (mIfS (mB (mBin dGe (mCB dAbs (mCons (mVar 3) mNil)) (mBin dPow (mC (.int 10)) (mC (.int 18))))) (mSetV 0 (mC (.int 2)) (mCB dAbs (mCons (mVar 3) mNil))) (mSeq (mSetV 0 (mC (.int 2)) (mC (.int 0))) (mSetV 0 (mC (.int 3)) (mBin dMod (mCB dInt (mCons (mBin dAdd (mBin dAdd (mBin dMul (mIdxV 0 (mC (.int 3))) (mC (.int 69621))) (mVar 3)) (mBin dMul (mC (.int 30103)) (mIdxV 0 (mC (.int 4))))) mNil)) (mC (.int 2147483629)))))))) mSkip) (mSeq (mIfS (mB (mBin dGt (mIdxV 0 (mC (.int 2))) (mC (.int 1)))) (mSeq (mAsg 4 (mBin dMod (mCB dInt (mCons (mIdxV 0 (mC (.int 2))) mNil)) (mVar 1))) (mSeq (mSetV 0 (mC (.int 2)) (mBin dDiv (mIdxV 0 (mC (.int 2))) (mVar 1))) (mRet (mVar 4)))) mSkip) (mSeq (mSetV 0 (mC (.int 3)) (mBin dMod (mCB dInt (mCons (mBin dAdd (mBin dAdd (mBin dMul (mIdxV 0 (mC (.int 3))) (mC (.int 48271))) (mBin dMul (mC (.int 7919)) (mIdxV 0 (mC (.int 4))))) (mC (.int 1))) mNil)) (mC (.int 2147483647)))) (mSeq (mAsg 2 (mBin dMod (mCB dInt (mCons (mBin dMul (mIdxV 0 (mC (.int 3))) (mBin dAdd (mBin dDiv (mIdxV 0 (mC (.int 3))) (mC (.int 1009))) (mC (.int 69621)))) mNil)) (mC (.int 2147483399)))) (mRet (mBin dMod (mBin dDiv (mVar 2) (mC (.int 16))) (mVar 1))))))))
theorem sc__law_draw : FnScope ["_law_state_here", "_law_many", "_law_twice", "_law_item", "_law_found"] ["_law_state_here", "_law_many"] (defScope s__law_draw) := ⟨rfl, rfl, rfl, by decide +kernel, rfl, by decide +kernel, by decide +kernel⟩
def m__law_draw : MFr := runR 5 2 b__law_draw
theorem bd__law_draw (M : Mg K mg) : Body K PP w mg base d__law_draw.qual (defScope s__law_draw) (He.fAd K d__law_draw.at_) ["_law_state_here", "_law_many", "_law_twice", "_law_item", "_law_found"] 32 (defBody s__law_draw) b__law_draw := fun cdv A outer s H E hr => ⟨_, (pss_cons (ps_asg (pe_op op_add (pe_ix ix_list (pv 0) pe_int (fun _ _ => rfl)) pe_int) (pg_sub (pv 0) pe_int set_list)) (pss_cons (ps_if (PW.pt (pw_and (pt_cmpR op_le (pe_ix ix_list (pv 0) pe_int (fun _ _ => rfl)) pe_int (nomark _)) (pw_and1 (pt_cmpR op_lt (pe_ix ix_list (pv 0) pe_int (fun _ _ => rfl)) (pe_callB Sx.call_lenN (by rfl) (f_len (K := K) M) (by decide +kernel) (pa_cons (pe_ix ix_list (pv 0) pe_int (fun _ _ => rfl)) pa_nil)) (nomark _))))) (pss_cons (ps_set (i := 3) sc__law_draw.nd rfl (by first | exact Or.inl rfl | exact Or.inr rfl) (pe_ix ix_seq (pe_ix ix_list (pv 0) pe_int (fun _ _ => rfl)) (pe_ix ix_list (pv 0) pe_int (fun _ _ => rfl)) (fun _ _ => rfl))) (pss_cons (ps_asg (pe_op op_add (pe_ix ix_list (pv 0) pe_int (fun _ _ => rfl)) pe_int) (pg_sub (pv 0) pe_int set_list)) (pss_one (ps_if (pt_cmpR op_ge (pe_callB Sx.call_absN (by rfl) (f_abs (K := K) M) (by decide +kernel) (pa_cons (pv 3) pa_nil)) (pe_op op_pow pe_int pe_int) (nomark _)) (pss_one (ps_asg (pe_callB Sx.call_absN (by rfl) (f_abs (K := K) M) (by decide +kernel) (pa_cons (pv 3) pa_nil)) (pg_sub (pv 0) pe_int set_list))) (pss_cons (ps_asg pe_int (pg_sub (pv 0) pe_int set_list)) (pss_one (ps_asg (pe_op op_modX (pe_callTy Sx.call_intN (by rfl) (f_int (K := K) M) (by decide +kernel) (pa_cons (pe_op op_add (pe_op op_add (pe_op op_mulX (pe_ix ix_list (pv 0) pe_int (fun _ _ => rfl)) pe_int) (pv 3)) (pe_op op_mulX pe_int (pe_ix ix_list (pv 0) pe_int (fun _ _ => rfl)))) pa_nil)) pe_int) (pg_sub (pv 0) pe_int set_list)))))))) pss_nil) (pss_cons (ps_if (pt_cmpR op_gt (pe_ix ix_list (pv 0) pe_int (fun _ _ => rfl)) pe_int (nomark _)) (pss_cons (ps_set (i := 4) sc__law_draw.nd rfl (by first | exact Or.inl rfl | exact Or.inr rfl) (pe_op op_modX (pe_callTy Sx.call_intN (by rfl) (f_int (K := K) M) (by decide +kernel) (pa_cons (pe_ix ix_list (pv 0) pe_int (fun _ _ => rfl)) pa_nil)) (pv 1))) (pss_cons (ps_asg (pe_op (op_fdivP (seer_K (K := K)) (hr.mono (by decide)) rfl rfl rfl rfl rfl rfl) (pe_ix ix_list (pv 0) pe_int (fun _ _ => rfl)) (pv 1)) (pg_sub (pv 0) pe_int set_list)) (pss_one (ps_ret (pv 4))))) pss_nil) (pss_cons (ps_asg (pe_op op_modX (pe_callTy Sx.call_intN (by rfl) (f_int (K := K) M) (by decide +kernel) (pa_cons (pe_op op_add (pe_op op_add (pe_op op_mulX (pe_ix ix_list (pv 0) pe_int (fun _ _ => rfl)) pe_int) (pe_op op_mulX pe_int (pe_ix ix_list (pv 0) pe_int (fun _ _ => rfl)))) pe_int) pa_nil)) pe_int) (pg_sub (pv 0) pe_int set_list)) (pss_cons (ps_set (i := 2) sc__law_draw.nd rfl (by first | exact Or.inl rfl | exact Or.inr rfl) (pe_op op_modX (pe_callTy Sx.call_intN (by rfl) (f_int (K := K) M) (by decide +kernel) (pa_cons (pe_op op_mulX (pe_ix ix_list (pv 0) pe_int (fun _ _ => rfl)) (pe_op op_add (pe_op (op_fdivP (seer_K (K := K)) (hr.mono (by decide)) rfl rfl rfl rfl rfl rfl) (pe_ix ix_list (pv 0) pe_int (fun _ _ => rfl)) pe_int) pe_int)) pa_nil)) pe_int)) (pss_one (ps_ret (pe_op op_modX (pe_op (op_fdivP (seer_K (K := K)) (hr.mono (by decide)) rfl rfl rfl rfl rfl rfl) (pv 2) pe_int) (pv 1))))))))), fun A => (rs_seq (rs_setV re_int (re_op rr_add (re_idxV re_int) re_int)) (rs_seq (rs_if (rt_and (rt_test (re_op rr_le (re_idxV re_int) re_int)) (rt_test (re_op rr_lt (re_idxV re_int) (re_CB rc_len (ra_cons (re_idxV re_int) ra_nil))))) (rs_seq (rs_asg (re_op rr_ix (re_idxV re_int) (re_idxV re_int))) (rs_seq (rs_setV re_int (re_op rr_add (re_idxV re_int) re_int)) (rs_if (rt_test (re_op rr_ge (re_CB rc_abs (ra_cons re_var ra_nil)) (re_op rr_pow re_int re_int))) (rs_setV re_int (re_CB rc_abs (ra_cons re_var ra_nil))) (rs_seq (rs_setV re_int re_int) (rs_setV re_int (re_op rr_mod (re_CB rc_int (ra_cons (re_op rr_add (re_op rr_add (re_op rr_mul (re_idxV re_int) re_int) re_var) (re_op rr_mul re_int (re_idxV re_int))) ra_nil)) re_int)))))) rs_skip) (rs_seq (rs_if (rt_test (re_op rr_gt (re_idxV re_int) re_int)) (rs_seq (rs_asg (re_op rr_mod (re_CB rc_int (ra_cons (re_idxV re_int) ra_nil)) re_var)) (rs_seq (rs_setV re_int (re_op rr_div (re_idxV re_int) re_var)) (rs_ret re_var))) rs_skip) (rs_seq (rs_setV re_int (re_op rr_mod (re_CB rc_int (ra_cons (re_op rr_add (re_op rr_add (re_op rr_mul (re_idxV re_int) re_int) (re_op rr_mul re_int (re_idxV re_int))) re_int) ra_nil)) re_int)) (rs_seq (rs_asg (re_op rr_mod (re_CB rc_int (ra_cons (re_op rr_mul (re_idxV re_int) (re_op rr_add (re_op rr_div (re_idxV re_int) re_int) re_int)) ra_nil)) re_int)) (rs_ret (re_op rr_mod (re_op rr_div re_var re_int) re_var)))))))⟩
theorem ok__law_draw (M : Mg K mg) : Fn w K mg base 33 (He.ga K "_law_draw") (spR K m__law_draw) := fn_R def__law_draw sc__law_draw (by decide) (fun _ _ _ _ _ _ us hl => match us, hl with | [_, _], _ => rfl) (bd__law_draw M)
def lb__law_inverse_0 : M Fl := (mSeq (mIfS (mB (mBin dEq (mBin dMod (mVar 4) (mC (.int 2))) (mC (.int 1)))) (mAsg 2 (mBin dMod (mCB dInt (mCons (mBin dMul (mVar 2) (mVar 3)) mNil)) (mVar 1))) mSkip) (mSeq (mAsg 3 (mBin dMod (mCB dInt (mCons (mBin dMul (mVar 3) (mVar 3)) mNil)) (mVar 1))) (mAsg 4 (mBin dDiv (mVar 4) (mC (.int 2))))))
def b__law_inverse : M Fl := (mSeq (mAsg 2 (mC (.int 1))) (mSeq (mAsg 3 (mBin dMod (mCB dInt (mCons (mVar 0) mNil)) (mVar 1))) (mSeq (mAsg 4 (mBin dSub (mVar 1) (mC (.int 2)))) (mSeq (mFor (mItA rng1 (mCons (mC (.int 14)) mNil)) (gV 5) lb__law_inverse_0) (mRet (mVar 2))))))
theorem sc__law_inverse : FnScope ["_law_value", "_law_prime_here", "_law_found", "_law_factor", "_law_power", "_law_turn"] ["_law_value", "_law_prime_here"] (defScope s__law_inverse) := ⟨rfl, rfl, rfl, by decide +kernel, rfl, by decide +kernel, by decide +kernel⟩
def m__law_inverse : MFn := runM 6 2 b__law_inverse
theorem bd__law_inverse (M : Mg K mg) : Body K PP w mg base d__law_inverse.qual (defScope s__law_inverse) (He.fAd K d__law_inverse.at_) ["_law_value", "_law_prime_here", "_law_found", "_law_factor", "_law_power", "_law_turn"] 32 (defBody s__law_inverse) b__law_inverse := fun cdv A outer s H E hr => ⟨_, (pss_cons (ps_set (i := 2) sc__law_inverse.nd rfl (by first | exact Or.inl rfl | exact Or.inr rfl) pe_int) (pss_cons (ps_set (i := 3) sc__law_inverse.nd rfl (by first | exact Or.inl rfl | exact Or.inr rfl) (pe_op op_modX (pe_callTy Sx.call_intN (by rfl) (f_int (K := K) M) (by decide +kernel) (pa_cons (pv 0) pa_nil)) (pv 1))) (pss_cons (ps_set (i := 4) sc__law_inverse.nd rfl (by first | exact Or.inl rfl | exact Or.inr rfl) (pe_op op_sub (pv 1) pe_int)) (pss_cons (ps_for (passes_of rfl) rfl (pi_range1 rfl (f_range (K := K) M) (pa_cons pe_int pa_nil)) (pg_name (i := 5) sc__law_inverse.nd rfl (by first | exact Or.inl rfl | exact Or.inr rfl)) (pss_cons (ps_if (pt_cmpR op_eq (pe_op op_modX (pv 4) pe_int) pe_int (nomark _)) (pss_one (ps_set (i := 2) sc__law_inverse.nd rfl (by first | exact Or.inl rfl | exact Or.inr rfl) (pe_op op_modX (pe_callTy Sx.call_intN (by rfl) (f_int (K := K) M) (by decide +kernel) (pa_cons (pe_op op_mulX (pv 2) (pv 3)) pa_nil)) (pv 1)))) pss_nil) (pss_cons (ps_set (i := 3) sc__law_inverse.nd rfl (by first | exact Or.inl rfl | exact Or.inr rfl) (pe_op op_modX (pe_callTy Sx.call_intN (by rfl) (f_int (K := K) M) (by decide +kernel) (pa_cons (pe_op op_mulX (pv 3) (pv 3)) pa_nil)) (pv 1))) (pss_one (ps_set (i := 4) sc__law_inverse.nd rfl (by first | exact Or.inl rfl | exact Or.inr rfl) (pe_op (op_fdivP (seer_K (K := K)) (hr.mono (by decide)) rfl rfl rfl rfl rfl rfl) (pv 4) pe_int)))))) (pss_one (ps_ret (pv 2))))))), fun A => (rs_seq (rs_asg re_int) (rs_seq (rs_asg (re_op rr_mod (re_CB rc_int (ra_cons re_var ra_nil)) re_var)) (rs_seq (rs_asg (re_op rr_sub re_var re_int)) (rs_seq (rs_for (ri_rng1 (ra_cons re_int ra_nil)) rg_name (rs_seq (rs_if (rt_test (re_op rr_eq (re_op rr_mod re_var re_int) re_int)) (rs_asg (re_op rr_mod (re_CB rc_int (ra_cons (re_op rr_mul re_var re_var) ra_nil)) re_var)) rs_skip) (rs_seq (rs_asg (re_op rr_mod (re_CB rc_int (ra_cons (re_op rr_mul re_var re_var) ra_nil)) re_var)) (rs_asg (re_op rr_div re_var re_int))))) (rs_ret re_var)))))⟩
theorem ok__law_inverse (M : Mg K mg) : Fn w K mg base 33 (He.ga K "_law_inverse") (spM K m__law_inverse) := fn_M def__law_inverse sc__law_inverse (fun _ _ _ _ _ _ us hl => match us, hl with | [_, _], _ => rfl) (bd__law_inverse M)
def b__law_pair : M Fl := (mSeq (mIfS (mB (mBin dGt (mVar 0) (mC (.int 0)))) (mSeq (mIfS (mB (mBin dEq (mVar 2) (mC (.int 1)))) (mRet (mTup (mCons (mBin dMod (mCB dInt (mCons (mVar 1) mNil)) (mVar 0)) (mCons (mC (.int 1)) mNil)))) mSkip) (mRet (mTup (mCons (mBin dMod (mCB dInt (mCons (mBin dMul (mVar 1) (mCall m__law_inverse (mCons (mVar 2) (mCons (mVar 0) mNil)))) mNil)) (mVar 0)) (mCons (mC (.int 1)) mNil))))) mSkip) (mSeq (mAsg 3 (mCall m__law_gcd (mCons (mVar 1) (mCons (mVar 2) mNil)))) (mSeq (mIfS (mB (mBin dLt (mVar 2) (mC (.int 0)))) (mAsg 3 (mUn dNeg (mVar 3))) mSkip) (mRet (mTup (mCons (mBin dDiv (mVar 1) (mVar 3)) (mCons (mBin dDiv (mVar 2) (mVar 3)) mNil)))))))
theorem sc__law_pair : FnScope ["_law_prime_here", "_law_top", "_law_bottom", "_law_shared"] ["_law_prime_here", "_law_top", "_law_bottom"] (defScope s__law_pair) := ⟨rfl, rfl, rfl, by decide +kernel, rfl, by decide +kernel, by decide +kernel⟩
def m__law_pair : MFn := runM 4 3 b__law_pair
theorem bd__law_pair (M : Mg K mg) : Body K PP w mg base d__law_pair.qual (defScope s__law_pair) (He.fAd K d__law_pair.at_) ["_law_prime_here", "_law_top", "_law_bottom", "_law_shared"] 33 (defBody s__law_pair) b__law_pair := fun cdv A outer s H E hr => ⟨_, (pss_cons (ps_if (pt_cmpR op_gt (pv 0) pe_int (nomark _)) (pss_cons (ps_if (pt_cmpR op_eq (pv 2) pe_int (nomark _)) (pss_one (ps_ret (pe_tup (pa_cons (pe_op op_modX (pe_callTy Sx.call_intN (by rfl) (f_int (K := K) M) (by decide +kernel) (pa_cons (pv 1) pa_nil)) (pv 0)) (pa_cons pe_int pa_nil))))) pss_nil) (pss_one (ps_ret (pe_tup (pa_cons (pe_op op_modX (pe_callTy Sx.call_intN (by rfl) (f_int (K := K) M) (by decide +kernel) (pa_cons (pe_op op_mulX (pv 1) (pe_fnW (Sx.FnR.frame (ok__law_inverse (K := K) M)) (hr.mono (by decide)) rfl (g__law_inverse (K := K) M) (kp__law_inverse (K := K)) (takes_of rfl rfl rfl rfl) (pa_cons (pv 2) (pa_cons (pv 0) pa_nil)))) pa_nil)) (pv 0)) (pa_cons pe_int pa_nil)))))) pss_nil) (pss_cons (ps_set (i := 3) sc__law_pair.nd rfl (by first | exact Or.inl rfl | exact Or.inr rfl) (pe_fnW (Sx.FnR.frame (ok__law_gcd (K := K) M)) (hr.mono (by decide)) rfl (g__law_gcd (K := K) M) (kp__law_gcd (K := K)) (takes_of rfl rfl rfl rfl) (pa_cons (pv 1) (pa_cons (pv 2) pa_nil)))) (pss_cons (ps_if (pt_cmpR op_lt (pv 2) pe_int (nomark _)) (pss_one (ps_set (i := 3) sc__law_pair.nd rfl (by first | exact Or.inl rfl | exact Or.inr rfl) (pe_un un_neg (pv 3)))) pss_nil) (pss_one (ps_ret (pe_tup (pa_cons (pe_op (op_fdivP (seer_K (K := K)) (hr.mono (by decide)) rfl rfl rfl rfl rfl rfl) (pv 1) (pv 3)) (pa_cons (pe_op (op_fdivP (seer_K (K := K)) (hr.mono (by decide)) rfl rfl rfl rfl rfl rfl) (pv 2) (pv 3)) pa_nil)))))))), fun A => (rs_seq (rs_if (rt_test (re_op rr_gt re_var re_int)) (rs_seq (rs_if (rt_test (re_op rr_eq re_var re_int)) (rs_ret (re_tup (ra_cons (re_op rr_mod (re_CB rc_int (ra_cons re_var ra_nil)) re_var) (ra_cons re_int ra_nil)))) rs_skip) (rs_ret (re_tup (ra_cons (re_op rr_mod (re_CB rc_int (ra_cons (re_op rr_mul re_var (re_call (ra_cons re_var (ra_cons re_var ra_nil)))) ra_nil)) re_var) (ra_cons re_int ra_nil))))) rs_skip) (rs_seq (rs_asg (re_call (ra_cons re_var (ra_cons re_var ra_nil)))) (rs_seq (rs_if (rt_test (re_op rr_lt re_var re_int)) (rs_asg (re_un r1_neg re_var)) rs_skip) (rs_ret (re_tup (ra_cons (re_op rr_div re_var re_var) (ra_cons (re_op rr_div re_var re_var) ra_nil)))))))⟩
theorem ok__law_pair (M : Mg K mg) : Fn w K mg base 34 (He.ga K "_law_pair") (spM K m__law_pair) := fn_M def__law_pair sc__law_pair (fun _ _ _ _ _ _ us hl => match us, hl with | [_, _, _], _ => rfl) (bd__law_pair M)
def b__law_number : M Fl := (mSeq (mIfS (mB (mBin dGt (mVar 1) (mC (.int 0)))) (mRet (mTup (mCons (mCallR 0 m__law_draw (mCons (mVar 1) mNil)) (mCons (mC (.int 1)) mNil)))) mSkip) (mSeq (mAsg 2 (mCallR 0 m__law_draw (mCons (mC (.int 6)) mNil))) (mSeq (mIfS (mB (mBin dEq (mVar 2) (mC (.int 0)))) (mRet (mTup (mCons (mC (.int 0)) (mCons (mC (.int 1)) mNil)))) mSkip) (mSeq (mIfS (mB (mBin dEq (mVar 2) (mC (.int 1)))) (mRet (mCall m__law_pair (mCons (mC (.int 0)) (mCons (mBin dSub (mCallR 0 m__law_draw (mCons (mC (.int 19)) mNil)) (mC (.int 9))) (mCons (mBin dAdd (mC (.int 1)) (mCallR 0 m__law_draw (mCons (mC (.int 6)) mNil))) mNil))))) mSkip) (mRet (mTup (mCons (mBin dSub (mCallR 0 m__law_draw (mCons (mC (.int 7)) mNil)) (mC (.int 3))) (mCons (mC (.int 1)) mNil))))))))
theorem sc__law_number : FnScope ["_law_state_here", "_law_prime_here", "_law_kind"] ["_law_state_here", "_law_prime_here"] (defScope s__law_number) := ⟨rfl, rfl, rfl, by decide +kernel, rfl, by decide +kernel, by decide +kernel⟩
def m__law_number : MFr := runR 3 2 b__law_number
theorem bd__law_number (M : Mg K mg) : Body K PP w mg base d__law_number.qual (defScope s__law_number) (He.fAd K d__law_number.at_) ["_law_state_here", "_law_prime_here", "_law_kind"] 34 (defBody s__law_number) b__law_number := fun cdv A outer s H E hr => ⟨_, (pss_cons (ps_if (pt_cmpR op_gt (pv 1) pe_int (nomark _)) (pss_one (ps_ret (pe_tup (pa_cons (pe_fnW (Sx.FnR.frame (ok__law_draw (K := K) M)) (hr.mono (by decide)) rfl (g__law_draw (K := K) M) (kp__law_draw (K := K)) (takes_of rfl rfl rfl rfl) (pa_cons (pv 0) (pa_cons (pv 1) pa_nil))) (pa_cons pe_int pa_nil))))) pss_nil) (pss_cons (ps_set (i := 2) sc__law_number.nd rfl (by first | exact Or.inl rfl | exact Or.inr rfl) (pe_fnW (Sx.FnR.frame (ok__law_draw (K := K) M)) (hr.mono (by decide)) rfl (g__law_draw (K := K) M) (kp__law_draw (K := K)) (takes_of rfl rfl rfl rfl) (pa_cons (pv 0) (pa_cons pe_int pa_nil)))) (pss_cons (ps_if (pt_cmpR op_eq (pv 2) pe_int (nomark _)) (pss_one (ps_ret (pe_tup (pa_cons pe_int (pa_cons pe_int pa_nil))))) pss_nil) (pss_cons (ps_if (pt_cmpR op_eq (pv 2) pe_int (nomark _)) (pss_one (ps_ret (pe_fnW (Sx.FnR.frame (ok__law_pair (K := K) M)) (hr.mono (by decide)) rfl (g__law_pair (K := K) M) (kp__law_pair (K := K)) (takes_of rfl rfl rfl rfl) (pa_cons pe_int (pa_cons (pe_op op_sub (pe_fnW (Sx.FnR.frame (ok__law_draw (K := K) M)) (hr.mono (by decide)) rfl (g__law_draw (K := K) M) (kp__law_draw (K := K)) (takes_of rfl rfl rfl rfl) (pa_cons (pv 0) (pa_cons pe_int pa_nil))) pe_int) (pa_cons (pe_op op_add pe_int (pe_fnW (Sx.FnR.frame (ok__law_draw (K := K) M)) (hr.mono (by decide)) rfl (g__law_draw (K := K) M) (kp__law_draw (K := K)) (takes_of rfl rfl rfl rfl) (pa_cons (pv 0) (pa_cons pe_int pa_nil)))) pa_nil)))))) pss_nil) (pss_one (ps_ret (pe_tup (pa_cons (pe_op op_sub (pe_fnW (Sx.FnR.frame (ok__law_draw (K := K) M)) (hr.mono (by decide)) rfl (g__law_draw (K := K) M) (kp__law_draw (K := K)) (takes_of rfl rfl rfl rfl) (pa_cons (pv 0) (pa_cons pe_int pa_nil))) pe_int) (pa_cons pe_int pa_nil))))))))), fun A => (rs_seq (rs_if (rt_test (re_op rr_gt re_var re_int)) (rs_ret (re_tup (ra_cons (re_callR (ra_cons re_var ra_nil)) (ra_cons re_int ra_nil)))) rs_skip) (rs_seq (rs_asg (re_callR (ra_cons re_int ra_nil))) (rs_seq (rs_if (rt_test (re_op rr_eq re_var re_int)) (rs_ret (re_tup (ra_cons re_int (ra_cons re_int ra_nil)))) rs_skip) (rs_seq (rs_if (rt_test (re_op rr_eq re_var re_int)) (rs_ret (re_call (ra_cons re_int (ra_cons (re_op rr_sub (re_callR (ra_cons re_int ra_nil)) re_int) (ra_cons (re_op rr_add re_int (re_callR (ra_cons re_int ra_nil))) ra_nil))))) rs_skip) (rs_ret (re_tup (ra_cons (re_op rr_sub (re_callR (ra_cons re_int ra_nil)) re_int) (ra_cons re_int ra_nil))))))))⟩
theorem ok__law_number (M : Mg K mg) : Fn w K mg base 35 (He.ga K "_law_number") (spR K m__law_number) := fn_R def__law_number sc__law_number (by decide) (fun _ _ _ _ _ _ us hl => match us, hl with | [_, _], _ => rfl) (bd__law_number M)
def le__law_small_0 : M D := (mCallR 0 m__law_number (mCons (mVar 1) mNil))
def b__law_small : M Fl := (mRetN (mLc 3 (mItA rng1 (mCons (mVar 2) mNil)) (ret true) le__law_small_0))
theorem sc__law_small : FnScope ["_law_state_here", "_law_prime_here", "_law_size", "_law_k"] ["_law_state_here", "_law_prime_here", "_law_size"] (defScope s__law_small) := ⟨rfl, rfl, rfl, by decide +kernel, rfl, by decide +kernel, by decide +kernel⟩
def m__law_small : MFr := runR 4 3 b__law_small
theorem bd__law_small (M : Mg K mg) : Body K PP w mg base d__law_small.qual (defScope s__law_small) (He.fAd K d__law_small.at_) ["_law_state_here", "_law_prime_here", "_law_size", "_law_k"] 35 (defBody s__law_small) b__law_small := fun cdv A outer s H E hr => ⟨_, (pss_one (ps_ret (pe_lc (own := [("_law_k", 3)]) (g := gName 3) rfl sc__law_small.nd (pi_range1 rfl (f_range (K := K) M) (pa_cons (pv 2) pa_nil)) (blkOk_by (own := [("_law_k", 3)]) (N := ["_law_state_here", "_law_prime_here", "_law_size", "_law_k"]) (sc := defScope s__law_small) (by decide +kernel)) (fun _ _ _ _ _ => (pg_name (i := 3) sc__law_small.nd rfl (by first | exact Or.inl rfl | exact Or.inr rfl))) (fun _ _ _ _ _ => pts_nil) (fun _ _ _ _ _ => (pe_fnW (Sx.FnR.frame (ok__law_number (K := K) M)) (hr.mono (by decide)) rfl (g__law_number (K := K) M) (kp__law_number (K := K)) takes0 (pa_cons (pv 0) (pa_cons (pv 1) pa_nil))))))), fun A => (rs_retN (rn_lc (ri_rng1 (ra_cons re_var ra_nil)) rt_yes (re_callR (ra_cons re_var ra_nil))))⟩
theorem ok__law_small (M : Mg K mg) : Fn w K mg base 36 (He.ga K "_law_small") (spR K m__law_small) := fn_R def__law_small sc__law_small (by decide) (fun _ _ _ _ _ _ us hl => match us, hl with | [_, _, _], _ => rfl) (bd__law_small M)
def b__law_unit : M Fl := (mSeq (mAsg 2 (mCallR 0 m__law_number (mCons (mVar 1) mNil))) (mSeq (mIfS (mB (mBin dEq (mBin dIx (mVar 2) (mC (.int 0))) (mC (.int 0)))) (mRet (mTup (mCons (mC (.int 1)) (mCons (mC (.int 1)) mNil)))) mSkip) (mRet (mVar 2))))
theorem sc__law_unit : FnScope ["_law_state_here", "_law_prime_here", "_law_found"] ["_law_state_here", "_law_prime_here"] (defScope s__law_unit) := ⟨rfl, rfl, rfl, by decide +kernel, rfl, by decide +kernel, by decide +kernel⟩
def m__law_unit : MFr := runR 3 2 b__law_unit
theorem bd__law_unit (M : Mg K mg) : Body K PP w mg base d__law_unit.qual (defScope s__law_unit) (He.fAd K d__law_unit.at_) ["_law_state_here", "_law_prime_here", "_law_found"] 35 (defBody s__law_unit) b__law_unit := fun cdv A outer s H E hr => ⟨_, (pss_cons (ps_set (i := 2) sc__law_unit.nd rfl (by first | exact Or.inl rfl | exact Or.inr rfl) (pe_fnW (Sx.FnR.frame (ok__law_number (K := K) M)) (hr.mono (by decide)) rfl (g__law_number (K := K) M) (kp__law_number (K := K)) (takes_of rfl rfl rfl rfl) (pa_cons (pv 0) (pa_cons (pv 1) pa_nil)))) (pss_cons (ps_if (pt_cmpR op_eq (pe_ix ix_seq (pv 2) pe_int (fun _ _ => rfl)) pe_int (nomark _)) (pss_one (ps_ret (pe_tup (pa_cons pe_int (pa_cons pe_int pa_nil))))) pss_nil) (pss_one (ps_ret (pv 2))))), fun A => (rs_seq (rs_asg (re_callR (ra_cons re_var ra_nil))) (rs_seq (rs_if (rt_test (re_op rr_eq (re_op rr_ix re_var re_int) re_int)) (rs_ret (re_tup (ra_cons re_int (ra_cons re_int ra_nil)))) rs_skip) (rs_ret re_var)))⟩
theorem ok__law_unit (M : Mg K mg) : Fn w K mg base 36 (He.ga K "_law_unit") (spR K m__law_unit) := fn_R def__law_unit sc__law_unit (by decide) (fun _ _ _ _ _ _ us hl => match us, hl with | [_, _], _ => rfl) (bd__law_unit M)
def b__law_plus : M Fl := (mRet (mCall m__law_pair (mCons (mVar 0) (mCons (mBin dAdd (mBin dMul (mBin dIx (mVar 1) (mC (.int 0))) (mBin dIx (mVar 2) (mC (.int 1)))) (mBin dMul (mBin dIx (mVar 2) (mC (.int 0))) (mBin dIx (mVar 1) (mC (.int 1))))) (mCons (mBin dMul (mBin dIx (mVar 1) (mC (.int 1))) (mBin dIx (mVar 2) (mC (.int 1)))) mNil)))))
theorem sc__law_plus : FnScope ["_law_prime_here", "_law_one", "_law_other"] ["_law_prime_here", "_law_one", "_law_other"] (defScope s__law_plus) := ⟨rfl, rfl, rfl, by decide +kernel, rfl, by decide +kernel, by decide +kernel⟩
def m__law_plus : MFn := runM 3 3 b__law_plus
theorem bd__law_plus (M : Mg K mg) : Body K PP w mg base d__law_plus.qual (defScope s__law_plus) (He.fAd K d__law_plus.at_) ["_law_prime_here", "_law_one", "_law_other"] 34 (defBody s__law_plus) b__law_plus := fun cdv A outer s H E hr => ⟨_, (pss_one (ps_ret (pe_fnW (Sx.FnR.frame (ok__law_pair (K := K) M)) (hr.mono (by decide)) rfl (g__law_pair (K := K) M) (kp__law_pair (K := K)) (takes_of rfl rfl rfl rfl) (pa_cons (pv 0) (pa_cons (pe_op op_add (pe_op op_mulX (pe_ix ix_seq (pv 1) pe_int (fun _ _ => rfl)) (pe_ix ix_seq (pv 2) pe_int (fun _ _ => rfl))) (pe_op op_mulX (pe_ix ix_seq (pv 2) pe_int (fun _ _ => rfl)) (pe_ix ix_seq (pv 1) pe_int (fun _ _ => rfl)))) (pa_cons (pe_op op_mulX (pe_ix ix_seq (pv 1) pe_int (fun _ _ => rfl)) (pe_ix ix_seq (pv 2) pe_int (fun _ _ => rfl))) pa_nil)))))), fun A => (rs_ret (re_call (ra_cons re_var (ra_cons (re_op rr_add (re_op rr_mul (re_op rr_ix re_var re_int) (re_op rr_ix re_var re_int)) (re_op rr_mul (re_op rr_ix re_var re_int) (re_op rr_ix re_var re_int))) (ra_cons (re_op rr_mul (re_op rr_ix re_var re_int) (re_op rr_ix re_var re_int)) ra_nil)))))⟩
theorem ok__law_plus (M : Mg K mg) : Fn w K mg base 35 (He.ga K "_law_plus") (spM K m__law_plus) := fn_M def__law_plus sc__law_plus (fun _ _ _ _ _ _ us hl => match us, hl with | [_, _, _], _ => rfl) (bd__law_plus M)
def b__law_minus : M Fl := (mRet (mCall m__law_pair (mCons (mVar 0) (mCons (mBin dSub (mBin dMul (mBin dIx (mVar 1) (mC (.int 0))) (mBin dIx (mVar 2) (mC (.int 1)))) (mBin dMul (mBin dIx (mVar 2) (mC (.int 0))) (mBin dIx (mVar 1) (mC (.int 1))))) (mCons (mBin dMul (mBin dIx (mVar 1) (mC (.int 1))) (mBin dIx (mVar 2) (mC (.int 1)))) mNil)))))
theorem sc__law_minus : FnScope ["_law_prime_here", "_law_one", "_law_other"] ["_law_prime_here", "_law_one", "_law_other"] (defScope s__law_minus) := ⟨rfl, rfl, rfl, by decide +kernel, rfl, by decide +kernel, by decide +kernel⟩
def m__law_minus : MFn := runM 3 3 b__law_minus
theorem bd__law_minus (M : Mg K mg) : Body K PP w mg base d__law_minus.qual (defScope s__law_minus) (He.fAd K d__law_minus.at_) ["_law_prime_here", "_law_one", "_law_other"] 34 (defBody s__law_minus) b__law_minus := fun cdv A outer s H E hr => ⟨_, (pss_one (ps_ret (pe_fnW (Sx.FnR.frame (ok__law_pair (K := K) M)) (hr.mono (by decide)) rfl (g__law_pair (K := K) M) (kp__law_pair (K := K)) (takes_of rfl rfl rfl rfl) (pa_cons (pv 0) (pa_cons (pe_op op_sub (pe_op op_mulX (pe_ix ix_seq (pv 1) pe_int (fun _ _ => rfl)) (pe_ix ix_seq (pv 2) pe_int (fun _ _ => rfl))) (pe_op op_mulX (pe_ix ix_seq (pv 2) pe_int (fun _ _ => rfl)) (pe_ix ix_seq (pv 1) pe_int (fun _ _ => rfl)))) (pa_cons (pe_op op_mulX (pe_ix ix_seq (pv 1) pe_int (fun _ _ => rfl)) (pe_ix ix_seq (pv 2) pe_int (fun _ _ => rfl))) pa_nil)))))), fun A => (rs_ret (re_call (ra_cons re_var (ra_cons (re_op rr_sub (re_op rr_mul (re_op rr_ix re_var re_int) (re_op rr_ix re_var re_int)) (re_op rr_mul (re_op rr_ix re_var re_int) (re_op rr_ix re_var re_int))) (ra_cons (re_op rr_mul (re_op rr_ix re_var re_int) (re_op rr_ix re_var re_int)) ra_nil)))))⟩
theorem ok__law_minus (M : Mg K mg) : Fn w K mg base 35 (He.ga K "_law_minus") (spM K m__law_minus) := fn_M def__law_minus sc__law_minus (fun _ _ _ _ _ _ us hl => match us, hl with | [_, _, _], _ => rfl) (bd__law_minus M)
def b__law_times : M Fl := (mRet (mCall m__law_pair (mCons (mVar 0) (mCons (mBin dMul (mBin dIx (mVar 1) (mC (.int 0))) (mBin dIx (mVar 2) (mC (.int 0)))) (mCons (mBin dMul (mBin dIx (mVar 1) (mC (.int 1))) (mBin dIx (mVar 2) (mC (.int 1)))) mNil)))))
theorem sc__law_times : FnScope ["_law_prime_here", "_law_one", "_law_other"] ["_law_prime_here", "_law_one", "_law_other"] (defScope s__law_times) := ⟨rfl, rfl, rfl, by decide +kernel, rfl, by decide +kernel, by decide +kernel⟩
def m__law_times : MFn := runM 3 3 b__law_times
theorem bd__law_times (M : Mg K mg) : Body K PP w mg base d__law_times.qual (defScope s__law_times) (He.fAd K d__law_times.at_) ["_law_prime_here", "_law_one", "_law_other"] 34 (defBody s__law_times) b__law_times := fun cdv A outer s H E hr => ⟨_, (pss_one (ps_ret (pe_fnW (Sx.FnR.frame (ok__law_pair (K := K) M)) (hr.mono (by decide)) rfl (g__law_pair (K := K) M) (kp__law_pair (K := K)) (takes_of rfl rfl rfl rfl) (pa_cons (pv 0) (pa_cons (pe_op op_mulX (pe_ix ix_seq (pv 1) pe_int (fun _ _ => rfl)) (pe_ix ix_seq (pv 2) pe_int (fun _ _ => rfl))) (pa_cons (pe_op op_mulX (pe_ix ix_seq (pv 1) pe_int (fun _ _ => rfl)) (pe_ix ix_seq (pv 2) pe_int (fun _ _ => rfl))) pa_nil)))))), fun A => (rs_ret (re_call (ra_cons re_var (ra_cons (re_op rr_mul (re_op rr_ix re_var re_int) (re_op rr_ix re_var re_int)) (ra_cons (re_op rr_mul (re_op rr_ix re_var re_int) (re_op rr_ix re_var re_int)) ra_nil)))))⟩
theorem ok__law_times (M : Mg K mg) : Fn w K mg base 35 (He.ga K "_law_times") (spM K m__law_times) := fn_M def__law_times sc__law_times (fun _ _ _ _ _ _ us hl => match us, hl with | [_, _, _], _ => rfl) (bd__law_times M)
def lb__law_expansion_0 : M Fl := (mAsg 6 (mCall m__law_minus (mCons (mVar 0) (mCons (mVar 6) (mCons (mCall m__law_times (mCons (mVar 0) (mCons (mBin dIx (mVar 2) (mVar 7)) (mCons (mIdxV 4 (mBin dSub (mVar 5) (mVar 7))) mNil)))) mNil)))))
def lb__law_expansion_1 : M Fl := (mSeq (mAsg 6 (mTup (mCons (mC (.int 0)) (mCons (mC (.int 1)) mNil)))) (mSeq (mIfS (mB (mBin dLt (mVar 5) (mCB dLen (mCons (mVar 1) mNil)))) (mAsg 6 (mBin dIx (mVar 1) (mVar 5))) mSkip) (mSeq (mFor (mItA rng2 (mCons (mC (.int 1)) (mCons (mCB dMin (mCons (mBin dAdd (mVar 5) (mC (.int 1))) (mCons (mCB dLen (mCons (mVar 2) mNil)) mNil))) mNil))) (gV 7) lb__law_expansion_0) (mApp 4 (mVar 6)))))
def b__law_expansion : M Fl := (mSeq (mAsgN 4 (mLst mNil)) (mSeq (mFor (mItA rng1 (mCons (mVar 3) mNil)) (gV 5) lb__law_expansion_1) (mRetV 4)))
theorem sc__law_expansion : FnScope ["_law_prime_here", "_law_top", "_law_bottom", "_law_count", "_law_found", "_law_k", "_law_total", "_law_i"] ["_law_prime_here", "_law_top", "_law_bottom", "_law_count"] (defScope s__law_expansion) := ⟨rfl, rfl, rfl, by decide +kernel, rfl, by decide +kernel, by decide +kernel⟩
def m__law_expansion : MFn := runM 8 4 b__law_expansion
theorem bd__law_expansion (M : Mg K mg) : Body K PP w mg base d__law_expansion.qual (defScope s__law_expansion) (He.fAd K d__law_expansion.at_) ["_law_prime_here", "_law_top", "_law_bottom", "_law_count", "_law_found", "_law_k", "_law_total", "_law_i"] 35 (defBody s__law_expansion) b__law_expansion := fun cdv A outer s H E hr => ⟨_, (pss_cons (ps_set (i := 4) sc__law_expansion.nd rfl (by first | exact Or.inl rfl | exact Or.inr rfl) (pe_lst pa_nil)) (pss_cons (ps_for (passes_of rfl) rfl (pi_range1 rfl (f_range (K := K) M) (pa_cons (pv 3) pa_nil)) (pg_name (i := 5) sc__law_expansion.nd rfl (by first | exact Or.inl rfl | exact Or.inr rfl)) (pss_cons (ps_set (i := 6) sc__law_expansion.nd rfl (by first | exact Or.inl rfl | exact Or.inr rfl) (pe_tup (pa_cons pe_int (pa_cons pe_int pa_nil)))) (pss_cons (ps_if (pt_cmpR op_lt (pv 5) (pe_callB Sx.call_lenN (by rfl) (f_len (K := K) M) (by decide +kernel) (pa_cons (pv 1) pa_nil)) (nomark _)) (pss_one (ps_set (i := 6) sc__law_expansion.nd rfl (by first | exact Or.inl rfl | exact Or.inr rfl) (pe_ix ix_seq (pv 1) (pv 5) (fun _ _ => rfl)))) pss_nil) (pss_cons (ps_for (passes_of rfl) rfl (pi_range2 rfl (f_range (K := K) M) (pa_cons pe_int (pa_cons (pe_callB (Sx.call_minN rfl) (by rfl) (f_min (K := K) M) (by decide +kernel) (pa_cons (pe_op op_add (pv 5) pe_int) (pa_cons (pe_callB Sx.call_lenN (by rfl) (f_len (K := K) M) (by decide +kernel) (pa_cons (pv 2) pa_nil)) pa_nil))) pa_nil))) (pg_name (i := 7) sc__law_expansion.nd rfl (by first | exact Or.inl rfl | exact Or.inr rfl)) (pss_one (ps_set (i := 6) sc__law_expansion.nd rfl (by first | exact Or.inl rfl | exact Or.inr rfl) (pe_fnW (Sx.FnR.frame (ok__law_minus (K := K) M)) (hr.mono (by decide)) rfl (g__law_minus (K := K) M) (kp__law_minus (K := K)) (takes_of rfl rfl rfl rfl) (pa_cons (pv 0) (pa_cons (pv 6) (pa_cons (pe_fnW (Sx.FnR.frame (ok__law_times (K := K) M)) (hr.mono (by decide)) rfl (g__law_times (K := K) M) (kp__law_times (K := K)) (takes_of rfl rfl rfl rfl) (pa_cons (pv 0) (pa_cons (pe_ix ix_seq (pv 2) (pv 7) (fun _ _ => rfl)) (pa_cons (pe_ix ix_list (pv 4) (pe_op op_sub (pv 5) (pv 7)) (fun _ _ => rfl)) pa_nil)))) pa_nil))))))) (pss_one (ps_expr (pe_bm PySem.F.plainAttrs_list PySem.F.slot_list_append PySem.F.type_list_append mt_append (pv 4) (pa_cons (pv 6) pa_nil)))))))) (pss_one (ps_ret (pv 4))))), fun A => (rs_seq (rs_asgN (rn_lst ra_nil)) (rs_seq (rs_for (ri_rng1 (ra_cons re_var ra_nil)) rg_name (rs_seq (rs_asg (re_tup (ra_cons re_int (ra_cons re_int ra_nil)))) (rs_seq (rs_if (rt_test (re_op rr_lt re_var (re_CB rc_len (ra_cons re_var ra_nil)))) (rs_asg (re_op rr_ix re_var re_var)) rs_skip) (rs_seq (rs_for (ri_rng2 (ra_cons re_int (ra_cons (re_CB rc_min (ra_cons (re_op rr_add re_var re_int) (ra_cons (re_CB rc_len (ra_cons re_var ra_nil)) ra_nil))) ra_nil))) rg_name (rs_asg (re_call (ra_cons re_var (ra_cons re_var (ra_cons (re_call (ra_cons re_var (ra_cons (re_op rr_ix re_var re_var) (ra_cons (re_idxV (re_op rr_sub re_var re_var)) ra_nil)))) ra_nil)))))) (rs_app re_var))))) rs_retV))⟩
theorem ok__law_expansion (M : Mg K mg) : Fn w K mg base 36 (He.ga K "_law_expansion") (spM K m__law_expansion) := fn_M def__law_expansion sc__law_expansion (fun _ _ _ _ _ _ us hl => match us, hl with | [_, _, _, _], _ => rfl) (bd__law_expansion M)
end
end Mi

namespace Mi
open PySem PySem.Spec PyProof.Rows L2 Sx
noncomputable section
variable {w : World} {K : PySem.W.Frag} [Sy K] {mg : Str → Option Value} {base : Heap}

def b__law_planted : M Fl := (mSeq (mAsg 3 (mFrz (mBinN dCat (mFrz (mLst (mCons (mCallR 0 m__law_unit (mCons (mVar 1) mNil)) mNil))) (mFrz (mCallRN 0 m__law_small (mCons (mVar 1) (mCons (mCallR 0 m__law_draw (mCons (mC (.int 4)) mNil)) mNil))))))) (mSeq (mAsg 4 (mFrz (mBinN dCat (mFrz (mLst (mCons (mTup (mCons (mC (.int 1)) (mCons (mC (.int 1)) mNil))) mNil))) (mFrz (mCallRN 0 m__law_small (mCons (mVar 1) (mCons (mCallR 0 m__law_draw (mCons (mC (.int 4)) mNil)) mNil))))))) (mSeq (mAsgN 5 (mCallN m__law_expansion (mCons (mVar 1) (mCons (mVar 3) (mCons (mVar 4) (mCons (mVar 2) mNil)))))) (mSeq (mAsg 6 (mCallR 0 m__law_draw (mCons (mBin dMul (mC (.int 2)) (mVar 2)) mNil))) (mSeq (mIfS (mB (mChain dLt dLt (mC (.int 0)) (mVar 6) (mVar 2))) (mSetV 5 (mVar 6) (mCall m__law_plus (mCons (mVar 1) (mCons (mIdxV 5 (mVar 6)) (mCons (mCallR 0 m__law_unit (mCons (mVar 1) mNil)) mNil))))) mSkip) (mRetV 5))))))
theorem sc__law_planted : FnScope ["_law_state_here", "_law_prime_here", "_law_count", "_law_top", "_law_bottom", "_law_found", "_law_at"] ["_law_state_here", "_law_prime_here", "_law_count"] (defScope s__law_planted) := ⟨rfl, rfl, rfl, by decide +kernel, rfl, by decide +kernel, by decide +kernel⟩
def m__law_planted : MFr := runR 7 3 b__law_planted
theorem bd__law_planted (M : Mg K mg) : Body K PP w mg base d__law_planted.qual (defScope s__law_planted) (He.fAd K d__law_planted.at_) ["_law_state_here", "_law_prime_here", "_law_count", "_law_top", "_law_bottom", "_law_found", "_law_at"] 36 (defBody s__law_planted) b__law_planted := fun cdv A outer s H E hr => ⟨_, (pss_cons (ps_set (i := 3) sc__law_planted.nd rfl (by first | exact Or.inl rfl | exact Or.inr rfl) (pe_op op_catQ (pe_lst (pa_cons (pe_fnW (Sx.FnR.frame (ok__law_unit (K := K) M)) (hr.mono (by decide)) rfl (g__law_unit (K := K) M) (kp__law_unit (K := K)) (takes_of rfl rfl rfl rfl) (pa_cons (pv 0) (pa_cons (pv 1) pa_nil))) pa_nil)) (pe_fnW (Sx.FnR.frame (ok__law_small (K := K) M)) (hr.mono (by decide)) rfl (g__law_small (K := K) M) (kp__law_small (K := K)) (takes_of rfl rfl rfl rfl) (pa_cons (pv 0) (pa_cons (pv 1) (pa_cons (pe_fnW (Sx.FnR.frame (ok__law_draw (K := K) M)) (hr.mono (by decide)) rfl (g__law_draw (K := K) M) (kp__law_draw (K := K)) (takes_of rfl rfl rfl rfl) (pa_cons (pv 0) (pa_cons pe_int pa_nil))) pa_nil)))))) (pss_cons (ps_set (i := 4) sc__law_planted.nd rfl (by first | exact Or.inl rfl | exact Or.inr rfl) (pe_op op_catQ (pe_lst (pa_cons (pe_tup (pa_cons pe_int (pa_cons pe_int pa_nil))) pa_nil)) (pe_fnW (Sx.FnR.frame (ok__law_small (K := K) M)) (hr.mono (by decide)) rfl (g__law_small (K := K) M) (kp__law_small (K := K)) (takes_of rfl rfl rfl rfl) (pa_cons (pv 0) (pa_cons (pv 1) (pa_cons (pe_fnW (Sx.FnR.frame (ok__law_draw (K := K) M)) (hr.mono (by decide)) rfl (g__law_draw (K := K) M) (kp__law_draw (K := K)) (takes_of rfl rfl rfl rfl) (pa_cons (pv 0) (pa_cons pe_int pa_nil))) pa_nil)))))) (pss_cons (ps_set (i := 5) sc__law_planted.nd rfl (by first | exact Or.inl rfl | exact Or.inr rfl) (pe_fnW (Sx.FnR.frame (ok__law_expansion (K := K) M)) (hr.mono (by decide)) rfl (g__law_expansion (K := K) M) (kp__law_expansion (K := K)) (takes_of rfl rfl rfl rfl) (pa_cons (pv 1) (pa_cons (pv 3) (pa_cons (pv 4) (pa_cons (pv 2) pa_nil)))))) (pss_cons (ps_set (i := 6) sc__law_planted.nd rfl (by first | exact Or.inl rfl | exact Or.inr rfl) (pe_fnW (Sx.FnR.frame (ok__law_draw (K := K) M)) (hr.mono (by decide)) rfl (g__law_draw (K := K) M) (kp__law_draw (K := K)) (takes_of rfl rfl rfl rfl) (pa_cons (pv 0) (pa_cons (pe_op op_mulX pe_int (pv 2)) pa_nil)))) (pss_cons (ps_if (pt_chain op_lt op_lt pe_int (pv 6) (pv 2)) (pss_one (ps_asg (pe_fnW (Sx.FnR.frame (ok__law_plus (K := K) M)) (hr.mono (by decide)) rfl (g__law_plus (K := K) M) (kp__law_plus (K := K)) (takes_of rfl rfl rfl rfl) (pa_cons (pv 1) (pa_cons (pe_ix ix_list (pv 5) (pv 6) (fun _ _ => rfl)) (pa_cons (pe_fnW (Sx.FnR.frame (ok__law_unit (K := K) M)) (hr.mono (by decide)) rfl (g__law_unit (K := K) M) (kp__law_unit (K := K)) (takes_of rfl rfl rfl rfl) (pa_cons (pv 0) (pa_cons (pv 1) pa_nil))) pa_nil)))) (pg_sub (pv 5) (pv 6) set_list))) pss_nil) (pss_one (ps_ret (pv 5)))))))), fun A => (rs_seq (rs_asg (re_frz (rn_op rrn_cat (re_frz (rn_lst (ra_cons (re_callR (ra_cons re_var ra_nil)) ra_nil))) (re_frz (rn_callR (ra_cons re_var (ra_cons (re_callR (ra_cons re_int ra_nil)) ra_nil))))))) (rs_seq (rs_asg (re_frz (rn_op rrn_cat (re_frz (rn_lst (ra_cons (re_tup (ra_cons re_int (ra_cons re_int ra_nil))) ra_nil))) (re_frz (rn_callR (ra_cons re_var (ra_cons (re_callR (ra_cons re_int ra_nil)) ra_nil))))))) (rs_seq (rs_asgN (rn_call (ra_cons re_var (ra_cons re_var (ra_cons re_var (ra_cons re_var ra_nil)))))) (rs_seq (rs_asg (re_callR (ra_cons (re_op rr_mul re_int re_var) ra_nil))) (rs_seq (rs_if (rt_test (re_chain rr_lt rr_lt re_int re_var re_var)) (rs_setV re_var (re_call (ra_cons re_var (ra_cons (re_idxV re_var) (ra_cons (re_callR (ra_cons re_var ra_nil)) ra_nil))))) rs_skip) rs_retV)))))⟩
theorem ok__law_planted (M : Mg K mg) : Fn w K mg base 37 (He.ga K "_law_planted") (spR K m__law_planted) := fn_R def__law_planted sc__law_planted (by decide) (fun _ _ _ _ _ _ us hl => match us, hl with | [_, _, _], _ => rfl) (bd__law_planted M)
def le__law_coefficients_0 : M D := (mCallR 0 m__law_number (mCons (mVar 1) mNil))
def lb__law_coefficients_1 : M Fl := (mSeq (mAsg 7 (mTup (mCons (mC (.int 0)) (mCons (mC (.int 1)) mNil)))) (mSeq (mIfS (mB (mBin dEq (mBin dMod (mVar 6) (mVar 4)) (mC (.int 0)))) (mAsg 7 (mCallR 0 m__law_number (mCons (mVar 1) mNil))) mSkip) (mApp 5 (mVar 7))))
def le__law_coefficients_2 : M D := (mTup (mCons (mCallR 0 m__law_draw (mCons (mC (.int 2)) mNil)) (mCons (mC (.int 1)) mNil)))
def b__law_coefficients : M Fl := (mSeq (mAsg 3 (mCallR 0 m__law_draw (mCons (mC (.int 5)) mNil))) (mSeq (mIfS (mAnd (mB (mBin dEq (mVar 3) (mC (.int 0)))) (mOr (mB (mBin dGt (mVar 1) (mC (.int 0)))) (mB (mBin dLe (mVar 2) (mC (.int 12)))))) (mRetN (mCallRN 0 m__law_planted (mCons (mVar 1) (mCons (mVar 2) mNil)))) mSkip) (mSeq (mIfS (mB (mBin dEq (mVar 3) (mC (.int 1)))) (mRetN (mBinN dCat (mFrz (mLst (mCons (mTup (mCons (mC (.int 1)) (mCons (mC (.int 1)) mNil))) mNil))) (mFrz (mLc 6 (mItA rng1 (mCons (mBin dSub (mVar 2) (mC (.int 1))) mNil)) (ret true) le__law_coefficients_2)))) mSkip) (mSeq (mIfS (mB (mBin dEq (mVar 3) (mC (.int 2)))) (mSeq (mAsg 4 (mBin dAdd (mC (.int 1)) (mCallR 0 m__law_draw (mCons (mC (.int 5)) mNil)))) (mSeq (mAsgN 5 (mLst (mCons (mCallR 0 m__law_unit (mCons (mVar 1) mNil)) mNil))) (mSeq (mFor (mItA rng2 (mCons (mC (.int 1)) (mCons (mVar 2) mNil))) (gV 6) lb__law_coefficients_1) (mRetV 5)))) mSkip) (mRetN (mBinN dCat (mFrz (mLst (mCons (mCallR 0 m__law_unit (mCons (mVar 1) mNil)) mNil))) (mFrz (mLc 6 (mItA rng1 (mCons (mBin dSub (mVar 2) (mC (.int 1))) mNil)) (ret true) le__law_coefficients_0))))))))
theorem sc__law_coefficients : FnScope ["_law_state_here", "_law_prime_here", "_law_count", "_law_kind", "_law_gap", "_law_found", "_law_k", "_law_number_here"] ["_law_state_here", "_law_prime_here", "_law_count"] (defScope s__law_coefficients) := ⟨rfl, rfl, rfl, by decide +kernel, rfl, by decide +kernel, by decide +kernel⟩
def m__law_coefficients : MFr := runR 8 3 b__law_coefficients
theorem bd__law_coefficients (M : Mg K mg) : Body K PP w mg base d__law_coefficients.qual (defScope s__law_coefficients) (He.fAd K d__law_coefficients.at_) ["_law_state_here", "_law_prime_here", "_law_count", "_law_kind", "_law_gap", "_law_found", "_law_k", "_law_number_here"] 37 (defBody s__law_coefficients) b__law_coefficients := fun cdv A outer s H E hr => ⟨_, (pss_cons (ps_set (i := 3) sc__law_coefficients.nd rfl (by first | exact Or.inl rfl | exact Or.inr rfl) (pe_fnW (Sx.FnR.frame (ok__law_draw (K := K) M)) (hr.mono (by decide)) rfl (g__law_draw (K := K) M) (kp__law_draw (K := K)) (takes_of rfl rfl rfl rfl) (pa_cons (pv 0) (pa_cons pe_int pa_nil)))) (pss_cons (ps_if (PW.pt (pw_and (pt_cmpR op_eq (pv 3) pe_int (nomark _)) (pw_and1 (PW.pt (pw_or (pt_cmpR op_gt (pv 1) pe_int (nomark _)) (pw_or1 (pt_cmpR op_le (pv 2) pe_int (nomark _)))))))) (pss_one (ps_ret (pe_fnW (Sx.FnR.frame (ok__law_planted (K := K) M)) (hr.mono (by decide)) rfl (g__law_planted (K := K) M) (kp__law_planted (K := K)) (takes_of rfl rfl rfl rfl) (pa_cons (pv 0) (pa_cons (pv 1) (pa_cons (pv 2) pa_nil)))))) pss_nil) (pss_cons (ps_if (pt_cmpR op_eq (pv 3) pe_int (nomark _)) (pss_one (ps_ret (pe_op op_catQ (pe_lst (pa_cons (pe_tup (pa_cons pe_int (pa_cons pe_int pa_nil))) pa_nil)) (pe_lc (own := [("_law_k", 6)]) (g := gName 6) rfl sc__law_coefficients.nd (pi_range1 rfl (f_range (K := K) M) (pa_cons (pe_op op_sub (pv 2) pe_int) pa_nil)) (blkOk_by (own := [("_law_k", 6)]) (N := ["_law_state_here", "_law_prime_here", "_law_count", "_law_kind", "_law_gap", "_law_found", "_law_k", "_law_number_here"]) (sc := defScope s__law_coefficients) (by decide +kernel)) (fun _ _ _ _ _ => (pg_name (i := 6) sc__law_coefficients.nd rfl (by first | exact Or.inl rfl | exact Or.inr rfl))) (fun _ _ _ _ _ => pts_nil) (fun _ _ _ _ _ => (pe_tup (pa_cons (pe_fnW (Sx.FnR.frame (ok__law_draw (K := K) M)) (hr.mono (by decide)) rfl (g__law_draw (K := K) M) (kp__law_draw (K := K)) takes0 (pa_cons (pv 0) (pa_cons pe_int pa_nil))) (pa_cons pe_int pa_nil)))))))) pss_nil) (pss_cons (ps_if (pt_cmpR op_eq (pv 3) pe_int (nomark _)) (pss_cons (ps_set (i := 4) sc__law_coefficients.nd rfl (by first | exact Or.inl rfl | exact Or.inr rfl) (pe_op op_add pe_int (pe_fnW (Sx.FnR.frame (ok__law_draw (K := K) M)) (hr.mono (by decide)) rfl (g__law_draw (K := K) M) (kp__law_draw (K := K)) (takes_of rfl rfl rfl rfl) (pa_cons (pv 0) (pa_cons pe_int pa_nil))))) (pss_cons (ps_set (i := 5) sc__law_coefficients.nd rfl (by first | exact Or.inl rfl | exact Or.inr rfl) (pe_lst (pa_cons (pe_fnW (Sx.FnR.frame (ok__law_unit (K := K) M)) (hr.mono (by decide)) rfl (g__law_unit (K := K) M) (kp__law_unit (K := K)) (takes_of rfl rfl rfl rfl) (pa_cons (pv 0) (pa_cons (pv 1) pa_nil))) pa_nil))) (pss_cons (ps_for (passes_of rfl) rfl (pi_range2 rfl (f_range (K := K) M) (pa_cons pe_int (pa_cons (pv 2) pa_nil))) (pg_name (i := 6) sc__law_coefficients.nd rfl (by first | exact Or.inl rfl | exact Or.inr rfl)) (pss_cons (ps_set (i := 7) sc__law_coefficients.nd rfl (by first | exact Or.inl rfl | exact Or.inr rfl) (pe_tup (pa_cons pe_int (pa_cons pe_int pa_nil)))) (pss_cons (ps_if (pt_cmpR op_eq (pe_op op_modX (pv 6) (pv 4)) pe_int (nomark _)) (pss_one (ps_set (i := 7) sc__law_coefficients.nd rfl (by first | exact Or.inl rfl | exact Or.inr rfl) (pe_fnW (Sx.FnR.frame (ok__law_number (K := K) M)) (hr.mono (by decide)) rfl (g__law_number (K := K) M) (kp__law_number (K := K)) (takes_of rfl rfl rfl rfl) (pa_cons (pv 0) (pa_cons (pv 1) pa_nil))))) pss_nil) (pss_one (ps_expr (pe_bm PySem.F.plainAttrs_list PySem.F.slot_list_append PySem.F.type_list_append mt_append (pv 5) (pa_cons (pv 7) pa_nil))))))) (pss_one (ps_ret (pv 5)))))) pss_nil) (pss_one (ps_ret (pe_op op_catQ (pe_lst (pa_cons (pe_fnW (Sx.FnR.frame (ok__law_unit (K := K) M)) (hr.mono (by decide)) rfl (g__law_unit (K := K) M) (kp__law_unit (K := K)) (takes_of rfl rfl rfl rfl) (pa_cons (pv 0) (pa_cons (pv 1) pa_nil))) pa_nil)) (pe_lc (own := [("_law_k", 6)]) (g := gName 6) rfl sc__law_coefficients.nd (pi_range1 rfl (f_range (K := K) M) (pa_cons (pe_op op_sub (pv 2) pe_int) pa_nil)) (blkOk_by (own := [("_law_k", 6)]) (N := ["_law_state_here", "_law_prime_here", "_law_count", "_law_kind", "_law_gap", "_law_found", "_law_k", "_law_number_here"]) (sc := defScope s__law_coefficients) (by decide +kernel)) (fun _ _ _ _ _ => (pg_name (i := 6) sc__law_coefficients.nd rfl (by first | exact Or.inl rfl | exact Or.inr rfl))) (fun _ _ _ _ _ => pts_nil) (fun _ _ _ _ _ => (pe_fnW (Sx.FnR.frame (ok__law_number (K := K) M)) (hr.mono (by decide)) rfl (g__law_number (K := K) M) (kp__law_number (K := K)) takes0 (pa_cons (pv 0) (pa_cons (pv 1) pa_nil)))))))))))), fun A => (rs_seq (rs_asg (re_callR (ra_cons re_int ra_nil))) (rs_seq (rs_if (rt_and (rt_test (re_op rr_eq re_var re_int)) (rt_or (rt_test (re_op rr_gt re_var re_int)) (rt_test (re_op rr_le re_var re_int)))) (rs_retN (rn_callR (ra_cons re_var (ra_cons re_var ra_nil)))) rs_skip) (rs_seq (rs_if (rt_test (re_op rr_eq re_var re_int)) (rs_retN (rn_op rrn_cat (re_frz (rn_lst (ra_cons (re_tup (ra_cons re_int (ra_cons re_int ra_nil))) ra_nil))) (re_frz (rn_lc (ri_rng1 (ra_cons (re_op rr_sub re_var re_int) ra_nil)) rt_yes (re_tup (ra_cons (re_callR (ra_cons re_int ra_nil)) (ra_cons re_int ra_nil))))))) rs_skip) (rs_seq (rs_if (rt_test (re_op rr_eq re_var re_int)) (rs_seq (rs_asg (re_op rr_add re_int (re_callR (ra_cons re_int ra_nil)))) (rs_seq (rs_asgN (rn_lst (ra_cons (re_callR (ra_cons re_var ra_nil)) ra_nil))) (rs_seq (rs_for (ri_rng2 (ra_cons re_int (ra_cons re_var ra_nil))) rg_name (rs_seq (rs_asg (re_tup (ra_cons re_int (ra_cons re_int ra_nil)))) (rs_seq (rs_if (rt_test (re_op rr_eq (re_op rr_mod re_var re_var) re_int)) (rs_asg (re_callR (ra_cons re_var ra_nil))) rs_skip) (rs_app re_var)))) rs_retV))) rs_skip) (rs_retN (rn_op rrn_cat (re_frz (rn_lst (ra_cons (re_callR (ra_cons re_var ra_nil)) ra_nil))) (re_frz (rn_lc (ri_rng1 (ra_cons (re_op rr_sub re_var re_int) ra_nil)) rt_yes (re_callR (ra_cons re_var ra_nil))))))))))⟩
theorem ok__law_coefficients (M : Mg K mg) : Fn w K mg base 38 (He.ga K "_law_coefficients") (spR K m__law_coefficients) := fn_R def__law_coefficients sc__law_coefficients (by decide) (fun _ _ _ _ _ _ us hl => match us, hl with | [_, _, _], _ => rfl) (bd__law_coefficients M)
def lb__law_is_prime_0 : M Fl := (mIfS (mAnd (mB (mBin dLe (mBin dMul (mVar 1) (mVar 1)) (mVar 0))) (mB (mBin dEq (mBin dMod (mCB dInt (mCons (mVar 0) mNil)) (mVar 1)) (mC (.int 0))))) (mRet (mC (.bl false))) mSkip)
def b__law_is_prime : M Fl := (mSeq (mFor (mItA rng2 (mCons (mC (.int 2)) (mCons (mC (.int 100)) mNil))) (gV 1) lb__law_is_prime_0) (mRet (mBin dGt (mVar 0) (mC (.int 1)))))
theorem sc__law_is_prime : FnScope ["_law_value", "_law_divisor"] ["_law_value"] (defScope s__law_is_prime) := ⟨rfl, rfl, rfl, by decide +kernel, rfl, by decide +kernel, by decide +kernel⟩
def m__law_is_prime : MFn := runM 2 1 b__law_is_prime
theorem bd__law_is_prime (M : Mg K mg) : Body K PP w mg base d__law_is_prime.qual (defScope s__law_is_prime) (He.fAd K d__law_is_prime.at_) ["_law_value", "_law_divisor"] 3 (defBody s__law_is_prime) b__law_is_prime := fun cdv A outer s H E hr => ⟨_, (pss_cons (ps_for (passes_of rfl) rfl (pi_range2 rfl (f_range (K := K) M) (pa_cons pe_int (pa_cons pe_int pa_nil))) (pg_name (i := 1) sc__law_is_prime.nd rfl (by first | exact Or.inl rfl | exact Or.inr rfl)) (pss_one (ps_if (PW.pt (pw_and (pt_cmpR op_le (pe_op op_mulX (pv 1) (pv 1)) (pv 0) (nomark _)) (pw_and1 (pt_cmpR op_eq (pe_op op_modX (pe_callTy Sx.call_intN (by rfl) (f_int (K := K) M) (by decide +kernel) (pa_cons (pv 0) pa_nil)) (pv 1)) pe_int (nomark _))))) (pss_one (ps_ret pe_bl)) pss_nil))) (pss_one (ps_ret (pe_cmpR op_gt (pv 0) pe_int (nomark _))))), fun A => (rs_seq (rs_for (ri_rng2 (ra_cons re_int (ra_cons re_int ra_nil))) rg_name (rs_if (rt_and (rt_test (re_op rr_le (re_op rr_mul re_var re_var) re_var)) (rt_test (re_op rr_eq (re_op rr_mod (re_CB rc_int (ra_cons re_var ra_nil)) re_var) re_int))) (rs_ret re_bl) rs_skip)) (rs_ret (re_op rr_gt re_var re_int)))⟩
theorem ok__law_is_prime (M : Mg K mg) : Fn w K mg base 4 (He.ga K "_law_is_prime") (spM K m__law_is_prime) := fn_M def__law_is_prime sc__law_is_prime (fun _ _ _ _ _ _ us hl => match us, hl with | [_], _ => rfl) (bd__law_is_prime M)
def lb__law_prime_0 : M Fl := (mSeq (mIfS (mB (mCall m__law_is_prime (mCons (mVar 2) mNil))) (mRet (mVar 2)) mSkip) (mAsg 2 (mBin dSub (mVar 2) (mC (.int 1)))))
def b__law_prime : M Fl := (mSeq (mAsg 1 (mCallR 0 m__law_draw (mCons (mC (.int 6)) mNil))) (mSeq (mIfS (mB (mBin dLt (mVar 1) (mC (.int 2)))) (mRet (mC (.int 0))) mSkip) (mSeq (mIfS (mB (mBin dLt (mVar 1) (mC (.int 5)))) (mRet (mBin dIx (mFrz (mLst (mCons (mC (.int 2)) (mCons (mC (.int 3)) (mCons (mC (.int 5)) (mCons (mC (.int 7)) (mCons (mC (.int 11)) (mCons (mC (.int 13)) mNil)))))))) (mCallR 0 m__law_draw (mCons (mC (.int 6)) mNil)))) mSkip) (mSeq (mAsg 2 (mBin dAdd (mC (.int 2)) (mCallR 0 m__law_draw (mCons (mC (.int 9972)) mNil)))) (mSeq (mFor (mItA rng1 (mCons (mC (.int 40)) mNil)) (gV 3) lb__law_prime_0) (mRet (mC (.int 2))))))))
theorem sc__law_prime : FnScope ["_law_state_here", "_law_kind", "_law_value", "_law_step"] ["_law_state_here"] (defScope s__law_prime) := ⟨rfl, rfl, rfl, by decide +kernel, rfl, by decide +kernel, by decide +kernel⟩
def m__law_prime : MFr := runR 4 1 b__law_prime
theorem bd__law_prime (M : Mg K mg) : Body K PP w mg base d__law_prime.qual (defScope s__law_prime) (He.fAd K d__law_prime.at_) ["_law_state_here", "_law_kind", "_law_value", "_law_step"] 33 (defBody s__law_prime) b__law_prime := fun cdv A outer s H E hr => ⟨_, (pss_cons (ps_set (i := 1) sc__law_prime.nd rfl (by first | exact Or.inl rfl | exact Or.inr rfl) (pe_fnW (Sx.FnR.frame (ok__law_draw (K := K) M)) (hr.mono (by decide)) rfl (g__law_draw (K := K) M) (kp__law_draw (K := K)) (takes_of rfl rfl rfl rfl) (pa_cons (pv 0) (pa_cons pe_int pa_nil)))) (pss_cons (ps_if (pt_cmpR op_lt (pv 1) pe_int (nomark _)) (pss_one (ps_ret pe_int)) pss_nil) (pss_cons (ps_if (pt_cmpR op_lt (pv 1) pe_int (nomark _)) (pss_one (ps_ret (pe_ix ix_seq (pe_lst (pa_cons pe_int (pa_cons pe_int (pa_cons pe_int (pa_cons pe_int (pa_cons pe_int (pa_cons pe_int pa_nil))))))) (pe_fnW (Sx.FnR.frame (ok__law_draw (K := K) M)) (hr.mono (by decide)) rfl (g__law_draw (K := K) M) (kp__law_draw (K := K)) (takes_of rfl rfl rfl rfl) (pa_cons (pv 0) (pa_cons pe_int pa_nil))) (fun _ _ => rfl)))) pss_nil) (pss_cons (ps_set (i := 2) sc__law_prime.nd rfl (by first | exact Or.inl rfl | exact Or.inr rfl) (pe_op op_add pe_int (pe_fnW (Sx.FnR.frame (ok__law_draw (K := K) M)) (hr.mono (by decide)) rfl (g__law_draw (K := K) M) (kp__law_draw (K := K)) (takes_of rfl rfl rfl rfl) (pa_cons (pv 0) (pa_cons pe_int pa_nil))))) (pss_cons (ps_for (passes_of rfl) rfl (pi_range1 rfl (f_range (K := K) M) (pa_cons pe_int pa_nil)) (pg_name (i := 3) sc__law_prime.nd rfl (by first | exact Or.inl rfl | exact Or.inr rfl)) (pss_cons (ps_if (pt_val (pe_fnW (Sx.FnR.frame (ok__law_is_prime (K := K) M)) (hr.mono (by decide)) rfl (g__law_is_prime (K := K) M) (kp__law_is_prime (K := K)) (takes_of rfl rfl rfl rfl) (pa_cons (pv 2) pa_nil))) (pss_one (ps_ret (pv 2))) pss_nil) (pss_one (ps_set (i := 2) sc__law_prime.nd rfl (by first | exact Or.inl rfl | exact Or.inr rfl) (pe_op op_sub (pv 2) pe_int))))) (pss_one (ps_ret pe_int))))))), fun A => (rs_seq (rs_asg (re_callR (ra_cons re_int ra_nil))) (rs_seq (rs_if (rt_test (re_op rr_lt re_var re_int)) (rs_ret re_int) rs_skip) (rs_seq (rs_if (rt_test (re_op rr_lt re_var re_int)) (rs_ret (re_op rr_ix (re_frz (rn_lst (ra_cons re_int (ra_cons re_int (ra_cons re_int (ra_cons re_int (ra_cons re_int (ra_cons re_int ra_nil)))))))) (re_callR (ra_cons re_int ra_nil)))) rs_skip) (rs_seq (rs_asg (re_op rr_add re_int (re_callR (ra_cons re_int ra_nil)))) (rs_seq (rs_for (ri_rng1 (ra_cons re_int ra_nil)) rg_name (rs_seq (rs_if (rt_B (re_call (ra_cons re_var ra_nil))) (rs_ret re_var) rs_skip) (rs_asg (re_op rr_sub re_var re_int)))) (rs_ret re_int))))))⟩
theorem ok__law_prime (M : Mg K mg) : Fn w K mg base 34 (He.ga K "_law_prime") (spR K m__law_prime) := fn_R def__law_prime sc__law_prime (by decide) (fun _ _ _ _ _ _ us hl => match us, hl with | [_], _ => rfl) (bd__law_prime M)
def le__law_state_0 : M D := (mCB dInt (mCons (mVar 2) mNil))
def b__law_state : M Fl := (mSeq (mAsg 1 (mFrz (mLc 2 (mItQ (mFrz (mSlL (mVar 0) mNoP (mPart (mC (.int 63)))))) (ret true) le__law_state_0))) (mRetN (mLst (mCons (mVar 1) (mCons (mC (.int 0)) (mCons (mC (.int 0)) (mCons (mBin dAdd (mC (.int 1)) (mCB dLen (mCons (mVar 1) mNil))) (mCons (mC (.int 0)) mNil))))))))
theorem sc__law_state : FnScope ["_law_script", "_law_items", "_law_item"] ["_law_script"] (defScope s__law_state) := ⟨rfl, rfl, rfl, by decide +kernel, rfl, by decide +kernel, by decide +kernel⟩
def m__law_state : MFn := runM 3 1 b__law_state
theorem bd__law_state (M : Mg K mg) : Body K PP w mg base d__law_state.qual (defScope s__law_state) (He.fAd K d__law_state.at_) ["_law_script", "_law_items", "_law_item"] 3 (defBody s__law_state) b__law_state := fun cdv A outer s H E hr => ⟨_, (pss_cons (ps_setLc (i := 1) (own := [("_law_item", 2)]) (g := gName 2) rfl sc__law_state.nd rfl rfl (sw_true rfl rfl rfl (by decide +kernel)) (pi_seq (pe_slice sl_list (pv 0) po_none (po_some pe_int))) (blkOk_by (own := [("_law_item", 2)]) (N := ["_law_script", "_law_items", "_law_item"]) (sc := defScope s__law_state) (by decide +kernel)) (fun _ _ _ _ _ => (pg_name (i := 2) sc__law_state.nd rfl (by first | exact Or.inl rfl | exact Or.inr rfl))) (fun _ _ _ _ _ => pts_nil) (fun _ _ _ _ _ => (pe_callTy Sx.call_intN (by rfl) (f_int (K := K) M) (by decide +kernel) (pa_cons (pv 2) pa_nil)))) (pss_one (ps_ret (pe_lst (pa_cons (pv 1) (pa_cons pe_int (pa_cons pe_int (pa_cons (pe_op op_add pe_int (pe_callB Sx.call_lenN (by rfl) (f_len (K := K) M) (by decide +kernel) (pa_cons (pv 1) pa_nil))) (pa_cons pe_int pa_nil))))))))), fun A => (rs_seq (rs_asg (re_frz (rn_lc (ri_seq (re_frz (rn_slL re_var ro_none (ro_some re_int)))) rt_yes (re_CB rc_int (ra_cons re_var ra_nil))))) (rs_retN (rn_lst (ra_cons re_var (ra_cons re_int (ra_cons re_int (ra_cons (re_op rr_add re_int (re_CB rc_len (ra_cons re_var ra_nil))) (ra_cons re_int ra_nil))))))))⟩
theorem ok__law_state (M : Mg K mg) : Fn w K mg base 4 (He.ga K "_law_state") (spM K m__law_state) := fn_M def__law_state sc__law_state (fun _ _ _ _ _ _ us hl => match us, hl with | [_], _ => rfl) (bd__law_state M)
end
end Mi

namespace Mi
open PySem PySem.Spec PyProof.Rows L2 Sx
noncomputable section
variable {w : World} {K : PySem.W.Frag} [Sy K] {mg : Str → Option Value} {base : Heap}

def lr_law_22 : M Fl := (mRet (mAndV (mBin (dEqA false T_none 2) (mCall m__law_told_series (mCons (mVar 2) (mCons (mVar 8) mNil))) (mVar 4)) (mCall m__law_refusals (mCons (mVar 6) (mCons (mVar 2) (mCons (mVar 9) (mCons (mVar 13) (mCons (mVar 14) (mCons (mVar 15) mNil)))))))))
def lr_law_21 : M Fl := (mSeq (mIfS (mOr (mB (mBin dNe (mCB (dLenA "Series" m_Series___len__) (mCons (mVar 12) mNil)) (mC (.int 79)))) (mNot (mB (mBin (dEqA false T_Series 0) (mMeth "Series" "first" m_Series_first (mVar 12) (mCons (mVar 3) mNil)) (mVar 8))))) (mRet (mC (.bl false))) mSkip) lr_law_22)
def lr_law_20 : M Fl := (mSeq (mAsg 12 (mMeth "Series" "then" m_Series_then (mVar 11) (mCons (mFrz (mRep (mLst (mCons (mC (.int 0)) mNil)) (mBin dSub (mBin dSub (mC (.int 79)) (mCB dLen (mCons (mVar 4) mNil))) (mCB dLen (mCons (mVar 5) mNil))))) mNil))) lr_law_21)
def lr_law_19 : M Fl := (mSeq (mIfS (mOr (mB (mBin dNe (mBin (dEqA false T_Series 0) (mVar 8) (mVar 11)) (mBin (dEqA false T_none 2) (mVar 5) (mFrz (mLst mNil))))) (mB (mBin dNe (mBin (dEqA false T_Series 0) (mVar 8) (mMeth "Series" "first" m_Series_first (mVar 8) (mCons (mVar 10) mNil))) (mBin dEq (mVar 10) (mVar 3))))) (mRet (mC (.bl false))) mSkip) lr_law_20)
def lr_law_18 : M Fl := (mSeq (mIfS (mOr (mNot (mB (mBin (dEqA false T_Series 0) (mVar 8) (mMeth "Series" "first" m_Series_first (mVar 11) (mCons (mVar 3) mNil))))) (mOr (mNot (mB (mBin (dEqA false T_Series 0) (mMeth "Series" "then" m_Series_then (mVar 8) (mCons (mTup mNil) mNil)) (mVar 8)))) (mB (mBin (dEqA false T_Series 0) (mVar 8) (mVar 9))))) (mRet (mC (.bl false))) mSkip) lr_law_19)
def lr_law_17 : M Fl := (mSeq (mIfS (mB (mBin (dEqA true T_none 2) (mCall m__law_told_series (mCons (mVar 2) (mCons (mVar 11) mNil))) (mFrz (mBinN dCat (mVar 4) (mVar 5))))) (mRet (mC (.bl false))) mSkip) lr_law_18)
def le_law_6 : M D := (mCall m__law_passed (mCons (mVar 2) (mCons (mBin dIx (mVar 5) (mVar 16)) (mCons (mVar 16) mNil))))
def lr_law_16 : M Fl := (mSeq (mAsg 11 (mMeth "Series" "then" m_Series_then (mVar 8) (mCons (mFrz (mLc 16 (mItA rng1 (mCons (mCB dLen (mCons (mVar 5) mNil)) mNil)) (ret true) le_law_6)) mNil))) lr_law_17)
def lr_law_15 : M Fl := (mSeq (mIfS (mOr (mB (mBin (dEqA true T_none 2) (mCall m__law_told_series (mCons (mVar 2) (mCons (mMeth "Series" "first" m_Series_first (mVar 8) (mCons (mVar 10) mNil)) mNil))) (mFrz (mSlL (mVar 4) mNoP (mPart (mVar 10)))))) (mB (mBin (dEqA true T_none 2) (mCall m__law_told_series (mCons (mVar 2) (mCons (mMeth "Series" "first" m_Series_first (mVar 8) (mCons (mVar 3) mNil)) mNil))) (mVar 4)))) (mRet (mC (.bl false))) mSkip) lr_law_16)
def lr_law_14 : M Fl := (mSeq (mAsg 10 (mBin dAdd (mC (.int 1)) (mBin dMod (mCB dInt (mCons (mVar 13) mNil)) (mVar 3)))) lr_law_15)
def lr_law_13 : M Fl := (mSeq (mIfS (mOr (mB (mBin (dEqA true T_none 2) (mCall m__law_told_series (mCons (mVar 2) (mCons (mVar 8) mNil))) (mVar 4))) (mB (mBin (dEqA true T_none 2) (mCall m__law_told_series (mCons (mVar 2) (mCons (mMake "Series" m_Series___init__ (mCons (mVar 6) (mCons (mCB dTuple (mCons (mVar 9) mNil)) mNil))) mNil))) (mVar 4)))) (mRet (mC (.bl false))) mSkip) lr_law_14)
def lr_law_12 : M Fl := (mSeq (mApp 7 (mC (.int 7))) lr_law_13)
def lr_law_11 : M Fl := (mSeq (mSetV 7 (mC (.int 0)) (mC (.int 0))) lr_law_12)
def lr_law_10 : M Fl := (mSeq (mAsg 9 (mFrz (mLstV 7))) lr_law_11)
def lr_law_9 : M Fl := (mSeq (mAsg 8 (mMakeB "Series" 7 m_Series___init__ (mCons (mVar 6) (mOwn 7)))) lr_law_10)
def le_law_15 : M D := (mCall m__law_passed (mCons (mVar 2) (mCons (mBin dIx (mVar 4) (mVar 16)) (mCons (mVar 16) mNil))))
def lr_law_8 : M Fl := (mSeq (mAsgN 7 (mLc 16 (mItA rng1 (mCons (mVar 3) mNil)) (ret true) le_law_15)) lr_law_9)
def lr_law_7 : M Fl := (mSeq (mAsg 6 (mMake "Field" m_Field___init__ (mCons (mVar 2) mNil))) lr_law_8)
def lr_law_6 : M Fl := (mSeq (mAsg 5 (mFrz (mCallRN 1 m__law_small (mCons (mVar 2) (mCons (mCallR 1 m__law_draw (mCons (mC (.int 20)) mNil)) mNil))))) lr_law_7)
def lr_law_5 : M Fl := (mSeq (mAsg 4 (mFrz (mCallRN 1 m__law_coefficients (mCons (mVar 2) (mCons (mVar 3) mNil))))) lr_law_6)
def lr_law_4 : M Fl := (mSeq (mIfS (mB (mBin dEq (mCallR 1 m__law_draw (mCons (mC (.int 5)) mNil)) (mC (.int 0)))) (mAsg 3 (mBin dAdd (mC (.int 1)) (mCallR 1 m__law_draw (mCons (mC (.int 32)) mNil)))) mSkip) lr_law_5)
def lr_law_3 : M Fl := (mSeq (mAsg 3 (mBin dAdd (mC (.int 1)) (mCallR 1 m__law_draw (mCons (mC (.int 10)) mNil)))) lr_law_4)
def lr_law_2 : M Fl := (mSeq (mPar3 13 14 15 (mCons (mCallR 1 m__law_draw (mCons (mC (.int 32)) mNil)) (mCons (mCallR 1 m__law_draw (mCons (mC (.int 32)) mNil)) (mCons (mCallR 1 m__law_draw (mCons (mC (.int 7)) mNil)) mNil)))) lr_law_3)
def lr_law_1 : M Fl := (mSeq (mAsg 2 (mCallR 1 m__law_prime mNil)) lr_law_2)
def b_law : M Fl := (mSeq (mAsgN 1 (mCallN m__law_state (mCons (mVar 0) mNil))) lr_law_1)
theorem sc_law : FnScope ["_law_script", "_law_state_here", "_law_prime_here", "_law_size", "_law_row_here", "_law_more", "_law_field", "_law_given_here", "_law_made", "_law_kept", "_law_spot", "_law_longer", "_law_last", "_law_first", "_law_second", "_law_odd", "_law_k"] ["_law_script"] (defScope s_law) := ⟨rfl, rfl, rfl, by decide +kernel, rfl, by decide +kernel, by decide +kernel⟩
def m_law : MFn := runM 17 1 b_law
theorem bd_law (M : Mg K mg) : Body K PP w mg base d_law.qual (defScope s_law) (He.fAd K d_law.at_) ["_law_script", "_law_state_here", "_law_prime_here", "_law_size", "_law_row_here", "_law_more", "_law_field", "_law_given_here", "_law_made", "_law_kept", "_law_spot", "_law_longer", "_law_last", "_law_first", "_law_second", "_law_odd", "_law_k"] 42 (defBody s_law) b_law := fun cdv A outer s H E hr => ⟨_, (pss_cons (ps_set (i := 1) sc_law.nd rfl (by first | exact Or.inl rfl | exact Or.inr rfl) (pe_fnW (Sx.FnR.frame (ok__law_state (K := K) M)) (hr.mono (by decide)) rfl (g__law_state (K := K) M) (kp__law_state (K := K)) (takes_of rfl rfl rfl rfl) (pa_cons (pv 0) pa_nil))) (pss_cons (ps_set (i := 2) sc_law.nd rfl (by first | exact Or.inl rfl | exact Or.inr rfl) (pe_fnW (Sx.FnR.frame (ok__law_prime (K := K) M)) (hr.mono (by decide)) rfl (g__law_prime (K := K) M) (kp__law_prime (K := K)) (takes_of rfl rfl rfl rfl) (pa_cons (pv 1) pa_nil))) (pss_cons (ps_par3 (i := 13) (j := 14) (l := 15) (by rfl) sc_law.nd rfl rfl rfl (by decide) (by decide) (by decide) rfl rfl rfl (pa_cons (pe_fnW (Sx.FnR.frame (ok__law_draw (K := K) M)) (hr.mono (by decide)) rfl (g__law_draw (K := K) M) (kp__law_draw (K := K)) (takes_of rfl rfl rfl rfl) (pa_cons (pv 1) (pa_cons pe_int pa_nil))) (pa_cons (pe_fnW (Sx.FnR.frame (ok__law_draw (K := K) M)) (hr.mono (by decide)) rfl (g__law_draw (K := K) M) (kp__law_draw (K := K)) (takes_of rfl rfl rfl rfl) (pa_cons (pv 1) (pa_cons pe_int pa_nil))) (pa_cons (pe_fnW (Sx.FnR.frame (ok__law_draw (K := K) M)) (hr.mono (by decide)) rfl (g__law_draw (K := K) M) (kp__law_draw (K := K)) (takes_of rfl rfl rfl rfl) (pa_cons (pv 1) (pa_cons pe_int pa_nil))) pa_nil))) (by rfl)) (pss_cons (ps_set (i := 3) sc_law.nd rfl (by first | exact Or.inl rfl | exact Or.inr rfl) (pe_op op_add pe_int (pe_fnW (Sx.FnR.frame (ok__law_draw (K := K) M)) (hr.mono (by decide)) rfl (g__law_draw (K := K) M) (kp__law_draw (K := K)) (takes_of rfl rfl rfl rfl) (pa_cons (pv 1) (pa_cons pe_int pa_nil))))) (pss_cons (ps_if (pt_cmpR op_eq (pe_fnW (Sx.FnR.frame (ok__law_draw (K := K) M)) (hr.mono (by decide)) rfl (g__law_draw (K := K) M) (kp__law_draw (K := K)) (takes_of rfl rfl rfl rfl) (pa_cons (pv 1) (pa_cons pe_int pa_nil))) pe_int (nomark _)) (pss_one (ps_set (i := 3) sc_law.nd rfl (by first | exact Or.inl rfl | exact Or.inr rfl) (pe_op op_add pe_int (pe_fnW (Sx.FnR.frame (ok__law_draw (K := K) M)) (hr.mono (by decide)) rfl (g__law_draw (K := K) M) (kp__law_draw (K := K)) (takes_of rfl rfl rfl rfl) (pa_cons (pv 1) (pa_cons pe_int pa_nil)))))) pss_nil) (pss_cons (ps_set (i := 4) sc_law.nd rfl (by first | exact Or.inl rfl | exact Or.inr rfl) (pe_fnW (Sx.FnR.frame (ok__law_coefficients (K := K) M)) (hr.mono (by decide)) rfl (g__law_coefficients (K := K) M) (kp__law_coefficients (K := K)) (takes_of rfl rfl rfl rfl) (pa_cons (pv 1) (pa_cons (pv 2) (pa_cons (pv 3) pa_nil))))) (pss_cons (ps_set (i := 5) sc_law.nd rfl (by first | exact Or.inl rfl | exact Or.inr rfl) (pe_fnW (Sx.FnR.frame (ok__law_small (K := K) M)) (hr.mono (by decide)) rfl (g__law_small (K := K) M) (kp__law_small (K := K)) (takes_of rfl rfl rfl rfl) (pa_cons (pv 1) (pa_cons (pv 2) (pa_cons (pe_fnW (Sx.FnR.frame (ok__law_draw (K := K) M)) (hr.mono (by decide)) rfl (g__law_draw (K := K) M) (kp__law_draw (K := K)) (takes_of rfl rfl rfl rfl) (pa_cons (pv 1) (pa_cons pe_int pa_nil))) pa_nil))))) (pss_cons (ps_set (i := 6) sc_law.nd rfl (by first | exact Or.inl rfl | exact Or.inr rfl) (pe_mkW (mk_Field (K := K)) (Sx.FnR.frame (ok_Field___init__ (K := K) M)) (hr.mono (by decide)) rfl (g_Field (K := K) M) (takes_of rfl rfl rfl rfl) (pa_cons (pv 2) pa_nil))) (pss_cons (ps_setLc (i := 7) (own := [("_law_k", 16)]) (g := gName 16) rfl sc_law.nd rfl rfl (sw_true rfl rfl rfl (by decide +kernel)) (pi_range1 rfl (f_range (K := K) M) (pa_cons (pv 3) pa_nil)) (blkOk_by (own := [("_law_k", 16)]) (N := ["_law_script", "_law_state_here", "_law_prime_here", "_law_size", "_law_row_here", "_law_more", "_law_field", "_law_given_here", "_law_made", "_law_kept", "_law_spot", "_law_longer", "_law_last", "_law_first", "_law_second", "_law_odd", "_law_k"]) (sc := defScope s_law) (by decide +kernel)) (fun _ _ _ _ _ => (pg_name (i := 16) sc_law.nd rfl (by first | exact Or.inl rfl | exact Or.inr rfl))) (fun _ _ _ _ _ => pts_nil) (fun _ _ _ _ _ => (pe_fnW (Sx.FnR.frame (ok__law_passed (K := K) M)) (hr.mono (by decide)) rfl (g__law_passed (K := K) M) (kp__law_passed (K := K)) takes0 (pa_cons (pv 2) (pa_cons (pe_ix ix_seq (pv 4) (pv 16) (fun _ _ => rfl)) (pa_cons (pv 16) pa_nil)))))) (pss_cons (ps_set (i := 8) sc_law.nd rfl (by first | exact Or.inl rfl | exact Or.inr rfl) (pe_mkW (mk_Series (K := K)) (Sx.FnR.frame (ok_Series___init__ (K := K) M)) (hr.mono (by decide)) rfl (g_Series (K := K) M) (takes_of rfl rfl rfl rfl) (pa_cons (pv 6) (pa_cons (pv 7) pa_nil)))) (pss_cons (ps_set (i := 9) sc_law.nd rfl (by first | exact Or.inl rfl | exact Or.inr rfl) (pe_callTy call_list_of (by rfl) (f_list (K := K) M) (by decide +kernel) (pa_cons (pv 7) pa_nil))) (pss_cons (ps_asg pe_int (pg_sub (pv 7) pe_int set_list)) (pss_cons (ps_expr (pe_bm PySem.F.plainAttrs_list PySem.F.slot_list_append PySem.F.type_list_append mt_append (pv 7) (pa_cons pe_int pa_nil))) (pss_cons (ps_if (PW.pt (pw_or (pt_neE (n := 2) (et_none (K := K) M) (hr.mono (by decide)) (pe_fnW (Sx.FnR.frame (ok__law_told_series (K := K) M)) (hr.mono (by decide)) rfl (g__law_told_series (K := K) M) (kp__law_told_series (K := K)) (takes_of rfl rfl rfl rfl) (pa_cons (pv 2) (pa_cons (pv 8) pa_nil))) (pv 4)) (pw_or1 (pt_neE (n := 2) (et_none (K := K) M) (hr.mono (by decide)) (pe_fnW (Sx.FnR.frame (ok__law_told_series (K := K) M)) (hr.mono (by decide)) rfl (g__law_told_series (K := K) M) (kp__law_told_series (K := K)) (takes_of rfl rfl rfl rfl) (pa_cons (pv 2) (pa_cons (pe_mkW (mk_Series (K := K)) (Sx.FnR.frame (ok_Series___init__ (K := K) M)) (hr.mono (by decide)) rfl (g_Series (K := K) M) (takes_of rfl rfl rfl rfl) (pa_cons (pv 6) (pa_cons (pe_callTy call_tuple_of (by rfl) (f_tuple (K := K) M) (by decide +kernel) (pa_cons (pv 9) pa_nil)) pa_nil))) pa_nil))) (pv 4))))) (pss_one (ps_ret pe_bl)) pss_nil) (pss_cons (ps_set (i := 10) sc_law.nd rfl (by first | exact Or.inl rfl | exact Or.inr rfl) (pe_op op_add pe_int (pe_op op_modX (pe_callTy Sx.call_intN (by rfl) (f_int (K := K) M) (by decide +kernel) (pa_cons (pv 13) pa_nil)) (pv 3)))) (pss_cons (ps_if (PW.pt (pw_or (pt_neE (n := 2) (et_none (K := K) M) (hr.mono (by decide)) (pe_fnW (Sx.FnR.frame (ok__law_told_series (K := K) M)) (hr.mono (by decide)) rfl (g__law_told_series (K := K) M) (kp__law_told_series (K := K)) (takes_of rfl rfl rfl rfl) (pa_cons (pv 2) (pa_cons (pe_meW (pv 8) (Sx.IsCls.cl (K := K) (C := "Series")) (Sx.m_Series_first (K := K)) (Sx.FnR.frame (ok_Series_first (K := K) M)) (hr.mono (by decide)) (takes_of rfl rfl rfl rfl) (pa_cons (pv 10) pa_nil)) pa_nil))) (pe_slice sl_list (pv 4) po_none (po_some (pv 10)))) (pw_or1 (pt_neE (n := 2) (et_none (K := K) M) (hr.mono (by decide)) (pe_fnW (Sx.FnR.frame (ok__law_told_series (K := K) M)) (hr.mono (by decide)) rfl (g__law_told_series (K := K) M) (kp__law_told_series (K := K)) (takes_of rfl rfl rfl rfl) (pa_cons (pv 2) (pa_cons (pe_meW (pv 8) (Sx.IsCls.cl (K := K) (C := "Series")) (Sx.m_Series_first (K := K)) (Sx.FnR.frame (ok_Series_first (K := K) M)) (hr.mono (by decide)) (takes_of rfl rfl rfl rfl) (pa_cons (pv 3) pa_nil)) pa_nil))) (pv 4))))) (pss_one (ps_ret pe_bl)) pss_nil) (pss_cons (ps_set (i := 11) sc_law.nd rfl (by first | exact Or.inl rfl | exact Or.inr rfl) (pe_meW (pv 8) (Sx.IsCls.cl (K := K) (C := "Series")) (Sx.m_Series_then (K := K)) (Sx.FnR.frame (ok_Series_then (K := K) M)) (hr.mono (by decide)) (takes_of rfl rfl rfl rfl) (pa_cons (pe_lc (own := [("_law_k", 16)]) (g := gName 16) rfl sc_law.nd (pi_range1 rfl (f_range (K := K) M) (pa_cons (pe_callB Sx.call_lenN (by rfl) (f_len (K := K) M) (by decide +kernel) (pa_cons (pv 5) pa_nil)) pa_nil)) (blkOk_by (own := [("_law_k", 16)]) (N := ["_law_script", "_law_state_here", "_law_prime_here", "_law_size", "_law_row_here", "_law_more", "_law_field", "_law_given_here", "_law_made", "_law_kept", "_law_spot", "_law_longer", "_law_last", "_law_first", "_law_second", "_law_odd", "_law_k"]) (sc := defScope s_law) (by decide +kernel)) (fun _ _ _ _ _ => (pg_name (i := 16) sc_law.nd rfl (by first | exact Or.inl rfl | exact Or.inr rfl))) (fun _ _ _ _ _ => pts_nil) (fun _ _ _ _ _ => (pe_fnW (Sx.FnR.frame (ok__law_passed (K := K) M)) (hr.mono (by decide)) rfl (g__law_passed (K := K) M) (kp__law_passed (K := K)) takes0 (pa_cons (pv 2) (pa_cons (pe_ix ix_seq (pv 5) (pv 16) (fun _ _ => rfl)) (pa_cons (pv 16) pa_nil)))))) pa_nil))) (pss_cons (ps_if (pt_neE (n := 2) (et_none (K := K) M) (hr.mono (by decide)) (pe_fnW (Sx.FnR.frame (ok__law_told_series (K := K) M)) (hr.mono (by decide)) rfl (g__law_told_series (K := K) M) (kp__law_told_series (K := K)) (takes_of rfl rfl rfl rfl) (pa_cons (pv 2) (pa_cons (pv 11) pa_nil))) (pe_op op_catQ (pv 4) (pv 5))) (pss_one (ps_ret pe_bl)) pss_nil) (pss_cons (ps_if (PW.pt (pw_or (pt_not (pt_eqE (n := 0) (et_Series (K := K) M) (hr.mono (by decide)) (pv 8) (pe_meW (pv 11) (Sx.IsCls.cl (K := K) (C := "Series")) (Sx.m_Series_first (K := K)) (Sx.FnR.frame (ok_Series_first (K := K) M)) (hr.mono (by decide)) (takes_of rfl rfl rfl rfl) (pa_cons (pv 3) pa_nil)))) (pw_or (pt_not (pt_eqE (n := 0) (et_Series (K := K) M) (hr.mono (by decide)) (pe_meW (pv 8) (Sx.IsCls.cl (K := K) (C := "Series")) (Sx.m_Series_then (K := K)) (Sx.FnR.frame (ok_Series_then (K := K) M)) (hr.mono (by decide)) (takes_of rfl rfl rfl rfl) (pa_cons (pe_tup pa_nil) pa_nil)) (pv 8))) (pw_or1 (pt_eqE (n := 0) (et_Series (K := K) M) (hr.mono (by decide)) (pv 8) (pv 9)))))) (pss_one (ps_ret pe_bl)) pss_nil) (pss_cons (ps_if (PW.pt (pw_or (pt_cmpR op_ne (pe_eqE (n := 0) (et_Series (K := K) M) (hr.mono (by decide)) (pv 8) (pv 11)) (pe_eqE (n := 2) (et_none (K := K) M) (hr.mono (by decide)) (pv 5) (pe_lst pa_nil)) (nomark _)) (pw_or1 (pt_cmpR op_ne (pe_eqE (n := 0) (et_Series (K := K) M) (hr.mono (by decide)) (pv 8) (pe_meW (pv 8) (Sx.IsCls.cl (K := K) (C := "Series")) (Sx.m_Series_first (K := K)) (Sx.FnR.frame (ok_Series_first (K := K) M)) (hr.mono (by decide)) (takes_of rfl rfl rfl rfl) (pa_cons (pv 10) pa_nil))) (pe_cmpR op_eq (pv 10) (pv 3) (nomark _)) (nomark _))))) (pss_one (ps_ret pe_bl)) pss_nil) (pss_cons (ps_set (i := 12) sc_law.nd rfl (by first | exact Or.inl rfl | exact Or.inr rfl) (pe_meW (pv 11) (Sx.IsCls.cl (K := K) (C := "Series")) (Sx.m_Series_then (K := K)) (Sx.FnR.frame (ok_Series_then (K := K) M)) (hr.mono (by decide)) (takes_of rfl rfl rfl rfl) (pa_cons (pe_op op_rep (pe_lst (pa_cons pe_int pa_nil)) (pe_op op_sub (pe_op op_sub pe_int (pe_callB Sx.call_lenN (by rfl) (f_len (K := K) M) (by decide +kernel) (pa_cons (pv 4) pa_nil))) (pe_callB Sx.call_lenN (by rfl) (f_len (K := K) M) (by decide +kernel) (pa_cons (pv 5) pa_nil)))) pa_nil))) (pss_cons (ps_if (PW.pt (pw_or (pt_cmpR op_ne (pe_callB (call_lenA (Sx.m_Series___len__ (K := K)) (Sx.FnR.frame (ok_Series___len__ (K := K) M)) (hr.mono (by decide))) (by rfl) (f_len (K := K) M) (by decide +kernel) (pa_cons (pv 12) pa_nil)) pe_int (nomark _)) (pw_or1 (pt_not (pt_eqE (n := 0) (et_Series (K := K) M) (hr.mono (by decide)) (pe_meW (pv 12) (Sx.IsCls.cl (K := K) (C := "Series")) (Sx.m_Series_first (K := K)) (Sx.FnR.frame (ok_Series_first (K := K) M)) (hr.mono (by decide)) (takes_of rfl rfl rfl rfl) (pa_cons (pv 3) pa_nil)) (pv 8)))))) (pss_one (ps_ret pe_bl)) pss_nil) (pss_one (ps_ret (pe_and (pe_eqE (n := 2) (et_none (K := K) M) (hr.mono (by decide)) (pe_fnW (Sx.FnR.frame (ok__law_told_series (K := K) M)) (hr.mono (by decide)) rfl (g__law_told_series (K := K) M) (kp__law_told_series (K := K)) (takes_of rfl rfl rfl rfl) (pa_cons (pv 2) (pa_cons (pv 8) pa_nil))) (pv 4)) (pe_one (pe_fnW (Sx.FnR.frame (ok__law_refusals (K := K) M)) (hr.mono (by decide)) rfl (g__law_refusals (K := K) M) (kp__law_refusals (K := K)) (takes_of rfl rfl rfl rfl) (pa_cons (pv 6) (pa_cons (pv 2) (pa_cons (pv 9) (pa_cons (pv 13) (pa_cons (pv 14) (pa_cons (pv 15) pa_nil))))))))))))))))))))))))))))))))), fun A => (rs_seq (rs_asgN (rn_call (ra_cons re_var ra_nil))) (rs_seq (rs_asg (re_callR ra_nil)) (rs_seq (rs_par3 (ra_cons (re_callR (ra_cons re_int ra_nil)) (ra_cons (re_callR (ra_cons re_int ra_nil)) (ra_cons (re_callR (ra_cons re_int ra_nil)) ra_nil)))) (rs_seq (rs_asg (re_op rr_add re_int (re_callR (ra_cons re_int ra_nil)))) (rs_seq (rs_if (rt_test (re_op rr_eq (re_callR (ra_cons re_int ra_nil)) re_int)) (rs_asg (re_op rr_add re_int (re_callR (ra_cons re_int ra_nil)))) rs_skip) (rs_seq (rs_asg (re_frz (rn_callR (ra_cons re_var (ra_cons re_var ra_nil))))) (rs_seq (rs_asg (re_frz (rn_callR (ra_cons re_var (ra_cons (re_callR (ra_cons re_int ra_nil)) ra_nil))))) (rs_seq (rs_asg (re_make c_Field (ra_cons re_var ra_nil))) (rs_seq (rs_asgN (rn_lc (ri_rng1 (ra_cons re_var ra_nil)) rt_yes (re_call (ra_cons re_var (ra_cons (re_op rr_ix re_var re_var) (ra_cons re_var ra_nil)))))) (rs_seq (rs_asg (re_makeB c_Series (rab_cons re_var rab_last))) (rs_seq (rs_asg (re_frz rn_lstV)) (rs_seq (rs_setV re_int re_int) (rs_seq (rs_app re_int) (rs_seq (rs_if (rt_or (rt_test (re_eqA (re_call (ra_cons re_var (ra_cons re_var ra_nil))) re_var)) (rt_test (re_eqA (re_call (ra_cons re_var (ra_cons (re_make c_Series (ra_cons re_var (ra_cons (re_CB rc_tuple (ra_cons re_var ra_nil)) ra_nil))) ra_nil))) re_var))) (rs_ret re_bl) rs_skip) (rs_seq (rs_asg (re_op rr_add re_int (re_op rr_mod (re_CB rc_int (ra_cons re_var ra_nil)) re_var))) (rs_seq (rs_if (rt_or (rt_test (re_eqA (re_call (ra_cons re_var (ra_cons (re_meth re_var (ra_cons re_var ra_nil)) ra_nil))) (re_frz (rn_slL re_var ro_none (ro_some re_var))))) (rt_test (re_eqA (re_call (ra_cons re_var (ra_cons (re_meth re_var (ra_cons re_var ra_nil)) ra_nil))) re_var))) (rs_ret re_bl) rs_skip) (rs_seq (rs_asg (re_meth re_var (ra_cons (re_frz (rn_lc (ri_rng1 (ra_cons (re_CB rc_len (ra_cons re_var ra_nil)) ra_nil)) rt_yes (re_call (ra_cons re_var (ra_cons (re_op rr_ix re_var re_var) (ra_cons re_var ra_nil)))))) ra_nil))) (rs_seq (rs_if (rt_test (re_eqA (re_call (ra_cons re_var (ra_cons re_var ra_nil))) (re_frz (rn_op rrn_cat re_var re_var)))) (rs_ret re_bl) rs_skip) (rs_seq (rs_if (rt_or (rt_not (rt_test (re_eqA re_var (re_meth re_var (ra_cons re_var ra_nil))))) (rt_or (rt_not (rt_test (re_eqA (re_meth re_var (ra_cons (re_tup ra_nil) ra_nil)) re_var))) (rt_test (re_eqA re_var re_var)))) (rs_ret re_bl) rs_skip) (rs_seq (rs_if (rt_or (rt_test (re_op rr_ne (re_eqA re_var re_var) (re_eqA re_var (re_frz (rn_lst ra_nil))))) (rt_test (re_op rr_ne (re_eqA re_var (re_meth re_var (ra_cons re_var ra_nil))) (re_op rr_eq re_var re_var)))) (rs_ret re_bl) rs_skip) (rs_seq (rs_asg (re_meth re_var (ra_cons (re_frz (rn_rep (rn_lst (ra_cons re_int ra_nil)) (re_op rr_sub (re_op rr_sub re_int (re_CB rc_len (ra_cons re_var ra_nil))) (re_CB rc_len (ra_cons re_var ra_nil))))) ra_nil))) (rs_seq (rs_if (rt_or (rt_test (re_op rr_ne (re_CB rc_lenA (ra_cons re_var ra_nil)) re_int)) (rt_not (rt_test (re_eqA (re_meth re_var (ra_cons re_var ra_nil)) re_var)))) (rs_ret re_bl) rs_skip) (rs_ret (re_and (re_eqA (re_call (ra_cons re_var (ra_cons re_var ra_nil))) re_var) (re_call (ra_cons re_var (ra_cons re_var (ra_cons re_var (ra_cons re_var (ra_cons re_var (ra_cons re_var ra_nil)))))))))))))))))))))))))))))))⟩
theorem fok_law (M : Mg K mg) {fd : FuncData} (F : FunD K d_law.name d_law.qual (defArgs s_law) (defBody s_law) (defScope s_law) (d_law.dvs K) [] (He.fAd K d_law.at_) fd) : FnOk PP w K mg base (L2.CX PP w) 43 (He.ga K "law") fd ["_law_script"] (spM K m_law) := fok_M F sc_law (bd_law M)
end
end Mi



namespace Mi
open PySem
/-! ### sizes -/
theorem mulOk_iff {i j : Int} : mulOk i j = true ↔ IntMulOk i j := by
  rw [mulOk_eq]
  unfold IntMulOk
  cases (decide (Builtin.Int.intBits i > shortFactorBits) && decide (Builtin.Int.intBits j > shortFactorBits) && Builtin.Int.intTooBig (Builtin.Int.intBits i + Builtin.Int.intBits j)) <;> simp
theorem mulOk_l {i j : Int} (h1 : -(2 ^ 64) < i) (h2 : i < 2 ^ 64) : mulOk i j = true := mulOk_iff.mpr (.of_left (intBits_le_64 h1 h2))
theorem mulOk_r {i j : Int} (h1 : -(2 ^ 64) < j) (h2 : j < 2 ^ 64) : mulOk i j = true := mulOk_iff.mpr (.of_right (intBits_le_64 h1 h2))
/-- below 2 ^ n in size -/
def Bd (n : Nat) (i : Int) : Prop := i.natAbs < 2 ^ n
theorem Bd.bits {n : Nat} {i : Int} (h : Bd n i) : Builtin.Int.intBits i ≤ n := by
  unfold Builtin.Int.intBits
  split
  · exact Nat.zero_le _
  · rename_i h0
    have hp : i.natAbs ≠ 0 := by
      intro z
      apply h0
      have : i = 0 := by omega
      rw [this] <;> rfl
    have := (Nat.log2_lt hp).mpr h
    omega
theorem Bd.up {n m : Nat} {i : Int} (h : Bd n i) (e : n ≤ m) : Bd m i := Nat.lt_of_lt_of_le h (Nat.pow_le_pow_right (by decide) e)
theorem Bd.mul {n m : Nat} {i j : Int} (h : Bd n i) (k : Bd m j) : Bd (n + m) (i * j) := by
  unfold Bd at *
  rw [Int.natAbs_mul, Nat.pow_add]
  exact Nat.mul_lt_mul'' h k
theorem Bd.neg {n : Nat} {i : Int} (h : Bd n i) : Bd n (-i) := by unfold Bd at *; rw [Int.natAbs_neg]; exact h
theorem Bd.add {n m : Nat} {i j : Int} (h : Bd n i) (k : Bd m j) : Bd (max n m + 1) (i + j) := by
  have h := h.up (Nat.le_max_left n m)
  have k := k.up (Nat.le_max_right n m)
  unfold Bd at *
  have := Int.natAbs_add_le i j
  rw [Nat.pow_succ]
  omega
theorem Bd.sub {n m : Nat} {i j : Int} (h : Bd n i) (k : Bd m j) : Bd (max n m + 1) (i - j) := by rw [Int.sub_eq_add_neg]; exact h.add k.neg
theorem Bd.zero {n : Nat} : Bd n 0 := Nat.two_pow_pos n
theorem Bd.of_le {n : Nat} {i j : Int} (k : Bd n j) (h : i.natAbs ≤ j.natAbs) : Bd n i := Nat.lt_of_le_of_lt h k
theorem Bd.lit {n : Nat} {i : Int} (h : i.natAbs < 2 ^ n) : Bd n i := h
theorem Bd.mulOk {n m : Nat} {i j : Int} (h : Bd n i) (k : Bd m j) (e : n + m ≤ 134217728) : mulOk i j = true := mulOk_iff.mpr (IntMulOk.of_le h.bits k.bits e)
/-! ### the script's draws -/
structure Dz where
  it : List Int
  pos : Int
  big : Int
  mix : Int
  cnt : Int
  hp : 0 ≤ pos
  m0 : 0 ≤ mix
  m1 : mix < 2147483648
def Dz.c (s : Dz) : List D := [.lst (s.it.map D.int), .int s.pos, .int s.big, .int s.mix, .int s.cnt]
theorem atI_map {ns : List Int} {i : Int} (h0 : 0 ≤ i) (h1 : i < ns.length) : ∃ n, L2.atI (ns.map D.int) i = some (.int n) := by
  obtain ⟨j, rfl⟩ : ∃ j : Nat, i = j := ⟨i.toNat, by omega⟩
  have hj : j < ns.length := by omega
  exact ⟨ns[j], L2.atI_nat (by rw [List.getElem?_map, List.getElem?_eq_getElem hj]; rfl)⟩
theorem ix5 (n : Nat) (h : n < 5) : L2.ixN 5 (n : Int) = some n := by
  match n, h with
  | 0, _ => rfl
  | 1, _ => rfl
  | 2, _ => rfl
  | 3, _ => rfl
  | 4, _ => rfl
theorem ix5_1 : L2.ixN 5 1 = some 1 := rfl
theorem ix5_2 : L2.ixN 5 2 = some 2 := rfl
theorem ix5_3 : L2.ixN 5 3 = some 3 := rfl
theorem ix5_4 : L2.ixN 5 4 = some 4 := rfl
theorem la5_0 (a b c d e : D) : listAt [a, b, c, d, e] 0 = .ok a := rfl
theorem la5_1 (a b c d e : D) : listAt [a, b, c, d, e] 1 = .ok b := rfl
theorem la5_2 (a b c d e : D) : listAt [a, b, c, d, e] 2 = .ok c := rfl
theorem la5_3 (a b c d e : D) : listAt [a, b, c, d, e] 3 = .ok d := rfl
theorem la5_4 (a b c d e : D) : listAt [a, b, c, d, e] 4 = .ok e := rfl
end Mi

namespace Mi
open PySem
section
variable {n m : Nat} {p q : Rat} {i : Int} {mR : MFn}
def isIntD : D → Bool
  | .int _ => true
  | _ => false
abbrev rF (q : Rat) : List (Str × D) := [("top", .int q.num), ("bottom", .int (q.den : Int))]
def rD (q : Rat) : D := .ins "Ratio" (rF q)
theorem dFld_top (q : Rat) : dFld "top" (rD q) = .ok (.int q.num) := rfl
theorem dFld_bottom (q : Rat) : dFld "bottom" (rD q) = .ok (.int q.den) := rfl
theorem tn_rD (q : Rat) : (rD q).tn = .c "Ratio" := rfl
theorem isIntD_rD (q : Rat) : isIntD (rD q) = false := rfl
theorem isIntD_int (i : Int) : isIntD (.int i) = true := rfl
theorem isub_RR : isub (.c "Ratio") (.c "Ratio") = true := rfl
theorem isub_iR : isub (.b "int") (.c "Ratio") = false := rfl
theorem gcd_ne {p q : Int} (hq : q ≠ 0) : (Int.gcd p q : Int) ≠ 0 := by
  have := Int.gcd_pos_of_ne_zero_right p hq
  omega
theorem s_tb : ¬ (Str.ofString "top" = Str.ofString "bottom") := by decide
theorem mkR_rF (q : Rat) : mkR "Ratio" (.ok (rF q)) = .ok (rD q) := rfl
/-- top and bottom below 2 ^ n -/
structure RB (n : Nat) (q : Rat) : Prop where
  num : Bd n q.num
  den : Bd n (q.den : Int)
theorem RB.up {n m : Nat} {q : Rat} (h : RB n q) (e : n ≤ m) : RB m q := ⟨h.num.up e, h.den.up e⟩
theorem den_ne (q : Rat) : (q.den : Int) ≠ 0 := by have := q.den_nz; omega
theorem divInt_num_le {a b : Int} (hb : b ≠ 0) : (Rat.divInt a b).num.natAbs ≤ a.natAbs ∧ (Rat.divInt a b).den ≤ b.natAbs := by
  rw [Rat.num_divInt, Rat.den_divInt, if_neg hb]
  constructor
  · have h1 : b.sign.natAbs = 1 := by rw [Int.natAbs_sign_of_ne_zero hb]
    have h2 : (b.sign * a).natAbs = a.natAbs := by rw [Int.natAbs_mul, h1, Nat.one_mul]
    rw [← h2]
    exact Int.natAbs_ediv_le_natAbs _ _
  · exact Nat.div_le_self _ _
theorem RB.divInt {n : Nat} {a b : Int} (hb : b ≠ 0) (h1 : Bd n a) (h2 : Bd n b) : RB n (Rat.divInt a b) := by
  have := divInt_num_le (a := a) hb
  exact ⟨h1.of_le this.1, h2.of_le (by simpa using this.2)⟩
theorem q_addI (p : Rat) (i : Int) : Rat.divInt (p.num + i * p.den) p.den = p + (i : Rat) := by
  rw [Rat.add_def', Rat.divInt_ofNat]
  show mkRat _ _ = mkRat (p.num * ((1 : Nat) : Int) + i * (p.den : Int)) (p.den * 1)
  rw [Nat.mul_one]
  congr 1
  omega
theorem q_subI (p : Rat) (i : Int) : Rat.divInt (p.num - i * p.den) p.den = p - (i : Rat) := by
  rw [Rat.sub_def', Rat.divInt_ofNat]
  show mkRat _ _ = mkRat (p.num * ((1 : Nat) : Int) - i * (p.den : Int)) (p.den * 1)
  rw [Nat.mul_one]
  congr 1
  omega
theorem q_mulI (p : Rat) (i : Int) : Rat.divInt (p.num * i) p.den = p * (i : Rat) := by
  rw [Rat.mul_def', Rat.divInt_ofNat]
  show mkRat _ _ = mkRat (p.num * i) (p.den * 1)
  rw [Nat.mul_one]
theorem q_add (p q : Rat) : Rat.divInt (p.num * q.den + q.num * p.den) (p.den * q.den) = p + q := by
  rw [Rat.add_def', ← Rat.divInt_ofNat, Int.natCast_mul]
theorem q_sub (p q : Rat) : Rat.divInt (p.num * q.den - q.num * p.den) (p.den * q.den) = p - q := by
  rw [Rat.sub_def', ← Rat.divInt_ofNat, Int.natCast_mul]
theorem q_mul (p q : Rat) : Rat.divInt (p.num * q.num) (p.den * q.den) = p * q := by
  rw [Rat.mul_def', ← Rat.divInt_ofNat, Int.natCast_mul]
theorem q_neg (p : Rat) : Rat.divInt (-p.num) p.den = -p := by
  rw [← Rat.neg_divInt, Rat.num_divInt_den]
theorem rat_eq_iff : p = q ↔ p.num = q.num ∧ (p.den : Int) = q.den := by
  constructor
  · rintro rfl; exact ⟨rfl, rfl⟩
  · rintro ⟨h1, h2⟩; exact Rat.ext h1 (by omega)
theorem rat_eqI_iff : p = (i : Rat) ↔ (p.den : Int) = 1 ∧ p.num = i := by
  rw [rat_eq_iff]
  show p.num = i ∧ (p.den : Int) = ((1 : Nat) : Int) ↔ _
  constructor
  · rintro ⟨h1, h2⟩; exact ⟨h2, h1⟩
  · rintro ⟨h1, h2⟩; exact ⟨h2, h1⟩
theorem q_div (hq : q ≠ 0) : Rat.divInt (p.num * q.den) (p.den * q.num) = p / q := by
  have h1 : p = Rat.divInt p.num p.den := (Rat.num_divInt_den p).symm
  have h2 : q⁻¹ = Rat.divInt q.den q.num := Rat.inv_def q
  rw [Rat.div_def, h2]
  conv => rhs; rw [h1]
  rw [Rat.divInt_mul_divInt]
theorem num_ne (hq : q ≠ 0) : q.num ≠ 0 := fun h => hq (by
  rw [← Rat.num_divInt_den q, h, Rat.zero_divInt])
theorem RB.neg (h : RB n p) : RB n (-p) := ⟨h.num.neg, h.den⟩
theorem RB.add (hp : RB n p) (hq : RB m q) : RB (n + m + 1) (p + q) := by
  rw [← q_add]
  refine RB.divInt (Int.mul_ne_zero (den_ne p) (den_ne q)) ?_ ((hp.den.mul hq.den).up (by omega))
  exact ((hp.num.mul hq.den).add (hq.num.mul hp.den)).up (by omega)
theorem RB.sub (hp : RB n p) (hq : RB m q) : RB (n + m + 1) (p - q) := by
  rw [← q_sub]
  refine RB.divInt (Int.mul_ne_zero (den_ne p) (den_ne q)) ?_ ((hp.den.mul hq.den).up (by omega))
  exact ((hp.num.mul hq.den).sub (hq.num.mul hp.den)).up (by omega)
theorem RB.mul (hp : RB n p) (hq : RB m q) : RB (n + m) (p * q) := by
  rw [← q_mul]
  exact RB.divInt (Int.mul_ne_zero (den_ne p) (den_ne q)) (hp.num.mul hq.num) (hp.den.mul hq.den)
end
end Mi

namespace Mi
local macro_rules | `(tactic| simp! only [$as,*]) => `(tactic| simp only [Mi.runM, Mi.runI, Mi.runR, Mi.outF, Mi.outI, Mi.outR, Mi.startE, Mi.bnd, Mi.ret, Mi.lift, Mi.fail, Mi.mVar, Mi.mC, Mi.mBin, Mi.mBinN, Mi.mUn, Mi.mFld, Mi.mFrz, Mi.mB, Mi.tru, Mi.mAnd, Mi.mOr, Mi.mNot, Mi.mAndV, Mi.mOrV, Mi.mNotV, Mi.mIf, Mi.mChain, Mi.mNil, Mi.mCons, Mi.mTup, Mi.mLst, Mi.mCB, Mi.mCBn, Mi.mIdxV, Mi.mSkip, Mi.thenF, Mi.mSeq, Mi.sto, Mi.mAsg, Mi.mAsgN, Mi.two, Mi.mPar, Mi.mDrop, Mi.mRet, Mi.mRetN, Mi.mRetV, Mi.mIfS, Mi.againF, Mi.gV, Mi.gsN, Mi.gsC, Mi.gT, Mi.mAsgT, Mi.tgt, Mi.mCall, Mi.frzR, Mi.newR, Mi.mCallN, Mi.recv, Mi.mMeth, Mi.mMethN, Mi.mMake, Mi.callR, Mi.mCallR, Mi.newM, Mi.mCallRN, Mi.mApp, Mi.mRev, Mi.setAt, Mi.mSetV, Mi.mSetF, Mi.mAug, Mi.one, Mi.mRaise, Mi.mRaise0, Mi.mTry, Mi.noEx, Mi.endX, Mi.inX, Mi.mTryAs, Mi.mXf, Mi.dI, Mi.dIc, Mi.dAdd, Mi.dSub, Mi.dLt, Mi.dLe, Mi.dGt, Mi.dGe, Mi.dMul, Mi.dDiv, Mi.dMod, Mi.dPow, Mi.dNeg, Mi.sEq, Mi.ofB, Mi.dEq, Mi.dNe, Mi.isNon, Mi.dIsN, Mi.dNotN, Mi.dInt, Mi.dI1, Mi.dI2, Mi.dAbs, Mi.dMin, Mi.dMax, Mi.dGcd, Mi.dLen1, Mi.dLen, Mi.mLenV, Mi.mIsi, Mi.isub, Mi.D.tn, Mi.dIx, Mi.opC, Mi.negC, Mi.eqC, Mi.ipC, Mi.Rv.d, Mi.mNoP, Mi.asI, Mi.mPart, Mi.mSlL, Mi.asL, Mi.asQ, Mi.mItQ, Mi.mItA, Mi.mFor, Mi.putD, List.map_cons, List.map_nil, List.length_cons, List.length_nil, List.replicate, List.cons_append, List.nil_append, List.getElem?_cons_zero, List.getElem?_cons_succ, List.set_cons_zero, List.set_cons_succ, Nat.sub_self, Nat.reduceAdd, Nat.reduceSub, Nat.reduceEqDiff, List.reverse_cons, id, Bool.not_true, Bool.not_false, if_true, if_false, Bool.false_eq_true, reduceIte, true_and, and_true, and_self, Option.toList, List.all_cons, List.all_nil, Bool.and_true, Bool.true_and, Bool.and_self, decide_true, decide_false, decide_eq_true_eq, reduceCtorEq, Mi.bo_pl, Mi.bo_ow, Mi.bo_rf, Mi.bo_un, Mi.sa_ow, Mi.sa_rf, Mi.sa_pl, Mi.oa_un, Mi.oa_pl, Mi.oa_ow, Mi.co_ow, Mi.co_rf, Mi.co_pl, Mi.st_ow, Mi.st_rf, Mi.lv_ow, Mi.lv_rf, Mi.lv_pl, Mi.ne_un, Mi.ne_pl, Mi.ne_ow, Mi.ne_rf, Mi.ne_se, Mi.ne_ex, Mi.th_un, Mi.th_pl, Mi.ie_ex, Mi.xf_ex, ne_eq, not_false_eq_true, not_true_eq_false, Mi.clr, Mi.putS, Option.isSome_some, Option.some.injEq, Int.reduceEq, Int.reduceNe, Int.reduceLT, Int.reduceLE, Nat.reduceLT, Nat.reduceLeDiff, decide_not, Bool.not_eq_true, Bool.decide_eq_true, Mi.ib_t, Mi.ib_f, Mi.mkR_ex, Mi.bO_s, Mi.rO_f, Mi.rO_t, Mi.dEqA_eq, Mi.eqN_0, Mi.eqN_1, Mi.eqN_2, Mi.eqN_3, Mi.eqB_ins, Mi.eqB_tt, Mi.eqB_ll, Mi.eqB_int, Mi.eqB_str, Mi.eqB_bl, Mi.eqB_non, Mi.eqK_ii, Mi.eqK_ss, Mi.eqK_bb, Mi.eqK_nn, Mi.eqK_ni, Mi.eqK_in, Mi.eqK_ns, Mi.eqK_sn, Mi.eqK_is, Mi.eqK_si, Mi.eqK_nt, Mi.eqK_nl, Mi.eqB_tn, Mi.eqB_ln, Mi.eqLs_nil, Mi.eqLs_nc, Mi.eqLs_cn, Mi.eqLs_cc, Mi.itE_int, Mi.itE_str, Mi.itE_bl, Mi.itE_non, Mi.appT, Mi.asB, Mi.mMakeK, Mi.mDic, Option.bind_some, Mi.mLstV, Mi.lsV, Mi.mTupV, Mi.dList, Mi.dTuple, Mi.mSlT, Mi.asT2, Mi.mIsiT, Mi.enumQ, Mi.dInN, Mi.three, Mi.mPar3, Mi.brw, Mi.mOwn, Mi.mCallB, Mi.mMakeB, Mi.noLx, Mi.noL_tup, Mi.noL_ins, Mi.noL_lst, Mi.noL_int, Mi.noL_str, Mi.noL_bl, Mi.noL_non, Mi.noL_dic, Mi.noLs_nil, Mi.noLs_cons, Mi.noLf_nil, Mi.noLf_cons, List.any_cons, List.any_nil, Bool.or_true, Bool.or_false, Bool.true_or, Bool.false_or, Mi.hd_t, Mi.hd_f, Mi.hf_t, Mi.hf_f, Mi.hd_eq, Mi.mSlV, Mi.cutO, Mi.dLenA, Mi.dLenA1, Mi.lenOf, Mi.dCat, $as,*]) | `(tactic| simp! only [$as,*] $l:location) => `(tactic| simp only [Mi.runM, Mi.runI, Mi.runR, Mi.outF, Mi.outI, Mi.outR, Mi.startE, Mi.bnd, Mi.ret, Mi.lift, Mi.fail, Mi.mVar, Mi.mC, Mi.mBin, Mi.mBinN, Mi.mUn, Mi.mFld, Mi.mFrz, Mi.mB, Mi.tru, Mi.mAnd, Mi.mOr, Mi.mNot, Mi.mAndV, Mi.mOrV, Mi.mNotV, Mi.mIf, Mi.mChain, Mi.mNil, Mi.mCons, Mi.mTup, Mi.mLst, Mi.mCB, Mi.mCBn, Mi.mIdxV, Mi.mSkip, Mi.thenF, Mi.mSeq, Mi.sto, Mi.mAsg, Mi.mAsgN, Mi.two, Mi.mPar, Mi.mDrop, Mi.mRet, Mi.mRetN, Mi.mRetV, Mi.mIfS, Mi.againF, Mi.gV, Mi.gsN, Mi.gsC, Mi.gT, Mi.mAsgT, Mi.tgt, Mi.mCall, Mi.frzR, Mi.newR, Mi.mCallN, Mi.recv, Mi.mMeth, Mi.mMethN, Mi.mMake, Mi.callR, Mi.mCallR, Mi.newM, Mi.mCallRN, Mi.mApp, Mi.mRev, Mi.setAt, Mi.mSetV, Mi.mSetF, Mi.mAug, Mi.one, Mi.mRaise, Mi.mRaise0, Mi.mTry, Mi.noEx, Mi.endX, Mi.inX, Mi.mTryAs, Mi.mXf, Mi.dI, Mi.dIc, Mi.dAdd, Mi.dSub, Mi.dLt, Mi.dLe, Mi.dGt, Mi.dGe, Mi.dMul, Mi.dDiv, Mi.dMod, Mi.dPow, Mi.dNeg, Mi.sEq, Mi.ofB, Mi.dEq, Mi.dNe, Mi.isNon, Mi.dIsN, Mi.dNotN, Mi.dInt, Mi.dI1, Mi.dI2, Mi.dAbs, Mi.dMin, Mi.dMax, Mi.dGcd, Mi.dLen1, Mi.dLen, Mi.mLenV, Mi.mIsi, Mi.isub, Mi.D.tn, Mi.dIx, Mi.opC, Mi.negC, Mi.eqC, Mi.ipC, Mi.Rv.d, Mi.mNoP, Mi.asI, Mi.mPart, Mi.mSlL, Mi.asL, Mi.asQ, Mi.mItQ, Mi.mItA, Mi.mFor, Mi.putD, List.map_cons, List.map_nil, List.length_cons, List.length_nil, List.replicate, List.cons_append, List.nil_append, List.getElem?_cons_zero, List.getElem?_cons_succ, List.set_cons_zero, List.set_cons_succ, Nat.sub_self, Nat.reduceAdd, Nat.reduceSub, Nat.reduceEqDiff, List.reverse_cons, id, Bool.not_true, Bool.not_false, if_true, if_false, Bool.false_eq_true, reduceIte, true_and, and_true, and_self, Option.toList, List.all_cons, List.all_nil, Bool.and_true, Bool.true_and, Bool.and_self, decide_true, decide_false, decide_eq_true_eq, reduceCtorEq, Mi.bo_pl, Mi.bo_ow, Mi.bo_rf, Mi.bo_un, Mi.sa_ow, Mi.sa_rf, Mi.sa_pl, Mi.oa_un, Mi.oa_pl, Mi.oa_ow, Mi.co_ow, Mi.co_rf, Mi.co_pl, Mi.st_ow, Mi.st_rf, Mi.lv_ow, Mi.lv_rf, Mi.lv_pl, Mi.ne_un, Mi.ne_pl, Mi.ne_ow, Mi.ne_rf, Mi.ne_se, Mi.ne_ex, Mi.th_un, Mi.th_pl, Mi.ie_ex, Mi.xf_ex, ne_eq, not_false_eq_true, not_true_eq_false, Mi.clr, Mi.putS, Option.isSome_some, Option.some.injEq, Int.reduceEq, Int.reduceNe, Int.reduceLT, Int.reduceLE, Nat.reduceLT, Nat.reduceLeDiff, decide_not, Bool.not_eq_true, Bool.decide_eq_true, Mi.ib_t, Mi.ib_f, Mi.mkR_ex, Mi.bO_s, Mi.rO_f, Mi.rO_t, Mi.dEqA_eq, Mi.eqN_0, Mi.eqN_1, Mi.eqN_2, Mi.eqN_3, Mi.eqB_ins, Mi.eqB_tt, Mi.eqB_ll, Mi.eqB_int, Mi.eqB_str, Mi.eqB_bl, Mi.eqB_non, Mi.eqK_ii, Mi.eqK_ss, Mi.eqK_bb, Mi.eqK_nn, Mi.eqK_ni, Mi.eqK_in, Mi.eqK_ns, Mi.eqK_sn, Mi.eqK_is, Mi.eqK_si, Mi.eqK_nt, Mi.eqK_nl, Mi.eqB_tn, Mi.eqB_ln, Mi.eqLs_nil, Mi.eqLs_nc, Mi.eqLs_cn, Mi.eqLs_cc, Mi.itE_int, Mi.itE_str, Mi.itE_bl, Mi.itE_non, Mi.appT, Mi.asB, Mi.mMakeK, Mi.mDic, Option.bind_some, Mi.mLstV, Mi.lsV, Mi.mTupV, Mi.dList, Mi.dTuple, Mi.mSlT, Mi.asT2, Mi.mIsiT, Mi.enumQ, Mi.dInN, Mi.three, Mi.mPar3, Mi.brw, Mi.mOwn, Mi.mCallB, Mi.mMakeB, Mi.noLx, Mi.noL_tup, Mi.noL_ins, Mi.noL_lst, Mi.noL_int, Mi.noL_str, Mi.noL_bl, Mi.noL_non, Mi.noL_dic, Mi.noLs_nil, Mi.noLs_cons, Mi.noLf_nil, Mi.noLf_cons, List.any_cons, List.any_nil, Bool.or_true, Bool.or_false, Bool.true_or, Bool.false_or, Mi.hd_t, Mi.hd_f, Mi.hf_t, Mi.hf_f, Mi.hd_eq, Mi.mSlV, Mi.cutO, Mi.dLenA, Mi.dLenA1, Mi.lenOf, Mi.dCat, $as,*] $l:location)
open PySem
section
variable {n m : Nat} {p q : Rat} {i : Int} {mR : MFn}
theorem e_is_integer (d : D) : m_is_integer [d] = .ok (.pl (.bl (isIntD d))) := by cases d <;> rfl
theorem e_init {p q : Int} (h0 : q ≠ 0) : m_Ratio___init__ [.int p, .int q] = .ok (rF (Rat.divInt p q)) := by
  unfold m_Ratio___init__ b_Ratio___init__
  unfold rF
  have hg := gcd_ne (p := p) h0
  have hg2 : ¬ -(Int.gcd p q : Int) = 0 := by omega
  rw [← Sx.rat_num h0, ← Sx.rat_den h0]
  by_cases hn : q < 0
  · simp! only [e_is_integer, isIntD, h0, hn, hg, hg2, iDiv_eq, s_tb]
  · simp! only [e_is_integer, isIntD, h0, hn, hg, iDiv_eq, s_tb]
theorem e_init1 (p : Int) : m_Ratio___init___1 [.int p] = .ok (rF (p : Rat)) := by
  unfold m_Ratio___init___1
  have e : Rat.divInt p 1 = (p : Rat) := by rw [show (1 : Int) = ((1 : Nat) : Int) from rfl, Rat.divInt_ofNat, ← Rat.mk_eq_mkRat p 1 (by decide) (by simp)]; rfl
  rw [← e]
  exact e_init (by decide)
theorem e_eq : m_Ratio___eq__ [rD p, rD q] = .ok (.pl (.bl (decide (p = q)))) := by
  unfold m_Ratio___eq__ b_Ratio___eq__
  by_cases h1 : p.num = q.num
  · by_cases h2 : (p.den : Int) = q.den
    · have h : p = q := rat_eq_iff.mpr ⟨h1, h2⟩
      simp! only [-Mi.D.tn, -Mi.isub, tn_rD, isub_RR, dFld_top, dFld_bottom, h1, h2, h]
    · have h : ¬ p = q := fun z => h2 (rat_eq_iff.mp z).2
      simp! only [-Mi.D.tn, -Mi.isub, tn_rD, isub_RR, dFld_top, dFld_bottom, h1, h2, h]
  · have h : ¬ p = q := fun z => h1 (rat_eq_iff.mp z).1
    simp! only [-Mi.D.tn, -Mi.isub, tn_rD, isub_RR, dFld_top, dFld_bottom, h1, h]
theorem e_eqI : m_Ratio___eq__ [rD p, .int i] = .ok (.pl (.bl (decide (p = (i : Rat))))) := by
  unfold m_Ratio___eq__ b_Ratio___eq__
  by_cases h1 : (p.den : Int) = 1
  · by_cases h2 : p.num = i
    · have h : p = (i : Rat) := rat_eqI_iff.mpr ⟨h1, h2⟩
      have hd : decide (p = (i : Rat)) = true := decide_eq_true h
      simp! only [tn_rD, dFld_top, dFld_bottom, e_is_integer, isIntD, h1, h2, hd]
    · have h : ¬ p = (i : Rat) := fun z => h2 (rat_eqI_iff.mp z).2
      have hd : decide (p = (i : Rat)) = false := decide_eq_false h
      simp! only [tn_rD, dFld_top, dFld_bottom, e_is_integer, isIntD, h1, h2, hd]
  · have h : ¬ p = (i : Rat) := fun z => h1 (rat_eqI_iff.mp z).1
    have hd : decide (p = (i : Rat)) = false := decide_eq_false h
    simp! only [tn_rD, dFld_top, dFld_bottom, e_is_integer, isIntD, h1, hd]
theorem e_eqS (s : Str) : m_Ratio___eq__ [rD p, .str s] = .ok (.pl (.bl false)) := by
  unfold m_Ratio___eq__ b_Ratio___eq__
  simp! only [tn_rD, dFld_top, dFld_bottom, e_is_integer, isIntD]
theorem e_eqN : m_Ratio___eq__ [rD p, .non] = .ok (.pl (.bl false)) := by
  unfold m_Ratio___eq__ b_Ratio___eq__
  simp! only [tn_rD, dFld_top, dFld_bottom, e_is_integer, isIntD]
theorem o_eq : eqC "Ratio" m_Ratio___eq__ (rD p) (rD q) = .ok (.bl (decide (p = q))) := by
  have := e_eq (p := p) (q := q)
  unfold rD at *
  simp! only [this]
theorem o_eqI : eqC "Ratio" m_Ratio___eq__ (rD p) (.int i) = .ok (.bl (decide (p = (i : Rat)))) := by
  have := e_eqI (p := p) (i := i)
  unfold rD at *
  simp! only [this]
end
end Mi

namespace Mi
local macro_rules | `(tactic| simp! only [$as,*]) => `(tactic| simp only [Mi.runM, Mi.runI, Mi.runR, Mi.outF, Mi.outI, Mi.outR, Mi.startE, Mi.bnd, Mi.ret, Mi.lift, Mi.fail, Mi.mVar, Mi.mC, Mi.mBin, Mi.mBinN, Mi.mUn, Mi.mFld, Mi.mFrz, Mi.mB, Mi.tru, Mi.mAnd, Mi.mOr, Mi.mNot, Mi.mAndV, Mi.mOrV, Mi.mNotV, Mi.mIf, Mi.mChain, Mi.mNil, Mi.mCons, Mi.mTup, Mi.mLst, Mi.mCB, Mi.mCBn, Mi.mIdxV, Mi.mSkip, Mi.thenF, Mi.mSeq, Mi.sto, Mi.mAsg, Mi.mAsgN, Mi.two, Mi.mPar, Mi.mDrop, Mi.mRet, Mi.mRetN, Mi.mRetV, Mi.mIfS, Mi.againF, Mi.gV, Mi.gsN, Mi.gsC, Mi.gT, Mi.mAsgT, Mi.tgt, Mi.mCall, Mi.frzR, Mi.newR, Mi.mCallN, Mi.recv, Mi.mMeth, Mi.mMethN, Mi.mMake, Mi.callR, Mi.mCallR, Mi.newM, Mi.mCallRN, Mi.mApp, Mi.mRev, Mi.setAt, Mi.mSetV, Mi.mSetF, Mi.mAug, Mi.one, Mi.mRaise, Mi.mRaise0, Mi.mTry, Mi.noEx, Mi.endX, Mi.inX, Mi.mTryAs, Mi.mXf, Mi.dI, Mi.dIc, Mi.dAdd, Mi.dSub, Mi.dLt, Mi.dLe, Mi.dGt, Mi.dGe, Mi.dMul, Mi.dDiv, Mi.dMod, Mi.dPow, Mi.dNeg, Mi.sEq, Mi.ofB, Mi.dEq, Mi.dNe, Mi.isNon, Mi.dIsN, Mi.dNotN, Mi.dInt, Mi.dI1, Mi.dI2, Mi.dAbs, Mi.dMin, Mi.dMax, Mi.dGcd, Mi.dLen1, Mi.dLen, Mi.mLenV, Mi.mIsi, Mi.isub, Mi.D.tn, Mi.dIx, Mi.opC, Mi.negC, Mi.eqC, Mi.ipC, Mi.Rv.d, Mi.mNoP, Mi.asI, Mi.mPart, Mi.mSlL, Mi.asL, Mi.asQ, Mi.mItQ, Mi.mItA, Mi.mFor, Mi.putD, List.map_cons, List.map_nil, List.length_cons, List.length_nil, List.replicate, List.cons_append, List.nil_append, List.getElem?_cons_zero, List.getElem?_cons_succ, List.set_cons_zero, List.set_cons_succ, Nat.sub_self, Nat.reduceAdd, Nat.reduceSub, Nat.reduceEqDiff, List.reverse_cons, id, Bool.not_true, Bool.not_false, if_true, if_false, Bool.false_eq_true, reduceIte, true_and, and_true, and_self, Option.toList, List.all_cons, List.all_nil, Bool.and_true, Bool.true_and, Bool.and_self, decide_true, decide_false, decide_eq_true_eq, reduceCtorEq, Mi.bo_pl, Mi.bo_ow, Mi.bo_rf, Mi.bo_un, Mi.sa_ow, Mi.sa_rf, Mi.sa_pl, Mi.oa_un, Mi.oa_pl, Mi.oa_ow, Mi.co_ow, Mi.co_rf, Mi.co_pl, Mi.st_ow, Mi.st_rf, Mi.lv_ow, Mi.lv_rf, Mi.lv_pl, Mi.ne_un, Mi.ne_pl, Mi.ne_ow, Mi.ne_rf, Mi.ne_se, Mi.ne_ex, Mi.th_un, Mi.th_pl, Mi.ie_ex, Mi.xf_ex, ne_eq, not_false_eq_true, not_true_eq_false, Mi.clr, Mi.putS, Option.isSome_some, Option.some.injEq, Int.reduceEq, Int.reduceNe, Int.reduceLT, Int.reduceLE, Nat.reduceLT, Nat.reduceLeDiff, decide_not, Bool.not_eq_true, Bool.decide_eq_true, Mi.ib_t, Mi.ib_f, Mi.mkR_ex, Mi.bO_s, Mi.rO_f, Mi.rO_t, Mi.dEqA_eq, Mi.eqN_0, Mi.eqN_1, Mi.eqN_2, Mi.eqN_3, Mi.eqB_ins, Mi.eqB_tt, Mi.eqB_ll, Mi.eqB_int, Mi.eqB_str, Mi.eqB_bl, Mi.eqB_non, Mi.eqK_ii, Mi.eqK_ss, Mi.eqK_bb, Mi.eqK_nn, Mi.eqK_ni, Mi.eqK_in, Mi.eqK_ns, Mi.eqK_sn, Mi.eqK_is, Mi.eqK_si, Mi.eqK_nt, Mi.eqK_nl, Mi.eqB_tn, Mi.eqB_ln, Mi.eqLs_nil, Mi.eqLs_nc, Mi.eqLs_cn, Mi.eqLs_cc, Mi.itE_int, Mi.itE_str, Mi.itE_bl, Mi.itE_non, Mi.appT, Mi.asB, Mi.mMakeK, Mi.mDic, Option.bind_some, Mi.mLstV, Mi.lsV, Mi.mTupV, Mi.dList, Mi.dTuple, Mi.mSlT, Mi.asT2, Mi.mIsiT, Mi.enumQ, Mi.dInN, Mi.three, Mi.mPar3, Mi.brw, Mi.mOwn, Mi.mCallB, Mi.mMakeB, Mi.noLx, Mi.noL_tup, Mi.noL_ins, Mi.noL_lst, Mi.noL_int, Mi.noL_str, Mi.noL_bl, Mi.noL_non, Mi.noL_dic, Mi.noLs_nil, Mi.noLs_cons, Mi.noLf_nil, Mi.noLf_cons, List.any_cons, List.any_nil, Bool.or_true, Bool.or_false, Bool.true_or, Bool.false_or, Mi.hd_t, Mi.hd_f, Mi.hf_t, Mi.hf_f, Mi.hd_eq, Mi.mSlV, Mi.cutO, Mi.dLenA, Mi.dLenA1, Mi.lenOf, Mi.dCat, $as,*]) | `(tactic| simp! only [$as,*] $l:location) => `(tactic| simp only [Mi.runM, Mi.runI, Mi.runR, Mi.outF, Mi.outI, Mi.outR, Mi.startE, Mi.bnd, Mi.ret, Mi.lift, Mi.fail, Mi.mVar, Mi.mC, Mi.mBin, Mi.mBinN, Mi.mUn, Mi.mFld, Mi.mFrz, Mi.mB, Mi.tru, Mi.mAnd, Mi.mOr, Mi.mNot, Mi.mAndV, Mi.mOrV, Mi.mNotV, Mi.mIf, Mi.mChain, Mi.mNil, Mi.mCons, Mi.mTup, Mi.mLst, Mi.mCB, Mi.mCBn, Mi.mIdxV, Mi.mSkip, Mi.thenF, Mi.mSeq, Mi.sto, Mi.mAsg, Mi.mAsgN, Mi.two, Mi.mPar, Mi.mDrop, Mi.mRet, Mi.mRetN, Mi.mRetV, Mi.mIfS, Mi.againF, Mi.gV, Mi.gsN, Mi.gsC, Mi.gT, Mi.mAsgT, Mi.tgt, Mi.mCall, Mi.frzR, Mi.newR, Mi.mCallN, Mi.recv, Mi.mMeth, Mi.mMethN, Mi.mMake, Mi.callR, Mi.mCallR, Mi.newM, Mi.mCallRN, Mi.mApp, Mi.mRev, Mi.setAt, Mi.mSetV, Mi.mSetF, Mi.mAug, Mi.one, Mi.mRaise, Mi.mRaise0, Mi.mTry, Mi.noEx, Mi.endX, Mi.inX, Mi.mTryAs, Mi.mXf, Mi.dI, Mi.dIc, Mi.dAdd, Mi.dSub, Mi.dLt, Mi.dLe, Mi.dGt, Mi.dGe, Mi.dMul, Mi.dDiv, Mi.dMod, Mi.dPow, Mi.dNeg, Mi.sEq, Mi.ofB, Mi.dEq, Mi.dNe, Mi.isNon, Mi.dIsN, Mi.dNotN, Mi.dInt, Mi.dI1, Mi.dI2, Mi.dAbs, Mi.dMin, Mi.dMax, Mi.dGcd, Mi.dLen1, Mi.dLen, Mi.mLenV, Mi.mIsi, Mi.isub, Mi.D.tn, Mi.dIx, Mi.opC, Mi.negC, Mi.eqC, Mi.ipC, Mi.Rv.d, Mi.mNoP, Mi.asI, Mi.mPart, Mi.mSlL, Mi.asL, Mi.asQ, Mi.mItQ, Mi.mItA, Mi.mFor, Mi.putD, List.map_cons, List.map_nil, List.length_cons, List.length_nil, List.replicate, List.cons_append, List.nil_append, List.getElem?_cons_zero, List.getElem?_cons_succ, List.set_cons_zero, List.set_cons_succ, Nat.sub_self, Nat.reduceAdd, Nat.reduceSub, Nat.reduceEqDiff, List.reverse_cons, id, Bool.not_true, Bool.not_false, if_true, if_false, Bool.false_eq_true, reduceIte, true_and, and_true, and_self, Option.toList, List.all_cons, List.all_nil, Bool.and_true, Bool.true_and, Bool.and_self, decide_true, decide_false, decide_eq_true_eq, reduceCtorEq, Mi.bo_pl, Mi.bo_ow, Mi.bo_rf, Mi.bo_un, Mi.sa_ow, Mi.sa_rf, Mi.sa_pl, Mi.oa_un, Mi.oa_pl, Mi.oa_ow, Mi.co_ow, Mi.co_rf, Mi.co_pl, Mi.st_ow, Mi.st_rf, Mi.lv_ow, Mi.lv_rf, Mi.lv_pl, Mi.ne_un, Mi.ne_pl, Mi.ne_ow, Mi.ne_rf, Mi.ne_se, Mi.ne_ex, Mi.th_un, Mi.th_pl, Mi.ie_ex, Mi.xf_ex, ne_eq, not_false_eq_true, not_true_eq_false, Mi.clr, Mi.putS, Option.isSome_some, Option.some.injEq, Int.reduceEq, Int.reduceNe, Int.reduceLT, Int.reduceLE, Nat.reduceLT, Nat.reduceLeDiff, decide_not, Bool.not_eq_true, Bool.decide_eq_true, Mi.ib_t, Mi.ib_f, Mi.mkR_ex, Mi.bO_s, Mi.rO_f, Mi.rO_t, Mi.dEqA_eq, Mi.eqN_0, Mi.eqN_1, Mi.eqN_2, Mi.eqN_3, Mi.eqB_ins, Mi.eqB_tt, Mi.eqB_ll, Mi.eqB_int, Mi.eqB_str, Mi.eqB_bl, Mi.eqB_non, Mi.eqK_ii, Mi.eqK_ss, Mi.eqK_bb, Mi.eqK_nn, Mi.eqK_ni, Mi.eqK_in, Mi.eqK_ns, Mi.eqK_sn, Mi.eqK_is, Mi.eqK_si, Mi.eqK_nt, Mi.eqK_nl, Mi.eqB_tn, Mi.eqB_ln, Mi.eqLs_nil, Mi.eqLs_nc, Mi.eqLs_cn, Mi.eqLs_cc, Mi.itE_int, Mi.itE_str, Mi.itE_bl, Mi.itE_non, Mi.appT, Mi.asB, Mi.mMakeK, Mi.mDic, Option.bind_some, Mi.mLstV, Mi.lsV, Mi.mTupV, Mi.dList, Mi.dTuple, Mi.mSlT, Mi.asT2, Mi.mIsiT, Mi.enumQ, Mi.dInN, Mi.three, Mi.mPar3, Mi.brw, Mi.mOwn, Mi.mCallB, Mi.mMakeB, Mi.noLx, Mi.noL_tup, Mi.noL_ins, Mi.noL_lst, Mi.noL_int, Mi.noL_str, Mi.noL_bl, Mi.noL_non, Mi.noL_dic, Mi.noLs_nil, Mi.noLs_cons, Mi.noLf_nil, Mi.noLf_cons, List.any_cons, List.any_nil, Bool.or_true, Bool.or_false, Bool.true_or, Bool.false_or, Mi.hd_t, Mi.hd_f, Mi.hf_t, Mi.hf_f, Mi.hd_eq, Mi.mSlV, Mi.cutO, Mi.dLenA, Mi.dLenA1, Mi.lenOf, Mi.dCat, $as,*] $l:location)
open PySem
theorem draw_ex (s : Dz) (many : Int) (hm : 0 < many) : ∃ (r : Int) (s' : Dz), 0 ≤ r ∧ r < many ∧ m__law_draw s.c [.int many] = some (.pl (.int r), s'.c) := by
  obtain ⟨it, pos, big, mix, cnt, hp, m0, m1⟩ := s
  have hmn : many ≠ 0 := by omega
  have pw : (10 : Int) ^ Int.toNat 18 = 1000000000000000000 := by decide
  have po : powOk 10 18 = true := hd_pos (by decide)
  have last : ∀ (x : Int), 0 ≤ iMod x many ∧ iMod x many < many := fun x => by
    rw [iMod_eq, Int.fmod_eq_emod_of_nonneg x (by omega)]
    exact ⟨Int.emod_nonneg _ hmn, Int.emod_lt_of_pos _ hm⟩
  have mx : ∀ (x : Int), 0 ≤ iMod x 2147483647 ∧ iMod x 2147483647 < 2147483648 := fun x => by
    rw [iMod_eq, Int.fmod_eq_emod_of_nonneg x (by decide)]
    omega
  have mx2 : ∀ (x : Int), 0 ≤ iMod x 2147483629 ∧ iMod x 2147483629 < 2147483648 := fun x => by
    rw [iMod_eq, Int.fmod_eq_emod_of_nonneg x (by decide)]
    omega
  have ml : ∀ (a b : Int), 0 ≤ a → a < 2147483648 → mulOk a b = true := fun a b h1 h2 => mulOk_l (by omega) (by omega)
  have mc : ∀ (b : Int), mulOk 30103 b = true := fun b => mulOk_l (by decide) (by decide)
  have mc2 : ∀ (b : Int), mulOk 7919 b = true := fun b => mulOk_l (by decide) (by decide)
  have ml1 : ∀ (x b : Int), mulOk (iMod x 2147483629) b = true := fun x b => ml _ _ (mx2 x).1 (mx2 x).2
  have ml2 : ∀ (x b : Int), mulOk (iMod x 2147483647) b = true := fun x b => ml _ _ (mx x).1 (mx x).2
  have step : ∀ (pos' mix' cnt' : Int), 0 ≤ pos' → 0 ≤ mix' → mix' < 2147483648 → True := fun _ _ _ _ _ _ => trivial
  unfold Dz.c m__law_draw b__law_draw
  by_cases h1 : big ≤ 1
  · by_cases h2 : pos < it.length
    · obtain ⟨n, en⟩ := atI_map hp h2
      have ln : listAt (it.map D.int) pos = .ok (.int n) := by unfold listAt; rw [en]
      by_cases h3 : (1000000000000000000 : Int) ≤ (n.natAbs : Int)
      · have h4 : (1 : Int) < (n.natAbs : Int) := by omega
        simp! only [la5_0, la5_1, la5_2, la5_3, la5_4, ix5_1, ix5_2, ix5_3, ix5_4, List.length_map, h1, h2, ln, pw, po, h3, h4, hmn]
        exact ⟨_, ⟨it, pos + 1, _, mix, cnt + 1, by omega, m0, m1⟩, (last _).1, (last _).2, rfl⟩
      · have h4 : ¬ (1 : Int) < 0 := by omega
        simp! only [la5_0, la5_1, la5_2, la5_3, la5_4, ix5_1, ix5_2, ix5_3, ix5_4, List.length_map, h1, h2, ln, pw, po, h3, h4, hmn, ml _ _ m0 m1, mc, mc2, ml1, ml2]
        exact ⟨_, ⟨it, pos + 1, 0, _, cnt + 1, by omega, (mx _).1, (mx _).2⟩, (last _).1, (last _).2, rfl⟩
    · have h4 : ¬ (1 : Int) < big := by omega
      simp! only [la5_0, la5_1, la5_2, la5_3, la5_4, ix5_1, ix5_2, ix5_3, ix5_4, List.length_map, h1, h2, h4, hmn, ml _ _ m0 m1, mc, mc2, ml1, ml2]
      exact ⟨_, ⟨it, pos, big, _, cnt + 1, by omega, (mx _).1, (mx _).2⟩, (last _).1, (last _).2, rfl⟩
  · have h4 : (1 : Int) < big := by omega
    simp! only [la5_0, la5_1, la5_2, la5_3, la5_4, ix5_1, ix5_2, ix5_3, ix5_4, List.length_map, h1, h4, hmn]
    exact ⟨_, ⟨it, pos, _, mix, cnt + 1, by omega, m0, m1⟩, (last _).1, (last _).2, rfl⟩
open Classical in
/-- one draw -/
noncomputable def draw (s : Dz) (many : Int) : Int × Dz := if h : 0 < many then ((draw_ex s many h).choose, (draw_ex s many h).choose_spec.choose) else (0, s)
theorem e_draw (s : Dz) {many : Int} (h : 0 < many) : m__law_draw s.c [.int many] = some (.pl (.int (draw s many).1), (draw s many).2.c) := by
  have := (draw_ex s many h).choose_spec.choose_spec
  unfold draw
  rw [dif_pos h]
  exact this.2.2
theorem draw_lo (s : Dz) {many : Int} (h : 0 < many) : 0 ≤ (draw s many).1 := by
  have := (draw_ex s many h).choose_spec.choose_spec
  unfold draw
  rw [dif_pos h]
  exact this.1
theorem draw_hi (s : Dz) {many : Int} (h : 0 < many) : (draw s many).1 < many := by
  have := (draw_ex s many h).choose_spec.choose_spec
  unfold draw
  rw [dif_pos h]
  exact this.2.1
end Mi

namespace Mi
local macro_rules | `(tactic| simp! only [$as,*]) => `(tactic| simp only [Mi.runM, Mi.runI, Mi.runR, Mi.outF, Mi.outI, Mi.outR, Mi.startE, Mi.bnd, Mi.ret, Mi.lift, Mi.fail, Mi.mVar, Mi.mC, Mi.mBin, Mi.mBinN, Mi.mUn, Mi.mFld, Mi.mFrz, Mi.mB, Mi.tru, Mi.mAnd, Mi.mOr, Mi.mNot, Mi.mAndV, Mi.mOrV, Mi.mNotV, Mi.mIf, Mi.mChain, Mi.mNil, Mi.mCons, Mi.mTup, Mi.mLst, Mi.mCB, Mi.mCBn, Mi.mIdxV, Mi.mSkip, Mi.thenF, Mi.mSeq, Mi.sto, Mi.mAsg, Mi.mAsgN, Mi.two, Mi.mPar, Mi.mDrop, Mi.mRet, Mi.mRetN, Mi.mRetV, Mi.mIfS, Mi.againF, Mi.gV, Mi.gsN, Mi.gsC, Mi.gT, Mi.mAsgT, Mi.tgt, Mi.mCall, Mi.frzR, Mi.newR, Mi.mCallN, Mi.recv, Mi.mMeth, Mi.mMethN, Mi.mMake, Mi.callR, Mi.mCallR, Mi.newM, Mi.mCallRN, Mi.mApp, Mi.mRev, Mi.setAt, Mi.mSetV, Mi.mSetF, Mi.mAug, Mi.one, Mi.mRaise, Mi.mRaise0, Mi.mTry, Mi.noEx, Mi.endX, Mi.inX, Mi.mTryAs, Mi.mXf, Mi.dI, Mi.dIc, Mi.dAdd, Mi.dSub, Mi.dLt, Mi.dLe, Mi.dGt, Mi.dGe, Mi.dMul, Mi.dDiv, Mi.dMod, Mi.dPow, Mi.dNeg, Mi.sEq, Mi.ofB, Mi.dEq, Mi.dNe, Mi.isNon, Mi.dIsN, Mi.dNotN, Mi.dInt, Mi.dI1, Mi.dI2, Mi.dAbs, Mi.dMin, Mi.dMax, Mi.dGcd, Mi.dLen1, Mi.dLen, Mi.mLenV, Mi.mIsi, Mi.isub, Mi.D.tn, Mi.dIx, Mi.opC, Mi.negC, Mi.eqC, Mi.ipC, Mi.Rv.d, Mi.mNoP, Mi.asI, Mi.mPart, Mi.mSlL, Mi.asL, Mi.asQ, Mi.mItQ, Mi.mItA, Mi.mFor, Mi.putD, List.map_cons, List.map_nil, List.length_cons, List.length_nil, List.replicate, List.cons_append, List.nil_append, List.getElem?_cons_zero, List.getElem?_cons_succ, List.set_cons_zero, List.set_cons_succ, Nat.sub_self, Nat.reduceAdd, Nat.reduceSub, Nat.reduceEqDiff, List.reverse_cons, id, Bool.not_true, Bool.not_false, if_true, if_false, Bool.false_eq_true, reduceIte, true_and, and_true, and_self, Option.toList, List.all_cons, List.all_nil, Bool.and_true, Bool.true_and, Bool.and_self, decide_true, decide_false, decide_eq_true_eq, reduceCtorEq, Mi.bo_pl, Mi.bo_ow, Mi.bo_rf, Mi.bo_un, Mi.sa_ow, Mi.sa_rf, Mi.sa_pl, Mi.oa_un, Mi.oa_pl, Mi.oa_ow, Mi.co_ow, Mi.co_rf, Mi.co_pl, Mi.st_ow, Mi.st_rf, Mi.lv_ow, Mi.lv_rf, Mi.lv_pl, Mi.ne_un, Mi.ne_pl, Mi.ne_ow, Mi.ne_rf, Mi.ne_se, Mi.ne_ex, Mi.th_un, Mi.th_pl, Mi.ie_ex, Mi.xf_ex, ne_eq, not_false_eq_true, not_true_eq_false, Mi.clr, Mi.putS, Option.isSome_some, Option.some.injEq, Int.reduceEq, Int.reduceNe, Int.reduceLT, Int.reduceLE, Nat.reduceLT, Nat.reduceLeDiff, decide_not, Bool.not_eq_true, Bool.decide_eq_true, Mi.ib_t, Mi.ib_f, Mi.mkR_ex, Mi.bO_s, Mi.rO_f, Mi.rO_t, Mi.dEqA_eq, Mi.eqN_0, Mi.eqN_1, Mi.eqN_2, Mi.eqN_3, Mi.eqB_ins, Mi.eqB_tt, Mi.eqB_ll, Mi.eqB_int, Mi.eqB_str, Mi.eqB_bl, Mi.eqB_non, Mi.eqK_ii, Mi.eqK_ss, Mi.eqK_bb, Mi.eqK_nn, Mi.eqK_ni, Mi.eqK_in, Mi.eqK_ns, Mi.eqK_sn, Mi.eqK_is, Mi.eqK_si, Mi.eqK_nt, Mi.eqK_nl, Mi.eqB_tn, Mi.eqB_ln, Mi.eqLs_nil, Mi.eqLs_nc, Mi.eqLs_cn, Mi.eqLs_cc, Mi.itE_int, Mi.itE_str, Mi.itE_bl, Mi.itE_non, Mi.appT, Mi.asB, Mi.mMakeK, Mi.mDic, Option.bind_some, Mi.mLstV, Mi.lsV, Mi.mTupV, Mi.dList, Mi.dTuple, Mi.mSlT, Mi.asT2, Mi.mIsiT, Mi.enumQ, Mi.dInN, Mi.three, Mi.mPar3, Mi.brw, Mi.mOwn, Mi.mCallB, Mi.mMakeB, Mi.noLx, Mi.noL_tup, Mi.noL_ins, Mi.noL_lst, Mi.noL_int, Mi.noL_str, Mi.noL_bl, Mi.noL_non, Mi.noL_dic, Mi.noLs_nil, Mi.noLs_cons, Mi.noLf_nil, Mi.noLf_cons, List.any_cons, List.any_nil, Bool.or_true, Bool.or_false, Bool.true_or, Bool.false_or, Mi.hd_t, Mi.hd_f, Mi.hf_t, Mi.hf_f, Mi.hd_eq, Mi.mSlV, Mi.cutO, Mi.dLenA, Mi.dLenA1, Mi.lenOf, Mi.dCat, $as,*]) | `(tactic| simp! only [$as,*] $l:location) => `(tactic| simp only [Mi.runM, Mi.runI, Mi.runR, Mi.outF, Mi.outI, Mi.outR, Mi.startE, Mi.bnd, Mi.ret, Mi.lift, Mi.fail, Mi.mVar, Mi.mC, Mi.mBin, Mi.mBinN, Mi.mUn, Mi.mFld, Mi.mFrz, Mi.mB, Mi.tru, Mi.mAnd, Mi.mOr, Mi.mNot, Mi.mAndV, Mi.mOrV, Mi.mNotV, Mi.mIf, Mi.mChain, Mi.mNil, Mi.mCons, Mi.mTup, Mi.mLst, Mi.mCB, Mi.mCBn, Mi.mIdxV, Mi.mSkip, Mi.thenF, Mi.mSeq, Mi.sto, Mi.mAsg, Mi.mAsgN, Mi.two, Mi.mPar, Mi.mDrop, Mi.mRet, Mi.mRetN, Mi.mRetV, Mi.mIfS, Mi.againF, Mi.gV, Mi.gsN, Mi.gsC, Mi.gT, Mi.mAsgT, Mi.tgt, Mi.mCall, Mi.frzR, Mi.newR, Mi.mCallN, Mi.recv, Mi.mMeth, Mi.mMethN, Mi.mMake, Mi.callR, Mi.mCallR, Mi.newM, Mi.mCallRN, Mi.mApp, Mi.mRev, Mi.setAt, Mi.mSetV, Mi.mSetF, Mi.mAug, Mi.one, Mi.mRaise, Mi.mRaise0, Mi.mTry, Mi.noEx, Mi.endX, Mi.inX, Mi.mTryAs, Mi.mXf, Mi.dI, Mi.dIc, Mi.dAdd, Mi.dSub, Mi.dLt, Mi.dLe, Mi.dGt, Mi.dGe, Mi.dMul, Mi.dDiv, Mi.dMod, Mi.dPow, Mi.dNeg, Mi.sEq, Mi.ofB, Mi.dEq, Mi.dNe, Mi.isNon, Mi.dIsN, Mi.dNotN, Mi.dInt, Mi.dI1, Mi.dI2, Mi.dAbs, Mi.dMin, Mi.dMax, Mi.dGcd, Mi.dLen1, Mi.dLen, Mi.mLenV, Mi.mIsi, Mi.isub, Mi.D.tn, Mi.dIx, Mi.opC, Mi.negC, Mi.eqC, Mi.ipC, Mi.Rv.d, Mi.mNoP, Mi.asI, Mi.mPart, Mi.mSlL, Mi.asL, Mi.asQ, Mi.mItQ, Mi.mItA, Mi.mFor, Mi.putD, List.map_cons, List.map_nil, List.length_cons, List.length_nil, List.replicate, List.cons_append, List.nil_append, List.getElem?_cons_zero, List.getElem?_cons_succ, List.set_cons_zero, List.set_cons_succ, Nat.sub_self, Nat.reduceAdd, Nat.reduceSub, Nat.reduceEqDiff, List.reverse_cons, id, Bool.not_true, Bool.not_false, if_true, if_false, Bool.false_eq_true, reduceIte, true_and, and_true, and_self, Option.toList, List.all_cons, List.all_nil, Bool.and_true, Bool.true_and, Bool.and_self, decide_true, decide_false, decide_eq_true_eq, reduceCtorEq, Mi.bo_pl, Mi.bo_ow, Mi.bo_rf, Mi.bo_un, Mi.sa_ow, Mi.sa_rf, Mi.sa_pl, Mi.oa_un, Mi.oa_pl, Mi.oa_ow, Mi.co_ow, Mi.co_rf, Mi.co_pl, Mi.st_ow, Mi.st_rf, Mi.lv_ow, Mi.lv_rf, Mi.lv_pl, Mi.ne_un, Mi.ne_pl, Mi.ne_ow, Mi.ne_rf, Mi.ne_se, Mi.ne_ex, Mi.th_un, Mi.th_pl, Mi.ie_ex, Mi.xf_ex, ne_eq, not_false_eq_true, not_true_eq_false, Mi.clr, Mi.putS, Option.isSome_some, Option.some.injEq, Int.reduceEq, Int.reduceNe, Int.reduceLT, Int.reduceLE, Nat.reduceLT, Nat.reduceLeDiff, decide_not, Bool.not_eq_true, Bool.decide_eq_true, Mi.ib_t, Mi.ib_f, Mi.mkR_ex, Mi.bO_s, Mi.rO_f, Mi.rO_t, Mi.dEqA_eq, Mi.eqN_0, Mi.eqN_1, Mi.eqN_2, Mi.eqN_3, Mi.eqB_ins, Mi.eqB_tt, Mi.eqB_ll, Mi.eqB_int, Mi.eqB_str, Mi.eqB_bl, Mi.eqB_non, Mi.eqK_ii, Mi.eqK_ss, Mi.eqK_bb, Mi.eqK_nn, Mi.eqK_ni, Mi.eqK_in, Mi.eqK_ns, Mi.eqK_sn, Mi.eqK_is, Mi.eqK_si, Mi.eqK_nt, Mi.eqK_nl, Mi.eqB_tn, Mi.eqB_ln, Mi.eqLs_nil, Mi.eqLs_nc, Mi.eqLs_cn, Mi.eqLs_cc, Mi.itE_int, Mi.itE_str, Mi.itE_bl, Mi.itE_non, Mi.appT, Mi.asB, Mi.mMakeK, Mi.mDic, Option.bind_some, Mi.mLstV, Mi.lsV, Mi.mTupV, Mi.dList, Mi.dTuple, Mi.mSlT, Mi.asT2, Mi.mIsiT, Mi.enumQ, Mi.dInN, Mi.three, Mi.mPar3, Mi.brw, Mi.mOwn, Mi.mCallB, Mi.mMakeB, Mi.noLx, Mi.noL_tup, Mi.noL_ins, Mi.noL_lst, Mi.noL_int, Mi.noL_str, Mi.noL_bl, Mi.noL_non, Mi.noL_dic, Mi.noLs_nil, Mi.noLs_cons, Mi.noLf_nil, Mi.noLf_cons, List.any_cons, List.any_nil, Bool.or_true, Bool.or_false, Bool.true_or, Bool.false_or, Mi.hd_t, Mi.hd_f, Mi.hf_t, Mi.hf_f, Mi.hd_eq, Mi.mSlV, Mi.cutO, Mi.dLenA, Mi.dLenA1, Mi.lenOf, Mi.dCat, $as,*] $l:location)
open PySem
theorem fmod_lt (a : Int) {b : Int} (hb : b ≠ 0) : (a.fmod b).natAbs < b.natAbs := by
  rcases Int.lt_or_gt_of_ne hb with h | h
  · have e := Int.neg_fmod_neg (-a) (-b)
    rw [Int.neg_neg, Int.neg_neg] at e
    have h1 := Int.fmod_nonneg_of_pos (-a) (b := -b) (by omega)
    have h2 := Int.fmod_lt_of_pos (-a) (b := -b) (by omega)
    omega
  · have h1 := Int.fmod_nonneg_of_pos a h
    have h2 := Int.fmod_lt_of_pos a h
    omega
theorem gcd_fmod (a b : Int) : Int.gcd b (a.fmod b) = Int.gcd a b := by
  rw [Int.fmod_def, Int.gcd_sub_mul_left_right, Int.gcd_comm]
theorem gcd_loop : ∀ (n : Nat) (a b : Int), b.natAbs < n → ∃ g : Int, g.natAbs = Int.gcd a b ∧ wloop lc__law_gcd_0 lb__law_gcd_1 n [.pl (.int a), .pl (.int b)] = .ok .nx [.pl (.int g), .pl (.int 0)]
  | 0, _, _, h => by omega
  | n + 1, a, b, h => by
    rw [wloop.eq_2]
    by_cases h0 : b = 0
    · subst h0
      refine ⟨a, by simp, ?_⟩
      unfold lc__law_gcd_0
      simp! only [Mi.ret]
    · obtain ⟨g, hg, e⟩ := gcd_loop n b (a.fmod b) (by have := fmod_lt a h0; omega)
      refine ⟨g, by rw [hg, gcd_fmod], ?_⟩
      have e1 : lc__law_gcd_0 [.pl (.int a), .pl (.int b)] = .ok true [.pl (.int a), .pl (.int b)] := by unfold lc__law_gcd_0; simp! only [h0]
      have e2 : lb__law_gcd_1 [.pl (.int a), .pl (.int b)] = .ok .nx [.pl (.int b), .pl (.int (a.fmod b))] := by unfold lb__law_gcd_1; simp! only [h0, iMod_eq]
      simp! only [e1, e2, e]
theorem e_gcd (a b : Int) : m__law_gcd [.int a, .int b] = .ok (.pl (.int (Int.gcd a b : Int))) := by
  obtain ⟨g, hg, e⟩ := gcd_loop (b.natAbs + 1) a b (by omega)
  have w : mWhile lc__law_gcd_0 lb__law_gcd_1 [.pl (.int a), .pl (.int b)] = .ok .nx [.pl (.int g), .pl (.int 0)] := by rw [mWhile_eq (n := b.natAbs + 1) (by rw [e]; rfl), e]
  unfold m__law_gcd b__law_gcd
  simp! only [w, hg]
end Mi

namespace Mi
open PySem
theorem e_law_is_integer (d : D) : m__law_is_integer [d] = .ok (.pl (.bl (isIntD d))) := by cases d <;> rfl
theorem cross {t b : Int} (hb : b ≠ 0) : (Rat.divInt t b).num * b = t * (Rat.divInt t b).den := by
  have h := (Rat.divInt_eq_divInt_iff (n₁ := (Rat.divInt t b).num) (n₂ := t) (d₁ := ((Rat.divInt t b).den : Int)) (d₂ := b) (den_ne _) hb).mp (Rat.num_divInt_den _)
  exact h
theorem red_gcd (q : Rat) : Int.gcd q.num (q.den : Int) = 1 := q.reduced
end Mi

namespace Mi
local macro_rules | `(tactic| simp! only [$as,*]) => `(tactic| simp only [Mi.runM, Mi.runI, Mi.runR, Mi.outF, Mi.outI, Mi.outR, Mi.startE, Mi.bnd, Mi.ret, Mi.lift, Mi.fail, Mi.mVar, Mi.mC, Mi.mBin, Mi.mBinN, Mi.mUn, Mi.mFld, Mi.mFrz, Mi.mB, Mi.tru, Mi.mAnd, Mi.mOr, Mi.mNot, Mi.mAndV, Mi.mOrV, Mi.mNotV, Mi.mIf, Mi.mChain, Mi.mNil, Mi.mCons, Mi.mTup, Mi.mLst, Mi.mCB, Mi.mCBn, Mi.mIdxV, Mi.mSkip, Mi.thenF, Mi.mSeq, Mi.sto, Mi.mAsg, Mi.mAsgN, Mi.two, Mi.mPar, Mi.mDrop, Mi.mRet, Mi.mRetN, Mi.mRetV, Mi.mIfS, Mi.againF, Mi.gV, Mi.gsN, Mi.gsC, Mi.gT, Mi.mAsgT, Mi.tgt, Mi.mCall, Mi.frzR, Mi.newR, Mi.mCallN, Mi.recv, Mi.mMeth, Mi.mMethN, Mi.mMake, Mi.callR, Mi.mCallR, Mi.newM, Mi.mCallRN, Mi.mApp, Mi.mRev, Mi.setAt, Mi.mSetV, Mi.mSetF, Mi.mAug, Mi.one, Mi.mRaise, Mi.mRaise0, Mi.mTry, Mi.noEx, Mi.endX, Mi.inX, Mi.mTryAs, Mi.mXf, Mi.dI, Mi.dIc, Mi.dAdd, Mi.dSub, Mi.dLt, Mi.dLe, Mi.dGt, Mi.dGe, Mi.dMul, Mi.dDiv, Mi.dMod, Mi.dPow, Mi.dNeg, Mi.sEq, Mi.ofB, Mi.dEq, Mi.dNe, Mi.isNon, Mi.dIsN, Mi.dNotN, Mi.dInt, Mi.dI1, Mi.dI2, Mi.dAbs, Mi.dMin, Mi.dMax, Mi.dGcd, Mi.dLen1, Mi.dLen, Mi.mLenV, Mi.mIsi, Mi.isub, Mi.D.tn, Mi.dIx, Mi.opC, Mi.negC, Mi.eqC, Mi.ipC, Mi.Rv.d, Mi.mNoP, Mi.asI, Mi.mPart, Mi.mSlL, Mi.asL, Mi.asQ, Mi.mItQ, Mi.mItA, Mi.mFor, Mi.putD, List.map_cons, List.map_nil, List.length_cons, List.length_nil, List.replicate, List.cons_append, List.nil_append, List.getElem?_cons_zero, List.getElem?_cons_succ, List.set_cons_zero, List.set_cons_succ, Nat.sub_self, Nat.reduceAdd, Nat.reduceSub, Nat.reduceEqDiff, List.reverse_cons, id, Bool.not_true, Bool.not_false, if_true, if_false, Bool.false_eq_true, reduceIte, true_and, and_true, and_self, Option.toList, List.all_cons, List.all_nil, Bool.and_true, Bool.true_and, Bool.and_self, decide_true, decide_false, decide_eq_true_eq, reduceCtorEq, Mi.bo_pl, Mi.bo_ow, Mi.bo_rf, Mi.bo_un, Mi.sa_ow, Mi.sa_rf, Mi.sa_pl, Mi.oa_un, Mi.oa_pl, Mi.oa_ow, Mi.co_ow, Mi.co_rf, Mi.co_pl, Mi.st_ow, Mi.st_rf, Mi.lv_ow, Mi.lv_rf, Mi.lv_pl, Mi.ne_un, Mi.ne_pl, Mi.ne_ow, Mi.ne_rf, Mi.ne_se, Mi.ne_ex, Mi.th_un, Mi.th_pl, Mi.ie_ex, Mi.xf_ex, ne_eq, not_false_eq_true, not_true_eq_false, Mi.clr, Mi.putS, Option.isSome_some, Option.some.injEq, Int.reduceEq, Int.reduceNe, Int.reduceLT, Int.reduceLE, Nat.reduceLT, Nat.reduceLeDiff, decide_not, Bool.not_eq_true, Bool.decide_eq_true, Mi.ib_t, Mi.ib_f, Mi.mkR_ex, Mi.bO_s, Mi.rO_f, Mi.rO_t, Mi.dEqA_eq, Mi.eqN_0, Mi.eqN_1, Mi.eqN_2, Mi.eqN_3, Mi.eqB_ins, Mi.eqB_tt, Mi.eqB_ll, Mi.eqB_int, Mi.eqB_str, Mi.eqB_bl, Mi.eqB_non, Mi.eqK_ii, Mi.eqK_ss, Mi.eqK_bb, Mi.eqK_nn, Mi.eqK_ni, Mi.eqK_in, Mi.eqK_ns, Mi.eqK_sn, Mi.eqK_is, Mi.eqK_si, Mi.eqK_nt, Mi.eqK_nl, Mi.eqB_tn, Mi.eqB_ln, Mi.eqLs_nil, Mi.eqLs_nc, Mi.eqLs_cn, Mi.eqLs_cc, Mi.itE_int, Mi.itE_str, Mi.itE_bl, Mi.itE_non, Mi.appT, Mi.asB, Mi.mMakeK, Mi.mDic, Option.bind_some, Mi.mLstV, Mi.lsV, Mi.mTupV, Mi.dList, Mi.dTuple, Mi.mSlT, Mi.asT2, Mi.mIsiT, Mi.enumQ, Mi.dInN, Mi.three, Mi.mPar3, Mi.brw, Mi.mOwn, Mi.mCallB, Mi.mMakeB, Mi.noLx, Mi.noL_tup, Mi.noL_ins, Mi.noL_lst, Mi.noL_int, Mi.noL_str, Mi.noL_bl, Mi.noL_non, Mi.noL_dic, Mi.noLs_nil, Mi.noLs_cons, Mi.noLf_nil, Mi.noLf_cons, List.any_cons, List.any_nil, Bool.or_true, Bool.or_false, Bool.true_or, Bool.false_or, Mi.hd_t, Mi.hd_f, Mi.hf_t, Mi.hf_f, Mi.hd_eq, Mi.mSlV, Mi.cutO, Mi.dLenA, Mi.dLenA1, Mi.lenOf, Mi.dCat, $as,*]) | `(tactic| simp! only [$as,*] $l:location) => `(tactic| simp only [Mi.runM, Mi.runI, Mi.runR, Mi.outF, Mi.outI, Mi.outR, Mi.startE, Mi.bnd, Mi.ret, Mi.lift, Mi.fail, Mi.mVar, Mi.mC, Mi.mBin, Mi.mBinN, Mi.mUn, Mi.mFld, Mi.mFrz, Mi.mB, Mi.tru, Mi.mAnd, Mi.mOr, Mi.mNot, Mi.mAndV, Mi.mOrV, Mi.mNotV, Mi.mIf, Mi.mChain, Mi.mNil, Mi.mCons, Mi.mTup, Mi.mLst, Mi.mCB, Mi.mCBn, Mi.mIdxV, Mi.mSkip, Mi.thenF, Mi.mSeq, Mi.sto, Mi.mAsg, Mi.mAsgN, Mi.two, Mi.mPar, Mi.mDrop, Mi.mRet, Mi.mRetN, Mi.mRetV, Mi.mIfS, Mi.againF, Mi.gV, Mi.gsN, Mi.gsC, Mi.gT, Mi.mAsgT, Mi.tgt, Mi.mCall, Mi.frzR, Mi.newR, Mi.mCallN, Mi.recv, Mi.mMeth, Mi.mMethN, Mi.mMake, Mi.callR, Mi.mCallR, Mi.newM, Mi.mCallRN, Mi.mApp, Mi.mRev, Mi.setAt, Mi.mSetV, Mi.mSetF, Mi.mAug, Mi.one, Mi.mRaise, Mi.mRaise0, Mi.mTry, Mi.noEx, Mi.endX, Mi.inX, Mi.mTryAs, Mi.mXf, Mi.dI, Mi.dIc, Mi.dAdd, Mi.dSub, Mi.dLt, Mi.dLe, Mi.dGt, Mi.dGe, Mi.dMul, Mi.dDiv, Mi.dMod, Mi.dPow, Mi.dNeg, Mi.sEq, Mi.ofB, Mi.dEq, Mi.dNe, Mi.isNon, Mi.dIsN, Mi.dNotN, Mi.dInt, Mi.dI1, Mi.dI2, Mi.dAbs, Mi.dMin, Mi.dMax, Mi.dGcd, Mi.dLen1, Mi.dLen, Mi.mLenV, Mi.mIsi, Mi.isub, Mi.D.tn, Mi.dIx, Mi.opC, Mi.negC, Mi.eqC, Mi.ipC, Mi.Rv.d, Mi.mNoP, Mi.asI, Mi.mPart, Mi.mSlL, Mi.asL, Mi.asQ, Mi.mItQ, Mi.mItA, Mi.mFor, Mi.putD, List.map_cons, List.map_nil, List.length_cons, List.length_nil, List.replicate, List.cons_append, List.nil_append, List.getElem?_cons_zero, List.getElem?_cons_succ, List.set_cons_zero, List.set_cons_succ, Nat.sub_self, Nat.reduceAdd, Nat.reduceSub, Nat.reduceEqDiff, List.reverse_cons, id, Bool.not_true, Bool.not_false, if_true, if_false, Bool.false_eq_true, reduceIte, true_and, and_true, and_self, Option.toList, List.all_cons, List.all_nil, Bool.and_true, Bool.true_and, Bool.and_self, decide_true, decide_false, decide_eq_true_eq, reduceCtorEq, Mi.bo_pl, Mi.bo_ow, Mi.bo_rf, Mi.bo_un, Mi.sa_ow, Mi.sa_rf, Mi.sa_pl, Mi.oa_un, Mi.oa_pl, Mi.oa_ow, Mi.co_ow, Mi.co_rf, Mi.co_pl, Mi.st_ow, Mi.st_rf, Mi.lv_ow, Mi.lv_rf, Mi.lv_pl, Mi.ne_un, Mi.ne_pl, Mi.ne_ow, Mi.ne_rf, Mi.ne_se, Mi.ne_ex, Mi.th_un, Mi.th_pl, Mi.ie_ex, Mi.xf_ex, ne_eq, not_false_eq_true, not_true_eq_false, Mi.clr, Mi.putS, Option.isSome_some, Option.some.injEq, Int.reduceEq, Int.reduceNe, Int.reduceLT, Int.reduceLE, Nat.reduceLT, Nat.reduceLeDiff, decide_not, Bool.not_eq_true, Bool.decide_eq_true, Mi.ib_t, Mi.ib_f, Mi.mkR_ex, Mi.bO_s, Mi.rO_f, Mi.rO_t, Mi.dEqA_eq, Mi.eqN_0, Mi.eqN_1, Mi.eqN_2, Mi.eqN_3, Mi.eqB_ins, Mi.eqB_tt, Mi.eqB_ll, Mi.eqB_int, Mi.eqB_str, Mi.eqB_bl, Mi.eqB_non, Mi.eqK_ii, Mi.eqK_ss, Mi.eqK_bb, Mi.eqK_nn, Mi.eqK_ni, Mi.eqK_in, Mi.eqK_ns, Mi.eqK_sn, Mi.eqK_is, Mi.eqK_si, Mi.eqK_nt, Mi.eqK_nl, Mi.eqB_tn, Mi.eqB_ln, Mi.eqLs_nil, Mi.eqLs_nc, Mi.eqLs_cn, Mi.eqLs_cc, Mi.itE_int, Mi.itE_str, Mi.itE_bl, Mi.itE_non, Mi.appT, Mi.asB, Mi.mMakeK, Mi.mDic, Option.bind_some, Mi.mLstV, Mi.lsV, Mi.mTupV, Mi.dList, Mi.dTuple, Mi.mSlT, Mi.asT2, Mi.mIsiT, Mi.enumQ, Mi.dInN, Mi.three, Mi.mPar3, Mi.brw, Mi.mOwn, Mi.mCallB, Mi.mMakeB, Mi.noLx, Mi.noL_tup, Mi.noL_ins, Mi.noL_lst, Mi.noL_int, Mi.noL_str, Mi.noL_bl, Mi.noL_non, Mi.noL_dic, Mi.noLs_nil, Mi.noLs_cons, Mi.noLf_nil, Mi.noLf_cons, List.any_cons, List.any_nil, Bool.or_true, Bool.or_false, Bool.true_or, Bool.false_or, Mi.hd_t, Mi.hd_f, Mi.hf_t, Mi.hf_f, Mi.hd_eq, Mi.mSlV, Mi.cutO, Mi.dLenA, Mi.dLenA1, Mi.lenOf, Mi.dCat, $as,*] $l:location)
open PySem
/-! ### the state -/
theorem lcL_state : ∀ (l : List Int) (a : D), lcL (lcTurn 2 (ret true) le__law_state_0) (l.map D.int) [.pl a, .un, .un] = .ok (l.map D.int) [.pl a, .un, .un]
  | [], a => rfl
  | n :: l, a => by
    have e1 : le__law_state_0 [.pl a, .un, .pl (.int n)] = .ok (.int n) [.pl a, .un, .pl (.int n)] := by unfold le__law_state_0; simp! only [Mi.ret]
    simp! only [Mi.lcL, Mi.lcTurn, e1, lcL_state l a]
theorem cutD_63 (ns : List Int) : cutD (ns.map D.int) none (some 63) = (ns.take 63).map D.int := by
  unfold cutD
  rw [HT.sIx_none, show (some (63 : Int)) = some ((63 : Nat) : Int) from rfl, HT.sIx_nat, List.drop_zero, Nat.sub_zero, List.map_take]
  by_cases h : 63 ≤ (ns.map D.int).length
  · rw [Nat.min_eq_left h]
  · rw [Nat.min_eq_right (by omega), List.take_of_length_le (Nat.le_refl _), List.take_of_length_le (by omega)]
theorem e_state (ns : List Int) : ∃ s : Dz, m__law_state [.lst (ns.map D.int)] = .ok (.nw s.c) := by
  have hl : (ns.take 63).length ≤ 63 := by rw [List.length_take]; omega
  have hl2 : (ns.take 63).length < 1000000 := by omega
  refine ⟨⟨ns.take 63, 0, 0, 1 + (ns.take 63).length, 0, by omega, by omega, by omega⟩, ?_⟩
  unfold m__law_state b__law_state
  simp! only [cutD_63, Mi.mLc, List.length_map, hl2, lcL_state]
  rfl
end Mi

namespace Mi
local macro_rules | `(tactic| simp! only [$as,*]) => `(tactic| simp only [Mi.runM, Mi.runI, Mi.runR, Mi.outF, Mi.outI, Mi.outR, Mi.startE, Mi.bnd, Mi.ret, Mi.lift, Mi.fail, Mi.mVar, Mi.mC, Mi.mBin, Mi.mBinN, Mi.mUn, Mi.mFld, Mi.mFrz, Mi.mB, Mi.tru, Mi.mAnd, Mi.mOr, Mi.mNot, Mi.mAndV, Mi.mOrV, Mi.mNotV, Mi.mIf, Mi.mChain, Mi.mNil, Mi.mCons, Mi.mTup, Mi.mLst, Mi.mCB, Mi.mCBn, Mi.mIdxV, Mi.mSkip, Mi.thenF, Mi.mSeq, Mi.sto, Mi.mAsg, Mi.mAsgN, Mi.two, Mi.mPar, Mi.mDrop, Mi.mRet, Mi.mRetN, Mi.mRetV, Mi.mIfS, Mi.againF, Mi.gV, Mi.gsN, Mi.gsC, Mi.gT, Mi.mAsgT, Mi.tgt, Mi.mCall, Mi.frzR, Mi.newR, Mi.mCallN, Mi.recv, Mi.mMeth, Mi.mMethN, Mi.mMake, Mi.callR, Mi.mCallR, Mi.newM, Mi.mCallRN, Mi.mApp, Mi.mRev, Mi.setAt, Mi.mSetV, Mi.mSetF, Mi.mAug, Mi.one, Mi.mRaise, Mi.mRaise0, Mi.mTry, Mi.noEx, Mi.endX, Mi.inX, Mi.mTryAs, Mi.mXf, Mi.dI, Mi.dIc, Mi.dAdd, Mi.dSub, Mi.dLt, Mi.dLe, Mi.dGt, Mi.dGe, Mi.dMul, Mi.dDiv, Mi.dMod, Mi.dPow, Mi.dNeg, Mi.sEq, Mi.ofB, Mi.dEq, Mi.dNe, Mi.isNon, Mi.dIsN, Mi.dNotN, Mi.dInt, Mi.dI1, Mi.dI2, Mi.dAbs, Mi.dMin, Mi.dMax, Mi.dGcd, Mi.dLen1, Mi.dLen, Mi.mLenV, Mi.mIsi, Mi.isub, Mi.D.tn, Mi.dIx, Mi.opC, Mi.negC, Mi.eqC, Mi.ipC, Mi.Rv.d, Mi.mNoP, Mi.asI, Mi.mPart, Mi.mSlL, Mi.asL, Mi.asQ, Mi.mItQ, Mi.mItA, Mi.mFor, Mi.putD, List.map_cons, List.map_nil, List.length_cons, List.length_nil, List.replicate, List.cons_append, List.nil_append, List.getElem?_cons_zero, List.getElem?_cons_succ, List.set_cons_zero, List.set_cons_succ, Nat.sub_self, Nat.reduceAdd, Nat.reduceSub, Nat.reduceEqDiff, List.reverse_cons, id, Bool.not_true, Bool.not_false, if_true, if_false, Bool.false_eq_true, reduceIte, true_and, and_true, and_self, Option.toList, List.all_cons, List.all_nil, Bool.and_true, Bool.true_and, Bool.and_self, decide_true, decide_false, decide_eq_true_eq, reduceCtorEq, Mi.bo_pl, Mi.bo_ow, Mi.bo_rf, Mi.bo_un, Mi.sa_ow, Mi.sa_rf, Mi.sa_pl, Mi.oa_un, Mi.oa_pl, Mi.oa_ow, Mi.co_ow, Mi.co_rf, Mi.co_pl, Mi.st_ow, Mi.st_rf, Mi.lv_ow, Mi.lv_rf, Mi.lv_pl, Mi.ne_un, Mi.ne_pl, Mi.ne_ow, Mi.ne_rf, Mi.ne_se, Mi.ne_ex, Mi.th_un, Mi.th_pl, Mi.ie_ex, Mi.xf_ex, ne_eq, not_false_eq_true, not_true_eq_false, Mi.clr, Mi.putS, Option.isSome_some, Option.some.injEq, Int.reduceEq, Int.reduceNe, Int.reduceLT, Int.reduceLE, Nat.reduceLT, Nat.reduceLeDiff, decide_not, Bool.not_eq_true, Bool.decide_eq_true, Mi.ib_t, Mi.ib_f, Mi.mkR_ex, Mi.bO_s, Mi.rO_f, Mi.rO_t, Mi.dEqA_eq, Mi.eqN_0, Mi.eqN_1, Mi.eqN_2, Mi.eqN_3, Mi.eqB_ins, Mi.eqB_tt, Mi.eqB_ll, Mi.eqB_int, Mi.eqB_str, Mi.eqB_bl, Mi.eqB_non, Mi.eqK_ii, Mi.eqK_ss, Mi.eqK_bb, Mi.eqK_nn, Mi.eqK_ni, Mi.eqK_in, Mi.eqK_ns, Mi.eqK_sn, Mi.eqK_is, Mi.eqK_si, Mi.eqK_nt, Mi.eqK_nl, Mi.eqB_tn, Mi.eqB_ln, Mi.eqLs_nil, Mi.eqLs_nc, Mi.eqLs_cn, Mi.eqLs_cc, Mi.itE_int, Mi.itE_str, Mi.itE_bl, Mi.itE_non, Mi.appT, Mi.asB, Mi.mMakeK, Mi.mDic, Option.bind_some, Mi.mLstV, Mi.lsV, Mi.mTupV, Mi.dList, Mi.dTuple, Mi.mSlT, Mi.asT2, Mi.mIsiT, Mi.enumQ, Mi.dInN, Mi.three, Mi.mPar3, Mi.brw, Mi.mOwn, Mi.mCallB, Mi.mMakeB, Mi.noLx, Mi.noL_tup, Mi.noL_ins, Mi.noL_lst, Mi.noL_int, Mi.noL_str, Mi.noL_bl, Mi.noL_non, Mi.noL_dic, Mi.noLs_nil, Mi.noLs_cons, Mi.noLf_nil, Mi.noLf_cons, List.any_cons, List.any_nil, Bool.or_true, Bool.or_false, Bool.true_or, Bool.false_or, Mi.hd_t, Mi.hd_f, Mi.hf_t, Mi.hf_f, Mi.hd_eq, Mi.mSlV, Mi.cutO, Mi.dLenA, Mi.dLenA1, Mi.lenOf, Mi.dCat, $as,*]) | `(tactic| simp! only [$as,*] $l:location) => `(tactic| simp only [Mi.runM, Mi.runI, Mi.runR, Mi.outF, Mi.outI, Mi.outR, Mi.startE, Mi.bnd, Mi.ret, Mi.lift, Mi.fail, Mi.mVar, Mi.mC, Mi.mBin, Mi.mBinN, Mi.mUn, Mi.mFld, Mi.mFrz, Mi.mB, Mi.tru, Mi.mAnd, Mi.mOr, Mi.mNot, Mi.mAndV, Mi.mOrV, Mi.mNotV, Mi.mIf, Mi.mChain, Mi.mNil, Mi.mCons, Mi.mTup, Mi.mLst, Mi.mCB, Mi.mCBn, Mi.mIdxV, Mi.mSkip, Mi.thenF, Mi.mSeq, Mi.sto, Mi.mAsg, Mi.mAsgN, Mi.two, Mi.mPar, Mi.mDrop, Mi.mRet, Mi.mRetN, Mi.mRetV, Mi.mIfS, Mi.againF, Mi.gV, Mi.gsN, Mi.gsC, Mi.gT, Mi.mAsgT, Mi.tgt, Mi.mCall, Mi.frzR, Mi.newR, Mi.mCallN, Mi.recv, Mi.mMeth, Mi.mMethN, Mi.mMake, Mi.callR, Mi.mCallR, Mi.newM, Mi.mCallRN, Mi.mApp, Mi.mRev, Mi.setAt, Mi.mSetV, Mi.mSetF, Mi.mAug, Mi.one, Mi.mRaise, Mi.mRaise0, Mi.mTry, Mi.noEx, Mi.endX, Mi.inX, Mi.mTryAs, Mi.mXf, Mi.dI, Mi.dIc, Mi.dAdd, Mi.dSub, Mi.dLt, Mi.dLe, Mi.dGt, Mi.dGe, Mi.dMul, Mi.dDiv, Mi.dMod, Mi.dPow, Mi.dNeg, Mi.sEq, Mi.ofB, Mi.dEq, Mi.dNe, Mi.isNon, Mi.dIsN, Mi.dNotN, Mi.dInt, Mi.dI1, Mi.dI2, Mi.dAbs, Mi.dMin, Mi.dMax, Mi.dGcd, Mi.dLen1, Mi.dLen, Mi.mLenV, Mi.mIsi, Mi.isub, Mi.D.tn, Mi.dIx, Mi.opC, Mi.negC, Mi.eqC, Mi.ipC, Mi.Rv.d, Mi.mNoP, Mi.asI, Mi.mPart, Mi.mSlL, Mi.asL, Mi.asQ, Mi.mItQ, Mi.mItA, Mi.mFor, Mi.putD, List.map_cons, List.map_nil, List.length_cons, List.length_nil, List.replicate, List.cons_append, List.nil_append, List.getElem?_cons_zero, List.getElem?_cons_succ, List.set_cons_zero, List.set_cons_succ, Nat.sub_self, Nat.reduceAdd, Nat.reduceSub, Nat.reduceEqDiff, List.reverse_cons, id, Bool.not_true, Bool.not_false, if_true, if_false, Bool.false_eq_true, reduceIte, true_and, and_true, and_self, Option.toList, List.all_cons, List.all_nil, Bool.and_true, Bool.true_and, Bool.and_self, decide_true, decide_false, decide_eq_true_eq, reduceCtorEq, Mi.bo_pl, Mi.bo_ow, Mi.bo_rf, Mi.bo_un, Mi.sa_ow, Mi.sa_rf, Mi.sa_pl, Mi.oa_un, Mi.oa_pl, Mi.oa_ow, Mi.co_ow, Mi.co_rf, Mi.co_pl, Mi.st_ow, Mi.st_rf, Mi.lv_ow, Mi.lv_rf, Mi.lv_pl, Mi.ne_un, Mi.ne_pl, Mi.ne_ow, Mi.ne_rf, Mi.ne_se, Mi.ne_ex, Mi.th_un, Mi.th_pl, Mi.ie_ex, Mi.xf_ex, ne_eq, not_false_eq_true, not_true_eq_false, Mi.clr, Mi.putS, Option.isSome_some, Option.some.injEq, Int.reduceEq, Int.reduceNe, Int.reduceLT, Int.reduceLE, Nat.reduceLT, Nat.reduceLeDiff, decide_not, Bool.not_eq_true, Bool.decide_eq_true, Mi.ib_t, Mi.ib_f, Mi.mkR_ex, Mi.bO_s, Mi.rO_f, Mi.rO_t, Mi.dEqA_eq, Mi.eqN_0, Mi.eqN_1, Mi.eqN_2, Mi.eqN_3, Mi.eqB_ins, Mi.eqB_tt, Mi.eqB_ll, Mi.eqB_int, Mi.eqB_str, Mi.eqB_bl, Mi.eqB_non, Mi.eqK_ii, Mi.eqK_ss, Mi.eqK_bb, Mi.eqK_nn, Mi.eqK_ni, Mi.eqK_in, Mi.eqK_ns, Mi.eqK_sn, Mi.eqK_is, Mi.eqK_si, Mi.eqK_nt, Mi.eqK_nl, Mi.eqB_tn, Mi.eqB_ln, Mi.eqLs_nil, Mi.eqLs_nc, Mi.eqLs_cn, Mi.eqLs_cc, Mi.itE_int, Mi.itE_str, Mi.itE_bl, Mi.itE_non, Mi.appT, Mi.asB, Mi.mMakeK, Mi.mDic, Option.bind_some, Mi.mLstV, Mi.lsV, Mi.mTupV, Mi.dList, Mi.dTuple, Mi.mSlT, Mi.asT2, Mi.mIsiT, Mi.enumQ, Mi.dInN, Mi.three, Mi.mPar3, Mi.brw, Mi.mOwn, Mi.mCallB, Mi.mMakeB, Mi.noLx, Mi.noL_tup, Mi.noL_ins, Mi.noL_lst, Mi.noL_int, Mi.noL_str, Mi.noL_bl, Mi.noL_non, Mi.noL_dic, Mi.noLs_nil, Mi.noLs_cons, Mi.noLf_nil, Mi.noLf_cons, List.any_cons, List.any_nil, Bool.or_true, Bool.or_false, Bool.true_or, Bool.false_or, Mi.hd_t, Mi.hd_f, Mi.hf_t, Mi.hf_f, Mi.hd_eq, Mi.mSlV, Mi.cutO, Mi.dLenA, Mi.dLenA1, Mi.lenOf, Mi.dCat, $as,*] $l:location)
open PySem
/-! ### primes -/
def Prm (p : Int) : Prop := 1 < p ∧ ∀ d : Int, 2 ≤ d → d * d ≤ p → ¬ p % d = 0
theorem Prm.div {p d : Int} (h : Prm p) (hd : d ∣ p) (h1 : 1 < d) : d = p := by
  obtain ⟨e, rfl⟩ := hd
  have hp := h.1
  have he : 0 < e := by
    rcases Int.lt_or_le 0 e with z | z
    · exact z
    · have := Int.mul_le_mul_of_nonneg_left z (by omega : 0 ≤ d)
      omega
  by_cases e1 : e = 1
  · rw [e1, Int.mul_one]
  · rcases Int.le_total d e with z | z
    · have := Int.mul_le_mul_of_nonneg_left z (by omega : 0 ≤ d)
      exact absurd (Int.mul_emod_right d e) (h.2 d (by omega) this)
    · have := Int.mul_le_mul_of_nonneg_right z (by omega : 0 ≤ e)
      exact absurd (Int.mul_emod_left d e) (h.2 e (by omega) this)
theorem Prm.gcd {p a : Int} (h : Prm p) (ha : ¬ a % p = 0) : Int.gcd a p = 1 := by
  have hp := h.1
  have g1 : (Int.gcd a p : Int) ∣ p := Int.gcd_dvd_right ..
  have g2 : (Int.gcd a p : Int) ∣ a := Int.gcd_dvd_left ..
  have g0 : 0 < Int.gcd a p := Int.gcd_pos_of_ne_zero_right a (by omega)
  by_cases e : Int.gcd a p = 1
  · exact e
  · have := h.div g1 (by omega)
    rw [this] at g2
    exact absurd (Int.emod_eq_zero_of_dvd g2) ha
open Classical in
noncomputable def isP (v : Int) : Bool := decide (Prm v)
theorem isP_t {v : Int} (h : Prm v) : isP v = true := by unfold isP; simp [h]
theorem isP_f {v : Int} (h : ¬ Prm v) : isP v = false := by unfold isP; simp [h]
theorem isP_iff {v : Int} : isP v = true ↔ Prm v := by unfold isP; simp
theorem not_prm_lt {v : Int} (h : v < 2) : ¬ Prm v := fun z => by have := z.1; omega
theorem fmod_pos {a b : Int} (h : 0 < b) : a.fmod b = a % b := Int.fmod_eq_emod_of_nonneg a (by omega)
theorem fdiv_pos {a b : Int} (h : 0 < b) : a.fdiv b = a / b := Int.fdiv_eq_ediv_of_nonneg a (by omega)
theorem prime_loop {v : Int} (hv : v < 10000) : ∀ (n : Nat) (d : Int), 2 ≤ d → (∀ c : Int, 2 ≤ c → c < d → c * c ≤ v → ¬ v % c = 0) → (v + 1 - d).toNat < n → d ≤ v + 1 → 1 < v →
    (Prm v ∧ ∃ d', wloop lc_is_prime_0 lb_is_prime_1 n [.pl (.int v), .pl (.int d)] = .ok .nx [.pl (.int v), .pl (.int d')]) ∨
    (¬ Prm v ∧ ∃ ρ, wloop lc_is_prime_0 lb_is_prime_1 n [.pl (.int v), .pl (.int d)] = .ok (.rt (.pl (.bl false))) ρ)
  | 0, d, _, _, h, _, _ => by omega
  | n + 1, d, h2, hn, hm, hdv, h1 => by
    rw [wloop.eq_2]
    by_cases h3 : d * d ≤ v
    · have h4 : d < 10000 := by
        rcases Int.lt_or_le d 10000 with z | z
        · exact z
        · have := Int.mul_le_mul_of_nonneg_left (by omega : 1 ≤ d) (by omega : 0 ≤ d)
          omega
      have hk : d ≤ v := by
        have := Int.mul_le_mul_of_nonneg_left (by omega : 1 ≤ d) (by omega : 0 ≤ d)
        omega
      have mo : mulOk d d = true := mulOk_l (by omega) (by omega)
      have hd0 : ¬ d = 0 := by omega
      have e1 : lc_is_prime_0 [.pl (.int v), .pl (.int d)] = .ok true [.pl (.int v), .pl (.int d)] := by unfold lc_is_prime_0; simp! only [mo, h3]
      by_cases h5 : v % d = 0
      · refine .inr ⟨fun z => z.2 d h2 h3 h5, [.pl (.int v), .pl (.int d)], ?_⟩
        have e2 : lb_is_prime_1 [.pl (.int v), .pl (.int d)] = .ok (.rt (.pl (.bl false))) [.pl (.int v), .pl (.int d)] := by unfold lb_is_prime_1; simp! only [iMod_eq, fmod_pos (by omega : 0 < d), h5, hd0]
        simp! only [e1, e2]
      · have e2 : lb_is_prime_1 [.pl (.int v), .pl (.int d)] = .ok .nx [.pl (.int v), .pl (.int (d + 1))] := by unfold lb_is_prime_1; simp! only [iMod_eq, fmod_pos (by omega : 0 < d), h5, hd0]
        have ih := prime_loop hv n (d + 1) (by omega) (fun c c1 c2 c3 => by
          by_cases z : c = d
          · rw [z]; exact h5
          · exact hn c c1 (by omega) c3) (by omega) (by omega) h1
        simp! only [e1, e2]
        exact ih
    · have hp : Prm v := ⟨h1, fun c c1 c3 => by
        rcases Int.lt_or_le c d with z | z
        · exact hn c c1 z c3
        · have := Int.mul_le_mul z z (by omega) (by omega)
          omega⟩
      refine .inl ⟨hp, d, ?_⟩
      have mo : mulOk d d = true := mulOk_l (by omega) (by omega)
      have e1 : lc_is_prime_0 [.pl (.int v), .pl (.int d)] = .ok false [.pl (.int v), .pl (.int d)] := by unfold lc_is_prime_0; simp! only [mo, h3]
      simp! only [e1]
theorem e_is_prime {v : Int} (hv : v < 10000) : m_is_prime [.int v] = .ok (.pl (.bl (isP v))) := by
  unfold m_is_prime b_is_prime
  by_cases h2 : v < 2
  · simp! only [h2, isP_f (not_prm_lt h2)]
  · rcases prime_loop hv (v + 1).toNat 2 (by decide) (fun c c1 c2 => by omega) (by omega) (by omega) (by omega) with ⟨hp, d', e⟩ | ⟨hp, ρ, e⟩
    · have w : mWhile lc_is_prime_0 lb_is_prime_1 [.pl (.int v), .pl (.int 2)] = .ok .nx [.pl (.int v), .pl (.int d')] := by rw [mWhile_eq (n := (v + 1).toNat) (by rw [e]; rfl), e]
      simp! only [h2, w, isP_t hp]
    · have w : mWhile lc_is_prime_0 lb_is_prime_1 [.pl (.int v), .pl (.int 2)] = .ok (.rt (.pl (.bl false))) ρ := by rw [mWhile_eq (n := (v + 1).toNat) (by rw [e]; rfl), e]
      simp! only [h2, w, isP_f hp]
theorem inv_loop {v p : Int} (hp : 0 < p) (hp2 : p < 2 ^ 32) : ∀ (n : Nat) (b r o f : Int) (u : Sl), okAsg (some u) = true → r.toNat < n → 0 < r → r < b → b ≤ p → Int.gcd b r = 1 → p ∣ f * v - r → p ∣ o * v - b →
    ∃ (b' o' f' : Int) (u' : Sl), p ∣ f' * v - 1 ∧ wloop lc_inverse_0 lb_inverse_1 n [.pl (.int v), .pl (.int p), .pl (.int b), .pl (.int r), .pl (.int o), .pl (.int f), u] = .ok .nx [.pl (.int v), .pl (.int p), .pl (.int b'), .pl (.int 1), .pl (.int o'), .pl (.int f'), u']
  | 0, b, r, o, f, u, _, h, _, _, _, _, _, _ => by omega
  | n + 1, b, r, o, f, u, hu, hn, h0, hrb, hbp, hg, hf, ho => by
    rw [wloop.eq_2]
    by_cases h1 : 1 < r
    · have hr0 : ¬ r = 0 := by omega
      have e1 : lc_inverse_0 [.pl (.int v), .pl (.int p), .pl (.int b), .pl (.int r), .pl (.int o), .pl (.int f), u] = .ok true [.pl (.int v), .pl (.int p), .pl (.int b), .pl (.int r), .pl (.int o), .pl (.int f), u] := by unfold lc_inverse_0; simp! only [h1]
      have q0 : 0 ≤ b / r := Int.ediv_nonneg (by omega) (by omega)
      have q1 : b / r ≤ b := Int.ediv_le_self _ (by omega)
      have mo : ∀ x, mulOk (b / r) x = true := fun x => mulOk_l (by omega) (by omega)
      have er : b - b / r * r = b % r := by rw [Int.emod_def, Int.mul_comm]
      have e2 : lb_inverse_1 [.pl (.int v), .pl (.int p), .pl (.int b), .pl (.int r), .pl (.int o), .pl (.int f), u] = .ok .nx [.pl (.int v), .pl (.int p), .pl (.int r), .pl (.int (b % r)), .pl (.int f), .pl (.int (o - b / r * f)), .pl (.int (b / r))] := by
        unfold lb_inverse_1; simp! only [hr0, iDiv_eq, fdiv_pos h0, hu, mo, er]
      have hm0 := Int.emod_nonneg b hr0
      have hm1 := Int.emod_lt_of_pos b h0
      have hg2 : Int.gcd r (b % r) = 1 := by rw [← er, Int.mul_comm, Int.gcd_sub_mul_left_right, Int.gcd_comm]; exact hg
      have hm : ¬ b % r = 0 := fun z => by
        rw [z, Int.gcd_zero_right] at hg2
        omega
      obtain ⟨b', o', f', u', hd, e⟩ := inv_loop hp hp2 n r (b % r) f (o - b / r * f) (.pl (.int (b / r))) rfl (by omega) (by omega) hm1 (by omega) hg2 (by
        have : (o - b / r * f) * v - b % r = (o * v - b) - b / r * (f * v - r) := by rw [← er]; grind
        rw [this]
        exact Int.dvd_sub ho (Int.dvd_mul_of_dvd_right hf)) hf
      refine ⟨b', o', f', u', hd, ?_⟩
      simp! only [e1, e2, e]
    · have hr1 : r = 1 := by omega
      subst hr1
      refine ⟨b, o, f, u, hf, ?_⟩
      have e1 : lc_inverse_0 [.pl (.int v), .pl (.int p), .pl (.int b), .pl (.int 1), .pl (.int o), .pl (.int f), u] = .ok false [.pl (.int v), .pl (.int p), .pl (.int b), .pl (.int 1), .pl (.int o), .pl (.int f), u] := by unfold lc_inverse_0; simp! only [Mi.ret]
      simp! only [e1]
theorem inv_ex {v p : Int} (h : Prm p) (hp2 : p < 2 ^ 32) (hv : ¬ v % p = 0) : ∃ x : Int, 0 ≤ x ∧ x < p ∧ p ∣ x * v - 1 ∧ m_inverse [.int v, .int p] = .ok (.pl (.int x)) := by
  have h1 := h.1
  have hp : 0 < p := by omega
  have hp0 : ¬ p = 0 := by omega
  have m0 := Int.emod_nonneg v (by omega : p ≠ 0)
  have m1 := Int.emod_lt_of_pos v hp
  have hg : Int.gcd p (v % p) = 1 := by
    rw [Int.gcd_comm]
    refine h.gcd ?_
    rw [Int.emod_emod]
    exact hv
  obtain ⟨b', o', f', u', hd, e⟩ := inv_loop hp hp2 (p + 1).toNat p (v % p) 0 1 .un rfl (by omega) (by omega) m1 (Int.le_refl _) hg (by rw [Int.one_mul]; exact Int.dvd_self_sub_emod) (by rw [Int.zero_mul, Int.zero_sub]; exact Int.dvd_neg.mpr (Int.dvd_refl p))
  have w : mWhile lc_inverse_0 lb_inverse_1 [.pl (.int v), .pl (.int p), .pl (.int p), .pl (.int (v % p)), .pl (.int 0), .pl (.int 1), .un] = .ok .nx [.pl (.int v), .pl (.int p), .pl (.int b'), .pl (.int 1), .pl (.int o'), .pl (.int f'), u'] := by rw [mWhile_eq (n := (p + 1).toNat) (by rw [e]; rfl), e]
  refine ⟨f' % p, Int.emod_nonneg _ (by omega), Int.emod_lt_of_pos _ hp, ?_, ?_⟩
  · have : f' % p * v - 1 = (f' * v - 1) - p * (f' / p * v) := by rw [Int.emod_def]; grind
    rw [this]
    exact Int.dvd_sub hd (Int.dvd_mul_right ..)
  · unfold m_inverse b_inverse
    simp! only [hp0, iMod_eq, fmod_pos hp, w]
end Mi

namespace Mi
local macro_rules | `(tactic| simp! only [$as,*]) => `(tactic| simp only [Mi.runM, Mi.runI, Mi.runR, Mi.outF, Mi.outI, Mi.outR, Mi.startE, Mi.bnd, Mi.ret, Mi.lift, Mi.fail, Mi.mVar, Mi.mC, Mi.mBin, Mi.mBinN, Mi.mUn, Mi.mFld, Mi.mFrz, Mi.mB, Mi.tru, Mi.mAnd, Mi.mOr, Mi.mNot, Mi.mAndV, Mi.mOrV, Mi.mNotV, Mi.mIf, Mi.mChain, Mi.mNil, Mi.mCons, Mi.mTup, Mi.mLst, Mi.mCB, Mi.mCBn, Mi.mIdxV, Mi.mSkip, Mi.thenF, Mi.mSeq, Mi.sto, Mi.mAsg, Mi.mAsgN, Mi.two, Mi.mPar, Mi.mDrop, Mi.mRet, Mi.mRetN, Mi.mRetV, Mi.mIfS, Mi.againF, Mi.gV, Mi.gsN, Mi.gsC, Mi.gT, Mi.mAsgT, Mi.tgt, Mi.mCall, Mi.frzR, Mi.newR, Mi.mCallN, Mi.recv, Mi.mMeth, Mi.mMethN, Mi.mMake, Mi.callR, Mi.mCallR, Mi.newM, Mi.mCallRN, Mi.mApp, Mi.mRev, Mi.setAt, Mi.mSetV, Mi.mSetF, Mi.mAug, Mi.one, Mi.mRaise, Mi.mRaise0, Mi.mTry, Mi.noEx, Mi.endX, Mi.inX, Mi.mTryAs, Mi.mXf, Mi.dI, Mi.dIc, Mi.dAdd, Mi.dSub, Mi.dLt, Mi.dLe, Mi.dGt, Mi.dGe, Mi.dMul, Mi.dDiv, Mi.dMod, Mi.dPow, Mi.dNeg, Mi.sEq, Mi.ofB, Mi.dEq, Mi.dNe, Mi.isNon, Mi.dIsN, Mi.dNotN, Mi.dInt, Mi.dI1, Mi.dI2, Mi.dAbs, Mi.dMin, Mi.dMax, Mi.dGcd, Mi.dLen1, Mi.dLen, Mi.mLenV, Mi.mIsi, Mi.isub, Mi.D.tn, Mi.dIx, Mi.opC, Mi.negC, Mi.eqC, Mi.ipC, Mi.Rv.d, Mi.mNoP, Mi.asI, Mi.mPart, Mi.mSlL, Mi.asL, Mi.asQ, Mi.mItQ, Mi.mItA, Mi.mFor, Mi.putD, List.map_cons, List.map_nil, List.length_cons, List.length_nil, List.replicate, List.cons_append, List.nil_append, List.getElem?_cons_zero, List.getElem?_cons_succ, List.set_cons_zero, List.set_cons_succ, Nat.sub_self, Nat.reduceAdd, Nat.reduceSub, Nat.reduceEqDiff, List.reverse_cons, id, Bool.not_true, Bool.not_false, if_true, if_false, Bool.false_eq_true, reduceIte, true_and, and_true, and_self, Option.toList, List.all_cons, List.all_nil, Bool.and_true, Bool.true_and, Bool.and_self, decide_true, decide_false, decide_eq_true_eq, reduceCtorEq, Mi.bo_pl, Mi.bo_ow, Mi.bo_rf, Mi.bo_un, Mi.sa_ow, Mi.sa_rf, Mi.sa_pl, Mi.oa_un, Mi.oa_pl, Mi.oa_ow, Mi.co_ow, Mi.co_rf, Mi.co_pl, Mi.st_ow, Mi.st_rf, Mi.lv_ow, Mi.lv_rf, Mi.lv_pl, Mi.ne_un, Mi.ne_pl, Mi.ne_ow, Mi.ne_rf, Mi.ne_se, Mi.ne_ex, Mi.th_un, Mi.th_pl, Mi.ie_ex, Mi.xf_ex, ne_eq, not_false_eq_true, not_true_eq_false, Mi.clr, Mi.putS, Option.isSome_some, Option.some.injEq, Int.reduceEq, Int.reduceNe, Int.reduceLT, Int.reduceLE, Nat.reduceLT, Nat.reduceLeDiff, decide_not, Bool.not_eq_true, Bool.decide_eq_true, Mi.ib_t, Mi.ib_f, Mi.mkR_ex, Mi.bO_s, Mi.rO_f, Mi.rO_t, Mi.dEqA_eq, Mi.eqN_0, Mi.eqN_1, Mi.eqN_2, Mi.eqN_3, Mi.eqB_ins, Mi.eqB_tt, Mi.eqB_ll, Mi.eqB_int, Mi.eqB_str, Mi.eqB_bl, Mi.eqB_non, Mi.eqK_ii, Mi.eqK_ss, Mi.eqK_bb, Mi.eqK_nn, Mi.eqK_ni, Mi.eqK_in, Mi.eqK_ns, Mi.eqK_sn, Mi.eqK_is, Mi.eqK_si, Mi.eqK_nt, Mi.eqK_nl, Mi.eqB_tn, Mi.eqB_ln, Mi.eqLs_nil, Mi.eqLs_nc, Mi.eqLs_cn, Mi.eqLs_cc, Mi.itE_int, Mi.itE_str, Mi.itE_bl, Mi.itE_non, Mi.appT, Mi.asB, Mi.mMakeK, Mi.mDic, Option.bind_some, Mi.mLstV, Mi.lsV, Mi.mTupV, Mi.dList, Mi.dTuple, Mi.mSlT, Mi.asT2, Mi.mIsiT, Mi.enumQ, Mi.dInN, Mi.three, Mi.mPar3, Mi.brw, Mi.mOwn, Mi.mCallB, Mi.mMakeB, Mi.noLx, Mi.noL_tup, Mi.noL_ins, Mi.noL_lst, Mi.noL_int, Mi.noL_str, Mi.noL_bl, Mi.noL_non, Mi.noL_dic, Mi.noLs_nil, Mi.noLs_cons, Mi.noLf_nil, Mi.noLf_cons, List.any_cons, List.any_nil, Bool.or_true, Bool.or_false, Bool.true_or, Bool.false_or, Mi.hd_t, Mi.hd_f, Mi.hf_t, Mi.hf_f, Mi.hd_eq, Mi.mSlV, Mi.cutO, Mi.dLenA, Mi.dLenA1, Mi.lenOf, Mi.dCat, $as,*]) | `(tactic| simp! only [$as,*] $l:location) => `(tactic| simp only [Mi.runM, Mi.runI, Mi.runR, Mi.outF, Mi.outI, Mi.outR, Mi.startE, Mi.bnd, Mi.ret, Mi.lift, Mi.fail, Mi.mVar, Mi.mC, Mi.mBin, Mi.mBinN, Mi.mUn, Mi.mFld, Mi.mFrz, Mi.mB, Mi.tru, Mi.mAnd, Mi.mOr, Mi.mNot, Mi.mAndV, Mi.mOrV, Mi.mNotV, Mi.mIf, Mi.mChain, Mi.mNil, Mi.mCons, Mi.mTup, Mi.mLst, Mi.mCB, Mi.mCBn, Mi.mIdxV, Mi.mSkip, Mi.thenF, Mi.mSeq, Mi.sto, Mi.mAsg, Mi.mAsgN, Mi.two, Mi.mPar, Mi.mDrop, Mi.mRet, Mi.mRetN, Mi.mRetV, Mi.mIfS, Mi.againF, Mi.gV, Mi.gsN, Mi.gsC, Mi.gT, Mi.mAsgT, Mi.tgt, Mi.mCall, Mi.frzR, Mi.newR, Mi.mCallN, Mi.recv, Mi.mMeth, Mi.mMethN, Mi.mMake, Mi.callR, Mi.mCallR, Mi.newM, Mi.mCallRN, Mi.mApp, Mi.mRev, Mi.setAt, Mi.mSetV, Mi.mSetF, Mi.mAug, Mi.one, Mi.mRaise, Mi.mRaise0, Mi.mTry, Mi.noEx, Mi.endX, Mi.inX, Mi.mTryAs, Mi.mXf, Mi.dI, Mi.dIc, Mi.dAdd, Mi.dSub, Mi.dLt, Mi.dLe, Mi.dGt, Mi.dGe, Mi.dMul, Mi.dDiv, Mi.dMod, Mi.dPow, Mi.dNeg, Mi.sEq, Mi.ofB, Mi.dEq, Mi.dNe, Mi.isNon, Mi.dIsN, Mi.dNotN, Mi.dInt, Mi.dI1, Mi.dI2, Mi.dAbs, Mi.dMin, Mi.dMax, Mi.dGcd, Mi.dLen1, Mi.dLen, Mi.mLenV, Mi.mIsi, Mi.isub, Mi.D.tn, Mi.dIx, Mi.opC, Mi.negC, Mi.eqC, Mi.ipC, Mi.Rv.d, Mi.mNoP, Mi.asI, Mi.mPart, Mi.mSlL, Mi.asL, Mi.asQ, Mi.mItQ, Mi.mItA, Mi.mFor, Mi.putD, List.map_cons, List.map_nil, List.length_cons, List.length_nil, List.replicate, List.cons_append, List.nil_append, List.getElem?_cons_zero, List.getElem?_cons_succ, List.set_cons_zero, List.set_cons_succ, Nat.sub_self, Nat.reduceAdd, Nat.reduceSub, Nat.reduceEqDiff, List.reverse_cons, id, Bool.not_true, Bool.not_false, if_true, if_false, Bool.false_eq_true, reduceIte, true_and, and_true, and_self, Option.toList, List.all_cons, List.all_nil, Bool.and_true, Bool.true_and, Bool.and_self, decide_true, decide_false, decide_eq_true_eq, reduceCtorEq, Mi.bo_pl, Mi.bo_ow, Mi.bo_rf, Mi.bo_un, Mi.sa_ow, Mi.sa_rf, Mi.sa_pl, Mi.oa_un, Mi.oa_pl, Mi.oa_ow, Mi.co_ow, Mi.co_rf, Mi.co_pl, Mi.st_ow, Mi.st_rf, Mi.lv_ow, Mi.lv_rf, Mi.lv_pl, Mi.ne_un, Mi.ne_pl, Mi.ne_ow, Mi.ne_rf, Mi.ne_se, Mi.ne_ex, Mi.th_un, Mi.th_pl, Mi.ie_ex, Mi.xf_ex, ne_eq, not_false_eq_true, not_true_eq_false, Mi.clr, Mi.putS, Option.isSome_some, Option.some.injEq, Int.reduceEq, Int.reduceNe, Int.reduceLT, Int.reduceLE, Nat.reduceLT, Nat.reduceLeDiff, decide_not, Bool.not_eq_true, Bool.decide_eq_true, Mi.ib_t, Mi.ib_f, Mi.mkR_ex, Mi.bO_s, Mi.rO_f, Mi.rO_t, Mi.dEqA_eq, Mi.eqN_0, Mi.eqN_1, Mi.eqN_2, Mi.eqN_3, Mi.eqB_ins, Mi.eqB_tt, Mi.eqB_ll, Mi.eqB_int, Mi.eqB_str, Mi.eqB_bl, Mi.eqB_non, Mi.eqK_ii, Mi.eqK_ss, Mi.eqK_bb, Mi.eqK_nn, Mi.eqK_ni, Mi.eqK_in, Mi.eqK_ns, Mi.eqK_sn, Mi.eqK_is, Mi.eqK_si, Mi.eqK_nt, Mi.eqK_nl, Mi.eqB_tn, Mi.eqB_ln, Mi.eqLs_nil, Mi.eqLs_nc, Mi.eqLs_cn, Mi.eqLs_cc, Mi.itE_int, Mi.itE_str, Mi.itE_bl, Mi.itE_non, Mi.appT, Mi.asB, Mi.mMakeK, Mi.mDic, Option.bind_some, Mi.mLstV, Mi.lsV, Mi.mTupV, Mi.dList, Mi.dTuple, Mi.mSlT, Mi.asT2, Mi.mIsiT, Mi.enumQ, Mi.dInN, Mi.three, Mi.mPar3, Mi.brw, Mi.mOwn, Mi.mCallB, Mi.mMakeB, Mi.noLx, Mi.noL_tup, Mi.noL_ins, Mi.noL_lst, Mi.noL_int, Mi.noL_str, Mi.noL_bl, Mi.noL_non, Mi.noL_dic, Mi.noLs_nil, Mi.noLs_cons, Mi.noLf_nil, Mi.noLf_cons, List.any_cons, List.any_nil, Bool.or_true, Bool.or_false, Bool.true_or, Bool.false_or, Mi.hd_t, Mi.hd_f, Mi.hf_t, Mi.hf_f, Mi.hd_eq, Mi.mSlV, Mi.cutO, Mi.dLenA, Mi.dLenA1, Mi.lenOf, Mi.dCat, $as,*] $l:location)
open PySem
def fD (p : Int) : D := .ins "Field" [("prime", .int p)]
theorem dFld_prime (p : Int) : dFld "prime" (fD p) = .ok (.int p) := rfl
theorem tn_fD (p : Int) : (fD p).tn = .c "Field" := rfl
theorem isIntD_fD (p : Int) : isIntD (fD p) = false := rfl
theorem isub_FF : isub (.c "Field") (.c "Field") = true := rfl
theorem mkR_fD (p : Int) : mkR "Field" (.ok [("prime", .int p)]) = .ok (fD p) := rfl
/-- a field: of exact fractions, or of a prime of the range -/
def FOk (p : Int) : Prop := p = 0 ∨ Prm p ∧ p ≤ 9973
/-- of a prime -/
structure PF (p : Int) : Prop where
  pr : Prm p
  le : p ≤ 9973
theorem PF.pos {p : Int} (h : PF p) : 0 < p := by have := h.pr.1; omega
theorem PF.ne {p : Int} (h : PF p) : ¬ p = 0 := by have := h.pos; omega
theorem PF.lt {p : Int} (h : PF p) : p < 2 ^ 32 := by have := h.le; omega
theorem FOk.cases {p : Int} (h : FOk p) : p = 0 ∨ PF p := h.imp id fun z => ⟨z.1, z.2⟩
theorem e_Finit {p : Int} (h : FOk p) : m_Field___init__ [.int p] = .ok [("prime", .int p)] := by
  unfold m_Field___init__ b_Field___init__
  rcases h.cases with rfl | h
  · simp! only [e_is_integer, isIntD]
  · have h1 : ¬ 9973 < p := by have := h.le; omega
    simp! only [e_is_integer, isIntD, h.ne, h1, e_is_prime (by have := h.le; omega : p < 10000), isP_t h.pr]
theorem e_Finit0 : m_Field___init___1 [] = .ok [("prime", .int 0)] := e_Finit (.inl rfl)
theorem e_FinitX {p : Int} (h : ¬ FOk p) : m_Field___init__ [.int p] = .ex "NoField" none := by
  unfold m_Field___init__ b_Field___init__
  have h0 : ¬ p = 0 := fun z => h (.inl z)
  by_cases h1 : 9973 < p
  · simp! only [e_is_integer, isIntD, h0, h1]
  · have hp : ¬ Prm p := fun z => h (.inr ⟨z, by omega⟩)
    simp! only [e_is_integer, isIntD, h0, h1, e_is_prime (by omega : p < 10000), isP_f hp]
theorem e_FinitD {d : D} (h : isIntD d = false) : m_Field___init__ [d] = .ex "NoField" none := by
  unfold m_Field___init__ b_Field___init__
  simp! only [e_is_integer, h]
theorem e_Feq {p q : Int} : m_Field___eq__ [fD p, fD q] = .ok (.pl (.bl (decide (p = q)))) := by
  unfold m_Field___eq__ b_Field___eq__
  simp! only [-Mi.D.tn, -Mi.isub, tn_fD, isub_FF, dFld_prime]
theorem e_FeqX {p : Int} {d : D} (h : isub d.tn (.c "Field") = false) : m_Field___eq__ [fD p, d] = .ok (.pl (.bl false)) := by
  unfold m_Field___eq__ b_Field___eq__
  simp! only [-Mi.D.tn, -Mi.isub, h]
theorem eq_of_dvd {p x y : Int} (hx : 0 ≤ x) (hx2 : x < p) (hy : 0 ≤ y) (hy2 : y < p) (h : p ∣ x - y) : x = y := by
  obtain ⟨c, hc⟩ := h
  have : c = 0 := by
    rcases Int.lt_trichotomy c 0 with z | z | z
    · have := Int.mul_le_mul_of_nonneg_left (by omega : c ≤ -1) (by omega : 0 ≤ p)
      omega
    · exact z
    · have := Int.mul_le_mul_of_nonneg_left (by omega : 1 ≤ c) (by omega : 0 ≤ p)
      omega
  subst this
  omega
theorem inv_uniq {p v x y : Int} (hx : 0 ≤ x) (hx2 : x < p) (hy : 0 ≤ y) (hy2 : y < p) (h1 : p ∣ x * v - 1) (h2 : p ∣ y * v - 1) : x = y := by
  refine eq_of_dvd hx hx2 hy hy2 ?_
  have : x - y = x * (-(y * v - 1)) - y * (-(x * v - 1)) := by grind
  rw [this]
  exact Int.dvd_sub (Int.dvd_mul_of_dvd_right (Int.dvd_neg.mpr h2)) (Int.dvd_mul_of_dvd_right (Int.dvd_neg.mpr h1))
open Classical in
/-- the inverse modulo p -/
noncomputable def zinv (p v : Int) : Int := if h : ∃ x : Int, 0 ≤ x ∧ x < p ∧ p ∣ x * v - 1 then h.choose else 0
theorem zinv_of {p v x : Int} (h0 : 0 ≤ x) (h1 : x < p) (h2 : p ∣ x * v - 1) : zinv p v = x := by
  have hx : ∃ x : Int, 0 ≤ x ∧ x < p ∧ p ∣ x * v - 1 := ⟨x, h0, h1, h2⟩
  unfold zinv
  rw [dif_pos hx]
  obtain ⟨a, b, c⟩ := hx.choose_spec
  exact inv_uniq a b h0 h1 c h2
theorem e_inverse {v p : Int} (h : PF p) (hv : ¬ v % p = 0) : m_inverse [.int v, .int p] = .ok (.pl (.int (zinv p v))) := by
  obtain ⟨x, h0, h1, h2, e⟩ := inv_ex h.pr h.lt hv
  rw [zinv_of h0 h1 h2, e]
theorem zinv_ok {v p : Int} (h : PF p) (hv : ¬ v % p = 0) : 0 ≤ zinv p v ∧ zinv p v < p ∧ p ∣ zinv p v * v - 1 := by
  obtain ⟨x, h0, h1, h2, e⟩ := inv_ex h.pr h.lt hv
  rw [zinv_of h0 h1 h2]
  exact ⟨h0, h1, h2⟩
theorem zinv_mul {v p : Int} (h : PF p) (hv : ¬ v % p = 0) (x : Int) : mulOk x (zinv p v) = true := by
  have := zinv_ok h hv
  have := h.le
  exact mulOk_r (by omega) (by omega)
/-- the residue of a fraction -/
noncomputable def res (p : Int) (q : Rat) : Int := q.num * zinv p q.den % p
theorem res_lo {p : Int} (h : PF p) (q : Rat) : 0 ≤ res p q := Int.emod_nonneg _ h.ne
theorem res_hi {p : Int} (h : PF p) (q : Rat) : res p q < p := Int.emod_lt_of_pos _ h.pos
theorem e_numI0 (i : Int) : m_Field_number [fD 0, .int i] = .ok (.pl (rD (i : Rat))) := by
  unfold m_Field_number b_Field_number
  simp! only [-Mi.D.tn, -Mi.isub, e_is_integer, isIntD, dFld_prime, e_init1, mkR_rF]
theorem e_numI {p : Int} (h : PF p) (i : Int) : m_Field_number [fD p, .int i] = .ok (.pl (.int (i % p))) := by
  unfold m_Field_number b_Field_number
  simp! only [-Mi.D.tn, -Mi.isub, e_is_integer, isIntD, dFld_prime, h.ne, iMod_eq, fmod_pos h.pos]
theorem e_numR0 (q : Rat) : m_Field_number [fD 0, rD q] = .ok (.pl (rD q)) := by
  unfold m_Field_number b_Field_number
  simp! only [-Mi.D.tn, -Mi.isub, e_is_integer, isIntD_rD, tn_rD, isub_RR, dFld_prime]
theorem e_numR {p : Int} (h : PF p) (q : Rat) (hq : ¬ (q.den : Int) % p = 0) : m_Field_number [fD p, rD q] = .ok (.pl (.int (res p q))) := by
  unfold m_Field_number b_Field_number res
  simp! only [-Mi.D.tn, -Mi.isub, e_is_integer, isIntD_rD, tn_rD, isub_RR, dFld_prime, dFld_top, dFld_bottom, h.ne, iMod_eq, fmod_pos h.pos, hq, e_inverse h hq, zinv_mul h hq]
theorem e_numRx {p : Int} (h : PF p) (q : Rat) (hq : (q.den : Int) % p = 0) : m_Field_number [fD p, rD q] = .ex "NoNumber" none := by
  unfold m_Field_number b_Field_number
  simp! only [-Mi.D.tn, -Mi.isub, e_is_integer, isIntD_rD, tn_rD, isub_RR, dFld_prime, dFld_top, dFld_bottom, h.ne, iMod_eq, fmod_pos h.pos, hq]
theorem e_numX {p : Int} {d : D} (h1 : isIntD d = false) (h2 : isub d.tn (.c "Ratio") = false) : m_Field_number [fD p, d] = .ex "NoNumber" none := by
  unfold m_Field_number b_Field_number
  simp! only [-Mi.D.tn, -Mi.isub, e_is_integer, h1, h2]
end Mi

namespace Mi
open PySem
/-! ### == with Ratios -/
/-- the table knows Ratio -/
def TR (T : Tab) : Prop := ∀ ds, appT T "Ratio" ds = asB (m_Ratio___eq__ ds)
section
variable {T : Tab} {g : D → D → Option Bool} {p q : Rat} {i : Int}
theorem TR.rr (h : TR T) : eqB T g (rD p) (rD q) = some (decide (p = q)) := by
  show appT T "Ratio" [rD p, rD q] = _
  rw [h, e_eq]; rfl
theorem TR.ri (h : TR T) : eqB T g (rD p) (.int i) = some (decide (p = (i : Rat))) := by
  show appT T "Ratio" [rD p, .int i] = _
  rw [h, e_eqI]; rfl
theorem rD_inj : rD p = rD q ↔ p = q := by
  constructor
  · intro h
    unfold rD rF at h
    injection h with _ h
    injection h with h1 h2
    injection h2 with h2 _
    injection h1 with _ h1
    injection h2 with _ h2
    injection h1 with h1
    injection h2 with h2
    exact rat_eq_iff.mpr ⟨h1, h2⟩
  · rintro rfl; rfl
theorem TR.it (h : TR T) : itE (eqB T g) (rD p) (rD q) = some (decide (p = q)) := itE_of h.rr fun z => decide_eq_true (rD_inj.mp z)
end
theorem tr_R : TR T_Ratio := fun ds => by simp only [T_Ratio, appT, if_true]
end Mi

namespace Mi
local macro_rules | `(tactic| simp! only [$as,*]) => `(tactic| simp only [Mi.runM, Mi.runI, Mi.runR, Mi.outF, Mi.outI, Mi.outR, Mi.startE, Mi.bnd, Mi.ret, Mi.lift, Mi.fail, Mi.mVar, Mi.mC, Mi.mBin, Mi.mBinN, Mi.mUn, Mi.mFld, Mi.mFrz, Mi.mB, Mi.tru, Mi.mAnd, Mi.mOr, Mi.mNot, Mi.mAndV, Mi.mOrV, Mi.mNotV, Mi.mIf, Mi.mChain, Mi.mNil, Mi.mCons, Mi.mTup, Mi.mLst, Mi.mCB, Mi.mCBn, Mi.mIdxV, Mi.mSkip, Mi.thenF, Mi.mSeq, Mi.sto, Mi.mAsg, Mi.mAsgN, Mi.two, Mi.mPar, Mi.mDrop, Mi.mRet, Mi.mRetN, Mi.mRetV, Mi.mIfS, Mi.againF, Mi.gV, Mi.gsN, Mi.gsC, Mi.gT, Mi.mAsgT, Mi.tgt, Mi.mCall, Mi.frzR, Mi.newR, Mi.mCallN, Mi.recv, Mi.mMeth, Mi.mMethN, Mi.mMake, Mi.callR, Mi.mCallR, Mi.newM, Mi.mCallRN, Mi.mApp, Mi.mRev, Mi.setAt, Mi.mSetV, Mi.mSetF, Mi.mAug, Mi.one, Mi.mRaise, Mi.mRaise0, Mi.mTry, Mi.noEx, Mi.endX, Mi.inX, Mi.mTryAs, Mi.mXf, Mi.dI, Mi.dIc, Mi.dAdd, Mi.dSub, Mi.dLt, Mi.dLe, Mi.dGt, Mi.dGe, Mi.dMul, Mi.dDiv, Mi.dMod, Mi.dPow, Mi.dNeg, Mi.sEq, Mi.ofB, Mi.dEq, Mi.dNe, Mi.isNon, Mi.dIsN, Mi.dNotN, Mi.dInt, Mi.dI1, Mi.dI2, Mi.dAbs, Mi.dMin, Mi.dMax, Mi.dGcd, Mi.dLen1, Mi.dLen, Mi.mLenV, Mi.mIsi, Mi.isub, Mi.D.tn, Mi.dIx, Mi.opC, Mi.negC, Mi.eqC, Mi.ipC, Mi.Rv.d, Mi.mNoP, Mi.asI, Mi.mPart, Mi.mSlL, Mi.asL, Mi.asQ, Mi.mItQ, Mi.mItA, Mi.mFor, Mi.putD, List.map_cons, List.map_nil, List.length_cons, List.length_nil, List.replicate, List.cons_append, List.nil_append, List.getElem?_cons_zero, List.getElem?_cons_succ, List.set_cons_zero, List.set_cons_succ, Nat.sub_self, Nat.reduceAdd, Nat.reduceSub, Nat.reduceEqDiff, List.reverse_cons, id, Bool.not_true, Bool.not_false, if_true, if_false, Bool.false_eq_true, reduceIte, true_and, and_true, and_self, Option.toList, List.all_cons, List.all_nil, Bool.and_true, Bool.true_and, Bool.and_self, decide_true, decide_false, decide_eq_true_eq, reduceCtorEq, Mi.bo_pl, Mi.bo_ow, Mi.bo_rf, Mi.bo_un, Mi.sa_ow, Mi.sa_rf, Mi.sa_pl, Mi.oa_un, Mi.oa_pl, Mi.oa_ow, Mi.co_ow, Mi.co_rf, Mi.co_pl, Mi.st_ow, Mi.st_rf, Mi.lv_ow, Mi.lv_rf, Mi.lv_pl, Mi.ne_un, Mi.ne_pl, Mi.ne_ow, Mi.ne_rf, Mi.ne_se, Mi.ne_ex, Mi.th_un, Mi.th_pl, Mi.ie_ex, Mi.xf_ex, ne_eq, not_false_eq_true, not_true_eq_false, Mi.clr, Mi.putS, Option.isSome_some, Option.some.injEq, Int.reduceEq, Int.reduceNe, Int.reduceLT, Int.reduceLE, Nat.reduceLT, Nat.reduceLeDiff, decide_not, Bool.not_eq_true, Bool.decide_eq_true, Mi.ib_t, Mi.ib_f, Mi.mkR_ex, Mi.bO_s, Mi.rO_f, Mi.rO_t, Mi.dEqA_eq, Mi.eqN_0, Mi.eqN_1, Mi.eqN_2, Mi.eqN_3, Mi.eqB_ins, Mi.eqB_tt, Mi.eqB_ll, Mi.eqB_int, Mi.eqB_str, Mi.eqB_bl, Mi.eqB_non, Mi.eqK_ii, Mi.eqK_ss, Mi.eqK_bb, Mi.eqK_nn, Mi.eqK_ni, Mi.eqK_in, Mi.eqK_ns, Mi.eqK_sn, Mi.eqK_is, Mi.eqK_si, Mi.eqK_nt, Mi.eqK_nl, Mi.eqB_tn, Mi.eqB_ln, Mi.eqLs_nil, Mi.eqLs_nc, Mi.eqLs_cn, Mi.eqLs_cc, Mi.itE_int, Mi.itE_str, Mi.itE_bl, Mi.itE_non, Mi.appT, Mi.asB, Mi.mMakeK, Mi.mDic, Option.bind_some, Mi.mLstV, Mi.lsV, Mi.mTupV, Mi.dList, Mi.dTuple, Mi.mSlT, Mi.asT2, Mi.mIsiT, Mi.enumQ, Mi.dInN, Mi.three, Mi.mPar3, Mi.brw, Mi.mOwn, Mi.mCallB, Mi.mMakeB, Mi.noLx, Mi.noL_tup, Mi.noL_ins, Mi.noL_lst, Mi.noL_int, Mi.noL_str, Mi.noL_bl, Mi.noL_non, Mi.noL_dic, Mi.noLs_nil, Mi.noLs_cons, Mi.noLf_nil, Mi.noLf_cons, List.any_cons, List.any_nil, Bool.or_true, Bool.or_false, Bool.true_or, Bool.false_or, Mi.hd_t, Mi.hd_f, Mi.hf_t, Mi.hf_f, Mi.hd_eq, Mi.mSlV, Mi.cutO, Mi.dLenA, Mi.dLenA1, Mi.lenOf, Mi.dCat, $as,*]) | `(tactic| simp! only [$as,*] $l:location) => `(tactic| simp only [Mi.runM, Mi.runI, Mi.runR, Mi.outF, Mi.outI, Mi.outR, Mi.startE, Mi.bnd, Mi.ret, Mi.lift, Mi.fail, Mi.mVar, Mi.mC, Mi.mBin, Mi.mBinN, Mi.mUn, Mi.mFld, Mi.mFrz, Mi.mB, Mi.tru, Mi.mAnd, Mi.mOr, Mi.mNot, Mi.mAndV, Mi.mOrV, Mi.mNotV, Mi.mIf, Mi.mChain, Mi.mNil, Mi.mCons, Mi.mTup, Mi.mLst, Mi.mCB, Mi.mCBn, Mi.mIdxV, Mi.mSkip, Mi.thenF, Mi.mSeq, Mi.sto, Mi.mAsg, Mi.mAsgN, Mi.two, Mi.mPar, Mi.mDrop, Mi.mRet, Mi.mRetN, Mi.mRetV, Mi.mIfS, Mi.againF, Mi.gV, Mi.gsN, Mi.gsC, Mi.gT, Mi.mAsgT, Mi.tgt, Mi.mCall, Mi.frzR, Mi.newR, Mi.mCallN, Mi.recv, Mi.mMeth, Mi.mMethN, Mi.mMake, Mi.callR, Mi.mCallR, Mi.newM, Mi.mCallRN, Mi.mApp, Mi.mRev, Mi.setAt, Mi.mSetV, Mi.mSetF, Mi.mAug, Mi.one, Mi.mRaise, Mi.mRaise0, Mi.mTry, Mi.noEx, Mi.endX, Mi.inX, Mi.mTryAs, Mi.mXf, Mi.dI, Mi.dIc, Mi.dAdd, Mi.dSub, Mi.dLt, Mi.dLe, Mi.dGt, Mi.dGe, Mi.dMul, Mi.dDiv, Mi.dMod, Mi.dPow, Mi.dNeg, Mi.sEq, Mi.ofB, Mi.dEq, Mi.dNe, Mi.isNon, Mi.dIsN, Mi.dNotN, Mi.dInt, Mi.dI1, Mi.dI2, Mi.dAbs, Mi.dMin, Mi.dMax, Mi.dGcd, Mi.dLen1, Mi.dLen, Mi.mLenV, Mi.mIsi, Mi.isub, Mi.D.tn, Mi.dIx, Mi.opC, Mi.negC, Mi.eqC, Mi.ipC, Mi.Rv.d, Mi.mNoP, Mi.asI, Mi.mPart, Mi.mSlL, Mi.asL, Mi.asQ, Mi.mItQ, Mi.mItA, Mi.mFor, Mi.putD, List.map_cons, List.map_nil, List.length_cons, List.length_nil, List.replicate, List.cons_append, List.nil_append, List.getElem?_cons_zero, List.getElem?_cons_succ, List.set_cons_zero, List.set_cons_succ, Nat.sub_self, Nat.reduceAdd, Nat.reduceSub, Nat.reduceEqDiff, List.reverse_cons, id, Bool.not_true, Bool.not_false, if_true, if_false, Bool.false_eq_true, reduceIte, true_and, and_true, and_self, Option.toList, List.all_cons, List.all_nil, Bool.and_true, Bool.true_and, Bool.and_self, decide_true, decide_false, decide_eq_true_eq, reduceCtorEq, Mi.bo_pl, Mi.bo_ow, Mi.bo_rf, Mi.bo_un, Mi.sa_ow, Mi.sa_rf, Mi.sa_pl, Mi.oa_un, Mi.oa_pl, Mi.oa_ow, Mi.co_ow, Mi.co_rf, Mi.co_pl, Mi.st_ow, Mi.st_rf, Mi.lv_ow, Mi.lv_rf, Mi.lv_pl, Mi.ne_un, Mi.ne_pl, Mi.ne_ow, Mi.ne_rf, Mi.ne_se, Mi.ne_ex, Mi.th_un, Mi.th_pl, Mi.ie_ex, Mi.xf_ex, ne_eq, not_false_eq_true, not_true_eq_false, Mi.clr, Mi.putS, Option.isSome_some, Option.some.injEq, Int.reduceEq, Int.reduceNe, Int.reduceLT, Int.reduceLE, Nat.reduceLT, Nat.reduceLeDiff, decide_not, Bool.not_eq_true, Bool.decide_eq_true, Mi.ib_t, Mi.ib_f, Mi.mkR_ex, Mi.bO_s, Mi.rO_f, Mi.rO_t, Mi.dEqA_eq, Mi.eqN_0, Mi.eqN_1, Mi.eqN_2, Mi.eqN_3, Mi.eqB_ins, Mi.eqB_tt, Mi.eqB_ll, Mi.eqB_int, Mi.eqB_str, Mi.eqB_bl, Mi.eqB_non, Mi.eqK_ii, Mi.eqK_ss, Mi.eqK_bb, Mi.eqK_nn, Mi.eqK_ni, Mi.eqK_in, Mi.eqK_ns, Mi.eqK_sn, Mi.eqK_is, Mi.eqK_si, Mi.eqK_nt, Mi.eqK_nl, Mi.eqB_tn, Mi.eqB_ln, Mi.eqLs_nil, Mi.eqLs_nc, Mi.eqLs_cn, Mi.eqLs_cc, Mi.itE_int, Mi.itE_str, Mi.itE_bl, Mi.itE_non, Mi.appT, Mi.asB, Mi.mMakeK, Mi.mDic, Option.bind_some, Mi.mLstV, Mi.lsV, Mi.mTupV, Mi.dList, Mi.dTuple, Mi.mSlT, Mi.asT2, Mi.mIsiT, Mi.enumQ, Mi.dInN, Mi.three, Mi.mPar3, Mi.brw, Mi.mOwn, Mi.mCallB, Mi.mMakeB, Mi.noLx, Mi.noL_tup, Mi.noL_ins, Mi.noL_lst, Mi.noL_int, Mi.noL_str, Mi.noL_bl, Mi.noL_non, Mi.noL_dic, Mi.noLs_nil, Mi.noLs_cons, Mi.noLf_nil, Mi.noLf_cons, List.any_cons, List.any_nil, Bool.or_true, Bool.or_false, Bool.true_or, Bool.false_or, Mi.hd_t, Mi.hd_f, Mi.hf_t, Mi.hf_f, Mi.hd_eq, Mi.mSlV, Mi.cutO, Mi.dLenA, Mi.dLenA1, Mi.lenOf, Mi.dCat, $as,*] $l:location)
open PySem
theorem rngL_map (lo : Int) (n : Nat) : rngL lo n = ((List.range n).map fun (i : Nat) => lo + (i : Int)).map D.int := by unfold rngL; rw [List.map_map]; rfl
theorem lip_loop {v : Int} : ∀ (l : List Int) (u : Sl), okAsg (some u) = true → (∀ d ∈ l, 2 ≤ d ∧ d < 100) →
    ((∃ d, 2 ≤ d ∧ d * d ≤ v ∧ v % d = 0) ∧ ∃ ρ, forL (gV 1) lb__law_is_prime_0 (l.map D.int) [.pl (.int v), u] = .ok (.rt (.pl (.bl false))) ρ) ∨
    ((∀ d ∈ l, ¬ (d * d ≤ v ∧ v % d = 0)) ∧ ∃ u', forL (gV 1) lb__law_is_prime_0 (l.map D.int) [.pl (.int v), u] = .ok .nx [.pl (.int v), u'])
  | [], u, _, _ => .inr ⟨fun _ h => (by cases h), u, rfl⟩
  | d :: l, u, hu, h => by
    obtain ⟨h2, h3⟩ := h d List.mem_cons_self
    have mo : mulOk d d = true := mulOk_l (by omega) (by omega)
    have hd0 : ¬ d = 0 := by omega
    by_cases c : d * d ≤ v ∧ v % d = 0
    · refine .inl ⟨⟨d, h2, c⟩, [.pl (.int v), .pl (.int d)], ?_⟩
      have e1 : lb__law_is_prime_0 [.pl (.int v), .pl (.int d)] = .ok (.rt (.pl (.bl false))) [.pl (.int v), .pl (.int d)] := by unfold lb__law_is_prime_0; simp! only [mo, c.1, c.2, hd0, iMod_eq, fmod_pos (by omega : 0 < d)]
      simp! only [Mi.forL, hu, e1]
    · have e1 : lb__law_is_prime_0 [.pl (.int v), .pl (.int d)] = .ok .nx [.pl (.int v), .pl (.int d)] := by
        unfold lb__law_is_prime_0
        by_cases c1 : d * d ≤ v
        · have c2 : ¬ v % d = 0 := fun z => c ⟨c1, z⟩
          simp! only [mo, c1, c2, hd0, iMod_eq, fmod_pos (by omega : 0 < d)]
        · simp! only [mo, c1]
      rcases lip_loop l (.pl (.int d)) rfl (fun x hx => h x (List.mem_cons_of_mem _ hx)) with ⟨a, ρ, e⟩ | ⟨a, u', e⟩
      · refine .inl ⟨a, ρ, ?_⟩
        simp! only [Mi.forL, hu, e1, e]
      · refine .inr ⟨fun x hx => ?_, u', ?_⟩
        · rcases List.mem_cons.mp hx with rfl | hx
          · exact c
          · exact a x hx
        · simp! only [Mi.forL, hu, e1, e]
theorem e_law_is_prime {v : Int} (hv : v < 10000) : m__law_is_prime [.int v] = .ok (.pl (.bl (isP v))) := by
  have hl : ∀ d ∈ (List.range 98).map (fun (i : Nat) => 2 + (i : Int)), 2 ≤ d ∧ d < 100 := fun d hd => by
    obtain ⟨i, hi, rfl⟩ := List.mem_map.mp hd
    have := List.mem_range.mp hi
    omega
  have sm : (small 2 && small 100) = true := by rw [small_of (by decide) (by decide), small_of (by decide) (by decide)]; rfl
  unfold m__law_is_prime b__law_is_prime
  rcases lip_loop (v := v) ((List.range 98).map fun (i : Nat) => 2 + (i : Int)) .un rfl hl with ⟨⟨d, d1, d2, d3⟩, ρ, e⟩ | ⟨a, u', e⟩
  · rw [← rngL_map] at e
    have hp : ¬ Prm v := fun z => z.2 d d1 d2 d3
    simp! only [Mi.rng2, sm, show ((100 : Int) - 2).toNat = 98 from rfl, e, isP_f hp]
  · rw [← rngL_map] at e
    by_cases h1 : 1 < v
    · have hp : Prm v := ⟨h1, fun d d1 d2 d3 => by
        refine a d (List.mem_map.mpr ⟨(d - 2).toNat, List.mem_range.mpr ?_, by omega⟩) ⟨d2, d3⟩
        rcases Int.lt_or_le d 100 with z | z
        · omega
        · have := Int.mul_le_mul z z (by omega) (by omega)
          omega⟩
      simp! only [Mi.rng2, sm, show ((100 : Int) - 2).toNat = 98 from rfl, e, h1, isP_t hp]
    · simp! only [Mi.rng2, sm, show ((100 : Int) - 2).toNat = 98 from rfl, e, h1, isP_f (not_prm_lt (by omega : v < 2))]
theorem prm_small {p : Int} (h1 : 1 < p) (h : p < 25) (h2 : ¬ p % 2 = 0 ∨ p < 4) (h3 : ¬ p % 3 = 0 ∨ p < 9) (h4 : ¬ p % 4 = 0 ∨ p < 16) : Prm p := ⟨h1, fun d d1 d2 d3 => by
  have hd : d < 5 := by
    rcases Int.lt_or_le d 5 with z | z
    · exact z
    · have := Int.mul_le_mul z z (by omega) (by omega)
      omega
  have : d = 2 ∨ d = 3 ∨ d = 4 := by omega
  rcases this with rfl | rfl | rfl <;> omega⟩
theorem lp_loop : ∀ (l : List D) (s : Dz) (k v : Int) (u : Sl), okAsg (some u) = true → v ≤ 9973 →
    (∃ (p : Int) (u' : Sl), FOk p ∧ forL (gV 3) lb__law_prime_0 l [.rf s.c, .pl (.int k), .pl (.int v), u] = .ok (.rt (.pl (.int p))) [.rf s.c, .pl (.int k), .pl (.int p), u']) ∨
    (∃ (p : Int) (u' : Sl), forL (gV 3) lb__law_prime_0 l [.rf s.c, .pl (.int k), .pl (.int v), u] = .ok .nx [.rf s.c, .pl (.int k), .pl (.int p), u'])
  | [], s, k, v, u, _, _ => .inr ⟨v, u, rfl⟩
  | d :: l, s, k, v, u, hu, hv => by
    have hp := e_law_is_prime (by omega : v < 10000)
    by_cases h : Prm v
    · refine .inl ⟨v, .pl d, .inr ⟨h, hv⟩, ?_⟩
      have e1 : lb__law_prime_0 [.rf s.c, .pl (.int k), .pl (.int v), .pl d] = .ok (.rt (.pl (.int v))) [.rf s.c, .pl (.int k), .pl (.int v), .pl d] := by unfold lb__law_prime_0; simp! only [hp, isP_t h]
      simp! only [Mi.forL, hu, e1]
    · have e1 : lb__law_prime_0 [.rf s.c, .pl (.int k), .pl (.int v), .pl d] = .ok .nx [.rf s.c, .pl (.int k), .pl (.int (v - 1)), .pl d] := by unfold lb__law_prime_0; simp! only [hp, isP_f h]
      rcases lp_loop l s k (v - 1) (.pl d) rfl (by omega) with ⟨p, u', a, e⟩ | ⟨p, u', e⟩
      · refine .inl ⟨p, u', a, ?_⟩
        simp! only [Mi.forL, hu, e1, e]
      · refine .inr ⟨p, u', ?_⟩
        simp! only [Mi.forL, hu, e1, e]
theorem six (k : Int) (h0 : 0 ≤ k) (h1 : k < 6) : ∃ p, FOk p ∧ listAt [.int 2, .int 3, .int 5, .int 7, .int 11, .int 13] k = .ok (.int p) := by
  have : k = 0 ∨ k = 1 ∨ k = 2 ∨ k = 3 ∨ k = 4 ∨ k = 5 := by omega
  rcases this with rfl | rfl | rfl | rfl | rfl | rfl
  · exact ⟨2, .inr ⟨prm_small (by decide) (by decide) (by decide) (by decide) (by decide), by decide⟩, rfl⟩
  · exact ⟨3, .inr ⟨prm_small (by decide) (by decide) (by decide) (by decide) (by decide), by decide⟩, rfl⟩
  · exact ⟨5, .inr ⟨prm_small (by decide) (by decide) (by decide) (by decide) (by decide), by decide⟩, rfl⟩
  · exact ⟨7, .inr ⟨prm_small (by decide) (by decide) (by decide) (by decide) (by decide), by decide⟩, rfl⟩
  · exact ⟨11, .inr ⟨prm_small (by decide) (by decide) (by decide) (by decide) (by decide), by decide⟩, rfl⟩
  · exact ⟨13, .inr ⟨prm_small (by decide) (by decide) (by decide) (by decide) (by decide), by decide⟩, rfl⟩
theorem prime_ex (s : Dz) : ∃ (p : Int) (s' : Dz), FOk p ∧ m__law_prime s.c [] = some (.pl (.int p), s'.c) := by
  have a0 := draw_lo s (many := 6) (by decide)
  have a1 := draw_hi s (many := 6) (by decide)
  have ea := e_draw s (many := 6) (by decide)
  generalize (draw s 6).1 = k at a0 a1 ea
  generalize (draw s 6).2 = s1 at ea
  unfold m__law_prime b__law_prime
  by_cases h1 : k < 2
  · exact ⟨0, s1, .inl rfl, by simp! only [ea, h1]⟩
  by_cases h2 : k < 5
  · have b0 := draw_lo s1 (many := 6) (by decide)
    have b1 := draw_hi s1 (many := 6) (by decide)
    have eb := e_draw s1 (many := 6) (by decide)
    obtain ⟨p, hp, e⟩ := six _ b0 b1
    exact ⟨p, (draw s1 6).2, hp, by simp! only [ea, h1, h2, eb, e]⟩
  have b0 := draw_lo s1 (many := 9972) (by decide)
  have b1 := draw_hi s1 (many := 9972) (by decide)
  have eb := e_draw s1 (many := 9972) (by decide)
  generalize (draw s1 9972).1 = r at b0 b1 eb
  generalize (draw s1 9972).2 = s2 at eb
  have sm : small 40 = true := small_of (by decide) (by decide)
  rcases lp_loop (rngL 0 40) s2 k (2 + r) .un rfl (by omega) with ⟨p, u', hp, e⟩ | ⟨p, u', e⟩
  · exact ⟨p, s2, hp, by simp! only [ea, h1, h2, eb, Mi.rng1, sm, show (40 : Int).toNat = 40 from rfl, e]⟩
  · exact ⟨2, s2, .inr ⟨prm_small (by decide) (by decide) (by decide) (by decide) (by decide), by decide⟩, by simp! only [ea, h1, h2, eb, Mi.rng1, sm, show (40 : Int).toNat = 40 from rfl, e]⟩
end Mi

namespace Mi
local macro_rules | `(tactic| simp! only [$as,*]) => `(tactic| simp only [Mi.runM, Mi.runI, Mi.runR, Mi.outF, Mi.outI, Mi.outR, Mi.startE, Mi.bnd, Mi.ret, Mi.lift, Mi.fail, Mi.mVar, Mi.mC, Mi.mBin, Mi.mBinN, Mi.mUn, Mi.mFld, Mi.mFrz, Mi.mB, Mi.tru, Mi.mAnd, Mi.mOr, Mi.mNot, Mi.mAndV, Mi.mOrV, Mi.mNotV, Mi.mIf, Mi.mChain, Mi.mNil, Mi.mCons, Mi.mTup, Mi.mLst, Mi.mCB, Mi.mCBn, Mi.mIdxV, Mi.mSkip, Mi.thenF, Mi.mSeq, Mi.sto, Mi.mAsg, Mi.mAsgN, Mi.two, Mi.mPar, Mi.mDrop, Mi.mRet, Mi.mRetN, Mi.mRetV, Mi.mIfS, Mi.againF, Mi.gV, Mi.gsN, Mi.gsC, Mi.gT, Mi.mAsgT, Mi.tgt, Mi.mCall, Mi.frzR, Mi.newR, Mi.mCallN, Mi.recv, Mi.mMeth, Mi.mMethN, Mi.mMake, Mi.callR, Mi.mCallR, Mi.newM, Mi.mCallRN, Mi.mApp, Mi.mRev, Mi.setAt, Mi.mSetV, Mi.mSetF, Mi.mAug, Mi.one, Mi.mRaise, Mi.mRaise0, Mi.mTry, Mi.noEx, Mi.endX, Mi.inX, Mi.mTryAs, Mi.mXf, Mi.dI, Mi.dIc, Mi.dAdd, Mi.dSub, Mi.dLt, Mi.dLe, Mi.dGt, Mi.dGe, Mi.dMul, Mi.dDiv, Mi.dMod, Mi.dPow, Mi.dNeg, Mi.sEq, Mi.ofB, Mi.dEq, Mi.dNe, Mi.isNon, Mi.dIsN, Mi.dNotN, Mi.dInt, Mi.dI1, Mi.dI2, Mi.dAbs, Mi.dMin, Mi.dMax, Mi.dGcd, Mi.dLen1, Mi.dLen, Mi.mLenV, Mi.mIsi, Mi.isub, Mi.D.tn, Mi.dIx, Mi.opC, Mi.negC, Mi.eqC, Mi.ipC, Mi.Rv.d, Mi.mNoP, Mi.asI, Mi.mPart, Mi.mSlL, Mi.asL, Mi.asQ, Mi.mItQ, Mi.mItA, Mi.mFor, Mi.putD, List.map_cons, List.map_nil, List.length_cons, List.length_nil, List.replicate, List.cons_append, List.nil_append, List.getElem?_cons_zero, List.getElem?_cons_succ, List.set_cons_zero, List.set_cons_succ, Nat.sub_self, Nat.reduceAdd, Nat.reduceSub, Nat.reduceEqDiff, List.reverse_cons, id, Bool.not_true, Bool.not_false, if_true, if_false, Bool.false_eq_true, reduceIte, true_and, and_true, and_self, Option.toList, List.all_cons, List.all_nil, Bool.and_true, Bool.true_and, Bool.and_self, decide_true, decide_false, decide_eq_true_eq, reduceCtorEq, Mi.bo_pl, Mi.bo_ow, Mi.bo_rf, Mi.bo_un, Mi.sa_ow, Mi.sa_rf, Mi.sa_pl, Mi.oa_un, Mi.oa_pl, Mi.oa_ow, Mi.co_ow, Mi.co_rf, Mi.co_pl, Mi.st_ow, Mi.st_rf, Mi.lv_ow, Mi.lv_rf, Mi.lv_pl, Mi.ne_un, Mi.ne_pl, Mi.ne_ow, Mi.ne_rf, Mi.ne_se, Mi.ne_ex, Mi.th_un, Mi.th_pl, Mi.ie_ex, Mi.xf_ex, ne_eq, not_false_eq_true, not_true_eq_false, Mi.clr, Mi.putS, Option.isSome_some, Option.some.injEq, Int.reduceEq, Int.reduceNe, Int.reduceLT, Int.reduceLE, Nat.reduceLT, Nat.reduceLeDiff, decide_not, Bool.not_eq_true, Bool.decide_eq_true, Mi.ib_t, Mi.ib_f, Mi.mkR_ex, Mi.bO_s, Mi.rO_f, Mi.rO_t, Mi.dEqA_eq, Mi.eqN_0, Mi.eqN_1, Mi.eqN_2, Mi.eqN_3, Mi.eqB_ins, Mi.eqB_tt, Mi.eqB_ll, Mi.eqB_int, Mi.eqB_str, Mi.eqB_bl, Mi.eqB_non, Mi.eqK_ii, Mi.eqK_ss, Mi.eqK_bb, Mi.eqK_nn, Mi.eqK_ni, Mi.eqK_in, Mi.eqK_ns, Mi.eqK_sn, Mi.eqK_is, Mi.eqK_si, Mi.eqK_nt, Mi.eqK_nl, Mi.eqB_tn, Mi.eqB_ln, Mi.eqLs_nil, Mi.eqLs_nc, Mi.eqLs_cn, Mi.eqLs_cc, Mi.itE_int, Mi.itE_str, Mi.itE_bl, Mi.itE_non, Mi.appT, Mi.asB, Mi.mMakeK, Mi.mDic, Option.bind_some, Mi.mLstV, Mi.lsV, Mi.mTupV, Mi.dList, Mi.dTuple, Mi.mSlT, Mi.asT2, Mi.mIsiT, Mi.enumQ, Mi.dInN, Mi.three, Mi.mPar3, Mi.brw, Mi.mOwn, Mi.mCallB, Mi.mMakeB, Mi.noLx, Mi.noL_tup, Mi.noL_ins, Mi.noL_lst, Mi.noL_int, Mi.noL_str, Mi.noL_bl, Mi.noL_non, Mi.noL_dic, Mi.noLs_nil, Mi.noLs_cons, Mi.noLf_nil, Mi.noLf_cons, List.any_cons, List.any_nil, Bool.or_true, Bool.or_false, Bool.true_or, Bool.false_or, Mi.hd_t, Mi.hd_f, Mi.hf_t, Mi.hf_f, Mi.hd_eq, Mi.mSlV, Mi.cutO, Mi.dLenA, Mi.dLenA1, Mi.lenOf, Mi.dCat, $as,*]) | `(tactic| simp! only [$as,*] $l:location) => `(tactic| simp only [Mi.runM, Mi.runI, Mi.runR, Mi.outF, Mi.outI, Mi.outR, Mi.startE, Mi.bnd, Mi.ret, Mi.lift, Mi.fail, Mi.mVar, Mi.mC, Mi.mBin, Mi.mBinN, Mi.mUn, Mi.mFld, Mi.mFrz, Mi.mB, Mi.tru, Mi.mAnd, Mi.mOr, Mi.mNot, Mi.mAndV, Mi.mOrV, Mi.mNotV, Mi.mIf, Mi.mChain, Mi.mNil, Mi.mCons, Mi.mTup, Mi.mLst, Mi.mCB, Mi.mCBn, Mi.mIdxV, Mi.mSkip, Mi.thenF, Mi.mSeq, Mi.sto, Mi.mAsg, Mi.mAsgN, Mi.two, Mi.mPar, Mi.mDrop, Mi.mRet, Mi.mRetN, Mi.mRetV, Mi.mIfS, Mi.againF, Mi.gV, Mi.gsN, Mi.gsC, Mi.gT, Mi.mAsgT, Mi.tgt, Mi.mCall, Mi.frzR, Mi.newR, Mi.mCallN, Mi.recv, Mi.mMeth, Mi.mMethN, Mi.mMake, Mi.callR, Mi.mCallR, Mi.newM, Mi.mCallRN, Mi.mApp, Mi.mRev, Mi.setAt, Mi.mSetV, Mi.mSetF, Mi.mAug, Mi.one, Mi.mRaise, Mi.mRaise0, Mi.mTry, Mi.noEx, Mi.endX, Mi.inX, Mi.mTryAs, Mi.mXf, Mi.dI, Mi.dIc, Mi.dAdd, Mi.dSub, Mi.dLt, Mi.dLe, Mi.dGt, Mi.dGe, Mi.dMul, Mi.dDiv, Mi.dMod, Mi.dPow, Mi.dNeg, Mi.sEq, Mi.ofB, Mi.dEq, Mi.dNe, Mi.isNon, Mi.dIsN, Mi.dNotN, Mi.dInt, Mi.dI1, Mi.dI2, Mi.dAbs, Mi.dMin, Mi.dMax, Mi.dGcd, Mi.dLen1, Mi.dLen, Mi.mLenV, Mi.mIsi, Mi.isub, Mi.D.tn, Mi.dIx, Mi.opC, Mi.negC, Mi.eqC, Mi.ipC, Mi.Rv.d, Mi.mNoP, Mi.asI, Mi.mPart, Mi.mSlL, Mi.asL, Mi.asQ, Mi.mItQ, Mi.mItA, Mi.mFor, Mi.putD, List.map_cons, List.map_nil, List.length_cons, List.length_nil, List.replicate, List.cons_append, List.nil_append, List.getElem?_cons_zero, List.getElem?_cons_succ, List.set_cons_zero, List.set_cons_succ, Nat.sub_self, Nat.reduceAdd, Nat.reduceSub, Nat.reduceEqDiff, List.reverse_cons, id, Bool.not_true, Bool.not_false, if_true, if_false, Bool.false_eq_true, reduceIte, true_and, and_true, and_self, Option.toList, List.all_cons, List.all_nil, Bool.and_true, Bool.true_and, Bool.and_self, decide_true, decide_false, decide_eq_true_eq, reduceCtorEq, Mi.bo_pl, Mi.bo_ow, Mi.bo_rf, Mi.bo_un, Mi.sa_ow, Mi.sa_rf, Mi.sa_pl, Mi.oa_un, Mi.oa_pl, Mi.oa_ow, Mi.co_ow, Mi.co_rf, Mi.co_pl, Mi.st_ow, Mi.st_rf, Mi.lv_ow, Mi.lv_rf, Mi.lv_pl, Mi.ne_un, Mi.ne_pl, Mi.ne_ow, Mi.ne_rf, Mi.ne_se, Mi.ne_ex, Mi.th_un, Mi.th_pl, Mi.ie_ex, Mi.xf_ex, ne_eq, not_false_eq_true, not_true_eq_false, Mi.clr, Mi.putS, Option.isSome_some, Option.some.injEq, Int.reduceEq, Int.reduceNe, Int.reduceLT, Int.reduceLE, Nat.reduceLT, Nat.reduceLeDiff, decide_not, Bool.not_eq_true, Bool.decide_eq_true, Mi.ib_t, Mi.ib_f, Mi.mkR_ex, Mi.bO_s, Mi.rO_f, Mi.rO_t, Mi.dEqA_eq, Mi.eqN_0, Mi.eqN_1, Mi.eqN_2, Mi.eqN_3, Mi.eqB_ins, Mi.eqB_tt, Mi.eqB_ll, Mi.eqB_int, Mi.eqB_str, Mi.eqB_bl, Mi.eqB_non, Mi.eqK_ii, Mi.eqK_ss, Mi.eqK_bb, Mi.eqK_nn, Mi.eqK_ni, Mi.eqK_in, Mi.eqK_ns, Mi.eqK_sn, Mi.eqK_is, Mi.eqK_si, Mi.eqK_nt, Mi.eqK_nl, Mi.eqB_tn, Mi.eqB_ln, Mi.eqLs_nil, Mi.eqLs_nc, Mi.eqLs_cn, Mi.eqLs_cc, Mi.itE_int, Mi.itE_str, Mi.itE_bl, Mi.itE_non, Mi.appT, Mi.asB, Mi.mMakeK, Mi.mDic, Option.bind_some, Mi.mLstV, Mi.lsV, Mi.mTupV, Mi.dList, Mi.dTuple, Mi.mSlT, Mi.asT2, Mi.mIsiT, Mi.enumQ, Mi.dInN, Mi.three, Mi.mPar3, Mi.brw, Mi.mOwn, Mi.mCallB, Mi.mMakeB, Mi.noLx, Mi.noL_tup, Mi.noL_ins, Mi.noL_lst, Mi.noL_int, Mi.noL_str, Mi.noL_bl, Mi.noL_non, Mi.noL_dic, Mi.noLs_nil, Mi.noLs_cons, Mi.noLf_nil, Mi.noLf_cons, List.any_cons, List.any_nil, Bool.or_true, Bool.or_false, Bool.true_or, Bool.false_or, Mi.hd_t, Mi.hd_f, Mi.hf_t, Mi.hf_f, Mi.hd_eq, Mi.mSlV, Mi.cutO, Mi.dLenA, Mi.dLenA1, Mi.lenOf, Mi.dCat, $as,*] $l:location)
open PySem
/-! ### numbers of a field -/
section
variable {p : Int} {q x y : Rat} {d : D}
/-- the number of the program -/
def el (p : Int) (q : Rat) : D := ib (decide (p = 0)) (rD q) (.int q.num)
/-- the law's pair -/
def pr (q : Rat) : D := .tup [.int q.num, .int (q.den : Int)]
theorem el0 (h : p = 0) : el p q = rD q := by unfold el; rw [decide_eq_true h]; rfl
theorem elP (h : PF p) : el p q = .int q.num := by unfold el; rw [decide_eq_false h.ne]; rfl
/-- a number of the field -/
def Cn (p : Int) (q : Rat) : Prop := p = 0 ∨ q.den = 1 ∧ 0 ≤ q.num ∧ q.num < p
def NumOk (p : Int) (d : D) (q : Rat) : Prop := m_Field_number [fD p, d] = .ok (.pl (el p q))
def NumX (p : Int) (d : D) : Prop := m_Field_number [fD p, d] = .ex "NoNumber" none
theorem recv_Fn : recv "Field" "number" (fD p) = .ok () := rfl
theorem num_zero_iff : q.num = 0 ↔ q = 0 := Rat.num_eq_zero
theorem Cn.z (h : FOk p) : Cn p 0 := by
  rcases h.cases with h | h
  · exact .inl h
  · exact .inr ⟨rfl, by decide, h.pos⟩
theorem den1 (h : q.den = 1) : q = (q.num : Rat) := by
  rw [rat_eq_iff]
  exact ⟨rfl, by rw [h]; rfl⟩
theorem numOk_el (h : FOk p) (c : Cn p q) : NumOk p (el p q) q := by
  unfold NumOk
  rcases h.cases with h0 | h
  · rw [el0 h0, h0, e_numR0]
  · rw [elP h, e_numI h]
    have := c.resolve_left h.ne
    rw [Int.emod_eq_of_lt this.2.1 this.2.2]
theorem numOk_0 (h : FOk p) : NumOk p (.int 0) 0 := by
  unfold NumOk
  rcases h.cases with h0 | h
  · rw [el0 h0, h0, e_numI0]; rfl
  · rw [elP h, e_numI h, Int.zero_emod]; rfl
theorem numX_of (h1 : isIntD d = false) (h2 : isub d.tn (.c "Ratio") = false) : NumX p d := e_numX h1 h2
theorem dEqA_el (h : FOk p) : dEqA false T_Ratio 0 (el p q) (.int 0) = .ok (.bl (decide (q = 0))) := by
  rcases h.cases with h0 | h
  · have e : (decide (q = ((0 : Int) : Rat))) = decide (q = 0) := rfl
    rw [el0 h0]
    simp! only [tr_R.ri, e]
  · rw [elP h]
    have e : (decide (q.num = 0)) = decide (q = 0) := by rw [decide_eq_decide]; exact num_zero_iff
    simp! only [e]
theorem noL_rD : noL (rD q) = true := by
  unfold rD
  rw [noL_ins, noLf_cons, noLf_cons, noLf_nil, noL_int, noL_int]; rfl
theorem noL_el : noL (el p q) = true := by
  unfold el
  cases decide (p = 0)
  · exact noL_int _
  · exact noL_rD
theorem noL_fD : noL (fD p) = true := by
  unfold fD
  rw [noL_ins, noLf_cons, noLf_nil, noL_int]; rfl
theorem noLs_el : ∀ cs : List Rat, noLs (cs.map (el p)) = true
  | [] => noLs_nil
  | c :: cs => by rw [List.map_cons, noLs_cons, noL_el, noLs_el cs]; rfl
end
/-! ### the zeros at the end -/
open Classical in
noncomputable def tsz (qs : List Rat) : Nat → Nat
  | 0 => 0
  | n + 1 => if qs.getD n 0 = 0 then tsz qs n else n + 1
noncomputable def trim (qs : List Rat) : List Rat := qs.take (tsz qs qs.length)
theorem tsz_le (qs : List Rat) : ∀ n, tsz qs n ≤ n
  | 0 => Nat.le_refl _
  | n + 1 => by
    unfold tsz
    split
    · exact Nat.le_succ_of_le (tsz_le qs n)
    · exact Nat.le_refl _
theorem trim_len (qs : List Rat) : (trim qs).length = tsz qs qs.length := by
  unfold trim
  rw [List.length_take, Nat.min_eq_left (tsz_le _ _)]
theorem tsz_zero (qs : List Rat) : ∀ n j, tsz qs n ≤ j → j < n → qs.getD j 0 = 0
  | 0, j, _, h => by omega
  | n + 1, j, h1, h2 => by
    unfold tsz at h1
    split at h1
    · rename_i e
      by_cases z : j = n
      · rw [z]; exact e
      · exact tsz_zero qs n j h1 (by omega)
    · omega
theorem tsz_last (qs : List Rat) : ∀ n, tsz qs n = 0 ∨ qs.getD (tsz qs n - 1) 0 ≠ 0
  | 0 => .inl rfl
  | n + 1 => by
    unfold tsz
    split
    · exact tsz_last qs n
    · rename_i e; exact .inr e
theorem trim_getD (qs : List Rat) (j : Nat) : (trim qs).getD j 0 = qs.getD j 0 := by
  unfold trim
  by_cases h : j < tsz qs qs.length
  · rw [List.getD_eq_getElem?_getD, List.getD_eq_getElem?_getD, List.getElem?_take, if_pos h]
  · have e1 : (qs.take (tsz qs qs.length)).getD j 0 = 0 := by
      rw [List.getD_eq_getElem?_getD, List.getElem?_take, if_neg h]; rfl
    rw [e1]
    by_cases h2 : j < qs.length
    · exact (tsz_zero qs _ j (by omega) h2).symm
    · rw [List.getD_eq_getElem?_getD, List.getElem?_eq_none (by omega)]; rfl
theorem tsz_full {qs : List Rat} (h : qs.length = 0 ∨ qs.getD (qs.length - 1) 0 ≠ 0) : tsz qs qs.length = qs.length := by
  cases e : qs.length with
  | zero => rfl
  | succ n =>
    rw [e] at h
    have h' : ¬ qs.getD n 0 = 0 := h.resolve_left (by omega)
    unfold tsz
    rw [if_neg h']
theorem trim_trim (qs : List Rat) : trim (trim qs) = trim qs := by
  have h : tsz (trim qs) (trim qs).length = (trim qs).length := by
    apply tsz_full
    rw [trim_len, trim_getD]
    exact tsz_last qs _
  show (trim qs).take (tsz (trim qs) (trim qs).length) = trim qs
  rw [h, List.take_length]
theorem trim_mem {qs : List Rat} {q : Rat} (h : q ∈ trim qs) : q ∈ qs := List.mem_of_mem_take h
/-! ### polynomials -/
def plF (p : Int) (cs : List Rat) : List (Str × D) := [("field", fD p), ("coefficients", .tup (cs.map (el p))), ("degree", .int ((cs.length : Int) - 1))]
def plD (p : Int) (cs : List Rat) : D := .ins "Poly" (plF p cs)
section
variable {p : Int} {cs : List Rat}
theorem mkR_plF : mkR "Poly" (.ok (plF p cs)) = .ok (plD p cs) := rfl
theorem dFld_field : dFld "field" (plD p cs) = .ok (fD p) := rfl
theorem dFld_coef : dFld "coefficients" (plD p cs) = .ok (.tup (cs.map (el p))) := rfl
theorem dFld_deg : dFld "degree" (plD p cs) = .ok (.int ((cs.length : Int) - 1)) := rfl
theorem tn_plD : (plD p cs).tn = .c "Poly" := rfl
theorem isub_PP : isub (.c "Poly") (.c "Poly") = true := rfl
theorem recv_Pa : recv "Poly" "at" (plD p cs) = .ok () := rfl
theorem recv_Pc : recv "Poly" "coefficient" (plD p cs) = .ok () := rfl
theorem recv_Pq : recv "Poly" "__call__" (plD p cs) = .ok () := rfl
theorem noL_plD : noL (plD p cs) = true := by
  unfold plD plF
  rw [noL_ins, noLf_cons, noLf_cons, noLf_cons, noLf_nil, noL_fD, noL_tup, noLs_el, noL_int]; rfl
end
/-! ### refused_place -/
def enF : Nat → List D → List D
  | _, [] => []
  | k, d :: ds => .tup [.int k, d] :: enF (k + 1) ds
theorem enF_at : ∀ (ds : List D) (k i : Nat), (enF k ds)[i]? = (ds[i]?).map fun d => .tup [.int ((k + i : Nat) : Int), d]
  | [], _, _ => by simp [enF]
  | d :: ds, k, 0 => by simp [enF]
  | d :: ds, k, i + 1 => by
    unfold enF
    rw [List.getElem?_cons_succ, List.getElem?_cons_succ, enF_at ds (k + 1) i, show k + 1 + i = k + (i + 1) by omega]
theorem enumL_eq (ds : List D) : enumL ds = enF 0 ds := by
  apply List.ext_getElem?
  intro i
  rw [enF_at, Nat.zero_add]
  unfold enumL
  rw [List.getElem?_map]
  by_cases h : i < ds.length
  · rw [List.getElem?_range h, List.getElem?_eq_getElem h]
    simp [List.getD_eq_getElem?_getD, h]
  · rw [List.getElem?_eq_none (by simpa using Nat.le_of_not_lt h), List.getElem?_eq_none (by omega)]
    rfl
section
variable {p : Int} {vs : D}
theorem xs_Nn : Sx.xsub "NoNumber" "NoNumber" = true := rfl
theorem xs_Np : Sx.xsub "NoPoly" "NoPoly" = true := rfl
theorem xs_Nc : Sx.xsub "NoCount" "NoCount" = true := rfl
theorem rp_step {d : D} {q : Rat} {k : Int} (h : NumOk p d q) : lb_refused_place_0 [.pl (fD p), .pl vs, .pl (.int k), .pl d] = .ok .nx [.pl (fD p), .pl vs, .pl (.int k), .pl d] := by
  unfold NumOk at h
  unfold lb_refused_place_0
  simp! only [-Mi.recv, recv_Fn, h]
theorem rp_stepX {d : D} {k : Int} (h : NumX p d) : lb_refused_place_0 [.pl (fD p), .pl vs, .pl (.int k), .pl d] = .ok (.rt (.pl (.int k))) [.pl (fD p), .pl vs, .pl (.int k), .pl d] := by
  unfold NumX at h
  unfold lb_refused_place_0
  simp! only [-Mi.recv, recv_Fn, h, xs_Nn]
theorem rp_ok : ∀ (ds : List D) (k : Nat) (u2 u3 : Sl), okAsg (some u2) = true → okAsg (some u3) = true → (∀ d ∈ ds, ∃ q, NumOk p d q) →
    ∃ u2' u3', forL (gT 2 (gsC (gV 2) (gsC (gV 3) gsN))) lb_refused_place_0 (enF k ds) [.pl (fD p), .pl vs, u2, u3] = .ok .nx [.pl (fD p), .pl vs, u2', u3']
  | [], k, u2, u3, _, _, _ => ⟨u2, u3, rfl⟩
  | d :: ds, k, u2, u3, h2, h3, h => by
    obtain ⟨q, hq⟩ := h d List.mem_cons_self
    obtain ⟨a, b, e⟩ := rp_ok ds (k + 1) (.pl (.int k)) (.pl d) rfl rfl fun x hx => h x (List.mem_cons_of_mem _ hx)
    refine ⟨a, b, ?_⟩
    unfold enF
    simp! only [Mi.forL, h2, h3, rp_step hq, e]
theorem rp_bad {b : D} (hb : NumX p b) (rest : List D) : ∀ (ds : List D) (k : Nat) (u2 u3 : Sl), okAsg (some u2) = true → okAsg (some u3) = true → (∀ d ∈ ds, ∃ q, NumOk p d q) →
    ∃ ρ, forL (gT 2 (gsC (gV 2) (gsC (gV 3) gsN))) lb_refused_place_0 (enF k (ds ++ b :: rest)) [.pl (fD p), .pl vs, u2, u3] = .ok (.rt (.pl (.int ((k + ds.length : Nat) : Int)))) ρ
  | [], k, u2, u3, h2, h3, _ => by
    refine ⟨[.pl (fD p), .pl vs, .pl (.int k), .pl b], ?_⟩
    rw [List.nil_append]
    unfold enF
    simp! only [Mi.forL, h2, h3, rp_stepX hb, Nat.add_zero]
  | d :: ds, k, u2, u3, h2, h3, h => by
    obtain ⟨q, hq⟩ := h d List.mem_cons_self
    obtain ⟨ρ, e⟩ := rp_bad hb rest ds (k + 1) (.pl (.int k)) (.pl d) rfl rfl fun x hx => h x (List.mem_cons_of_mem _ hx)
    refine ⟨ρ, ?_⟩
    rw [List.cons_append, show k + (d :: ds).length = k + 1 + ds.length by simp; omega]
    unfold enF
    simp! only [Mi.forL, h2, h3, rp_step hq, e]
/-- a list or a tuple -/
def sq (t : Bool) (ds : List D) : D := ib t (.tup ds) (.lst ds)
theorem enumQ_sq (t : Bool) (ds : List D) : enumQ [sq t ds] = .ok (enF 0 ds) := by
  rw [← enumL_eq]; cases t <;> rfl
theorem asQ_sq (t : Bool) (ds : List D) : asQ (sq t ds) = .ok ds := by cases t <;> rfl
theorem len_sq (t : Bool) (ds : List D) : dLen1 (sq t ds) = .ok (.int ds.length) := by cases t <;> rfl
theorem isi_sq (t : Bool) (ds : List D) : isub (sq t ds).tn (.c "Exact") = false := by cases t <;> rfl
theorem e_isseq (t : Bool) (ds : List D) : m_is_sequence [sq t ds] = .ok (.pl (.bl true)) := by cases t <;> rfl
theorem e_rp_ok {ds : List D} {t : Bool} (h : ∀ d ∈ ds, ∃ q, NumOk p d q) : m_refused_place [fD p, sq t ds] = .ok (.pl (.int (-1))) := by
  obtain ⟨a, b, e⟩ := rp_ok (vs := sq t ds) ds 0 .un .un rfl rfl h
  unfold m_refused_place b_refused_place
  simp! only [-Mi.enumQ, enumQ_sq, e]
theorem e_rp_bad {ds rest : List D} {b : D} {t : Bool} (h : ∀ d ∈ ds, ∃ q, NumOk p d q) (hb : NumX p b) : m_refused_place [fD p, sq t (ds ++ b :: rest)] = .ok (.pl (.int ds.length)) := by
  obtain ⟨ρ, e⟩ := rp_bad (vs := sq t (ds ++ b :: rest)) hb rest ds 0 .un .un rfl rfl h
  rw [Nat.zero_add] at e
  unfold m_refused_place b_refused_place
  simp! only [-Mi.enumQ, enumQ_sq, e]
/-! ### Poly(field, coefficients) -/
end
end Mi

namespace Mi
open PySem
section
variable {p : Int} {qs cs : List Rat}
theorem listAt_nat {ds : List D} {j : Nat} {d : D} (h : ds[j]? = some d) : listAt ds (j : Int) = .ok d := by
  unfold listAt
  rw [L2.atI_nat h]
theorem listAt_el (f : Rat → D) {j : Nat} (h : j < qs.length) : listAt (qs.map f) (j : Int) = .ok (f (qs.getD j 0)) := by
  apply listAt_nat
  rw [List.getElem?_map, List.getD_eq_getElem?_getD, List.getElem?_eq_getElem h]
  rfl
theorem cutD_hi (ds : List D) (n : Nat) (h : n ≤ ds.length) : cutD ds none (some (n : Int)) = ds.take n := by
  unfold cutD
  rw [HT.sIx_none, HT.sIx_nat, List.drop_zero, Nat.sub_zero, Nat.min_eq_left h]
theorem len_lst (ds : List D) : dLen1 (.lst ds) = .ok (.int ds.length) := rfl
/-! ### coefficient, at -/
end
end Mi

namespace Mi
open PySem
/-! ### the law's own arithmetic -/
noncomputable def fadd (p : Int) (x y : Rat) : Rat := ib (decide (p = 0)) (x + y) (((x.num + y.num) % p : Int) : Rat)
noncomputable def fmul (p : Int) (x y : Rat) : Rat := ib (decide (p = 0)) (x * y) (((x.num * y.num) % p : Int) : Rat)
noncomputable def hor (p : Int) (x : Rat) : List Rat → Rat
  | [] => 0
  | c :: cs => fadd p (fmul p (hor p x cs) x) c
section
variable {p : Int} {x y q : Rat} {n m : Nat} {cs : List Rat}
theorem fadd0 (h : p = 0) : fadd p x y = x + y := by unfold fadd; rw [decide_eq_true h]; rfl
theorem faddP (h : PF p) : fadd p x y = (((x.num + y.num) % p : Int) : Rat) := by unfold fadd; rw [decide_eq_false h.ne]; rfl
theorem fmul0 (h : p = 0) : fmul p x y = x * y := by unfold fmul; rw [decide_eq_true h]; rfl
theorem fmulP (h : PF p) : fmul p x y = (((x.num * y.num) % p : Int) : Rat) := by unfold fmul; rw [decide_eq_false h.ne]; rfl
theorem cn_mod (h : PF p) (i : Int) : Cn p ((i % p : Int) : Rat) := .inr ⟨rfl, Int.emod_nonneg _ h.ne, Int.emod_lt_of_pos _ h.pos⟩
theorem fadd_cn (h : FOk p) : Cn p (fadd p x y) := by
  rcases h.cases with h0 | h
  · exact .inl h0
  · rw [faddP h]; exact cn_mod h _
theorem fmul_cn (h : FOk p) : Cn p (fmul p x y) := by
  rcases h.cases with h0 | h
  · exact .inl h0
  · rw [fmulP h]; exact cn_mod h _
/-- sizes: of exact fractions alone -/
def Sz (p : Int) (n : Nat) (q : Rat) : Prop := p = 0 → RB n q
theorem Sz.up (h : Sz p n q) (e : n ≤ m) : Sz p m q := fun z => (h z).up e
theorem hor_cn (h : FOk p) : Cn p (hor p x cs) := by
  cases cs with
  | nil => exact Cn.z h
  | cons c cs => exact fadd_cn h
theorem RB0 : RB 1 0 := ⟨show (0 : Int).natAbs < 2 ^ 1 by decide, show ((1 : Nat) : Int).natAbs < 2 ^ 1 by decide⟩
theorem hor_sz (hx : Sz p 8 x) : ∀ cs : List Rat, (∀ c ∈ cs, Sz p 8 c) → Sz p (17 * cs.length + 1) (hor p x cs)
  | [], _ => fun _ => RB0
  | c :: cs, h => fun h0 => by
    have ih := hor_sz hx cs (fun y hy => h y (List.mem_cons_of_mem _ hy)) h0
    unfold hor
    rw [fadd0 h0, fmul0 h0]
    exact ((ih.mul (hx h0)).add (h c List.mem_cons_self h0)).up (by simp; omega)
theorem hor_zero (h : FOk p) : ∀ cs : List Rat, (∀ c ∈ cs, c = 0) → hor p x cs = 0
  | [], _ => rfl
  | c :: cs, hz => by
    unfold hor
    rw [hor_zero h cs (fun y hy => hz y (List.mem_cons_of_mem _ hy)), hz c List.mem_cons_self]
    rcases h.cases with h0 | h
    · rw [fadd0 h0, fmul0 h0, Rat.zero_mul, Rat.add_zero]
    · rw [faddP h, fmulP h]
      show ((((0 * x.num % p : Int) : Rat).num + 0) % p : Int) = (0 : Rat)
      rw [Int.zero_mul, Int.zero_emod]
      show (((0 : Int) + 0) % p : Int) = (0 : Rat)
      rw [Int.add_zero, Int.zero_emod]; rfl
theorem hor_app (h : FOk p) : ∀ as bs : List Rat, (∀ c ∈ bs, c = 0) → hor p x (as ++ bs) = hor p x as
  | [], bs, hz => by rw [List.nil_append, hor_zero h bs hz]; rfl
  | a :: as, bs, hz => by
    rw [List.cons_append]
    unfold hor
    rw [hor_app h as bs hz]
theorem hor_trim (h : FOk p) (qs : List Rat) : hor p x (trim qs) = hor p x qs := by
  have e : qs = trim qs ++ qs.drop (tsz qs qs.length) := by unfold trim; rw [List.take_append_drop]
  conv => rhs; rw [e]
  rw [hor_app h]
  intro c hc
  obtain ⟨j, hj, rfl⟩ := List.mem_iff_getElem.mp hc
  rw [List.getElem_drop]
  have hj2 : tsz qs qs.length + j < qs.length := by rw [List.length_drop] at hj; omega
  have := tsz_zero qs qs.length (tsz qs qs.length + j) (by omega) hj2
  rw [List.getD_eq_getElem?_getD, List.getElem?_eq_getElem hj2] at this
  exact this
/-! ### Poly.at -/
end
end Mi

namespace Mi
local macro_rules | `(tactic| simp! only [$as,*]) => `(tactic| simp only [Mi.runM, Mi.runI, Mi.runR, Mi.outF, Mi.outI, Mi.outR, Mi.startE, Mi.bnd, Mi.ret, Mi.lift, Mi.fail, Mi.mVar, Mi.mC, Mi.mBin, Mi.mBinN, Mi.mUn, Mi.mFld, Mi.mFrz, Mi.mB, Mi.tru, Mi.mAnd, Mi.mOr, Mi.mNot, Mi.mAndV, Mi.mOrV, Mi.mNotV, Mi.mIf, Mi.mChain, Mi.mNil, Mi.mCons, Mi.mTup, Mi.mLst, Mi.mCB, Mi.mCBn, Mi.mIdxV, Mi.mSkip, Mi.thenF, Mi.mSeq, Mi.sto, Mi.mAsg, Mi.mAsgN, Mi.two, Mi.mPar, Mi.mDrop, Mi.mRet, Mi.mRetN, Mi.mRetV, Mi.mIfS, Mi.againF, Mi.gV, Mi.gsN, Mi.gsC, Mi.gT, Mi.mAsgT, Mi.tgt, Mi.mCall, Mi.frzR, Mi.newR, Mi.mCallN, Mi.recv, Mi.mMeth, Mi.mMethN, Mi.mMake, Mi.callR, Mi.mCallR, Mi.newM, Mi.mCallRN, Mi.mApp, Mi.mRev, Mi.setAt, Mi.mSetV, Mi.mSetF, Mi.mAug, Mi.one, Mi.mRaise, Mi.mRaise0, Mi.mTry, Mi.noEx, Mi.endX, Mi.inX, Mi.mTryAs, Mi.mXf, Mi.dI, Mi.dIc, Mi.dAdd, Mi.dSub, Mi.dLt, Mi.dLe, Mi.dGt, Mi.dGe, Mi.dMul, Mi.dDiv, Mi.dMod, Mi.dPow, Mi.dNeg, Mi.sEq, Mi.ofB, Mi.dEq, Mi.dNe, Mi.isNon, Mi.dIsN, Mi.dNotN, Mi.dInt, Mi.dI1, Mi.dI2, Mi.dAbs, Mi.dMin, Mi.dMax, Mi.dGcd, Mi.dLen1, Mi.dLen, Mi.mLenV, Mi.mIsi, Mi.isub, Mi.D.tn, Mi.dIx, Mi.opC, Mi.negC, Mi.eqC, Mi.ipC, Mi.Rv.d, Mi.mNoP, Mi.asI, Mi.mPart, Mi.mSlL, Mi.asL, Mi.asQ, Mi.mItQ, Mi.mItA, Mi.mFor, Mi.putD, List.map_cons, List.map_nil, List.length_cons, List.length_nil, List.replicate, List.cons_append, List.nil_append, List.getElem?_cons_zero, List.getElem?_cons_succ, List.set_cons_zero, List.set_cons_succ, Nat.sub_self, Nat.reduceAdd, Nat.reduceSub, Nat.reduceEqDiff, List.reverse_cons, id, Bool.not_true, Bool.not_false, if_true, if_false, Bool.false_eq_true, reduceIte, true_and, and_true, and_self, Option.toList, List.all_cons, List.all_nil, Bool.and_true, Bool.true_and, Bool.and_self, decide_true, decide_false, decide_eq_true_eq, reduceCtorEq, Mi.bo_pl, Mi.bo_ow, Mi.bo_rf, Mi.bo_un, Mi.sa_ow, Mi.sa_rf, Mi.sa_pl, Mi.oa_un, Mi.oa_pl, Mi.oa_ow, Mi.co_ow, Mi.co_rf, Mi.co_pl, Mi.st_ow, Mi.st_rf, Mi.lv_ow, Mi.lv_rf, Mi.lv_pl, Mi.ne_un, Mi.ne_pl, Mi.ne_ow, Mi.ne_rf, Mi.ne_se, Mi.ne_ex, Mi.th_un, Mi.th_pl, Mi.ie_ex, Mi.xf_ex, ne_eq, not_false_eq_true, not_true_eq_false, Mi.clr, Mi.putS, Option.isSome_some, Option.some.injEq, Int.reduceEq, Int.reduceNe, Int.reduceLT, Int.reduceLE, Nat.reduceLT, Nat.reduceLeDiff, decide_not, Bool.not_eq_true, Bool.decide_eq_true, Mi.ib_t, Mi.ib_f, Mi.mkR_ex, Mi.bO_s, Mi.rO_f, Mi.rO_t, Mi.dEqA_eq, Mi.eqN_0, Mi.eqN_1, Mi.eqN_2, Mi.eqN_3, Mi.eqB_ins, Mi.eqB_tt, Mi.eqB_ll, Mi.eqB_int, Mi.eqB_str, Mi.eqB_bl, Mi.eqB_non, Mi.eqK_ii, Mi.eqK_ss, Mi.eqK_bb, Mi.eqK_nn, Mi.eqK_ni, Mi.eqK_in, Mi.eqK_ns, Mi.eqK_sn, Mi.eqK_is, Mi.eqK_si, Mi.eqK_nt, Mi.eqK_nl, Mi.eqB_tn, Mi.eqB_ln, Mi.eqLs_nil, Mi.eqLs_nc, Mi.eqLs_cn, Mi.eqLs_cc, Mi.itE_int, Mi.itE_str, Mi.itE_bl, Mi.itE_non, Mi.appT, Mi.asB, Mi.mMakeK, Mi.mDic, Option.bind_some, Mi.mLstV, Mi.lsV, Mi.mTupV, Mi.dList, Mi.dTuple, Mi.mSlT, Mi.asT2, Mi.mIsiT, Mi.enumQ, Mi.dInN, Mi.three, Mi.mPar3, Mi.brw, Mi.mOwn, Mi.mCallB, Mi.mMakeB, Mi.noLx, Mi.noL_tup, Mi.noL_ins, Mi.noL_lst, Mi.noL_int, Mi.noL_str, Mi.noL_bl, Mi.noL_non, Mi.noL_dic, Mi.noLs_nil, Mi.noLs_cons, Mi.noLf_nil, Mi.noLf_cons, List.any_cons, List.any_nil, Bool.or_true, Bool.or_false, Bool.true_or, Bool.false_or, Mi.hd_t, Mi.hd_f, Mi.hf_t, Mi.hf_f, Mi.hd_eq, Mi.mSlV, Mi.cutO, Mi.dLenA, Mi.dLenA1, Mi.lenOf, Mi.dCat, $as,*]) | `(tactic| simp! only [$as,*] $l:location) => `(tactic| simp only [Mi.runM, Mi.runI, Mi.runR, Mi.outF, Mi.outI, Mi.outR, Mi.startE, Mi.bnd, Mi.ret, Mi.lift, Mi.fail, Mi.mVar, Mi.mC, Mi.mBin, Mi.mBinN, Mi.mUn, Mi.mFld, Mi.mFrz, Mi.mB, Mi.tru, Mi.mAnd, Mi.mOr, Mi.mNot, Mi.mAndV, Mi.mOrV, Mi.mNotV, Mi.mIf, Mi.mChain, Mi.mNil, Mi.mCons, Mi.mTup, Mi.mLst, Mi.mCB, Mi.mCBn, Mi.mIdxV, Mi.mSkip, Mi.thenF, Mi.mSeq, Mi.sto, Mi.mAsg, Mi.mAsgN, Mi.two, Mi.mPar, Mi.mDrop, Mi.mRet, Mi.mRetN, Mi.mRetV, Mi.mIfS, Mi.againF, Mi.gV, Mi.gsN, Mi.gsC, Mi.gT, Mi.mAsgT, Mi.tgt, Mi.mCall, Mi.frzR, Mi.newR, Mi.mCallN, Mi.recv, Mi.mMeth, Mi.mMethN, Mi.mMake, Mi.callR, Mi.mCallR, Mi.newM, Mi.mCallRN, Mi.mApp, Mi.mRev, Mi.setAt, Mi.mSetV, Mi.mSetF, Mi.mAug, Mi.one, Mi.mRaise, Mi.mRaise0, Mi.mTry, Mi.noEx, Mi.endX, Mi.inX, Mi.mTryAs, Mi.mXf, Mi.dI, Mi.dIc, Mi.dAdd, Mi.dSub, Mi.dLt, Mi.dLe, Mi.dGt, Mi.dGe, Mi.dMul, Mi.dDiv, Mi.dMod, Mi.dPow, Mi.dNeg, Mi.sEq, Mi.ofB, Mi.dEq, Mi.dNe, Mi.isNon, Mi.dIsN, Mi.dNotN, Mi.dInt, Mi.dI1, Mi.dI2, Mi.dAbs, Mi.dMin, Mi.dMax, Mi.dGcd, Mi.dLen1, Mi.dLen, Mi.mLenV, Mi.mIsi, Mi.isub, Mi.D.tn, Mi.dIx, Mi.opC, Mi.negC, Mi.eqC, Mi.ipC, Mi.Rv.d, Mi.mNoP, Mi.asI, Mi.mPart, Mi.mSlL, Mi.asL, Mi.asQ, Mi.mItQ, Mi.mItA, Mi.mFor, Mi.putD, List.map_cons, List.map_nil, List.length_cons, List.length_nil, List.replicate, List.cons_append, List.nil_append, List.getElem?_cons_zero, List.getElem?_cons_succ, List.set_cons_zero, List.set_cons_succ, Nat.sub_self, Nat.reduceAdd, Nat.reduceSub, Nat.reduceEqDiff, List.reverse_cons, id, Bool.not_true, Bool.not_false, if_true, if_false, Bool.false_eq_true, reduceIte, true_and, and_true, and_self, Option.toList, List.all_cons, List.all_nil, Bool.and_true, Bool.true_and, Bool.and_self, decide_true, decide_false, decide_eq_true_eq, reduceCtorEq, Mi.bo_pl, Mi.bo_ow, Mi.bo_rf, Mi.bo_un, Mi.sa_ow, Mi.sa_rf, Mi.sa_pl, Mi.oa_un, Mi.oa_pl, Mi.oa_ow, Mi.co_ow, Mi.co_rf, Mi.co_pl, Mi.st_ow, Mi.st_rf, Mi.lv_ow, Mi.lv_rf, Mi.lv_pl, Mi.ne_un, Mi.ne_pl, Mi.ne_ow, Mi.ne_rf, Mi.ne_se, Mi.ne_ex, Mi.th_un, Mi.th_pl, Mi.ie_ex, Mi.xf_ex, ne_eq, not_false_eq_true, not_true_eq_false, Mi.clr, Mi.putS, Option.isSome_some, Option.some.injEq, Int.reduceEq, Int.reduceNe, Int.reduceLT, Int.reduceLE, Nat.reduceLT, Nat.reduceLeDiff, decide_not, Bool.not_eq_true, Bool.decide_eq_true, Mi.ib_t, Mi.ib_f, Mi.mkR_ex, Mi.bO_s, Mi.rO_f, Mi.rO_t, Mi.dEqA_eq, Mi.eqN_0, Mi.eqN_1, Mi.eqN_2, Mi.eqN_3, Mi.eqB_ins, Mi.eqB_tt, Mi.eqB_ll, Mi.eqB_int, Mi.eqB_str, Mi.eqB_bl, Mi.eqB_non, Mi.eqK_ii, Mi.eqK_ss, Mi.eqK_bb, Mi.eqK_nn, Mi.eqK_ni, Mi.eqK_in, Mi.eqK_ns, Mi.eqK_sn, Mi.eqK_is, Mi.eqK_si, Mi.eqK_nt, Mi.eqK_nl, Mi.eqB_tn, Mi.eqB_ln, Mi.eqLs_nil, Mi.eqLs_nc, Mi.eqLs_cn, Mi.eqLs_cc, Mi.itE_int, Mi.itE_str, Mi.itE_bl, Mi.itE_non, Mi.appT, Mi.asB, Mi.mMakeK, Mi.mDic, Option.bind_some, Mi.mLstV, Mi.lsV, Mi.mTupV, Mi.dList, Mi.dTuple, Mi.mSlT, Mi.asT2, Mi.mIsiT, Mi.enumQ, Mi.dInN, Mi.three, Mi.mPar3, Mi.brw, Mi.mOwn, Mi.mCallB, Mi.mMakeB, Mi.noLx, Mi.noL_tup, Mi.noL_ins, Mi.noL_lst, Mi.noL_int, Mi.noL_str, Mi.noL_bl, Mi.noL_non, Mi.noL_dic, Mi.noLs_nil, Mi.noLs_cons, Mi.noLf_nil, Mi.noLf_cons, List.any_cons, List.any_nil, Bool.or_true, Bool.or_false, Bool.true_or, Bool.false_or, Mi.hd_t, Mi.hd_f, Mi.hf_t, Mi.hf_f, Mi.hd_eq, Mi.mSlV, Mi.cutO, Mi.dLenA, Mi.dLenA1, Mi.lenOf, Mi.dCat, $as,*] $l:location)
open PySem
section
variable {p : Int} {x y q : Rat} {n m : Nat} {qs cs : List Rat}
theorem pr_int (i : Int) : pr (i : Rat) = .tup [.int i, .int 1] := rfl
theorem l2_0 (a b : D) : listAt [a, b] 0 = .ok a := rfl
theorem l2_1 (a b : D) : listAt [a, b] 1 = .ok b := rfl
theorem pr_0 (q : Rat) : dIx (pr q) (.int 0) = .ok (.int q.num) := rfl
theorem pr_1 (q : Rat) : dIx (pr q) (.int 1) = .ok (.int (q.den : Int)) := rfl
theorem e_pair0 (h0 : p = 0) {a b : Int} (hb : b ≠ 0) : m__law_pair [.int p, .int a, .int b] = .ok (.pl (pr (Rat.divInt a b))) := by
  have z : ¬ 0 < p := by omega
  have hg := gcd_ne (p := a) hb
  have hg2 : ¬ -(Int.gcd a b : Int) = 0 := by omega
  unfold m__law_pair b__law_pair pr
  rw [← Sx.rat_num hb, ← Sx.rat_den hb]
  by_cases hn : b < 0
  · simp! only [z, e_gcd, hn, hg, hg2, iDiv_eq]
  · simp! only [z, e_gcd, hn, hg, iDiv_eq]
theorem e_pairP (h : PF p) (a : Int) : m__law_pair [.int p, .int a, .int 1] = .ok (.pl (pr ((a % p : Int) : Rat))) := by
  rw [pr_int]
  unfold m__law_pair b__law_pair
  simp! only [h.pos, h.ne, iMod_eq, fmod_pos h.pos]
theorem cn_den (h : PF p) (c : Cn p x) : (x.den : Int) = 1 := by
  have := (c.resolve_left h.ne).1
  omega
theorem cn_ok (h : PF p) (c : Cn p x) (j : Int) : mulOk x.num j = true := by
  have h1 := (c.resolve_left h.ne).2
  have := h.le
  exact mulOk_l (by omega) (by omega)
theorem e_plus (h : FOk p) (hx : Cn p x) (hy : Cn p y) (sx : Sz p n x) (sy : Sz p m y) (e : n + m ≤ 134217728) : m__law_plus [.int p, pr x, pr y] = .ok (.pl (pr (fadd p x y))) := by
  unfold m__law_plus b__law_plus
  rcases h.cases with h0 | h
  · have sx := sx h0
    have sy := sy h0
    have ep := e_pair0 h0 (a := x.num * y.den + y.num * x.den) (b := x.den * y.den) (Int.mul_ne_zero (den_ne x) (den_ne y))
    rw [q_add] at ep
    simp! only [-Mi.dIx, pr_0, pr_1, sx.num.mulOk sy.den e, sy.num.mulOk sx.den (by omega), sx.den.mulOk sy.den e, ep, fadd0 h0]
  · have ep := e_pairP h (x.num + y.num)
    rw [← faddP h] at ep
    have o1 : mulOk 1 1 = true := mulOk_l (by decide) (by decide)
    simp! only [-Mi.dIx, pr_0, pr_1, cn_den h hx, cn_den h hy, cn_ok h hx, cn_ok h hy, o1, Int.mul_one, ep]
theorem e_times (h : FOk p) (hx : Cn p x) (hy : Cn p y) (sx : Sz p n x) (sy : Sz p m y) (e : n + m ≤ 134217728) : m__law_times [.int p, pr x, pr y] = .ok (.pl (pr (fmul p x y))) := by
  unfold m__law_times b__law_times
  rcases h.cases with h0 | h
  · have sx := sx h0
    have sy := sy h0
    have ep := e_pair0 h0 (a := x.num * y.num) (b := x.den * y.den) (Int.mul_ne_zero (den_ne x) (den_ne y))
    rw [q_mul] at ep
    simp! only [-Mi.dIx, pr_0, pr_1, sx.num.mulOk sy.num e, sx.den.mulOk sy.den e, ep, fmul0 h0]
  · have ep := e_pairP h (x.num * y.num)
    rw [← fmulP h] at ep
    have o1 : mulOk 1 1 = true := mulOk_l (by decide) (by decide)
    simp! only [-Mi.dIx, pr_0, pr_1, cn_den h hx, cn_den h hy, cn_ok h hx, cn_ok h hy, o1, Int.mul_one, ep]
theorem fmul_sz (sx : Sz p n x) (sy : Sz p m y) : Sz p (n + m) (fmul p x y) := fun h0 => by rw [fmul0 h0]; exact (sx h0).mul (sy h0)
def dn : Nat → List D
  | 0 => []
  | n + 1 => .int (n : Int) :: dn n
theorem dn_at : ∀ (n i : Nat), (dn n)[i]? = if i < n then some (.int ((n : Int) - 1 - i)) else none
  | 0, i => by simp [dn]
  | n + 1, 0 => by simp [dn]
  | n + 1, i + 1 => by
    unfold dn
    rw [List.getElem?_cons_succ, dn_at n i]
    by_cases h : i < n
    · rw [if_pos h, if_pos (by omega)]
      congr 2
      omega
    · rw [if_neg h, if_neg (by omega)]
theorem rngC_dn (n : Nat) : rngC ((n : Int) - 1) (-1) n = dn n := by
  apply List.ext_getElem?
  intro i
  rw [dn_at]
  unfold rngC
  rw [List.getElem?_map]
  by_cases h : i < n
  · rw [List.getElem?_range h, if_pos h]
    show some (D.int ((n : Int) - 1 + i * -1)) = _
    congr 2
    omega
  · rw [if_neg h, List.getElem?_eq_none (by simpa using Nat.le_of_not_lt h)]
    rfl
theorem getD_mem {j : Nat} (h : j < qs.length) : qs.getD j 0 ∈ qs := by
  rw [List.getD_eq_getElem?_getD, List.getElem?_eq_getElem h]
  exact List.getElem_mem h
theorem drop_getD {j : Nat} (h : j < qs.length) : qs.drop j = qs.getD j 0 :: qs.drop (j + 1) := by
  rw [List.drop_eq_getElem_cons h, List.getD_eq_getElem?_getD, List.getElem?_eq_getElem h]
  rfl
/-! ### _law_read, _law_passed -/
theorem e_read (h : FOk p) (c : Cn p q) : m__law_read [.int p, el p q] = .ok (.pl (pr q)) := by
  unfold m__law_read b__law_read
  rcases h.cases with h0 | h
  · have z : ¬ 0 < p := by omega
    have g1 : (Int.gcd q.num (q.den : Int) : Int) = 1 := by rw [red_gcd]; rfl
    have g2 : ¬ (q.den : Int) < 1 := by have := q.den_pos; omega
    rw [el0 h0]
    unfold pr
    simp! only [-Mi.D.tn, -Mi.isub, z, tn_rD, isub_RR, dFld_top, dFld_bottom, e_law_is_integer, isIntD, e_gcd, g1, g2]
  · have h1 := (c.resolve_left h.ne).2
    rw [elP h]
    unfold pr
    rw [cn_den h c]
    simp! only [h.pos, e_law_is_integer, isIntD, h1.1, h1.2]
end
end Mi

namespace Mi
local macro_rules | `(tactic| simp! only [$as,*]) => `(tactic| simp only [Mi.runM, Mi.runI, Mi.runR, Mi.outF, Mi.outI, Mi.outR, Mi.startE, Mi.bnd, Mi.ret, Mi.lift, Mi.fail, Mi.mVar, Mi.mC, Mi.mBin, Mi.mBinN, Mi.mUn, Mi.mFld, Mi.mFrz, Mi.mB, Mi.tru, Mi.mAnd, Mi.mOr, Mi.mNot, Mi.mAndV, Mi.mOrV, Mi.mNotV, Mi.mIf, Mi.mChain, Mi.mNil, Mi.mCons, Mi.mTup, Mi.mLst, Mi.mCB, Mi.mCBn, Mi.mIdxV, Mi.mSkip, Mi.thenF, Mi.mSeq, Mi.sto, Mi.mAsg, Mi.mAsgN, Mi.two, Mi.mPar, Mi.mDrop, Mi.mRet, Mi.mRetN, Mi.mRetV, Mi.mIfS, Mi.againF, Mi.gV, Mi.gsN, Mi.gsC, Mi.gT, Mi.mAsgT, Mi.tgt, Mi.mCall, Mi.frzR, Mi.newR, Mi.mCallN, Mi.recv, Mi.mMeth, Mi.mMethN, Mi.mMake, Mi.callR, Mi.mCallR, Mi.newM, Mi.mCallRN, Mi.mApp, Mi.mRev, Mi.setAt, Mi.mSetV, Mi.mSetF, Mi.mAug, Mi.one, Mi.mRaise, Mi.mRaise0, Mi.mTry, Mi.noEx, Mi.endX, Mi.inX, Mi.mTryAs, Mi.mXf, Mi.dI, Mi.dIc, Mi.dAdd, Mi.dSub, Mi.dLt, Mi.dLe, Mi.dGt, Mi.dGe, Mi.dMul, Mi.dDiv, Mi.dMod, Mi.dPow, Mi.dNeg, Mi.sEq, Mi.ofB, Mi.dEq, Mi.dNe, Mi.isNon, Mi.dIsN, Mi.dNotN, Mi.dInt, Mi.dI1, Mi.dI2, Mi.dAbs, Mi.dMin, Mi.dMax, Mi.dGcd, Mi.dLen1, Mi.dLen, Mi.mLenV, Mi.mIsi, Mi.isub, Mi.D.tn, Mi.dIx, Mi.opC, Mi.negC, Mi.eqC, Mi.ipC, Mi.Rv.d, Mi.mNoP, Mi.asI, Mi.mPart, Mi.mSlL, Mi.asL, Mi.asQ, Mi.mItQ, Mi.mItA, Mi.mFor, Mi.putD, List.map_cons, List.map_nil, List.length_cons, List.length_nil, List.replicate, List.cons_append, List.nil_append, List.getElem?_cons_zero, List.getElem?_cons_succ, List.set_cons_zero, List.set_cons_succ, Nat.sub_self, Nat.reduceAdd, Nat.reduceSub, Nat.reduceEqDiff, List.reverse_cons, id, Bool.not_true, Bool.not_false, if_true, if_false, Bool.false_eq_true, reduceIte, true_and, and_true, and_self, Option.toList, List.all_cons, List.all_nil, Bool.and_true, Bool.true_and, Bool.and_self, decide_true, decide_false, decide_eq_true_eq, reduceCtorEq, Mi.bo_pl, Mi.bo_ow, Mi.bo_rf, Mi.bo_un, Mi.sa_ow, Mi.sa_rf, Mi.sa_pl, Mi.oa_un, Mi.oa_pl, Mi.oa_ow, Mi.co_ow, Mi.co_rf, Mi.co_pl, Mi.st_ow, Mi.st_rf, Mi.lv_ow, Mi.lv_rf, Mi.lv_pl, Mi.ne_un, Mi.ne_pl, Mi.ne_ow, Mi.ne_rf, Mi.ne_se, Mi.ne_ex, Mi.th_un, Mi.th_pl, Mi.ie_ex, Mi.xf_ex, ne_eq, not_false_eq_true, not_true_eq_false, Mi.clr, Mi.putS, Option.isSome_some, Option.some.injEq, Int.reduceEq, Int.reduceNe, Int.reduceLT, Int.reduceLE, Nat.reduceLT, Nat.reduceLeDiff, decide_not, Bool.not_eq_true, Bool.decide_eq_true, Mi.ib_t, Mi.ib_f, Mi.mkR_ex, Mi.bO_s, Mi.rO_f, Mi.rO_t, Mi.dEqA_eq, Mi.eqN_0, Mi.eqN_1, Mi.eqN_2, Mi.eqN_3, Mi.eqB_ins, Mi.eqB_tt, Mi.eqB_ll, Mi.eqB_int, Mi.eqB_str, Mi.eqB_bl, Mi.eqB_non, Mi.eqK_ii, Mi.eqK_ss, Mi.eqK_bb, Mi.eqK_nn, Mi.eqK_ni, Mi.eqK_in, Mi.eqK_ns, Mi.eqK_sn, Mi.eqK_is, Mi.eqK_si, Mi.eqK_nt, Mi.eqK_nl, Mi.eqB_tn, Mi.eqB_ln, Mi.eqLs_nil, Mi.eqLs_nc, Mi.eqLs_cn, Mi.eqLs_cc, Mi.itE_int, Mi.itE_str, Mi.itE_bl, Mi.itE_non, Mi.appT, Mi.asB, Mi.mMakeK, Mi.mDic, Option.bind_some, Mi.mLstV, Mi.lsV, Mi.mTupV, Mi.dList, Mi.dTuple, Mi.mSlT, Mi.asT2, Mi.mIsiT, Mi.enumQ, Mi.dInN, Mi.three, Mi.mPar3, Mi.brw, Mi.mOwn, Mi.mCallB, Mi.mMakeB, Mi.noLx, Mi.noL_tup, Mi.noL_ins, Mi.noL_lst, Mi.noL_int, Mi.noL_str, Mi.noL_bl, Mi.noL_non, Mi.noL_dic, Mi.noLs_nil, Mi.noLs_cons, Mi.noLf_nil, Mi.noLf_cons, List.any_cons, List.any_nil, Bool.or_true, Bool.or_false, Bool.true_or, Bool.false_or, Mi.hd_t, Mi.hd_f, Mi.hf_t, Mi.hf_f, Mi.hd_eq, Mi.mSlV, Mi.cutO, Mi.dLenA, Mi.dLenA1, Mi.lenOf, Mi.dCat, $as,*]) | `(tactic| simp! only [$as,*] $l:location) => `(tactic| simp only [Mi.runM, Mi.runI, Mi.runR, Mi.outF, Mi.outI, Mi.outR, Mi.startE, Mi.bnd, Mi.ret, Mi.lift, Mi.fail, Mi.mVar, Mi.mC, Mi.mBin, Mi.mBinN, Mi.mUn, Mi.mFld, Mi.mFrz, Mi.mB, Mi.tru, Mi.mAnd, Mi.mOr, Mi.mNot, Mi.mAndV, Mi.mOrV, Mi.mNotV, Mi.mIf, Mi.mChain, Mi.mNil, Mi.mCons, Mi.mTup, Mi.mLst, Mi.mCB, Mi.mCBn, Mi.mIdxV, Mi.mSkip, Mi.thenF, Mi.mSeq, Mi.sto, Mi.mAsg, Mi.mAsgN, Mi.two, Mi.mPar, Mi.mDrop, Mi.mRet, Mi.mRetN, Mi.mRetV, Mi.mIfS, Mi.againF, Mi.gV, Mi.gsN, Mi.gsC, Mi.gT, Mi.mAsgT, Mi.tgt, Mi.mCall, Mi.frzR, Mi.newR, Mi.mCallN, Mi.recv, Mi.mMeth, Mi.mMethN, Mi.mMake, Mi.callR, Mi.mCallR, Mi.newM, Mi.mCallRN, Mi.mApp, Mi.mRev, Mi.setAt, Mi.mSetV, Mi.mSetF, Mi.mAug, Mi.one, Mi.mRaise, Mi.mRaise0, Mi.mTry, Mi.noEx, Mi.endX, Mi.inX, Mi.mTryAs, Mi.mXf, Mi.dI, Mi.dIc, Mi.dAdd, Mi.dSub, Mi.dLt, Mi.dLe, Mi.dGt, Mi.dGe, Mi.dMul, Mi.dDiv, Mi.dMod, Mi.dPow, Mi.dNeg, Mi.sEq, Mi.ofB, Mi.dEq, Mi.dNe, Mi.isNon, Mi.dIsN, Mi.dNotN, Mi.dInt, Mi.dI1, Mi.dI2, Mi.dAbs, Mi.dMin, Mi.dMax, Mi.dGcd, Mi.dLen1, Mi.dLen, Mi.mLenV, Mi.mIsi, Mi.isub, Mi.D.tn, Mi.dIx, Mi.opC, Mi.negC, Mi.eqC, Mi.ipC, Mi.Rv.d, Mi.mNoP, Mi.asI, Mi.mPart, Mi.mSlL, Mi.asL, Mi.asQ, Mi.mItQ, Mi.mItA, Mi.mFor, Mi.putD, List.map_cons, List.map_nil, List.length_cons, List.length_nil, List.replicate, List.cons_append, List.nil_append, List.getElem?_cons_zero, List.getElem?_cons_succ, List.set_cons_zero, List.set_cons_succ, Nat.sub_self, Nat.reduceAdd, Nat.reduceSub, Nat.reduceEqDiff, List.reverse_cons, id, Bool.not_true, Bool.not_false, if_true, if_false, Bool.false_eq_true, reduceIte, true_and, and_true, and_self, Option.toList, List.all_cons, List.all_nil, Bool.and_true, Bool.true_and, Bool.and_self, decide_true, decide_false, decide_eq_true_eq, reduceCtorEq, Mi.bo_pl, Mi.bo_ow, Mi.bo_rf, Mi.bo_un, Mi.sa_ow, Mi.sa_rf, Mi.sa_pl, Mi.oa_un, Mi.oa_pl, Mi.oa_ow, Mi.co_ow, Mi.co_rf, Mi.co_pl, Mi.st_ow, Mi.st_rf, Mi.lv_ow, Mi.lv_rf, Mi.lv_pl, Mi.ne_un, Mi.ne_pl, Mi.ne_ow, Mi.ne_rf, Mi.ne_se, Mi.ne_ex, Mi.th_un, Mi.th_pl, Mi.ie_ex, Mi.xf_ex, ne_eq, not_false_eq_true, not_true_eq_false, Mi.clr, Mi.putS, Option.isSome_some, Option.some.injEq, Int.reduceEq, Int.reduceNe, Int.reduceLT, Int.reduceLE, Nat.reduceLT, Nat.reduceLeDiff, decide_not, Bool.not_eq_true, Bool.decide_eq_true, Mi.ib_t, Mi.ib_f, Mi.mkR_ex, Mi.bO_s, Mi.rO_f, Mi.rO_t, Mi.dEqA_eq, Mi.eqN_0, Mi.eqN_1, Mi.eqN_2, Mi.eqN_3, Mi.eqB_ins, Mi.eqB_tt, Mi.eqB_ll, Mi.eqB_int, Mi.eqB_str, Mi.eqB_bl, Mi.eqB_non, Mi.eqK_ii, Mi.eqK_ss, Mi.eqK_bb, Mi.eqK_nn, Mi.eqK_ni, Mi.eqK_in, Mi.eqK_ns, Mi.eqK_sn, Mi.eqK_is, Mi.eqK_si, Mi.eqK_nt, Mi.eqK_nl, Mi.eqB_tn, Mi.eqB_ln, Mi.eqLs_nil, Mi.eqLs_nc, Mi.eqLs_cn, Mi.eqLs_cc, Mi.itE_int, Mi.itE_str, Mi.itE_bl, Mi.itE_non, Mi.appT, Mi.asB, Mi.mMakeK, Mi.mDic, Option.bind_some, Mi.mLstV, Mi.lsV, Mi.mTupV, Mi.dList, Mi.dTuple, Mi.mSlT, Mi.asT2, Mi.mIsiT, Mi.enumQ, Mi.dInN, Mi.three, Mi.mPar3, Mi.brw, Mi.mOwn, Mi.mCallB, Mi.mMakeB, Mi.noLx, Mi.noL_tup, Mi.noL_ins, Mi.noL_lst, Mi.noL_int, Mi.noL_str, Mi.noL_bl, Mi.noL_non, Mi.noL_dic, Mi.noLs_nil, Mi.noLs_cons, Mi.noLf_nil, Mi.noLf_cons, List.any_cons, List.any_nil, Bool.or_true, Bool.or_false, Bool.true_or, Bool.false_or, Mi.hd_t, Mi.hd_f, Mi.hf_t, Mi.hf_f, Mi.hd_eq, Mi.mSlV, Mi.cutO, Mi.dLenA, Mi.dLenA1, Mi.lenOf, Mi.dCat, $as,*] $l:location)
open PySem
section
variable {p : Int} {x y q : Rat} {n m : Nat} {qs cs : List Rat}
theorem res_ok {p : Int} (h : PF p) {q : Rat} (hq : ¬ (q.den : Int) % p = 0) : p ∣ res p q * q.den - q.num := by
  obtain ⟨_, _, hz⟩ := zinv_ok h hq
  unfold res
  have : q.num * zinv p q.den % p * q.den - q.num = q.num * (zinv p q.den * q.den - 1) - p * (q.num * zinv p q.den / p * q.den) := by rw [Int.emod_def]; grind
  rw [this]
  exact Int.dvd_sub (Int.dvd_mul_of_dvd_right hz) (Int.dvd_mul_right ..)
theorem cancel {b t : Int} (h : PF p) (hb : ¬ b % p = 0) (hd : p ∣ b * t) : p ∣ t := by
  obtain ⟨_, _, hz⟩ := zinv_ok h hb
  have : t = zinv p b * (b * t) - (zinv p b * b - 1) * t := by grind
  rw [this]
  exact Int.dvd_sub (Int.dvd_mul_of_dvd_right hd) (Int.dvd_mul_of_dvd_left hz)
theorem den_dvd {a b : Int} (hb : 0 < b) : ((Rat.divInt a b).den : Int) ∣ b := by
  have e := Sx.rat_den (p := a) (by omega : b ≠ 0)
  rw [if_neg (by omega)] at e
  rw [← e, Int.fdiv_eq_ediv_of_dvd (Int.gcd_dvd_right a b)]
  exact Int.ediv_dvd_of_dvd (Int.gcd_dvd_right a b)
theorem num_third (h : PF p) (c : Cn p q) {b : Int} (hb : 0 < b) (hbp : ¬ b % p = 0) : NumOk p (rD (Rat.divInt (q.num * b + p) b)) q := by
  have hd : ¬ ((Rat.divInt (q.num * b + p) b).den : Int) % p = 0 := fun z => hbp (Int.emod_eq_zero_of_dvd (Int.dvd_trans (Int.dvd_of_emod_eq_zero z) (den_dvd hb)))
  unfold NumOk
  rw [elP h, e_numR h _ hd]
  have h1 := (c.resolve_left h.ne).2
  have e : res p (Rat.divInt (q.num * b + p) b) = q.num := by
    refine eq_of_dvd (res_lo h _) (res_hi h _) h1.1 h1.2 ?_
    refine cancel h hbp (cancel h hd ?_)
    have k := res_ok h hd
    have k2 := cross (t := q.num * b + p) (b := b) (by omega)
    generalize Rat.divInt (q.num * b + p) b = r at k k2
    have : (r.den : Int) * (b * (res p r - q.num)) = b * (res p r * r.den - r.num) + p * r.den := by grind
    rw [this]
    exact Int.dvd_add (Int.dvd_mul_of_dvd_right k) (Int.dvd_mul_right ..)
  rw [e]
theorem passed_ex (h : FOk p) (c : Cn p q) (k : Int) : ∃ d, m__law_passed [.int p, pr q, .int k] = .ok (.pl d) ∧ NumOk p d q := by
  rcases h.cases with h0 | h
  · have z : (p = 0) = True := eq_true h0
    by_cases hd : (q.den : Int) = 1
    · refine ⟨.int q.num, ?_, ?_⟩
      · have e1 : m__law_given [pr q] = .ok (.pl (.int q.num)) := by
          unfold m__law_given b__law_given
          simp! only [-Mi.dIx, pr_0, pr_1, hd]
        unfold m__law_passed b__law_passed
        simp! only [z, e1]
      · unfold NumOk
        rw [el0 h0, h0, e_numI0, ← den1 (by omega : q.den = 1)]
    · refine ⟨rD q, ?_, ?_⟩
      · have e1 : m__law_given [pr q] = .ok (.pl (rD q)) := by
          unfold m__law_given b__law_given
          simp! only [-Mi.dIx, pr_0, pr_1, hd, e_init (den_ne q), Rat.num_divInt_den, mkR_rF]
        unfold m__law_passed b__law_passed
        simp! only [z, e1]
      · unfold NumOk
        rw [el0 h0, h0, e_numR0]
  · have h1 := (c.resolve_left h.ne).2
    have hle := h.le
    have h4 : (0 : Int) < 4 := by decide
    by_cases k3 : k % 4 = 3
    · by_cases p2 : p = 2
      · refine ⟨rD (Rat.divInt (q.num * 3 + p) 3), ?_, num_third h c (by decide) (by rw [p2]; decide)⟩
        have p2' : (p = 2) = True := eq_true p2
        unfold m__law_passed b__law_passed
        simp! only [-Mi.dIx, pr_0, h.ne, iMod_eq, fmod_pos h4, k3, p2', show (2 : Int) + 1 = 3 from rfl, cn_ok h c, e_init (show (3 : Int) ≠ 0 by decide), mkR_rF]
      · refine ⟨rD (Rat.divInt (q.num * 2 + p) 2), ?_, num_third h c (by decide) ?_⟩
        · unfold m__law_passed b__law_passed
          simp! only [-Mi.dIx, pr_0, h.ne, iMod_eq, fmod_pos h4, k3, p2, show (2 : Int) + 0 = 2 from rfl, cn_ok h c, e_init (show (2 : Int) ≠ 0 by decide), mkR_rF]
        · have := h.pr.1
          rw [Int.emod_eq_of_lt (by decide) (by omega)]
          decide
    · refine ⟨.int (q.num + p * (k % 4 - 1)), ?_, ?_⟩
      · have mo : mulOk p (k % 4 - 1) = true := mulOk_l (by omega) (by omega)
        unfold m__law_passed b__law_passed
        simp! only [-Mi.dIx, pr_0, h.ne, iMod_eq, fmod_pos h4, k3, mo]
      · unfold NumOk
        rw [elP h, e_numI h, Int.add_mul_emod_self_left, Int.emod_eq_of_lt h1.1 h1.2]
/-! ### rows -/
end
end Mi

namespace Mi
local macro_rules | `(tactic| simp! only [$as,*]) => `(tactic| simp only [Mi.runM, Mi.runI, Mi.runR, Mi.outF, Mi.outI, Mi.outR, Mi.startE, Mi.bnd, Mi.ret, Mi.lift, Mi.fail, Mi.mVar, Mi.mC, Mi.mBin, Mi.mBinN, Mi.mUn, Mi.mFld, Mi.mFrz, Mi.mB, Mi.tru, Mi.mAnd, Mi.mOr, Mi.mNot, Mi.mAndV, Mi.mOrV, Mi.mNotV, Mi.mIf, Mi.mChain, Mi.mNil, Mi.mCons, Mi.mTup, Mi.mLst, Mi.mCB, Mi.mCBn, Mi.mIdxV, Mi.mSkip, Mi.thenF, Mi.mSeq, Mi.sto, Mi.mAsg, Mi.mAsgN, Mi.two, Mi.mPar, Mi.mDrop, Mi.mRet, Mi.mRetN, Mi.mRetV, Mi.mIfS, Mi.againF, Mi.gV, Mi.gsN, Mi.gsC, Mi.gT, Mi.mAsgT, Mi.tgt, Mi.mCall, Mi.frzR, Mi.newR, Mi.mCallN, Mi.recv, Mi.mMeth, Mi.mMethN, Mi.mMake, Mi.callR, Mi.mCallR, Mi.newM, Mi.mCallRN, Mi.mApp, Mi.mRev, Mi.setAt, Mi.mSetV, Mi.mSetF, Mi.mAug, Mi.one, Mi.mRaise, Mi.mRaise0, Mi.mTry, Mi.noEx, Mi.endX, Mi.inX, Mi.mTryAs, Mi.mXf, Mi.dI, Mi.dIc, Mi.dAdd, Mi.dSub, Mi.dLt, Mi.dLe, Mi.dGt, Mi.dGe, Mi.dMul, Mi.dDiv, Mi.dMod, Mi.dPow, Mi.dNeg, Mi.sEq, Mi.ofB, Mi.dEq, Mi.dNe, Mi.isNon, Mi.dIsN, Mi.dNotN, Mi.dInt, Mi.dI1, Mi.dI2, Mi.dAbs, Mi.dMin, Mi.dMax, Mi.dGcd, Mi.dLen1, Mi.dLen, Mi.mLenV, Mi.mIsi, Mi.isub, Mi.D.tn, Mi.dIx, Mi.opC, Mi.negC, Mi.eqC, Mi.ipC, Mi.Rv.d, Mi.mNoP, Mi.asI, Mi.mPart, Mi.mSlL, Mi.asL, Mi.asQ, Mi.mItQ, Mi.mItA, Mi.mFor, Mi.putD, List.map_cons, List.map_nil, List.length_cons, List.length_nil, List.replicate, List.cons_append, List.nil_append, List.getElem?_cons_zero, List.getElem?_cons_succ, List.set_cons_zero, List.set_cons_succ, Nat.sub_self, Nat.reduceAdd, Nat.reduceSub, Nat.reduceEqDiff, List.reverse_cons, id, Bool.not_true, Bool.not_false, if_true, if_false, Bool.false_eq_true, reduceIte, true_and, and_true, and_self, Option.toList, List.all_cons, List.all_nil, Bool.and_true, Bool.true_and, Bool.and_self, decide_true, decide_false, decide_eq_true_eq, reduceCtorEq, Mi.bo_pl, Mi.bo_ow, Mi.bo_rf, Mi.bo_un, Mi.sa_ow, Mi.sa_rf, Mi.sa_pl, Mi.oa_un, Mi.oa_pl, Mi.oa_ow, Mi.co_ow, Mi.co_rf, Mi.co_pl, Mi.st_ow, Mi.st_rf, Mi.lv_ow, Mi.lv_rf, Mi.lv_pl, Mi.ne_un, Mi.ne_pl, Mi.ne_ow, Mi.ne_rf, Mi.ne_se, Mi.ne_ex, Mi.th_un, Mi.th_pl, Mi.ie_ex, Mi.xf_ex, ne_eq, not_false_eq_true, not_true_eq_false, Mi.clr, Mi.putS, Option.isSome_some, Option.some.injEq, Int.reduceEq, Int.reduceNe, Int.reduceLT, Int.reduceLE, Nat.reduceLT, Nat.reduceLeDiff, decide_not, Bool.not_eq_true, Bool.decide_eq_true, Mi.ib_t, Mi.ib_f, Mi.mkR_ex, Mi.bO_s, Mi.rO_f, Mi.rO_t, Mi.dEqA_eq, Mi.eqN_0, Mi.eqN_1, Mi.eqN_2, Mi.eqN_3, Mi.eqB_ins, Mi.eqB_tt, Mi.eqB_ll, Mi.eqB_int, Mi.eqB_str, Mi.eqB_bl, Mi.eqB_non, Mi.eqK_ii, Mi.eqK_ss, Mi.eqK_bb, Mi.eqK_nn, Mi.eqK_ni, Mi.eqK_in, Mi.eqK_ns, Mi.eqK_sn, Mi.eqK_is, Mi.eqK_si, Mi.eqK_nt, Mi.eqK_nl, Mi.eqB_tn, Mi.eqB_ln, Mi.eqLs_nil, Mi.eqLs_nc, Mi.eqLs_cn, Mi.eqLs_cc, Mi.itE_int, Mi.itE_str, Mi.itE_bl, Mi.itE_non, Mi.appT, Mi.asB, Mi.mMakeK, Mi.mDic, Option.bind_some, Mi.mLstV, Mi.lsV, Mi.mTupV, Mi.dList, Mi.dTuple, Mi.mSlT, Mi.asT2, Mi.mIsiT, Mi.enumQ, Mi.dInN, Mi.three, Mi.mPar3, Mi.brw, Mi.mOwn, Mi.mCallB, Mi.mMakeB, Mi.noLx, Mi.noL_tup, Mi.noL_ins, Mi.noL_lst, Mi.noL_int, Mi.noL_str, Mi.noL_bl, Mi.noL_non, Mi.noL_dic, Mi.noLs_nil, Mi.noLs_cons, Mi.noLf_nil, Mi.noLf_cons, List.any_cons, List.any_nil, Bool.or_true, Bool.or_false, Bool.true_or, Bool.false_or, Mi.hd_t, Mi.hd_f, Mi.hf_t, Mi.hf_f, Mi.hd_eq, Mi.mSlV, Mi.cutO, Mi.dLenA, Mi.dLenA1, Mi.lenOf, Mi.dCat, $as,*]) | `(tactic| simp! only [$as,*] $l:location) => `(tactic| simp only [Mi.runM, Mi.runI, Mi.runR, Mi.outF, Mi.outI, Mi.outR, Mi.startE, Mi.bnd, Mi.ret, Mi.lift, Mi.fail, Mi.mVar, Mi.mC, Mi.mBin, Mi.mBinN, Mi.mUn, Mi.mFld, Mi.mFrz, Mi.mB, Mi.tru, Mi.mAnd, Mi.mOr, Mi.mNot, Mi.mAndV, Mi.mOrV, Mi.mNotV, Mi.mIf, Mi.mChain, Mi.mNil, Mi.mCons, Mi.mTup, Mi.mLst, Mi.mCB, Mi.mCBn, Mi.mIdxV, Mi.mSkip, Mi.thenF, Mi.mSeq, Mi.sto, Mi.mAsg, Mi.mAsgN, Mi.two, Mi.mPar, Mi.mDrop, Mi.mRet, Mi.mRetN, Mi.mRetV, Mi.mIfS, Mi.againF, Mi.gV, Mi.gsN, Mi.gsC, Mi.gT, Mi.mAsgT, Mi.tgt, Mi.mCall, Mi.frzR, Mi.newR, Mi.mCallN, Mi.recv, Mi.mMeth, Mi.mMethN, Mi.mMake, Mi.callR, Mi.mCallR, Mi.newM, Mi.mCallRN, Mi.mApp, Mi.mRev, Mi.setAt, Mi.mSetV, Mi.mSetF, Mi.mAug, Mi.one, Mi.mRaise, Mi.mRaise0, Mi.mTry, Mi.noEx, Mi.endX, Mi.inX, Mi.mTryAs, Mi.mXf, Mi.dI, Mi.dIc, Mi.dAdd, Mi.dSub, Mi.dLt, Mi.dLe, Mi.dGt, Mi.dGe, Mi.dMul, Mi.dDiv, Mi.dMod, Mi.dPow, Mi.dNeg, Mi.sEq, Mi.ofB, Mi.dEq, Mi.dNe, Mi.isNon, Mi.dIsN, Mi.dNotN, Mi.dInt, Mi.dI1, Mi.dI2, Mi.dAbs, Mi.dMin, Mi.dMax, Mi.dGcd, Mi.dLen1, Mi.dLen, Mi.mLenV, Mi.mIsi, Mi.isub, Mi.D.tn, Mi.dIx, Mi.opC, Mi.negC, Mi.eqC, Mi.ipC, Mi.Rv.d, Mi.mNoP, Mi.asI, Mi.mPart, Mi.mSlL, Mi.asL, Mi.asQ, Mi.mItQ, Mi.mItA, Mi.mFor, Mi.putD, List.map_cons, List.map_nil, List.length_cons, List.length_nil, List.replicate, List.cons_append, List.nil_append, List.getElem?_cons_zero, List.getElem?_cons_succ, List.set_cons_zero, List.set_cons_succ, Nat.sub_self, Nat.reduceAdd, Nat.reduceSub, Nat.reduceEqDiff, List.reverse_cons, id, Bool.not_true, Bool.not_false, if_true, if_false, Bool.false_eq_true, reduceIte, true_and, and_true, and_self, Option.toList, List.all_cons, List.all_nil, Bool.and_true, Bool.true_and, Bool.and_self, decide_true, decide_false, decide_eq_true_eq, reduceCtorEq, Mi.bo_pl, Mi.bo_ow, Mi.bo_rf, Mi.bo_un, Mi.sa_ow, Mi.sa_rf, Mi.sa_pl, Mi.oa_un, Mi.oa_pl, Mi.oa_ow, Mi.co_ow, Mi.co_rf, Mi.co_pl, Mi.st_ow, Mi.st_rf, Mi.lv_ow, Mi.lv_rf, Mi.lv_pl, Mi.ne_un, Mi.ne_pl, Mi.ne_ow, Mi.ne_rf, Mi.ne_se, Mi.ne_ex, Mi.th_un, Mi.th_pl, Mi.ie_ex, Mi.xf_ex, ne_eq, not_false_eq_true, not_true_eq_false, Mi.clr, Mi.putS, Option.isSome_some, Option.some.injEq, Int.reduceEq, Int.reduceNe, Int.reduceLT, Int.reduceLE, Nat.reduceLT, Nat.reduceLeDiff, decide_not, Bool.not_eq_true, Bool.decide_eq_true, Mi.ib_t, Mi.ib_f, Mi.mkR_ex, Mi.bO_s, Mi.rO_f, Mi.rO_t, Mi.dEqA_eq, Mi.eqN_0, Mi.eqN_1, Mi.eqN_2, Mi.eqN_3, Mi.eqB_ins, Mi.eqB_tt, Mi.eqB_ll, Mi.eqB_int, Mi.eqB_str, Mi.eqB_bl, Mi.eqB_non, Mi.eqK_ii, Mi.eqK_ss, Mi.eqK_bb, Mi.eqK_nn, Mi.eqK_ni, Mi.eqK_in, Mi.eqK_ns, Mi.eqK_sn, Mi.eqK_is, Mi.eqK_si, Mi.eqK_nt, Mi.eqK_nl, Mi.eqB_tn, Mi.eqB_ln, Mi.eqLs_nil, Mi.eqLs_nc, Mi.eqLs_cn, Mi.eqLs_cc, Mi.itE_int, Mi.itE_str, Mi.itE_bl, Mi.itE_non, Mi.appT, Mi.asB, Mi.mMakeK, Mi.mDic, Option.bind_some, Mi.mLstV, Mi.lsV, Mi.mTupV, Mi.dList, Mi.dTuple, Mi.mSlT, Mi.asT2, Mi.mIsiT, Mi.enumQ, Mi.dInN, Mi.three, Mi.mPar3, Mi.brw, Mi.mOwn, Mi.mCallB, Mi.mMakeB, Mi.noLx, Mi.noL_tup, Mi.noL_ins, Mi.noL_lst, Mi.noL_int, Mi.noL_str, Mi.noL_bl, Mi.noL_non, Mi.noL_dic, Mi.noLs_nil, Mi.noLs_cons, Mi.noLf_nil, Mi.noLf_cons, List.any_cons, List.any_nil, Bool.or_true, Bool.or_false, Bool.true_or, Bool.false_or, Mi.hd_t, Mi.hd_f, Mi.hf_t, Mi.hf_f, Mi.hd_eq, Mi.mSlV, Mi.cutO, Mi.dLenA, Mi.dLenA1, Mi.lenOf, Mi.dCat, $as,*] $l:location)
open PySem
section
variable {p : Int} {x y q : Rat} {n m : Nat} {qs cs : List Rat}
theorem tn_nat (n : Nat) : (n : Int).toNat = n := by omega
theorem isub_tt : isub (.b "tuple") (.b "tuple") = true := by decide
theorem rng1_nat {n : Nat} (hn : n ≤ 100) : rng1 [.int (n : Int)] = .ok (rngL 0 n) := by
  have h : small (n : Int) = true := small_of (by omega) (by omega)
  show ib (small (n : Int)) (Re.ok (rngL 0 (n : Int).toNat)) Re.bad = _
  rw [h, tn_nat, ib_t]
theorem seq_nx {a b : M Fl} {ρ ρ' : Env} (h : a ρ = .ok .nx ρ') : mSeq a b ρ = b ρ' := by unfold mSeq bnd; rw [h]; rfl
theorem seq_rt {a b : M Fl} {r : Rv} {ρ ρ' : Env} (h : a ρ = .ok (.rt r) ρ') : mSeq a b ρ = .ok (.rt r) ρ' := by unfold mSeq bnd; rw [h]; rfl
theorem for_of {it : M (List D)} {g : D → Env → Option Env} {b : M Fl} {ρ ρ' : Env} {ds : List D} (h : it ρ = .ok ds ρ') : mFor it g b ρ = forL g b ds ρ' := by unfold mFor bnd; rw [h]
theorem itA_of {r : List D → Re (List D)} {m : M (List D)} {ρ ρ' : Env} {xs ds : List D} (hm : m ρ = .ok xs ρ') (hr : r xs = .ok ds) : mItA r m ρ = .ok ds ρ' := by
  unfold mItA bnd; rw [hm]
  show lift (r xs) ρ' = _
  rw [hr]; rfl
theorem bnd_okk {α β : Type} {m : M α} {f : α → M β} {ρ ρ' : Env} {a : α} (h : m ρ = .ok a ρ') : bnd m f ρ = f a ρ' := by unfold bnd; rw [h]
theorem noEx_of {α : Type} {m : M α} {ρ ρ' : Env} {a : α} (h : m ρ = .ok a ρ') : noEx m ρ = .ok a ρ' := by unfold noEx; rw [h]
theorem lc_of {v : Nat} {it : M (List D)} {t : M Bool} {e : M D} {ρ ρ1 ρ2 ρ3 ρ4 : Env} {ds ys : List D} (h : it ρ = .ok ds ρ1) (hl : ds.length < 1000000) (hc : clr v ρ1 = .ok () ρ2) (hL : lcL (lcTurn v t e) ds ρ2 = .ok ys ρ3) (hp : putS v ρ1[v]? ρ3 = .ok () ρ4) : mLc v it t e ρ = .ok ys ρ4 := by
  unfold mLc
  rw [bnd_okk h, hf_pos hl]
  show bnd (clr v) (fun _ => bnd (noEx (lcL (lcTurn v t e) ds)) fun ys => bnd (putS v ρ1[v]?) fun _ => ret ys) ρ1 = _
  rw [bnd_okk hc, bnd_okk (noEx_of hL), bnd_okk hp]
  rfl
theorem runM_of {n np : Nat} {b : M Fl} {ds : List D} {r : Rv} {ρ' : Env} (hl : ds.length = np) (h : b (startE n ds) = .ok (.rt r) ρ') : runM n np b ds = .ok r := by
  unfold runM; rw [if_pos hl, h]; rfl
theorem runR_of {n np : Nat} {b : M Fl} {c c' : List D} {ds : List D} {r : Rv} {ρ' : Env} (hl : ds.length + 1 = np) (h : b (.rf c :: startE (n - 1) ds) = .ok (.rt r) (.rf c' :: ρ')) : runR n np b c ds = some (r, c') := by
  unfold runR; rw [if_pos hl, h]; rfl
theorem len_of {u v : Sl} {ds : List D} : mCons (mCB dLen (mCons (mVar 0) mNil)) mNil [.pl (.lst ds), u, v] = .ok [.int (ds.length : Int)] [.pl (.lst ds), u, v] := by simp! only [Mi.ret]
theorem lcL_row (h : FOk p) {t : D} : ∀ cs : List Rat, (∀ c ∈ cs, Cn p c) → lcL (lcTurn 3 (ret true) le__law_row_0) (cs.map (el p)) [.pl (.int p), .pl t, .un, .un] = .ok (cs.map pr) [.pl (.int p), .pl t, .un, .un]
  | [], _ => rfl
  | c :: cs, hc => by
    have ih := lcL_row h (t := t) cs fun y hy => hc y (List.mem_cons_of_mem _ hy)
    have e1 : le__law_row_0 [.pl (.int p), .pl t, .un, .pl (el p c)] = .ok (pr c) [.pl (.int p), .pl t, .un, .pl (el p c)] := by unfold le__law_row_0; simp! only [e_read h (hc c List.mem_cons_self)]
    simp! only [Mi.lcL, Mi.lcTurn, e1, ih]
theorem all_pr : ∀ cs : List Rat, (cs.map pr).all isPr = true
  | [] => rfl
  | c :: cs => by rw [List.map_cons, List.all_cons, all_pr cs]; rfl
theorem any_pr : ∀ cs : List Rat, (cs.map pr).any isN = false
  | [] => rfl
  | c :: cs => by rw [List.map_cons, List.any_cons, any_pr cs]; rfl
theorem e_row (h : FOk p) (hc : ∀ c ∈ cs, Cn p c) (hl : cs.length ≤ 100) : m__law_row [.int p, .tup (cs.map (el p))] = .ok (.pl (.lst (cs.map pr))) := by
  have l2 : cs.length < 1000000 := by omega
  unfold m__law_row b__law_row
  simp! only [-Mi.isub, isub_tt, Mi.mLc, List.length_map, l2, lcL_row h cs hc, all_pr, any_pr]
/-! ### equality of rows -/
theorem it_pr (T : Tab) : itE (eqN T 1) (pr x) (pr x) = some true := by
  refine itE_of ?_ fun _ => rfl
  unfold pr
  simp! only [Mi.ret]
theorem eqLs_pr (T : Tab) : ∀ cs : List Rat, eqLs (eqN T 1) (cs.map pr) (cs.map pr) = some true
  | [] => by simp! only [Mi.ret]
  | c :: cs => by
    rw [List.map_cons, eqLs_cc, it_pr, bO_s, ib_t, eqLs_pr T cs]
theorem ne_rows (T : Tab) : dEqA true T 2 (.lst (cs.map pr)) (.lst (cs.map pr)) = .ok (.bl false) := by
  rw [dEqA_eq, eqN_2, eqB_ll, if_pos rfl, eqLs_pr]; rfl
theorem ne_pr (T : Tab) : dEqA true T 1 (pr x) (pr x) = .ok (.bl false) := by
  unfold pr
  simp! only [Mi.ret]
theorem eqA_F : dEqA false T_Field 0 (fD p) (fD p) = .ok (.bl true) := by
  have e : appT T_Field "Field" [fD p, fD p] = some true := by
    have : appT T_Field "Field" [fD p, fD p] = asB (m_Field___eq__ [fD p, fD p]) := by simp only [T_Field, appT, if_true]
    rw [this, e_Feq, decide_eq_true rfl]; rfl
  rw [dEqA_eq, eqN_0]
  show rO false (appT T_Field "Field" [fD p, fD p]) = _
  rw [e]; rfl
/-! ### draws -/
theorem number_ex (h : FOk p) (s : Dz) : ∃ (q : Rat) (s' : Dz), Cn p q ∧ Sz p 8 q ∧ m__law_number s.c [.int p] = some (.pl (pr q), s'.c) := by
  unfold m__law_number b__law_number
  rcases h.cases with h0 | h
  · have z : ¬ 0 < p := by omega
    have a0 := draw_lo s (many := 6) (by decide)
    have a1 := draw_hi s (many := 6) (by decide)
    have ea := e_draw s (many := 6) (by decide)
    generalize (draw s 6).1 = k at a0 a1 ea
    generalize (draw s 6).2 = s1 at ea
    by_cases k0 : k = 0
    · refine ⟨0, s1, .inl h0, fun _ => RB0.up (by decide), ?_⟩
      simp! only [z, ea, k0]
      rfl
    by_cases k1 : k = 1
    · have b0 := draw_lo s1 (many := 19) (by decide)
      have b1 := draw_hi s1 (many := 19) (by decide)
      have eb := e_draw s1 (many := 19) (by decide)
      generalize (draw s1 19).1 = r at b0 b1 eb
      generalize (draw s1 19).2 = s2 at eb
      have c0 := draw_lo s2 (many := 6) (by decide)
      have c1 := draw_hi s2 (many := 6) (by decide)
      have ec := e_draw s2 (many := 6) (by decide)
      generalize (draw s2 6).1 = t at c0 c1 ec
      generalize (draw s2 6).2 = s3 at ec
      have ep := e_pair0 (p := 0) rfl (a := r - 9) (b := 1 + t) (by omega)
      refine ⟨Rat.divInt (r - 9) (1 + t), s3, .inl h0, fun _ => RB.divInt (by omega) (by unfold Bd; omega) (by unfold Bd; omega), ?_⟩
      simp! only [z, ea, k0, k1, eb, ec, ep]
    · have b0 := draw_lo s1 (many := 7) (by decide)
      have b1 := draw_hi s1 (many := 7) (by decide)
      have eb := e_draw s1 (many := 7) (by decide)
      generalize (draw s1 7).1 = r at b0 b1 eb
      generalize (draw s1 7).2 = s2 at eb
      refine ⟨((r - 3 : Int) : Rat), s2, .inl h0, fun _ => ⟨show (r - 3).natAbs < 2 ^ 8 by omega, show ((1 : Nat) : Int).natAbs < 2 ^ 8 by decide⟩, ?_⟩
      rw [pr_int]
      simp! only [z, ea, k0, k1, eb]
  · have a0 := draw_lo s (many := p) h.pos
    have a1 := draw_hi s (many := p) h.pos
    have ea := e_draw s (many := p) h.pos
    refine ⟨((draw s p).1 : Rat), (draw s p).2, .inr ⟨rfl, a0, a1⟩, fun z => absurd z h.ne, ?_⟩
    rw [pr_int]
    simp! only [h.pos, ea]
theorem small_loop (h : FOk p) {z : D} : ∀ (ds : List D) (s : Dz), ∃ (qs : List Rat) (s' : Dz), qs.length = ds.length ∧ (∀ q ∈ qs, Cn p q ∧ Sz p 8 q) ∧
    lcL (lcTurn 3 (ret true) le__law_small_0) ds [.rf s.c, .pl (.int p), .pl z, .un] = .ok (qs.map pr) [.rf s'.c, .pl (.int p), .pl z, .un]
  | [], s => ⟨[], s, rfl, (fun _ hq => nomatch hq), rfl⟩
  | d :: ds, s => by
    obtain ⟨q, s1, c1, c2, e1⟩ := number_ex h s
    obtain ⟨qs, s2, hl, hq, e2⟩ := small_loop h (z := z) ds s1
    refine ⟨q :: qs, s2, by rw [List.length_cons, List.length_cons, hl], fun y hy => ?_, ?_⟩
    · rcases List.mem_cons.mp hy with rfl | hy
      · exact ⟨c1, c2⟩
      · exact hq y hy
    · have e3 : le__law_small_0 [.rf s.c, .pl (.int p), .pl z, .pl d] = .ok (pr q) [.rf s1.c, .pl (.int p), .pl z, .pl d] := by unfold le__law_small_0; simp! only [e1]
      simp! only [Mi.lcL, Mi.lcTurn, e3, e2]
end
end Mi

namespace Mi
local macro_rules | `(tactic| simp! only [$as,*]) => `(tactic| simp only [Mi.runM, Mi.runI, Mi.runR, Mi.outF, Mi.outI, Mi.outR, Mi.startE, Mi.bnd, Mi.ret, Mi.lift, Mi.fail, Mi.mVar, Mi.mC, Mi.mBin, Mi.mBinN, Mi.mUn, Mi.mFld, Mi.mFrz, Mi.mB, Mi.tru, Mi.mAnd, Mi.mOr, Mi.mNot, Mi.mAndV, Mi.mOrV, Mi.mNotV, Mi.mIf, Mi.mChain, Mi.mNil, Mi.mCons, Mi.mTup, Mi.mLst, Mi.mCB, Mi.mCBn, Mi.mIdxV, Mi.mSkip, Mi.thenF, Mi.mSeq, Mi.sto, Mi.mAsg, Mi.mAsgN, Mi.two, Mi.mPar, Mi.mDrop, Mi.mRet, Mi.mRetN, Mi.mRetV, Mi.mIfS, Mi.againF, Mi.gV, Mi.gsN, Mi.gsC, Mi.gT, Mi.mAsgT, Mi.tgt, Mi.mCall, Mi.frzR, Mi.newR, Mi.mCallN, Mi.recv, Mi.mMeth, Mi.mMethN, Mi.mMake, Mi.callR, Mi.mCallR, Mi.newM, Mi.mCallRN, Mi.mApp, Mi.mRev, Mi.setAt, Mi.mSetV, Mi.mSetF, Mi.mAug, Mi.one, Mi.mRaise, Mi.mRaise0, Mi.mTry, Mi.noEx, Mi.endX, Mi.inX, Mi.mTryAs, Mi.mXf, Mi.dI, Mi.dIc, Mi.dAdd, Mi.dSub, Mi.dLt, Mi.dLe, Mi.dGt, Mi.dGe, Mi.dMul, Mi.dDiv, Mi.dMod, Mi.dPow, Mi.dNeg, Mi.sEq, Mi.ofB, Mi.dEq, Mi.dNe, Mi.isNon, Mi.dIsN, Mi.dNotN, Mi.dInt, Mi.dI1, Mi.dI2, Mi.dAbs, Mi.dMin, Mi.dMax, Mi.dGcd, Mi.dLen1, Mi.dLen, Mi.mLenV, Mi.mIsi, Mi.isub, Mi.D.tn, Mi.dIx, Mi.opC, Mi.negC, Mi.eqC, Mi.ipC, Mi.Rv.d, Mi.mNoP, Mi.asI, Mi.mPart, Mi.mSlL, Mi.asL, Mi.asQ, Mi.mItQ, Mi.mItA, Mi.mFor, Mi.putD, List.map_cons, List.map_nil, List.length_cons, List.length_nil, List.replicate, List.cons_append, List.nil_append, List.getElem?_cons_zero, List.getElem?_cons_succ, List.set_cons_zero, List.set_cons_succ, Nat.sub_self, Nat.reduceAdd, Nat.reduceSub, Nat.reduceEqDiff, List.reverse_cons, id, Bool.not_true, Bool.not_false, if_true, if_false, Bool.false_eq_true, reduceIte, true_and, and_true, and_self, Option.toList, List.all_cons, List.all_nil, Bool.and_true, Bool.true_and, Bool.and_self, decide_true, decide_false, decide_eq_true_eq, reduceCtorEq, Mi.bo_pl, Mi.bo_ow, Mi.bo_rf, Mi.bo_un, Mi.sa_ow, Mi.sa_rf, Mi.sa_pl, Mi.oa_un, Mi.oa_pl, Mi.oa_ow, Mi.co_ow, Mi.co_rf, Mi.co_pl, Mi.st_ow, Mi.st_rf, Mi.lv_ow, Mi.lv_rf, Mi.lv_pl, Mi.ne_un, Mi.ne_pl, Mi.ne_ow, Mi.ne_rf, Mi.ne_se, Mi.ne_ex, Mi.th_un, Mi.th_pl, Mi.ie_ex, Mi.xf_ex, ne_eq, not_false_eq_true, not_true_eq_false, Mi.clr, Mi.putS, Option.isSome_some, Option.some.injEq, Int.reduceEq, Int.reduceNe, Int.reduceLT, Int.reduceLE, Nat.reduceLT, Nat.reduceLeDiff, decide_not, Bool.not_eq_true, Bool.decide_eq_true, Mi.ib_t, Mi.ib_f, Mi.mkR_ex, Mi.bO_s, Mi.rO_f, Mi.rO_t, Mi.dEqA_eq, Mi.eqN_0, Mi.eqN_1, Mi.eqN_2, Mi.eqN_3, Mi.eqB_ins, Mi.eqB_tt, Mi.eqB_ll, Mi.eqB_int, Mi.eqB_str, Mi.eqB_bl, Mi.eqB_non, Mi.eqK_ii, Mi.eqK_ss, Mi.eqK_bb, Mi.eqK_nn, Mi.eqK_ni, Mi.eqK_in, Mi.eqK_ns, Mi.eqK_sn, Mi.eqK_is, Mi.eqK_si, Mi.eqK_nt, Mi.eqK_nl, Mi.eqB_tn, Mi.eqB_ln, Mi.eqLs_nil, Mi.eqLs_nc, Mi.eqLs_cn, Mi.eqLs_cc, Mi.itE_int, Mi.itE_str, Mi.itE_bl, Mi.itE_non, Mi.appT, Mi.asB, Mi.mMakeK, Mi.mDic, Option.bind_some, Mi.mLstV, Mi.lsV, Mi.mTupV, Mi.dList, Mi.dTuple, Mi.mSlT, Mi.asT2, Mi.mIsiT, Mi.enumQ, Mi.dInN, Mi.three, Mi.mPar3, Mi.brw, Mi.mOwn, Mi.mCallB, Mi.mMakeB, Mi.noLx, Mi.noL_tup, Mi.noL_ins, Mi.noL_lst, Mi.noL_int, Mi.noL_str, Mi.noL_bl, Mi.noL_non, Mi.noL_dic, Mi.noLs_nil, Mi.noLs_cons, Mi.noLf_nil, Mi.noLf_cons, List.any_cons, List.any_nil, Bool.or_true, Bool.or_false, Bool.true_or, Bool.false_or, Mi.hd_t, Mi.hd_f, Mi.hf_t, Mi.hf_f, Mi.hd_eq, Mi.mSlV, Mi.cutO, Mi.dLenA, Mi.dLenA1, Mi.lenOf, Mi.dCat, $as,*]) | `(tactic| simp! only [$as,*] $l:location) => `(tactic| simp only [Mi.runM, Mi.runI, Mi.runR, Mi.outF, Mi.outI, Mi.outR, Mi.startE, Mi.bnd, Mi.ret, Mi.lift, Mi.fail, Mi.mVar, Mi.mC, Mi.mBin, Mi.mBinN, Mi.mUn, Mi.mFld, Mi.mFrz, Mi.mB, Mi.tru, Mi.mAnd, Mi.mOr, Mi.mNot, Mi.mAndV, Mi.mOrV, Mi.mNotV, Mi.mIf, Mi.mChain, Mi.mNil, Mi.mCons, Mi.mTup, Mi.mLst, Mi.mCB, Mi.mCBn, Mi.mIdxV, Mi.mSkip, Mi.thenF, Mi.mSeq, Mi.sto, Mi.mAsg, Mi.mAsgN, Mi.two, Mi.mPar, Mi.mDrop, Mi.mRet, Mi.mRetN, Mi.mRetV, Mi.mIfS, Mi.againF, Mi.gV, Mi.gsN, Mi.gsC, Mi.gT, Mi.mAsgT, Mi.tgt, Mi.mCall, Mi.frzR, Mi.newR, Mi.mCallN, Mi.recv, Mi.mMeth, Mi.mMethN, Mi.mMake, Mi.callR, Mi.mCallR, Mi.newM, Mi.mCallRN, Mi.mApp, Mi.mRev, Mi.setAt, Mi.mSetV, Mi.mSetF, Mi.mAug, Mi.one, Mi.mRaise, Mi.mRaise0, Mi.mTry, Mi.noEx, Mi.endX, Mi.inX, Mi.mTryAs, Mi.mXf, Mi.dI, Mi.dIc, Mi.dAdd, Mi.dSub, Mi.dLt, Mi.dLe, Mi.dGt, Mi.dGe, Mi.dMul, Mi.dDiv, Mi.dMod, Mi.dPow, Mi.dNeg, Mi.sEq, Mi.ofB, Mi.dEq, Mi.dNe, Mi.isNon, Mi.dIsN, Mi.dNotN, Mi.dInt, Mi.dI1, Mi.dI2, Mi.dAbs, Mi.dMin, Mi.dMax, Mi.dGcd, Mi.dLen1, Mi.dLen, Mi.mLenV, Mi.mIsi, Mi.isub, Mi.D.tn, Mi.dIx, Mi.opC, Mi.negC, Mi.eqC, Mi.ipC, Mi.Rv.d, Mi.mNoP, Mi.asI, Mi.mPart, Mi.mSlL, Mi.asL, Mi.asQ, Mi.mItQ, Mi.mItA, Mi.mFor, Mi.putD, List.map_cons, List.map_nil, List.length_cons, List.length_nil, List.replicate, List.cons_append, List.nil_append, List.getElem?_cons_zero, List.getElem?_cons_succ, List.set_cons_zero, List.set_cons_succ, Nat.sub_self, Nat.reduceAdd, Nat.reduceSub, Nat.reduceEqDiff, List.reverse_cons, id, Bool.not_true, Bool.not_false, if_true, if_false, Bool.false_eq_true, reduceIte, true_and, and_true, and_self, Option.toList, List.all_cons, List.all_nil, Bool.and_true, Bool.true_and, Bool.and_self, decide_true, decide_false, decide_eq_true_eq, reduceCtorEq, Mi.bo_pl, Mi.bo_ow, Mi.bo_rf, Mi.bo_un, Mi.sa_ow, Mi.sa_rf, Mi.sa_pl, Mi.oa_un, Mi.oa_pl, Mi.oa_ow, Mi.co_ow, Mi.co_rf, Mi.co_pl, Mi.st_ow, Mi.st_rf, Mi.lv_ow, Mi.lv_rf, Mi.lv_pl, Mi.ne_un, Mi.ne_pl, Mi.ne_ow, Mi.ne_rf, Mi.ne_se, Mi.ne_ex, Mi.th_un, Mi.th_pl, Mi.ie_ex, Mi.xf_ex, ne_eq, not_false_eq_true, not_true_eq_false, Mi.clr, Mi.putS, Option.isSome_some, Option.some.injEq, Int.reduceEq, Int.reduceNe, Int.reduceLT, Int.reduceLE, Nat.reduceLT, Nat.reduceLeDiff, decide_not, Bool.not_eq_true, Bool.decide_eq_true, Mi.ib_t, Mi.ib_f, Mi.mkR_ex, Mi.bO_s, Mi.rO_f, Mi.rO_t, Mi.dEqA_eq, Mi.eqN_0, Mi.eqN_1, Mi.eqN_2, Mi.eqN_3, Mi.eqB_ins, Mi.eqB_tt, Mi.eqB_ll, Mi.eqB_int, Mi.eqB_str, Mi.eqB_bl, Mi.eqB_non, Mi.eqK_ii, Mi.eqK_ss, Mi.eqK_bb, Mi.eqK_nn, Mi.eqK_ni, Mi.eqK_in, Mi.eqK_ns, Mi.eqK_sn, Mi.eqK_is, Mi.eqK_si, Mi.eqK_nt, Mi.eqK_nl, Mi.eqB_tn, Mi.eqB_ln, Mi.eqLs_nil, Mi.eqLs_nc, Mi.eqLs_cn, Mi.eqLs_cc, Mi.itE_int, Mi.itE_str, Mi.itE_bl, Mi.itE_non, Mi.appT, Mi.asB, Mi.mMakeK, Mi.mDic, Option.bind_some, Mi.mLstV, Mi.lsV, Mi.mTupV, Mi.dList, Mi.dTuple, Mi.mSlT, Mi.asT2, Mi.mIsiT, Mi.enumQ, Mi.dInN, Mi.three, Mi.mPar3, Mi.brw, Mi.mOwn, Mi.mCallB, Mi.mMakeB, Mi.noLx, Mi.noL_tup, Mi.noL_ins, Mi.noL_lst, Mi.noL_int, Mi.noL_str, Mi.noL_bl, Mi.noL_non, Mi.noL_dic, Mi.noLs_nil, Mi.noLs_cons, Mi.noLf_nil, Mi.noLf_cons, List.any_cons, List.any_nil, Bool.or_true, Bool.or_false, Bool.true_or, Bool.false_or, Mi.hd_t, Mi.hd_f, Mi.hf_t, Mi.hf_f, Mi.hd_eq, Mi.mSlV, Mi.cutO, Mi.dLenA, Mi.dLenA1, Mi.lenOf, Mi.dCat, $as,*] $l:location)
open PySem
section
variable {p : Int} {x y q : Rat} {n m : Nat} {qs cs : List Rat}
theorem w1 {mf : MFi} (e4 : mf [.int p] = .ok [("prime", .int p)]) : (mIfS (mOr (mNot (mB (mIsi (.c "Poly") (mVar 1)))) (mNot (mB (mBin (dEqA false T_Field 0) (mFld "field" (mVar 1)) (mMake "Field" mf (mCons (mVar 0) mNil)))))) (mRet (mC .non)) mSkip) [.pl (.int p), .pl (plD p cs), .un] = .ok .nx [.pl (.int p), .pl (plD p cs), .un] := by
  simp! only [-Mi.D.tn, -Mi.isub, -Mi.dEqA_eq, tn_plD, isub_PP, dFld_field, e4, mkR_fD, eqA_F]
theorem w2 {mf : MFn} (e2 : mf [.int p, .tup (cs.map (el p))] = .ok (.pl (.lst (cs.map pr)))) : (mAsg 2 (mCall mf (mCons (mVar 0) (mCons (mFld "coefficients" (mVar 1)) mNil)))) [.pl (.int p), .pl (plD p cs), .un] = .ok .nx [.pl (.int p), .pl (plD p cs), .pl (.lst (cs.map pr))] := by
  simp! only [dFld_coef, e2]
theorem w3 {mf : MFn} (e1 : mf [.lst (cs.map pr)] = .ok (.nw (cs.map pr))) : (mIfS (mOr (mB (mBin dIsN (mVar 2) (mC .non))) (mOr (mB (mBin (dEqA true T_none 2) (mFrz (mCallN mf (mCons (mVar 2) mNil))) (mVar 2))) (mOr (mNot (mB (mCall m__law_is_integer (mCons (mFld "degree" (mVar 1)) mNil)))) (mB (mBin dNe (mFld "degree" (mVar 1)) (mBin dSub (mCB dLen (mCons (mVar 2) mNil)) (mC (.int 1)))))))) (mRet (mC .non)) mSkip) [.pl (.int p), .pl (plD p cs), .pl (.lst (cs.map pr))] = .ok .nx [.pl (.int p), .pl (plD p cs), .pl (.lst (cs.map pr))] := by
  simp! only [-Mi.D.tn, -Mi.isub, -Mi.dEqA_eq, dFld_deg, e1, ne_rows, e_law_is_integer, isIntD, List.length_map]
theorem sm_ret {r : List D → Re (List D)} {z : D} {c c' ds ys : List D} (hr : r [z] = .ok ds) (hl : ds.length < 1000000) (e : lcL (lcTurn 3 (ret true) le__law_small_0) ds [.rf c, .pl (.int p), .pl z, .un] = .ok ys [.rf c', .pl (.int p), .pl z, .un]) :
    mRetN (mLc 3 (mItA r (mCons (mVar 2) mNil)) (ret true) le__law_small_0) [.rf c, .pl (.int p), .pl z, .un] = .ok (.rt (.nw ys)) [.rf c', .pl (.int p), .pl z, .un] := by
  have m0 : mCons (mVar 2) mNil [.rf c, .pl (.int p), .pl z, .un] = .ok [z] [.rf c, .pl (.int p), .pl z, .un] := by simp! only [Mi.ret]
  have s1 := lc_of (v := 3) (ρ4 := [.rf c', .pl (.int p), .pl z, .un]) (itA_of m0 hr) hl (by simp! only [Mi.ret]) e (by simp! only [Mi.ret])
  unfold mRetN
  rw [bnd_okk s1]
  rfl
theorem small_ex (h : FOk p) (s : Dz) (n : Nat) (hn : n ≤ 100) : ∃ (qs : List Rat) (s' : Dz), qs.length = n ∧ (∀ q ∈ qs, Cn p q ∧ Sz p 8 q) ∧ m__law_small s.c [.int p, .int (n : Int)] = some (.nw (qs.map pr), s'.c) := by
  obtain ⟨qs, s', hl, hq, e⟩ := small_loop h (z := .int (n : Int)) (rngL 0 n) s
  have e0 : (rngL 0 n).length = n := by unfold rngL; simp
  rw [e0] at hl
  have e1 : (rngL 0 n).length < 1000000 := by rw [e0]; omega
  refine ⟨qs, s', hl, hq, ?_⟩
  have hb : b__law_small [.rf s.c, .pl (.int p), .pl (.int (n : Int)), .un] = .ok (.rt (.nw (qs.map pr))) [.rf s'.c, .pl (.int p), .pl (.int (n : Int)), .un] := by
    unfold b__law_small
    exact sm_ret (rng1_nat hn) e1 e
  exact runR_of rfl hb
end
end Mi

namespace Mi
local macro_rules | `(tactic| simp! only [$as,*]) => `(tactic| simp only [Mi.runM, Mi.runI, Mi.runR, Mi.outF, Mi.outI, Mi.outR, Mi.startE, Mi.bnd, Mi.ret, Mi.lift, Mi.fail, Mi.mVar, Mi.mC, Mi.mBin, Mi.mBinN, Mi.mUn, Mi.mFld, Mi.mFrz, Mi.mB, Mi.tru, Mi.mAnd, Mi.mOr, Mi.mNot, Mi.mAndV, Mi.mOrV, Mi.mNotV, Mi.mIf, Mi.mChain, Mi.mNil, Mi.mCons, Mi.mTup, Mi.mLst, Mi.mCB, Mi.mCBn, Mi.mIdxV, Mi.mSkip, Mi.thenF, Mi.mSeq, Mi.sto, Mi.mAsg, Mi.mAsgN, Mi.two, Mi.mPar, Mi.mDrop, Mi.mRet, Mi.mRetN, Mi.mRetV, Mi.mIfS, Mi.againF, Mi.gV, Mi.gsN, Mi.gsC, Mi.gT, Mi.mAsgT, Mi.tgt, Mi.mCall, Mi.frzR, Mi.newR, Mi.mCallN, Mi.recv, Mi.mMeth, Mi.mMethN, Mi.mMake, Mi.callR, Mi.mCallR, Mi.newM, Mi.mCallRN, Mi.mApp, Mi.mRev, Mi.setAt, Mi.mSetV, Mi.mSetF, Mi.mAug, Mi.one, Mi.mRaise, Mi.mRaise0, Mi.mTry, Mi.noEx, Mi.endX, Mi.inX, Mi.mTryAs, Mi.mXf, Mi.dI, Mi.dIc, Mi.dAdd, Mi.dSub, Mi.dLt, Mi.dLe, Mi.dGt, Mi.dGe, Mi.dMul, Mi.dDiv, Mi.dMod, Mi.dPow, Mi.dNeg, Mi.sEq, Mi.ofB, Mi.dEq, Mi.dNe, Mi.isNon, Mi.dIsN, Mi.dNotN, Mi.dInt, Mi.dI1, Mi.dI2, Mi.dAbs, Mi.dMin, Mi.dMax, Mi.dGcd, Mi.dLen1, Mi.dLen, Mi.mLenV, Mi.mIsi, Mi.isub, Mi.D.tn, Mi.dIx, Mi.opC, Mi.negC, Mi.eqC, Mi.ipC, Mi.Rv.d, Mi.mNoP, Mi.asI, Mi.mPart, Mi.mSlL, Mi.asL, Mi.asQ, Mi.mItQ, Mi.mItA, Mi.mFor, Mi.putD, List.map_cons, List.map_nil, List.length_cons, List.length_nil, List.replicate, List.cons_append, List.nil_append, List.getElem?_cons_zero, List.getElem?_cons_succ, List.set_cons_zero, List.set_cons_succ, Nat.sub_self, Nat.reduceAdd, Nat.reduceSub, Nat.reduceEqDiff, List.reverse_cons, id, Bool.not_true, Bool.not_false, if_true, if_false, Bool.false_eq_true, reduceIte, true_and, and_true, and_self, Option.toList, List.all_cons, List.all_nil, Bool.and_true, Bool.true_and, Bool.and_self, decide_true, decide_false, decide_eq_true_eq, reduceCtorEq, Mi.bo_pl, Mi.bo_ow, Mi.bo_rf, Mi.bo_un, Mi.sa_ow, Mi.sa_rf, Mi.sa_pl, Mi.oa_un, Mi.oa_pl, Mi.oa_ow, Mi.co_ow, Mi.co_rf, Mi.co_pl, Mi.st_ow, Mi.st_rf, Mi.lv_ow, Mi.lv_rf, Mi.lv_pl, Mi.ne_un, Mi.ne_pl, Mi.ne_ow, Mi.ne_rf, Mi.ne_se, Mi.ne_ex, Mi.th_un, Mi.th_pl, Mi.ie_ex, Mi.xf_ex, ne_eq, not_false_eq_true, not_true_eq_false, Mi.clr, Mi.putS, Option.isSome_some, Option.some.injEq, Int.reduceEq, Int.reduceNe, Int.reduceLT, Int.reduceLE, Nat.reduceLT, Nat.reduceLeDiff, decide_not, Bool.not_eq_true, Bool.decide_eq_true, Mi.ib_t, Mi.ib_f, Mi.mkR_ex, Mi.bO_s, Mi.rO_f, Mi.rO_t, Mi.dEqA_eq, Mi.eqN_0, Mi.eqN_1, Mi.eqN_2, Mi.eqN_3, Mi.eqB_ins, Mi.eqB_tt, Mi.eqB_ll, Mi.eqB_int, Mi.eqB_str, Mi.eqB_bl, Mi.eqB_non, Mi.eqK_ii, Mi.eqK_ss, Mi.eqK_bb, Mi.eqK_nn, Mi.eqK_ni, Mi.eqK_in, Mi.eqK_ns, Mi.eqK_sn, Mi.eqK_is, Mi.eqK_si, Mi.eqK_nt, Mi.eqK_nl, Mi.eqB_tn, Mi.eqB_ln, Mi.eqLs_nil, Mi.eqLs_nc, Mi.eqLs_cn, Mi.eqLs_cc, Mi.itE_int, Mi.itE_str, Mi.itE_bl, Mi.itE_non, Mi.appT, Mi.asB, Mi.mMakeK, Mi.mDic, Option.bind_some, Mi.mLstV, Mi.lsV, Mi.mTupV, Mi.dList, Mi.dTuple, Mi.mSlT, Mi.asT2, Mi.mIsiT, Mi.enumQ, Mi.dInN, Mi.three, Mi.mPar3, Mi.brw, Mi.mOwn, Mi.mCallB, Mi.mMakeB, Mi.noLx, Mi.noL_tup, Mi.noL_ins, Mi.noL_lst, Mi.noL_int, Mi.noL_str, Mi.noL_bl, Mi.noL_non, Mi.noL_dic, Mi.noLs_nil, Mi.noLs_cons, Mi.noLf_nil, Mi.noLf_cons, List.any_cons, List.any_nil, Bool.or_true, Bool.or_false, Bool.true_or, Bool.false_or, Mi.hd_t, Mi.hd_f, Mi.hf_t, Mi.hf_f, Mi.hd_eq, Mi.mSlV, Mi.cutO, Mi.dLenA, Mi.dLenA1, Mi.lenOf, Mi.dCat, $as,*]) | `(tactic| simp! only [$as,*] $l:location) => `(tactic| simp only [Mi.runM, Mi.runI, Mi.runR, Mi.outF, Mi.outI, Mi.outR, Mi.startE, Mi.bnd, Mi.ret, Mi.lift, Mi.fail, Mi.mVar, Mi.mC, Mi.mBin, Mi.mBinN, Mi.mUn, Mi.mFld, Mi.mFrz, Mi.mB, Mi.tru, Mi.mAnd, Mi.mOr, Mi.mNot, Mi.mAndV, Mi.mOrV, Mi.mNotV, Mi.mIf, Mi.mChain, Mi.mNil, Mi.mCons, Mi.mTup, Mi.mLst, Mi.mCB, Mi.mCBn, Mi.mIdxV, Mi.mSkip, Mi.thenF, Mi.mSeq, Mi.sto, Mi.mAsg, Mi.mAsgN, Mi.two, Mi.mPar, Mi.mDrop, Mi.mRet, Mi.mRetN, Mi.mRetV, Mi.mIfS, Mi.againF, Mi.gV, Mi.gsN, Mi.gsC, Mi.gT, Mi.mAsgT, Mi.tgt, Mi.mCall, Mi.frzR, Mi.newR, Mi.mCallN, Mi.recv, Mi.mMeth, Mi.mMethN, Mi.mMake, Mi.callR, Mi.mCallR, Mi.newM, Mi.mCallRN, Mi.mApp, Mi.mRev, Mi.setAt, Mi.mSetV, Mi.mSetF, Mi.mAug, Mi.one, Mi.mRaise, Mi.mRaise0, Mi.mTry, Mi.noEx, Mi.endX, Mi.inX, Mi.mTryAs, Mi.mXf, Mi.dI, Mi.dIc, Mi.dAdd, Mi.dSub, Mi.dLt, Mi.dLe, Mi.dGt, Mi.dGe, Mi.dMul, Mi.dDiv, Mi.dMod, Mi.dPow, Mi.dNeg, Mi.sEq, Mi.ofB, Mi.dEq, Mi.dNe, Mi.isNon, Mi.dIsN, Mi.dNotN, Mi.dInt, Mi.dI1, Mi.dI2, Mi.dAbs, Mi.dMin, Mi.dMax, Mi.dGcd, Mi.dLen1, Mi.dLen, Mi.mLenV, Mi.mIsi, Mi.isub, Mi.D.tn, Mi.dIx, Mi.opC, Mi.negC, Mi.eqC, Mi.ipC, Mi.Rv.d, Mi.mNoP, Mi.asI, Mi.mPart, Mi.mSlL, Mi.asL, Mi.asQ, Mi.mItQ, Mi.mItA, Mi.mFor, Mi.putD, List.map_cons, List.map_nil, List.length_cons, List.length_nil, List.replicate, List.cons_append, List.nil_append, List.getElem?_cons_zero, List.getElem?_cons_succ, List.set_cons_zero, List.set_cons_succ, Nat.sub_self, Nat.reduceAdd, Nat.reduceSub, Nat.reduceEqDiff, List.reverse_cons, id, Bool.not_true, Bool.not_false, if_true, if_false, Bool.false_eq_true, reduceIte, true_and, and_true, and_self, Option.toList, List.all_cons, List.all_nil, Bool.and_true, Bool.true_and, Bool.and_self, decide_true, decide_false, decide_eq_true_eq, reduceCtorEq, Mi.bo_pl, Mi.bo_ow, Mi.bo_rf, Mi.bo_un, Mi.sa_ow, Mi.sa_rf, Mi.sa_pl, Mi.oa_un, Mi.oa_pl, Mi.oa_ow, Mi.co_ow, Mi.co_rf, Mi.co_pl, Mi.st_ow, Mi.st_rf, Mi.lv_ow, Mi.lv_rf, Mi.lv_pl, Mi.ne_un, Mi.ne_pl, Mi.ne_ow, Mi.ne_rf, Mi.ne_se, Mi.ne_ex, Mi.th_un, Mi.th_pl, Mi.ie_ex, Mi.xf_ex, ne_eq, not_false_eq_true, not_true_eq_false, Mi.clr, Mi.putS, Option.isSome_some, Option.some.injEq, Int.reduceEq, Int.reduceNe, Int.reduceLT, Int.reduceLE, Nat.reduceLT, Nat.reduceLeDiff, decide_not, Bool.not_eq_true, Bool.decide_eq_true, Mi.ib_t, Mi.ib_f, Mi.mkR_ex, Mi.bO_s, Mi.rO_f, Mi.rO_t, Mi.dEqA_eq, Mi.eqN_0, Mi.eqN_1, Mi.eqN_2, Mi.eqN_3, Mi.eqB_ins, Mi.eqB_tt, Mi.eqB_ll, Mi.eqB_int, Mi.eqB_str, Mi.eqB_bl, Mi.eqB_non, Mi.eqK_ii, Mi.eqK_ss, Mi.eqK_bb, Mi.eqK_nn, Mi.eqK_ni, Mi.eqK_in, Mi.eqK_ns, Mi.eqK_sn, Mi.eqK_is, Mi.eqK_si, Mi.eqK_nt, Mi.eqK_nl, Mi.eqB_tn, Mi.eqB_ln, Mi.eqLs_nil, Mi.eqLs_nc, Mi.eqLs_cn, Mi.eqLs_cc, Mi.itE_int, Mi.itE_str, Mi.itE_bl, Mi.itE_non, Mi.appT, Mi.asB, Mi.mMakeK, Mi.mDic, Option.bind_some, Mi.mLstV, Mi.lsV, Mi.mTupV, Mi.dList, Mi.dTuple, Mi.mSlT, Mi.asT2, Mi.mIsiT, Mi.enumQ, Mi.dInN, Mi.three, Mi.mPar3, Mi.brw, Mi.mOwn, Mi.mCallB, Mi.mMakeB, Mi.noLx, Mi.noL_tup, Mi.noL_ins, Mi.noL_lst, Mi.noL_int, Mi.noL_str, Mi.noL_bl, Mi.noL_non, Mi.noL_dic, Mi.noLs_nil, Mi.noLs_cons, Mi.noLf_nil, Mi.noLf_cons, List.any_cons, List.any_nil, Bool.or_true, Bool.or_false, Bool.true_or, Bool.false_or, Mi.hd_t, Mi.hd_f, Mi.hf_t, Mi.hf_f, Mi.hd_eq, Mi.mSlV, Mi.cutO, Mi.dLenA, Mi.dLenA1, Mi.lenOf, Mi.dCat, $as,*] $l:location)
open PySem
/-! ### heights: q is z over N, at most M in size -/
def Ht (p : Int) (N M : Nat) (q : Rat) : Prop := p = 0 → 0 < N ∧ ∃ z : Int, q * (N : Rat) = (z : Rat) ∧ z.natAbs ≤ M * N
section
variable {p : Int} {x y q : Rat} {n m N M N' M' k : Nat}
theorem nat_ne {n : Nat} (h : 0 < n) : (n : Rat) ≠ 0 := by
  intro z
  have : ((n : Int) : Rat) = ((0 : Int) : Rat) := z
  have := Rat.intCast_inj.mp this
  omega
theorem ic_mul (a b : Int) : ((a * b : Int) : Rat) = (a : Rat) * (b : Rat) := Rat.intCast_mul a b
theorem ic_add (a b : Int) : ((a + b : Int) : Rat) = (a : Rat) + (b : Rat) := Rat.intCast_add a b
theorem ic_sub (a b : Int) : ((a - b : Int) : Rat) = (a : Rat) - (b : Rat) := Rat.intCast_sub a b
theorem ic_neg (a : Int) : ((-a : Int) : Rat) = -(a : Rat) := Rat.intCast_neg a
theorem nc_mul (a b : Nat) : ((a * b : Nat) : Rat) = (a : Rat) * (b : Rat) := by
  show (((a * b : Nat) : Int) : Rat) = _
  rw [Int.natCast_mul, ic_mul]; rfl
theorem nc_ic (a : Nat) : ((a : Int) : Rat) = (a : Rat) := rfl
theorem Ht.add (hx : Ht p N M x) (hy : Ht p N M' y) : Ht p N (M + M') (x + y) := fun h0 => by
  obtain ⟨n0, a, e1, l1⟩ := hx h0
  obtain ⟨_, b, e2, l2⟩ := hy h0
  refine ⟨n0, a + b, by rw [ic_add, ← e1, ← e2]; grind, ?_⟩
  rw [Nat.add_mul]; omega
theorem Ht.neg (hx : Ht p N M x) : Ht p N M (-x) := fun h0 => by
  obtain ⟨n0, a, e1, l1⟩ := hx h0
  exact ⟨n0, -a, by rw [ic_neg, ← e1]; grind, by rw [Int.natAbs_neg]; exact l1⟩
theorem Ht.sub (hx : Ht p N M x) (hy : Ht p N M' y) : Ht p N (M + M') (x - y) := by
  rw [Rat.sub_eq_add_neg]; exact hx.add hy.neg
theorem Ht.mul (hx : Ht p N M x) (hy : Ht p N' M' y) : Ht p (N * N') (M * M') (x * y) := fun h0 => by
  obtain ⟨n0, a, e1, l1⟩ := hx h0
  obtain ⟨n1, b, e2, l2⟩ := hy h0
  refine ⟨Nat.mul_pos n0 n1, a * b, by rw [ic_mul, ← e1, ← e2, nc_mul]; grind, ?_⟩
  rw [Int.natAbs_mul]
  have := Nat.mul_le_mul l1 l2
  have e : M * N * (M' * N') = M * M' * (N * N') := by rw [Nat.mul_assoc, Nat.mul_assoc, ← Nat.mul_assoc N, Nat.mul_comm N M', Nat.mul_assoc M']
  omega
theorem Ht.up (hx : Ht p N M x) (h1 : N ∣ N') (h2 : 0 < N') (h3 : M ≤ M') : Ht p N' M' x := fun h0 => by
  obtain ⟨n0, a, e1, l1⟩ := hx h0
  obtain ⟨k, rfl⟩ := h1
  have k0 : 0 < k := Nat.pos_of_ne_zero fun z => by rw [z, Nat.mul_zero] at h2; omega
  refine ⟨h2, a * k, by rw [ic_mul, ← e1, nc_mul, nc_ic]; grind, ?_⟩
  rw [Int.natAbs_mul, Int.natAbs_natCast]
  have := Nat.mul_le_mul_right k (Nat.le_trans l1 (Nat.mul_le_mul_right N h3))
  rw [← Nat.mul_assoc]
  exact this
theorem Ht.le (hx : Ht p N M x) (h3 : M ≤ M') : Ht p N M' x := fun h0 => (hx.up (Nat.dvd_refl N) (hx h0).1 h3) h0
theorem Ht.zero (h : 0 < N) : Ht p N M 0 := fun _ => ⟨h, 0, by rw [Rat.zero_mul]; rfl, Nat.zero_le _⟩
theorem Ht.int {i : Int} (h : 0 < N) (hi : i.natAbs ≤ M) : Ht p N M (i : Rat) := fun _ => ⟨h, i * N, by rw [ic_mul, nc_ic], by rw [Int.natAbs_mul, Int.natAbs_natCast]; exact Nat.mul_le_mul_right N hi⟩
theorem Ht.rb (hx : Ht p N M x) (h0 : p = 0) (h1 : M * N < 2 ^ n) (h2 : N < 2 ^ n) : RB n x := by
  obtain ⟨n0, a, e1, l1⟩ := hx h0
  have e : x = Rat.divInt a N := by
    have hn := nat_ne n0
    rw [Rat.divInt_eq_div, ← e1, nc_ic, Rat.mul_div_cancel hn]
  rw [e]
  exact RB.divInt (by omega) (Nat.lt_of_le_of_lt l1 h1) (by unfold Bd; rw [Int.natAbs_natCast]; exact h2)
theorem Ht.sz (hx : Ht p N M x) (h1 : M * N < 2 ^ n) (h2 : N < 2 ^ n) : Sz p n x := fun h0 => hx.rb h0 h1 h2
theorem Ht.pf (h : PF p) : Ht p N M x := fun z => absurd z h.ne
theorem Ht.divInt {a b : Int} (hb : 0 < b) (h60 : b ∣ N) (hN : 0 < N) (ha : a.natAbs ≤ M * b.natAbs) : Ht p N M (Rat.divInt a b) := fun _ => by
  obtain ⟨k, hk⟩ := h60
  refine ⟨hN, a * k, ?_, ?_⟩
  · have e : ((N : Nat) : Rat) = (b : Rat) * (k : Rat) := by rw [← ic_mul, ← hk]; rfl
    have hb' : (b : Rat) ≠ 0 := by
      intro z
      have z2 : ((b : Int) : Rat) = ((0 : Int) : Rat) := z
      have z3 : b = 0 := Rat.intCast_inj.mp z2
      omega
    rw [e, Rat.divInt_eq_div, ic_mul]
    have := Rat.div_mul_cancel (a := (a : Rat)) hb'
    grind
  · have hN2 : N = b.natAbs * k.natAbs := by
      have := congrArg Int.natAbs hk
      rw [Int.natAbs_mul, Int.natAbs_natCast] at this
      exact this
    rw [Int.natAbs_mul, hN2, ← Nat.mul_assoc]
    exact Nat.mul_le_mul_right _ ha
/-! ### differences -/
noncomputable def fsub (p : Int) (x y : Rat) : Rat := ib (decide (p = 0)) (x - y) (((x.num - y.num) % p : Int) : Rat)
theorem fsub0 (h : p = 0) : fsub p x y = x - y := by unfold fsub; rw [decide_eq_true h]; rfl
theorem fsubP (h : PF p) : fsub p x y = (((x.num - y.num) % p : Int) : Rat) := by unfold fsub; rw [decide_eq_false h.ne]; rfl
theorem fsub_cn (h : FOk p) : Cn p (fsub p x y) := by
  rcases h.cases with h0 | h
  · exact .inl h0
  · rw [fsubP h]; exact cn_mod h _
theorem fadd_ht (hx : Ht p N M x) (hy : Ht p N M' y) : Ht p N (M + M') (fadd p x y) := fun h0 => by rw [fadd0 h0]; exact (hx.add hy) h0
theorem fsub_ht (hx : Ht p N M x) (hy : Ht p N M' y) : Ht p N (M + M') (fsub p x y) := fun h0 => by rw [fsub0 h0]; exact (hx.sub hy) h0
theorem fmul_ht (hx : Ht p N M x) (hy : Ht p N' M' y) : Ht p (N * N') (M * M') (fmul p x y) := fun h0 => by rw [fmul0 h0]; exact (hx.mul hy) h0
theorem e_minus (h : FOk p) (hx : Cn p x) (hy : Cn p y) (sx : Sz p n x) (sy : Sz p m y) (e : n + m ≤ 134217728) : m__law_minus [.int p, pr x, pr y] = .ok (.pl (pr (fsub p x y))) := by
  unfold m__law_minus b__law_minus
  rcases h.cases with h0 | h
  · have sx := sx h0
    have sy := sy h0
    have ep := e_pair0 h0 (a := x.num * y.den - y.num * x.den) (b := x.den * y.den) (Int.mul_ne_zero (den_ne x) (den_ne y))
    rw [q_sub] at ep
    simp! only [-Mi.dIx, pr_0, pr_1, sx.num.mulOk sy.den e, sy.num.mulOk sx.den (by omega), sx.den.mulOk sy.den e, ep, fsub0 h0]
  · have ep := e_pairP h (x.num - y.num)
    rw [← fsubP h] at ep
    have o1 : mulOk 1 1 = true := mulOk_l (by decide) (by decide)
    simp! only [-Mi.dIx, pr_0, pr_1, cn_den h hx, cn_den h hy, cn_ok h hx, cn_ok h hy, o1, Int.mul_one, ep]
/-! ### draws -/
theorem number_exH (h : FOk p) (s : Dz) : ∃ (q : Rat) (s' : Dz), Cn p q ∧ Ht p 60 9 q ∧ m__law_number s.c [.int p] = some (.pl (pr q), s'.c) := by
  unfold m__law_number b__law_number
  rcases h.cases with h0 | h
  · have z : ¬ 0 < p := by omega
    obtain ⟨k, s1, a0, a1, ea⟩ := draw_ex s 6 (by decide)
    by_cases k0 : k = 0
    · refine ⟨0, s1, .inl h0, Ht.zero (by decide), ?_⟩
      simp! only [z, ea, k0]
      rfl
    by_cases k1 : k = 1
    · obtain ⟨r, s2, b0, b1, eb⟩ := draw_ex s1 19 (by decide)
      obtain ⟨t, s3, c0, c1, ec⟩ := draw_ex s2 6 (by decide)
      have ep := e_pair0 (p := 0) rfl (a := r - 9) (b := 1 + t) (by omega)
      have hd : (1 + t) ∣ ((60 : Nat) : Int) := by
        have : t = 0 ∨ t = 1 ∨ t = 2 ∨ t = 3 ∨ t = 4 ∨ t = 5 := by omega
        rcases this with rfl | rfl | rfl | rfl | rfl | rfl <;> decide
      refine ⟨Rat.divInt (r - 9) (1 + t), s3, .inl h0, Ht.divInt (by omega) hd (by decide) (by omega), ?_⟩
      simp! only [z, ea, k0, k1, eb, ec, ep]
    · obtain ⟨r, s2, b0, b1, eb⟩ := draw_ex s1 7 (by decide)
      refine ⟨((r - 3 : Int) : Rat), s2, .inl h0, Ht.int (by decide) (by omega), ?_⟩
      rw [pr_int]
      simp! only [z, ea, k0, k1, eb]
  · obtain ⟨r, s1, a0, a1, ea⟩ := draw_ex s p h.pos
    refine ⟨(r : Rat), s1, .inr ⟨rfl, a0, a1⟩, Ht.pf h, ?_⟩
    rw [pr_int]
    simp! only [h.pos, ea]
theorem one_cn (h : FOk p) : Cn p 1 := by
  rcases h.cases with h0 | h
  · exact .inl h0
  · exact .inr ⟨rfl, by decide, h.pr.1⟩
theorem pr1 : D.tup [.int 1, .int 1] = pr 1 := rfl
theorem unit_ex (h : FOk p) (s : Dz) : ∃ (q : Rat) (s' : Dz), Cn p q ∧ Ht p 60 9 q ∧ q ≠ 0 ∧ m__law_unit s.c [.int p] = some (.pl (pr q), s'.c) := by
  obtain ⟨q, s1, c1, c2, e⟩ := number_exH h s
  unfold m__law_unit b__law_unit
  by_cases z : q = 0
  · refine ⟨1, s1, one_cn h, Ht.int (i := 1) (by decide) (by decide), by decide, ?_⟩
    have z2 : q.num = 0 := num_zero_iff.mpr z
    simp! only [-Mi.dIx, e, pr_0, z2, pr1]
  · refine ⟨q, s1, c1, c2, z, ?_⟩
    have z2 : ¬ q.num = 0 := fun w => z (num_zero_iff.mp w)
    simp! only [-Mi.dIx, e, pr_0, z2]
theorem small_loopH (h : FOk p) {z : D} : ∀ (ds : List D) (s : Dz), ∃ (qs : List Rat) (s' : Dz), qs.length = ds.length ∧ (∀ q ∈ qs, Cn p q ∧ Ht p 60 9 q) ∧
    lcL (lcTurn 3 (ret true) le__law_small_0) ds [.rf s.c, .pl (.int p), .pl z, .un] = .ok (qs.map pr) [.rf s'.c, .pl (.int p), .pl z, .un]
  | [], s => ⟨[], s, rfl, (fun _ hq => nomatch hq), rfl⟩
  | d :: ds, s => by
    obtain ⟨q, s1, c1, c2, e1⟩ := number_exH h s
    obtain ⟨qs, s2, hl, hq, e2⟩ := small_loopH h (z := z) ds s1
    refine ⟨q :: qs, s2, by rw [List.length_cons, List.length_cons, hl], fun y hy => ?_, ?_⟩
    · rcases List.mem_cons.mp hy with rfl | hy
      · exact ⟨c1, c2⟩
      · exact hq y hy
    · have e3 : le__law_small_0 [.rf s.c, .pl (.int p), .pl z, .pl d] = .ok (pr q) [.rf s1.c, .pl (.int p), .pl z, .pl d] := by unfold le__law_small_0; simp! only [e1]
      simp! only [Mi.lcL, Mi.lcTurn, e3, e2]
theorem rngL_len (i : Int) (n : Nat) : (rngL i n).length = n := by unfold rngL; simp
theorem small_exH (h : FOk p) (s : Dz) (n : Nat) (hn : n ≤ 100) : ∃ (qs : List Rat) (s' : Dz), qs.length = n ∧ (∀ q ∈ qs, Cn p q ∧ Ht p 60 9 q) ∧ m__law_small s.c [.int p, .int (n : Int)] = some (.nw (qs.map pr), s'.c) := by
  obtain ⟨qs, s', hl, hq, e⟩ := small_loopH h (z := .int (n : Int)) (rngL 0 n) s
  rw [rngL_len] at hl
  have e1 : (rngL 0 n).length < 1000000 := by rw [rngL_len]; omega
  refine ⟨qs, s', hl, hq, ?_⟩
  unfold m__law_small b__law_small
  simp! only [Mi.mLc, rng1_nat hn, e1, e]
end
end Mi

namespace Mi
local macro_rules | `(tactic| simp! only [$as,*]) => `(tactic| simp only [Mi.runM, Mi.runI, Mi.runR, Mi.outF, Mi.outI, Mi.outR, Mi.startE, Mi.bnd, Mi.ret, Mi.lift, Mi.fail, Mi.mVar, Mi.mC, Mi.mBin, Mi.mBinN, Mi.mUn, Mi.mFld, Mi.mFrz, Mi.mB, Mi.tru, Mi.mAnd, Mi.mOr, Mi.mNot, Mi.mAndV, Mi.mOrV, Mi.mNotV, Mi.mIf, Mi.mChain, Mi.mNil, Mi.mCons, Mi.mTup, Mi.mLst, Mi.mCB, Mi.mCBn, Mi.mIdxV, Mi.mSkip, Mi.thenF, Mi.mSeq, Mi.sto, Mi.mAsg, Mi.mAsgN, Mi.two, Mi.mPar, Mi.mDrop, Mi.mRet, Mi.mRetN, Mi.mRetV, Mi.mIfS, Mi.againF, Mi.gV, Mi.gsN, Mi.gsC, Mi.gT, Mi.mAsgT, Mi.tgt, Mi.mCall, Mi.frzR, Mi.newR, Mi.mCallN, Mi.recv, Mi.mMeth, Mi.mMethN, Mi.mMake, Mi.callR, Mi.mCallR, Mi.newM, Mi.mCallRN, Mi.mApp, Mi.mRev, Mi.setAt, Mi.mSetV, Mi.mSetF, Mi.mAug, Mi.one, Mi.mRaise, Mi.mRaise0, Mi.mTry, Mi.noEx, Mi.endX, Mi.inX, Mi.mTryAs, Mi.mXf, Mi.dI, Mi.dIc, Mi.dAdd, Mi.dSub, Mi.dLt, Mi.dLe, Mi.dGt, Mi.dGe, Mi.dMul, Mi.dDiv, Mi.dMod, Mi.dPow, Mi.dNeg, Mi.sEq, Mi.ofB, Mi.dEq, Mi.dNe, Mi.isNon, Mi.dIsN, Mi.dNotN, Mi.dInt, Mi.dI1, Mi.dI2, Mi.dAbs, Mi.dMin, Mi.dMax, Mi.dGcd, Mi.dLen1, Mi.dLen, Mi.mLenV, Mi.mIsi, Mi.isub, Mi.D.tn, Mi.dIx, Mi.opC, Mi.negC, Mi.eqC, Mi.ipC, Mi.Rv.d, Mi.mNoP, Mi.asI, Mi.mPart, Mi.mSlL, Mi.asL, Mi.asQ, Mi.mItQ, Mi.mItA, Mi.mFor, Mi.putD, List.map_cons, List.map_nil, List.length_cons, List.length_nil, List.replicate, List.cons_append, List.nil_append, List.getElem?_cons_zero, List.getElem?_cons_succ, List.set_cons_zero, List.set_cons_succ, Nat.sub_self, Nat.reduceAdd, Nat.reduceSub, Nat.reduceEqDiff, List.reverse_cons, id, Bool.not_true, Bool.not_false, if_true, if_false, Bool.false_eq_true, reduceIte, true_and, and_true, and_self, Option.toList, List.all_cons, List.all_nil, Bool.and_true, Bool.true_and, Bool.and_self, decide_true, decide_false, decide_eq_true_eq, reduceCtorEq, Mi.bo_pl, Mi.bo_ow, Mi.bo_rf, Mi.bo_un, Mi.sa_ow, Mi.sa_rf, Mi.sa_pl, Mi.oa_un, Mi.oa_pl, Mi.oa_ow, Mi.co_ow, Mi.co_rf, Mi.co_pl, Mi.st_ow, Mi.st_rf, Mi.lv_ow, Mi.lv_rf, Mi.lv_pl, Mi.ne_un, Mi.ne_pl, Mi.ne_ow, Mi.ne_rf, Mi.ne_se, Mi.ne_ex, Mi.th_un, Mi.th_pl, Mi.ie_ex, Mi.xf_ex, ne_eq, not_false_eq_true, not_true_eq_false, Mi.clr, Mi.putS, Option.isSome_some, Option.some.injEq, Int.reduceEq, Int.reduceNe, Int.reduceLT, Int.reduceLE, Nat.reduceLT, Nat.reduceLeDiff, decide_not, Bool.not_eq_true, Bool.decide_eq_true, Mi.ib_t, Mi.ib_f, Mi.mkR_ex, Mi.bO_s, Mi.rO_f, Mi.rO_t, Mi.dEqA_eq, Mi.eqN_0, Mi.eqN_1, Mi.eqN_2, Mi.eqN_3, Mi.eqB_ins, Mi.eqB_tt, Mi.eqB_ll, Mi.eqB_int, Mi.eqB_str, Mi.eqB_bl, Mi.eqB_non, Mi.eqK_ii, Mi.eqK_ss, Mi.eqK_bb, Mi.eqK_nn, Mi.eqK_ni, Mi.eqK_in, Mi.eqK_ns, Mi.eqK_sn, Mi.eqK_is, Mi.eqK_si, Mi.eqK_nt, Mi.eqK_nl, Mi.eqB_tn, Mi.eqB_ln, Mi.eqLs_nil, Mi.eqLs_nc, Mi.eqLs_cn, Mi.eqLs_cc, Mi.itE_int, Mi.itE_str, Mi.itE_bl, Mi.itE_non, Mi.appT, Mi.asB, Mi.mMakeK, Mi.mDic, Option.bind_some, Mi.mLstV, Mi.lsV, Mi.mTupV, Mi.dList, Mi.dTuple, Mi.mSlT, Mi.asT2, Mi.mIsiT, Mi.enumQ, Mi.dInN, Mi.three, Mi.mPar3, Mi.brw, Mi.mOwn, Mi.mCallB, Mi.mMakeB, Mi.noLx, Mi.noL_tup, Mi.noL_ins, Mi.noL_lst, Mi.noL_int, Mi.noL_str, Mi.noL_bl, Mi.noL_non, Mi.noL_dic, Mi.noLs_nil, Mi.noLs_cons, Mi.noLf_nil, Mi.noLf_cons, List.any_cons, List.any_nil, Bool.or_true, Bool.or_false, Bool.true_or, Bool.false_or, Mi.hd_t, Mi.hd_f, Mi.hf_t, Mi.hf_f, Mi.hd_eq, Mi.mSlV, Mi.cutO, Mi.dLenA, Mi.dLenA1, Mi.lenOf, Mi.dCat, $as,*]) | `(tactic| simp! only [$as,*] $l:location) => `(tactic| simp only [Mi.runM, Mi.runI, Mi.runR, Mi.outF, Mi.outI, Mi.outR, Mi.startE, Mi.bnd, Mi.ret, Mi.lift, Mi.fail, Mi.mVar, Mi.mC, Mi.mBin, Mi.mBinN, Mi.mUn, Mi.mFld, Mi.mFrz, Mi.mB, Mi.tru, Mi.mAnd, Mi.mOr, Mi.mNot, Mi.mAndV, Mi.mOrV, Mi.mNotV, Mi.mIf, Mi.mChain, Mi.mNil, Mi.mCons, Mi.mTup, Mi.mLst, Mi.mCB, Mi.mCBn, Mi.mIdxV, Mi.mSkip, Mi.thenF, Mi.mSeq, Mi.sto, Mi.mAsg, Mi.mAsgN, Mi.two, Mi.mPar, Mi.mDrop, Mi.mRet, Mi.mRetN, Mi.mRetV, Mi.mIfS, Mi.againF, Mi.gV, Mi.gsN, Mi.gsC, Mi.gT, Mi.mAsgT, Mi.tgt, Mi.mCall, Mi.frzR, Mi.newR, Mi.mCallN, Mi.recv, Mi.mMeth, Mi.mMethN, Mi.mMake, Mi.callR, Mi.mCallR, Mi.newM, Mi.mCallRN, Mi.mApp, Mi.mRev, Mi.setAt, Mi.mSetV, Mi.mSetF, Mi.mAug, Mi.one, Mi.mRaise, Mi.mRaise0, Mi.mTry, Mi.noEx, Mi.endX, Mi.inX, Mi.mTryAs, Mi.mXf, Mi.dI, Mi.dIc, Mi.dAdd, Mi.dSub, Mi.dLt, Mi.dLe, Mi.dGt, Mi.dGe, Mi.dMul, Mi.dDiv, Mi.dMod, Mi.dPow, Mi.dNeg, Mi.sEq, Mi.ofB, Mi.dEq, Mi.dNe, Mi.isNon, Mi.dIsN, Mi.dNotN, Mi.dInt, Mi.dI1, Mi.dI2, Mi.dAbs, Mi.dMin, Mi.dMax, Mi.dGcd, Mi.dLen1, Mi.dLen, Mi.mLenV, Mi.mIsi, Mi.isub, Mi.D.tn, Mi.dIx, Mi.opC, Mi.negC, Mi.eqC, Mi.ipC, Mi.Rv.d, Mi.mNoP, Mi.asI, Mi.mPart, Mi.mSlL, Mi.asL, Mi.asQ, Mi.mItQ, Mi.mItA, Mi.mFor, Mi.putD, List.map_cons, List.map_nil, List.length_cons, List.length_nil, List.replicate, List.cons_append, List.nil_append, List.getElem?_cons_zero, List.getElem?_cons_succ, List.set_cons_zero, List.set_cons_succ, Nat.sub_self, Nat.reduceAdd, Nat.reduceSub, Nat.reduceEqDiff, List.reverse_cons, id, Bool.not_true, Bool.not_false, if_true, if_false, Bool.false_eq_true, reduceIte, true_and, and_true, and_self, Option.toList, List.all_cons, List.all_nil, Bool.and_true, Bool.true_and, Bool.and_self, decide_true, decide_false, decide_eq_true_eq, reduceCtorEq, Mi.bo_pl, Mi.bo_ow, Mi.bo_rf, Mi.bo_un, Mi.sa_ow, Mi.sa_rf, Mi.sa_pl, Mi.oa_un, Mi.oa_pl, Mi.oa_ow, Mi.co_ow, Mi.co_rf, Mi.co_pl, Mi.st_ow, Mi.st_rf, Mi.lv_ow, Mi.lv_rf, Mi.lv_pl, Mi.ne_un, Mi.ne_pl, Mi.ne_ow, Mi.ne_rf, Mi.ne_se, Mi.ne_ex, Mi.th_un, Mi.th_pl, Mi.ie_ex, Mi.xf_ex, ne_eq, not_false_eq_true, not_true_eq_false, Mi.clr, Mi.putS, Option.isSome_some, Option.some.injEq, Int.reduceEq, Int.reduceNe, Int.reduceLT, Int.reduceLE, Nat.reduceLT, Nat.reduceLeDiff, decide_not, Bool.not_eq_true, Bool.decide_eq_true, Mi.ib_t, Mi.ib_f, Mi.mkR_ex, Mi.bO_s, Mi.rO_f, Mi.rO_t, Mi.dEqA_eq, Mi.eqN_0, Mi.eqN_1, Mi.eqN_2, Mi.eqN_3, Mi.eqB_ins, Mi.eqB_tt, Mi.eqB_ll, Mi.eqB_int, Mi.eqB_str, Mi.eqB_bl, Mi.eqB_non, Mi.eqK_ii, Mi.eqK_ss, Mi.eqK_bb, Mi.eqK_nn, Mi.eqK_ni, Mi.eqK_in, Mi.eqK_ns, Mi.eqK_sn, Mi.eqK_is, Mi.eqK_si, Mi.eqK_nt, Mi.eqK_nl, Mi.eqB_tn, Mi.eqB_ln, Mi.eqLs_nil, Mi.eqLs_nc, Mi.eqLs_cn, Mi.eqLs_cc, Mi.itE_int, Mi.itE_str, Mi.itE_bl, Mi.itE_non, Mi.appT, Mi.asB, Mi.mMakeK, Mi.mDic, Option.bind_some, Mi.mLstV, Mi.lsV, Mi.mTupV, Mi.dList, Mi.dTuple, Mi.mSlT, Mi.asT2, Mi.mIsiT, Mi.enumQ, Mi.dInN, Mi.three, Mi.mPar3, Mi.brw, Mi.mOwn, Mi.mCallB, Mi.mMakeB, Mi.noLx, Mi.noL_tup, Mi.noL_ins, Mi.noL_lst, Mi.noL_int, Mi.noL_str, Mi.noL_bl, Mi.noL_non, Mi.noL_dic, Mi.noLs_nil, Mi.noLs_cons, Mi.noLf_nil, Mi.noLf_cons, List.any_cons, List.any_nil, Bool.or_true, Bool.or_false, Bool.true_or, Bool.false_or, Mi.hd_t, Mi.hd_f, Mi.hf_t, Mi.hf_f, Mi.hd_eq, Mi.mSlV, Mi.cutO, Mi.dLenA, Mi.dLenA1, Mi.lenOf, Mi.dCat, $as,*] $l:location)
open PySem
section
variable {p : Int} {x y q t : Rat} {n m N M NN P MM k i : Nat} {qs top bot f : List Rat} {T c : D}
theorem rngL_cons (i : Int) (m : Nat) : rngL i (m + 1) = .int i :: rngL (i + 1) m := by
  unfold rngL
  rw [List.range_succ_eq_map, List.map_cons, List.map_map]
  congr 1
  · congr 1; omega
  · apply List.map_congr_left
    intro a _
    show D.int _ = D.int _
    congr 1
    show i + ((a + 1 : Nat) : Int) = i + 1 + a
    omega
theorem rngL_nil (i : Int) : rngL i 0 = [] := rfl
theorem natS (i : Nat) : ((i + 1 : Nat) : Int) = (i : Int) + 1 := by omega
theorem pr0 : D.tup [.int 0, .int 1] = pr 0 := rfl
theorem set_pr (j : Nat) (q : Rat) : (qs.map pr).set j (pr q) = (qs.set j q).map pr := List.map_set.symm
theorem ixN_nt {n j : Nat} (hj : j < n) : L2.ixN n (j : Int) = some j := by
  unfold L2.ixN
  rw [if_pos (by omega), if_pos (by omega)]
  simp
theorem getD_app {a : Rat} {j : Nat} (h : j < qs.length) : (qs ++ [a]).getD j 0 = qs.getD j 0 := by
  rw [List.getD_eq_getElem?_getD, List.getD_eq_getElem?_getD, List.getElem?_append_left h]
theorem getD_last {a : Rat} : (qs ++ [a]).getD qs.length 0 = a := by
  rw [List.getD_eq_getElem?_getD, List.getElem?_append_right (Nat.le_refl _), Nat.sub_self]; rfl
theorem getD_none {j : Nat} (h : qs.length ≤ j) : qs.getD j 0 = 0 := by
  rw [List.getD_eq_getElem?_getD, List.getElem?_eq_none h]; rfl
theorem getD_P {Q : Rat → Prop} (h0 : Q 0) (h : ∀ q ∈ qs, Q q) (j : Nat) : Q (qs.getD j 0) := by
  by_cases hj : j < qs.length
  · exact h _ (getD_mem hj)
  · rw [getD_none (by omega)]; exact h0
/-! ### the power series of a fraction -/
noncomputable def inn (p : Int) (bot f : List Rat) (k : Nat) : Nat → Nat → Rat → Rat
  | 0, _, t => t
  | m + 1, i, t => inn p bot f k m (i + 1) (fsub p t (fmul p (bot.getD i 0) (f.getD (k - i) 0)))
noncomputable def expd (p : Int) (top bot : List Rat) : Nat → List Rat
  | 0 => []
  | k + 1 => expd p top bot k ++ [inn p bot (expd p top bot k) k (min (k + 1) bot.length - 1) 1 (top.getD k 0)]
theorem expd_len : ∀ k, (expd p top bot k).length = k
  | 0 => rfl
  | k + 1 => by unfold expd; rw [List.length_append, expd_len k]; rfl
theorem inn_cn (h : FOk p) : ∀ (m i : Nat) (t : Rat), Cn p t → Cn p (inn p bot f k m i t)
  | 0, _, _, ht => ht
  | m + 1, i, t, _ => inn_cn h m (i + 1) _ (fsub_cn h)
theorem inn_ht (hP : ∀ i, 1 ≤ i → i ≤ k → Ht p NN P (fmul p (bot.getD i 0) (f.getD (k - i) 0))) : ∀ (m i MM : Nat) (t : Rat), 1 ≤ i → i + m ≤ k + 1 → Ht p NN MM t → Ht p NN (MM + m * P) (inn p bot f k m i t)
  | 0, _, MM, t, _, _, ht => by rw [Nat.zero_mul, Nat.add_zero]; exact ht
  | m + 1, i, MM, t, h1, h2, ht => by
    have := inn_ht hP m (i + 1) (MM + P) _ (by omega) (by omega) (fsub_ht ht (hP i h1 (by omega)))
    rw [Nat.succ_mul, show MM + (m * P + P) = MM + P + m * P by omega]
    exact this
theorem inn_loop (h : FOk p) (hk : k ≤ f.length) (hb : ∀ q ∈ bot, Cn p q ∧ Sz p n q) (hf : ∀ q ∈ f, Cn p q ∧ Sz p n q) (hn : n ≤ 33554432) (hP : ∀ i, 1 ≤ i → i ≤ k → Ht p NN P (fmul p (bot.getD i 0) (f.getD (k - i) 0))) (hNN : NN < 2 ^ n) (B : Nat) (hB : B * NN < 2 ^ n) :
    ∀ (m i MM : Nat) (t : Rat) (u : Sl), okAsg (some u) = true → 1 ≤ i → i + m ≤ k + 1 → (m = 0 ∨ i + m ≤ bot.length) → MM + m * P ≤ B → Cn p t → Ht p NN MM t →
    ∃ u', okAsg (some u') = true ∧ forL (gV 7) lb__law_expansion_0 (rngL i m) [.pl (.int p), .pl T, .pl (.lst (bot.map pr)), .pl c, .ow (f.map pr), .pl (.int k), .pl (pr t), u] = .ok .nx [.pl (.int p), .pl T, .pl (.lst (bot.map pr)), .pl c, .ow (f.map pr), .pl (.int k), .pl (pr (inn p bot f k m i t)), u']
  | 0, i, MM, t, u, hu, _, _, _, _, _, _ => ⟨u, hu, rfl⟩
  | m + 1, i, MM, t, u, hu, h1, h2, h3, h4, ct, ht => by
    rw [Nat.succ_mul] at h4
    have b1 := hb _ (getD_mem (qs := bot) (j := i) (by omega))
    have f1 := hf _ (getD_mem (qs := f) (j := k - i) (by omega))
    have e1 := e_times h b1.1 f1.1 b1.2 f1.2 (by omega)
    have e2 := e_minus (n := n) (m := n + n) h ct (fmul_cn h) (ht.sz (Nat.lt_of_le_of_lt (Nat.mul_le_mul_right NN (by omega)) hB) hNN) (fmul_sz b1.2 f1.2) (by omega)
    obtain ⟨u', hu', e3⟩ := inn_loop h hk hb hf hn hP hNN B hB m (i + 1) (MM + P) (fsub p t (fmul p (bot.getD i 0) (f.getD (k - i) 0))) (.pl (.int i)) rfl (by omega) (by omega) (by omega) (by omega) (fsub_cn h) (fsub_ht ht (hP i h1 (by omega)))
    refine ⟨u', hu', ?_⟩
    have e4 : (k : Int) - (i : Int) = ((k - i : Nat) : Int) := by omega
    have e5 : lb__law_expansion_0 [.pl (.int p), .pl T, .pl (.lst (bot.map pr)), .pl c, .ow (f.map pr), .pl (.int k), .pl (pr t), .pl (.int i)] = .ok .nx [.pl (.int p), .pl T, .pl (.lst (bot.map pr)), .pl c, .ow (f.map pr), .pl (.int k), .pl (pr (fsub p t (fmul p (bot.getD i 0) (f.getD (k - i) 0)))), .pl (.int i)] := by
      unfold lb__law_expansion_0
      simp! only [listAt_el pr (by omega : i < bot.length), e4, listAt_el pr (by omega : k - i < f.length), e1, e2]
    rw [natS] at e3
    rw [rngL_cons]
    simp! only [Mi.forL, hu, e5, e3]
    rfl
/-- sizes of the coefficients -/
theorem pw_le {a k m : Nat} (ha : 0 < a) (h : k ≤ m) : a ^ k ≤ a ^ m := Nat.pow_le_pow_right ha h
theorem sz_k (hk : k ≤ 100) : 63 ^ (k + 1) * 60 ^ (k + 1) < 2 ^ 1300 ∧ 60 ^ (k + 1) < 2 ^ 1300 := by
  have h1 := pw_le (a := 63) (by decide) (show k + 1 ≤ 101 by omega)
  have h2 := pw_le (a := 60) (by decide) (show k + 1 ≤ 101 by omega)
  have h3 : 63 ^ 101 * 60 ^ 101 < 2 ^ 1300 := by decide
  have h4 : 60 ^ 101 < 2 ^ 1300 := by decide
  exact ⟨Nat.lt_of_le_of_lt (Nat.mul_le_mul h1 h2) h3, Nat.lt_of_le_of_lt h2 h4⟩
theorem ht_sz {j : Nat} (hj : j ≤ 100) (h : Ht p (60 ^ (j + 1)) (63 ^ (j + 1)) q) : Sz p 1300 q := h.sz (sz_k hj).1 (sz_k hj).2
theorem prod_ht (hb : ∀ q ∈ bot, Cn p q ∧ Ht p 60 9 q) (hf : ∀ j < k, Ht p (60 ^ (j + 1)) (63 ^ (j + 1)) (f.getD j 0)) (i : Nat) (h1 : 1 ≤ i) (h2 : i ≤ k) : Ht p (60 ^ (k + 1)) (9 * 63 ^ k) (fmul p (bot.getD i 0) (f.getD (k - i) 0)) := by
  have hbi : Ht p 60 9 (bot.getD i 0) := getD_P (Q := Ht p 60 9) (Ht.zero (by decide)) (fun q hq => (hb q hq).2) i
  have := fmul_ht hbi (hf (k - i) (by omega))
  refine this.up ?_ (Nat.pow_pos (by decide)) (Nat.mul_le_mul_left 9 (pw_le (by decide) (by omega)))
  rw [show 60 * 60 ^ (k - i + 1) = 60 ^ (k - i + 2) by rw [Nat.pow_succ (n := 60) (m := k - i + 1), Nat.mul_comm]]
  exact Nat.pow_dvd_pow 60 (by omega)
theorem step_le (hm : m ≤ 6) : 9 + m * (9 * 63 ^ k) ≤ 63 ^ (k + 1) := by
  have h0 : 0 < 63 ^ k := Nat.pow_pos (by decide)
  have h1 : m * (9 * 63 ^ k) ≤ 6 * (9 * 63 ^ k) := Nat.mul_le_mul_right _ hm
  rw [Nat.pow_succ]
  omega
theorem expd_ok (h : FOk p) (ht : ∀ q ∈ top, Cn p q ∧ Ht p 60 9 q) (hb : ∀ q ∈ bot, Cn p q ∧ Ht p 60 9 q) (hl : bot.length ≤ 7) : ∀ k, ∀ j < k, Cn p ((expd p top bot k).getD j 0) ∧ Ht p (60 ^ (j + 1)) (63 ^ (j + 1)) ((expd p top bot k).getD j 0)
  | 0, j, hj => by omega
  | k + 1, j, hj => by
    have ih := expd_ok h ht hb hl k
    unfold expd
    by_cases z : j = k
    · subst z
      have e := getD_last (qs := expd p top bot j) (a := inn p bot (expd p top bot j) j (min (j + 1) bot.length - 1) 1 (top.getD j 0))
      rw [expd_len] at e
      rw [e]
      refine ⟨inn_cn h _ _ _ (getD_P (Q := Cn p) (Cn.z h) (fun q hq => (ht q hq).1) j), ?_⟩
      have t1 : Ht p (60 ^ (j + 1)) 9 (top.getD j 0) := (getD_P (Q := Ht p 60 9) (Ht.zero (by decide)) (fun q hq => (ht q hq).2) j).up (Nat.dvd_trans (by decide : 60 ∣ 60 ^ 1) (Nat.pow_dvd_pow 60 (by omega))) (Nat.pow_pos (by decide)) (Nat.le_refl _)
      exact (inn_ht (prod_ht hb fun i hi => (ih i hi).2) (min (j + 1) bot.length - 1) 1 9 _ (by omega) (by omega) t1).le (step_le (by omega))
    · rw [getD_app (by rw [expd_len]; omega)]
      exact ih j (by omega)
theorem expd_mem (h : FOk p) (ht : ∀ q ∈ top, Cn p q ∧ Ht p 60 9 q) (hb : ∀ q ∈ bot, Cn p q ∧ Ht p 60 9 q) (hl : bot.length ≤ 7) (hk : k ≤ 100) : ∀ q ∈ expd p top bot k, Cn p q ∧ Sz p 1300 q := fun q hq => by
  obtain ⟨j, hj, rfl⟩ := List.mem_iff_getElem.mp hq
  have hj2 := hj
  rw [expd_len] at hj2
  have := expd_ok h ht hb hl k j hj2
  rw [List.getD_eq_getElem?_getD, List.getElem?_eq_getElem hj] at this
  exact ⟨this.1, ht_sz (by omega) this.2⟩
theorem exp_loop (h : FOk p) (ht : ∀ q ∈ top, Cn p q ∧ Ht p 60 9 q) (hb : ∀ q ∈ bot, Cn p q ∧ Ht p 60 9 q) (hl : bot.length ≤ 7) (hl2 : top.length ≤ 1000) : ∀ (m k : Nat) (u5 u6 u7 : Sl), okAsg (some u5) = true → okAsg (some u6) = true → okAsg (some u7) = true → k + m ≤ 100 →
    ∃ u5' u6' u7', forL (gV 5) lb__law_expansion_1 (rngL k m) [.pl (.int p), .pl (.lst (top.map pr)), .pl (.lst (bot.map pr)), .pl c, .ow ((expd p top bot k).map pr), u5, u6, u7] = .ok .nx [.pl (.int p), .pl (.lst (top.map pr)), .pl (.lst (bot.map pr)), .pl c, .ow ((expd p top bot (k + m)).map pr), u5', u6', u7']
  | 0, k, u5, u6, u7, _, _, _, _ => ⟨u5, u6, u7, rfl⟩
  | m + 1, k, u5, u6, u7, h5, h6, h7, hk => by
    have t1 : Ht p (60 ^ (k + 1)) 9 (top.getD k 0) := (getD_P (Q := Ht p 60 9) (Ht.zero (by decide)) (fun q hq => (ht q hq).2) k).up (Nat.dvd_trans (by decide : 60 ∣ 60 ^ 1) (Nat.pow_dvd_pow 60 (by omega))) (Nat.pow_pos (by decide)) (Nat.le_refl _)
    have hbS : ∀ q ∈ bot, Cn p q ∧ Sz p 1300 q := fun q hq => ⟨(hb q hq).1, (hb q hq).2.sz (by decide) (by decide)⟩
    obtain ⟨u7', hu7, e1⟩ := inn_loop (T := .lst (top.map pr)) (c := c) (f := expd p top bot k) (k := k) h (by rw [expd_len]; exact Nat.le_refl _) hbS (expd_mem h ht hb hl (by omega)) (by decide) (prod_ht hb fun i hi => (expd_ok h ht hb hl k i hi).2) (sz_k (by omega)).2 (63 ^ (k + 1)) (sz_k (by omega)).1 (min (k + 1) bot.length - 1) 1 9 (top.getD k 0) u7 h7 (by omega) (by omega) (by omega) (step_le (by omega)) (getD_P (Q := Cn p) (Cn.z h) (fun q hq => (ht q hq).1) k) t1
    obtain ⟨v5, v6, v7, e2⟩ := exp_loop h ht hb hl hl2 m (k + 1) (.pl (.int k)) (.pl (pr (inn p bot (expd p top bot k) k (min (k + 1) bot.length - 1) 1 (top.getD k 0)))) u7' rfl rfl hu7 (by omega)
    refine ⟨v5, v6, v7, ?_⟩
    have ll : (expd p top bot k).length < 1000000 := by rw [expd_len]; omega
    have s1 : small 1 = true := small_of (by decide) (by decide)
    have s2 : small (min ((k : Int) + 1) (bot.length : Int)) = true := small_of (by omega) (by omega)
    have e3 : (min ((k : Int) + 1) (bot.length : Int) - 1).toNat = min (k + 1) bot.length - 1 := by omega
    have e4 : (expd p top bot k).map pr ++ [pr (inn p bot (expd p top bot k) k (min (k + 1) bot.length - 1) 1 (top.getD k 0))] = (expd p top bot (k + 1)).map pr := by
      rw [show expd p top bot (k + 1) = expd p top bot k ++ [inn p bot (expd p top bot k) k (min (k + 1) bot.length - 1) 1 (top.getD k 0)] from rfl, List.map_append]; rfl
    rw [show ((1 : Nat) : Int) = 1 from rfl] at e1
    have e5 : lb__law_expansion_1 [.pl (.int p), .pl (.lst (top.map pr)), .pl (.lst (bot.map pr)), .pl c, .ow ((expd p top bot k).map pr), .pl (.int k), u6, u7] = .ok .nx [.pl (.int p), .pl (.lst (top.map pr)), .pl (.lst (bot.map pr)), .pl c, .ow ((expd p top bot (k + 1)).map pr), .pl (.int k), .pl (pr (inn p bot (expd p top bot k) k (min (k + 1) bot.length - 1) 1 (top.getD k 0))), u7'] := by
      unfold lb__law_expansion_1
      by_cases kt : k < top.length
      · have kt2 : (k : Int) < (top.length : Int) := by omega
        simp! only [h6, pr0, List.length_map, kt2, listAt_el pr kt, Mi.rng2, s1, s2, e3, e1, ll, e4]
      · have kt2 : ¬ (k : Int) < (top.length : Int) := by omega
        have e0 : top.getD k 0 = 0 := getD_none (by omega)
        rw [e0] at e1 e4 ⊢
        simp! only [h6, pr0, List.length_map, kt2, Mi.rng2, s1, s2, e3, e1, ll, e4]
    rw [natS, show k + 1 + m = k + (m + 1) by omega] at e2
    rw [rngL_cons]
    simp! only [Mi.forL, h5, e5, e2]
theorem e_expansion (h : FOk p) (ht : ∀ q ∈ top, Cn p q ∧ Ht p 60 9 q) (hb : ∀ q ∈ bot, Cn p q ∧ Ht p 60 9 q) (hl : bot.length ≤ 7) (hl2 : top.length ≤ 1000) {n : Nat} (hn : n ≤ 100) : m__law_expansion [.int p, .lst (top.map pr), .lst (bot.map pr), .int n] = .ok (.nw ((expd p top bot n).map pr)) := by
  obtain ⟨a, b, c, e⟩ := exp_loop (c := .int n) h ht hb hl hl2 n 0 .un .un .un rfl rfl rfl (by omega)
  rw [Nat.zero_add, show ((0 : Nat) : Int) = 0 from rfl, show (expd p top bot 0).map pr = [] from rfl] at e
  unfold m__law_expansion b__law_expansion
  simp! only [rng1_nat hn, e, Mi.mRetV]
end
end Mi

namespace Mi
local macro_rules | `(tactic| simp! only [$as,*]) => `(tactic| simp only [Mi.runM, Mi.runI, Mi.runR, Mi.outF, Mi.outI, Mi.outR, Mi.startE, Mi.bnd, Mi.ret, Mi.lift, Mi.fail, Mi.mVar, Mi.mC, Mi.mBin, Mi.mBinN, Mi.mUn, Mi.mFld, Mi.mFrz, Mi.mB, Mi.tru, Mi.mAnd, Mi.mOr, Mi.mNot, Mi.mAndV, Mi.mOrV, Mi.mNotV, Mi.mIf, Mi.mChain, Mi.mNil, Mi.mCons, Mi.mTup, Mi.mLst, Mi.mCB, Mi.mCBn, Mi.mIdxV, Mi.mSkip, Mi.thenF, Mi.mSeq, Mi.sto, Mi.mAsg, Mi.mAsgN, Mi.two, Mi.mPar, Mi.mDrop, Mi.mRet, Mi.mRetN, Mi.mRetV, Mi.mIfS, Mi.againF, Mi.gV, Mi.gsN, Mi.gsC, Mi.gT, Mi.mAsgT, Mi.tgt, Mi.mCall, Mi.frzR, Mi.newR, Mi.mCallN, Mi.recv, Mi.mMeth, Mi.mMethN, Mi.mMake, Mi.callR, Mi.mCallR, Mi.newM, Mi.mCallRN, Mi.mApp, Mi.mRev, Mi.setAt, Mi.mSetV, Mi.mSetF, Mi.mAug, Mi.one, Mi.mRaise, Mi.mRaise0, Mi.mTry, Mi.noEx, Mi.endX, Mi.inX, Mi.mTryAs, Mi.mXf, Mi.dI, Mi.dIc, Mi.dAdd, Mi.dSub, Mi.dLt, Mi.dLe, Mi.dGt, Mi.dGe, Mi.dMul, Mi.dDiv, Mi.dMod, Mi.dPow, Mi.dNeg, Mi.sEq, Mi.ofB, Mi.dEq, Mi.dNe, Mi.isNon, Mi.dIsN, Mi.dNotN, Mi.dInt, Mi.dI1, Mi.dI2, Mi.dAbs, Mi.dMin, Mi.dMax, Mi.dGcd, Mi.dLen1, Mi.dLen, Mi.mLenV, Mi.mIsi, Mi.isub, Mi.D.tn, Mi.dIx, Mi.opC, Mi.negC, Mi.eqC, Mi.ipC, Mi.Rv.d, Mi.mNoP, Mi.asI, Mi.mPart, Mi.mSlL, Mi.asL, Mi.asQ, Mi.mItQ, Mi.mItA, Mi.mFor, Mi.putD, List.map_cons, List.map_nil, List.length_cons, List.length_nil, List.replicate, List.cons_append, List.nil_append, List.getElem?_cons_zero, List.getElem?_cons_succ, List.set_cons_zero, List.set_cons_succ, Nat.sub_self, Nat.reduceAdd, Nat.reduceSub, Nat.reduceEqDiff, List.reverse_cons, id, Bool.not_true, Bool.not_false, if_true, if_false, Bool.false_eq_true, reduceIte, true_and, and_true, and_self, Option.toList, List.all_cons, List.all_nil, Bool.and_true, Bool.true_and, Bool.and_self, decide_true, decide_false, decide_eq_true_eq, reduceCtorEq, Mi.bo_pl, Mi.bo_ow, Mi.bo_rf, Mi.bo_un, Mi.sa_ow, Mi.sa_rf, Mi.sa_pl, Mi.oa_un, Mi.oa_pl, Mi.oa_ow, Mi.co_ow, Mi.co_rf, Mi.co_pl, Mi.st_ow, Mi.st_rf, Mi.lv_ow, Mi.lv_rf, Mi.lv_pl, Mi.ne_un, Mi.ne_pl, Mi.ne_ow, Mi.ne_rf, Mi.ne_se, Mi.ne_ex, Mi.th_un, Mi.th_pl, Mi.ie_ex, Mi.xf_ex, ne_eq, not_false_eq_true, not_true_eq_false, Mi.clr, Mi.putS, Option.isSome_some, Option.some.injEq, Int.reduceEq, Int.reduceNe, Int.reduceLT, Int.reduceLE, Nat.reduceLT, Nat.reduceLeDiff, decide_not, Bool.not_eq_true, Bool.decide_eq_true, Mi.ib_t, Mi.ib_f, Mi.mkR_ex, Mi.bO_s, Mi.rO_f, Mi.rO_t, Mi.dEqA_eq, Mi.eqN_0, Mi.eqN_1, Mi.eqN_2, Mi.eqN_3, Mi.eqB_ins, Mi.eqB_tt, Mi.eqB_ll, Mi.eqB_int, Mi.eqB_str, Mi.eqB_bl, Mi.eqB_non, Mi.eqK_ii, Mi.eqK_ss, Mi.eqK_bb, Mi.eqK_nn, Mi.eqK_ni, Mi.eqK_in, Mi.eqK_ns, Mi.eqK_sn, Mi.eqK_is, Mi.eqK_si, Mi.eqK_nt, Mi.eqK_nl, Mi.eqB_tn, Mi.eqB_ln, Mi.eqLs_nil, Mi.eqLs_nc, Mi.eqLs_cn, Mi.eqLs_cc, Mi.itE_int, Mi.itE_str, Mi.itE_bl, Mi.itE_non, Mi.appT, Mi.asB, Mi.mMakeK, Mi.mDic, Option.bind_some, Mi.mLstV, Mi.lsV, Mi.mTupV, Mi.dList, Mi.dTuple, Mi.mSlT, Mi.asT2, Mi.mIsiT, Mi.enumQ, Mi.dInN, Mi.three, Mi.mPar3, Mi.brw, Mi.mOwn, Mi.mCallB, Mi.mMakeB, Mi.noLx, Mi.noL_tup, Mi.noL_ins, Mi.noL_lst, Mi.noL_int, Mi.noL_str, Mi.noL_bl, Mi.noL_non, Mi.noL_dic, Mi.noLs_nil, Mi.noLs_cons, Mi.noLf_nil, Mi.noLf_cons, List.any_cons, List.any_nil, Bool.or_true, Bool.or_false, Bool.true_or, Bool.false_or, Mi.hd_t, Mi.hd_f, Mi.hf_t, Mi.hf_f, Mi.hd_eq, Mi.mSlV, Mi.cutO, Mi.dLenA, Mi.dLenA1, Mi.lenOf, Mi.dCat, $as,*]) | `(tactic| simp! only [$as,*] $l:location) => `(tactic| simp only [Mi.runM, Mi.runI, Mi.runR, Mi.outF, Mi.outI, Mi.outR, Mi.startE, Mi.bnd, Mi.ret, Mi.lift, Mi.fail, Mi.mVar, Mi.mC, Mi.mBin, Mi.mBinN, Mi.mUn, Mi.mFld, Mi.mFrz, Mi.mB, Mi.tru, Mi.mAnd, Mi.mOr, Mi.mNot, Mi.mAndV, Mi.mOrV, Mi.mNotV, Mi.mIf, Mi.mChain, Mi.mNil, Mi.mCons, Mi.mTup, Mi.mLst, Mi.mCB, Mi.mCBn, Mi.mIdxV, Mi.mSkip, Mi.thenF, Mi.mSeq, Mi.sto, Mi.mAsg, Mi.mAsgN, Mi.two, Mi.mPar, Mi.mDrop, Mi.mRet, Mi.mRetN, Mi.mRetV, Mi.mIfS, Mi.againF, Mi.gV, Mi.gsN, Mi.gsC, Mi.gT, Mi.mAsgT, Mi.tgt, Mi.mCall, Mi.frzR, Mi.newR, Mi.mCallN, Mi.recv, Mi.mMeth, Mi.mMethN, Mi.mMake, Mi.callR, Mi.mCallR, Mi.newM, Mi.mCallRN, Mi.mApp, Mi.mRev, Mi.setAt, Mi.mSetV, Mi.mSetF, Mi.mAug, Mi.one, Mi.mRaise, Mi.mRaise0, Mi.mTry, Mi.noEx, Mi.endX, Mi.inX, Mi.mTryAs, Mi.mXf, Mi.dI, Mi.dIc, Mi.dAdd, Mi.dSub, Mi.dLt, Mi.dLe, Mi.dGt, Mi.dGe, Mi.dMul, Mi.dDiv, Mi.dMod, Mi.dPow, Mi.dNeg, Mi.sEq, Mi.ofB, Mi.dEq, Mi.dNe, Mi.isNon, Mi.dIsN, Mi.dNotN, Mi.dInt, Mi.dI1, Mi.dI2, Mi.dAbs, Mi.dMin, Mi.dMax, Mi.dGcd, Mi.dLen1, Mi.dLen, Mi.mLenV, Mi.mIsi, Mi.isub, Mi.D.tn, Mi.dIx, Mi.opC, Mi.negC, Mi.eqC, Mi.ipC, Mi.Rv.d, Mi.mNoP, Mi.asI, Mi.mPart, Mi.mSlL, Mi.asL, Mi.asQ, Mi.mItQ, Mi.mItA, Mi.mFor, Mi.putD, List.map_cons, List.map_nil, List.length_cons, List.length_nil, List.replicate, List.cons_append, List.nil_append, List.getElem?_cons_zero, List.getElem?_cons_succ, List.set_cons_zero, List.set_cons_succ, Nat.sub_self, Nat.reduceAdd, Nat.reduceSub, Nat.reduceEqDiff, List.reverse_cons, id, Bool.not_true, Bool.not_false, if_true, if_false, Bool.false_eq_true, reduceIte, true_and, and_true, and_self, Option.toList, List.all_cons, List.all_nil, Bool.and_true, Bool.true_and, Bool.and_self, decide_true, decide_false, decide_eq_true_eq, reduceCtorEq, Mi.bo_pl, Mi.bo_ow, Mi.bo_rf, Mi.bo_un, Mi.sa_ow, Mi.sa_rf, Mi.sa_pl, Mi.oa_un, Mi.oa_pl, Mi.oa_ow, Mi.co_ow, Mi.co_rf, Mi.co_pl, Mi.st_ow, Mi.st_rf, Mi.lv_ow, Mi.lv_rf, Mi.lv_pl, Mi.ne_un, Mi.ne_pl, Mi.ne_ow, Mi.ne_rf, Mi.ne_se, Mi.ne_ex, Mi.th_un, Mi.th_pl, Mi.ie_ex, Mi.xf_ex, ne_eq, not_false_eq_true, not_true_eq_false, Mi.clr, Mi.putS, Option.isSome_some, Option.some.injEq, Int.reduceEq, Int.reduceNe, Int.reduceLT, Int.reduceLE, Nat.reduceLT, Nat.reduceLeDiff, decide_not, Bool.not_eq_true, Bool.decide_eq_true, Mi.ib_t, Mi.ib_f, Mi.mkR_ex, Mi.bO_s, Mi.rO_f, Mi.rO_t, Mi.dEqA_eq, Mi.eqN_0, Mi.eqN_1, Mi.eqN_2, Mi.eqN_3, Mi.eqB_ins, Mi.eqB_tt, Mi.eqB_ll, Mi.eqB_int, Mi.eqB_str, Mi.eqB_bl, Mi.eqB_non, Mi.eqK_ii, Mi.eqK_ss, Mi.eqK_bb, Mi.eqK_nn, Mi.eqK_ni, Mi.eqK_in, Mi.eqK_ns, Mi.eqK_sn, Mi.eqK_is, Mi.eqK_si, Mi.eqK_nt, Mi.eqK_nl, Mi.eqB_tn, Mi.eqB_ln, Mi.eqLs_nil, Mi.eqLs_nc, Mi.eqLs_cn, Mi.eqLs_cc, Mi.itE_int, Mi.itE_str, Mi.itE_bl, Mi.itE_non, Mi.appT, Mi.asB, Mi.mMakeK, Mi.mDic, Option.bind_some, Mi.mLstV, Mi.lsV, Mi.mTupV, Mi.dList, Mi.dTuple, Mi.mSlT, Mi.asT2, Mi.mIsiT, Mi.enumQ, Mi.dInN, Mi.three, Mi.mPar3, Mi.brw, Mi.mOwn, Mi.mCallB, Mi.mMakeB, Mi.noLx, Mi.noL_tup, Mi.noL_ins, Mi.noL_lst, Mi.noL_int, Mi.noL_str, Mi.noL_bl, Mi.noL_non, Mi.noL_dic, Mi.noLs_nil, Mi.noLs_cons, Mi.noLf_nil, Mi.noLf_cons, List.any_cons, List.any_nil, Bool.or_true, Bool.or_false, Bool.true_or, Bool.false_or, Mi.hd_t, Mi.hd_f, Mi.hf_t, Mi.hf_f, Mi.hd_eq, Mi.mSlV, Mi.cutO, Mi.dLenA, Mi.dLenA1, Mi.lenOf, Mi.dCat, $as,*] $l:location)
open PySem
section
variable {p : Int} {x y q t : Rat} {n m N M k i : Nat} {qs top bot f : List Rat} {T c : D}
theorem expd_zero : ∀ n, (expd p top bot (n + 1)).getD 0 0 = top.getD 0 0
  | 0 => by
    show ([inn p bot [] 0 (min (0 + 1) bot.length - 1) 1 (top.getD 0 0)] : List Rat).getD 0 0 = _
    rw [show min (0 + 1) bot.length - 1 = 0 by omega]; rfl
  | n + 1 => by
    show (expd p top bot (n + 1) ++ _).getD 0 0 = _
    rw [getD_app (by rw [expd_len]; omega), expd_zero n]
/-- the coefficients drawn by the laws -/
abbrev Hc (p : Int) (q : Rat) : Prop := Ht p (60 ^ 12) (63 ^ 12 + 9) q
theorem Hc.of (h : Ht p 60 9 q) : Hc p q := h.up (by decide) (by decide) (by decide)
theorem Hc.sz (h : Hc p q) : Sz p 160 q := Ht.sz h (by decide) (by decide)
theorem cons_pr (x : Rat) (qs : List Rat) : [pr x] ++ qs.map pr = (x :: qs).map pr := rfl
theorem getD_set {j i : Nat} {a : Rat} (h : j ≠ i) : (qs.set i a).getD j 0 = qs.getD j 0 := by
  rw [List.getD_eq_getElem?_getD, List.getD_eq_getElem?_getD, List.getElem?_set_ne (Ne.symm h)]
theorem planted_ex (h : FOk p) (s : Dz) (n : Nat) (n0 : 1 ≤ n) (n1 : n ≤ 100) (hp : p = 0 → n ≤ 12) : ∃ (qs : List Rat) (s' : Dz), qs.length = n ∧ (∀ q ∈ qs, Cn p q ∧ Hc p q) ∧ qs.getD 0 0 ≠ 0 ∧ m__law_planted s.c [.int p, .int n] = some (.nw (qs.map pr), s'.c) := by
  obtain ⟨u, s1, u1, u2, u3, e1⟩ := unit_ex h s
  obtain ⟨a, s2, a0, a1, e2⟩ := draw_ex s1 4 (by decide)
  obtain ⟨a, rfl⟩ : ∃ j : Nat, a = j := ⟨a.toNat, by omega⟩
  obtain ⟨ts, s3, t1, t2, e3⟩ := small_exH h s2 a (by omega)
  obtain ⟨b, s4, b0, b1, e4⟩ := draw_ex s3 4 (by decide)
  obtain ⟨b, rfl⟩ : ∃ j : Nat, b = j := ⟨b.toNat, by omega⟩
  obtain ⟨bs, s5, c1, c2, e5⟩ := small_exH h s4 b (by omega)
  have hT : ∀ q ∈ u :: ts, Cn p q ∧ Ht p 60 9 q := fun q hq => by
    rcases List.mem_cons.mp hq with rfl | hq
    · exact ⟨u1, u2⟩
    · exact t2 q hq
  have hB : ∀ q ∈ (1 : Rat) :: bs, Cn p q ∧ Ht p 60 9 q := fun q hq => by
    rcases List.mem_cons.mp hq with rfl | hq
    · exact ⟨one_cn h, Ht.int (i := 1) (by decide) (by decide)⟩
    · exact c2 q hq
  have e6 := e_expansion h hT hB (by rw [List.length_cons]; omega) (by rw [List.length_cons]; omega) n1
  have hE := expd_ok (top := u :: ts) (bot := 1 :: bs) h hT hB (by rw [List.length_cons]; omega) n
  have hM : ∀ q ∈ expd p (u :: ts) (1 :: bs) n, Cn p q ∧ Ht p (60 ^ 12) (63 ^ 12) q := fun q hq => by
    obtain ⟨j, hj, rfl⟩ := List.mem_iff_getElem.mp hq
    have hj2 := hj
    rw [expd_len] at hj2
    have := hE j hj2
    rw [List.getD_eq_getElem?_getD, List.getElem?_eq_getElem hj] at this
    refine ⟨this.1, fun h0 => (this.2.up (Nat.pow_dvd_pow 60 ?_) (by decide) (pw_le (by decide) ?_)) h0⟩
    · have := hp h0; omega
    · have := hp h0; omega
  have hz : (expd p (u :: ts) (1 :: bs) n).getD 0 0 ≠ 0 := by
    obtain ⟨m, rfl⟩ : ∃ m, n = m + 1 := ⟨n - 1, by omega⟩
    rw [expd_zero]; exact u3
  have hl := expd_len (p := p) (top := u :: ts) (bot := 1 :: bs) n
  generalize expd p (u :: ts) (1 :: bs) n = es at e6 hM hz hl
  rw [List.map_cons, List.map_cons] at e6
  obtain ⟨w, s6, w0, w1, e7⟩ := draw_ex s5 (2 * n) (by omega)
  have mo : mulOk 2 (n : Int) = true := mulOk_l (by decide) (by decide)
  have l1 : [pr u].length + (ts.map pr).length ≤ 1000000 := by rw [List.length_map]; simp; omega
  have l2 : [pr 1].length + (bs.map pr).length ≤ 1000000 := by rw [List.length_map]; simp; omega
  have l1' : (1 : Nat) + ts.length ≤ 1000000 := by omega
  have l2' : (1 : Nat) + bs.length ≤ 1000000 := by omega
  by_cases hw : 0 < w ∧ w < n
  · obtain ⟨j, rfl⟩ : ∃ j : Nat, w = j := ⟨w.toNat, by omega⟩
    obtain ⟨v, s7, v1, v2, v3, e8⟩ := unit_ex h s6
    have m1 := hM _ (getD_mem (qs := es) (j := j) (by omega))
    have e9 := e_plus (n := 160) (m := 160) h m1.1 v1 ((Ht.le m1.2 (by decide : 63 ^ 12 ≤ 63 ^ 12 + 9)).sz (by decide) (by decide)) (v2.sz (by decide) (by decide)) (by decide)
    have hv : Ht p (60 ^ 12) 9 v := v2.up (by decide) (by decide) (by decide)
    refine ⟨es.set j (fadd p (es.getD j 0) v), s7, by rw [List.length_set, hl], fun q hq => ?_, by rw [getD_set (by omega)]; exact hz, ?_⟩
    · rcases List.mem_or_eq_of_mem_set hq with hq | rfl
      · exact ⟨(hM q hq).1, (hM q hq).2.le (by decide)⟩
      · exact ⟨fadd_cn h, fadd_ht m1.2 hv⟩
    · unfold m__law_planted b__law_planted
      simp! only [e1, e2, e3, l1', List.length_map, cons_pr, pr1, e4, e5, l2', e6, mo, e7, hw.1, hw.2, listAt_el pr (by omega : j < es.length), e8, e9, ixN_nt (by omega : j < es.length), set_pr, Mi.mRetV, List.singleton_append]
  · refine ⟨es, s6, hl, fun q hq => ⟨(hM q hq).1, (hM q hq).2.le (by decide)⟩, hz, ?_⟩
    unfold m__law_planted b__law_planted
    by_cases hw1 : 0 < w
    · have hw2 : ¬ w < n := fun z => hw ⟨hw1, z⟩
      simp! only [e1, e2, e3, l1', List.length_map, cons_pr, pr1, e4, e5, l2', e6, mo, e7, hw1, hw2, Mi.mRetV]
    · simp! only [e1, e2, e3, l1', List.length_map, cons_pr, pr1, e4, e5, l2', e6, mo, e7, hw1, Mi.mRetV]
theorem bit_cn (h : FOk p) {r : Int} (r0 : 0 ≤ r) (r1 : r < 2) : Cn p (r : Rat) ∧ Hc p (r : Rat) := by
  refine ⟨?_, Hc.of (Ht.int (by decide) (by omega))⟩
  rcases h.cases with h0 | h
  · exact .inl h0
  · have := h.pr.1
    exact .inr ⟨rfl, r0, by show r < p; omega⟩
theorem co_loop0 (h : FOk p) {a b d e g : Sl} : ∀ (ds : List D) (s : Dz), ∃ (qs : List Rat) (s' : Dz), qs.length = ds.length ∧ (∀ q ∈ qs, Cn p q ∧ Hc p q) ∧
    lcL (lcTurn 6 (ret true) le__law_coefficients_0) ds [.rf s.c, .pl (.int p), a, b, d, e, .un, g] = .ok (qs.map pr) [.rf s'.c, .pl (.int p), a, b, d, e, .un, g]
  | [], s => ⟨[], s, rfl, (fun _ hq => nomatch hq), rfl⟩
  | x :: ds, s => by
    obtain ⟨q, s1, c1, c2, e1⟩ := number_exH h s
    obtain ⟨qs, s2, hl, hq, e2⟩ := co_loop0 h (a := a) (b := b) (d := d) (e := e) (g := g) ds s1
    refine ⟨q :: qs, s2, by rw [List.length_cons, List.length_cons, hl], fun y hy => ?_, ?_⟩
    · rcases List.mem_cons.mp hy with rfl | hy
      · exact ⟨c1, Hc.of c2⟩
      · exact hq y hy
    · have e3 : le__law_coefficients_0 [.rf s.c, .pl (.int p), a, b, d, e, .pl x, g] = .ok (pr q) [.rf s1.c, .pl (.int p), a, b, d, e, .pl x, g] := by unfold le__law_coefficients_0; simp! only [e1]
      simp! only [Mi.lcL, Mi.lcTurn, e3, e2]
theorem co_loop2 (h : FOk p) {a b d e g : Sl} : ∀ (ds : List D) (s : Dz), ∃ (qs : List Rat) (s' : Dz), qs.length = ds.length ∧ (∀ q ∈ qs, Cn p q ∧ Hc p q) ∧
    lcL (lcTurn 6 (ret true) le__law_coefficients_2) ds [.rf s.c, .pl (.int p), a, b, d, e, .un, g] = .ok (qs.map pr) [.rf s'.c, .pl (.int p), a, b, d, e, .un, g]
  | [], s => ⟨[], s, rfl, (fun _ hq => nomatch hq), rfl⟩
  | x :: ds, s => by
    obtain ⟨r, s1, r0, r1, e1⟩ := draw_ex s 2 (by decide)
    obtain ⟨qs, s2, hl, hq, e2⟩ := co_loop2 h (a := a) (b := b) (d := d) (e := e) (g := g) ds s1
    refine ⟨(r : Rat) :: qs, s2, by rw [List.length_cons, List.length_cons, hl], fun y hy => ?_, ?_⟩
    · rcases List.mem_cons.mp hy with rfl | hy
      · exact bit_cn h r0 r1
      · exact hq y hy
    · have e3 : le__law_coefficients_2 [.rf s.c, .pl (.int p), a, b, d, e, .pl x, g] = .ok (pr (r : Rat)) [.rf s1.c, .pl (.int p), a, b, d, e, .pl x, g] := by rw [pr_int]; unfold le__law_coefficients_2; simp! only [e1]
      simp! only [Mi.lcL, Mi.lcTurn, e3, e2]
theorem co_loop1 (h : FOk p) {a b : Sl} {gap : Int} (hg : 0 < gap) : ∀ (ds : List Int) (s : Dz) (fs : List Rat) (u7 u6 : Sl), okAsg (some u6) = true → okAsg (some u7) = true → fs.length + ds.length ≤ 100 → ∃ (qs : List Rat) (s' : Dz) (u6' u7' : Sl), qs.length = ds.length ∧ (∀ q ∈ qs, Cn p q ∧ Hc p q) ∧
    forL (gV 6) lb__law_coefficients_1 (ds.map D.int) [.rf s.c, .pl (.int p), a, b, .pl (.int gap), .ow (fs.map pr), u6, u7] = .ok .nx [.rf s'.c, .pl (.int p), a, b, .pl (.int gap), .ow ((fs ++ qs).map pr), u6', u7']
  | [], s, fs, u7, u6, _, _, _ => ⟨[], s, u6, u7, rfl, (fun _ hq => nomatch hq), by rw [List.append_nil]; rfl⟩
  | x :: ds, s, fs, u7, u6, h6, h7, hl => by
    have hl' : fs.length + (ds.length + 1) ≤ 100 := hl
    have ll : fs.length < 1000000 := by omega
    have g0 : ¬ gap = 0 := by omega
    by_cases hk : iMod x gap = 0
    · obtain ⟨q, s1, c1, c2, e1⟩ := number_exH h s
      obtain ⟨qs, s2, v6, v7, hl2, hq, e2⟩ := co_loop1 h (a := a) (b := b) hg ds s1 (fs ++ [q]) (.pl (pr q)) (.pl (.int x)) rfl rfl (by rw [List.length_append]; simp; omega)
      refine ⟨q :: qs, s2, v6, v7, by rw [List.length_cons, List.length_cons, hl2], fun y hy => ?_, ?_⟩
      · rcases List.mem_cons.mp hy with rfl | hy
        · exact ⟨c1, Hc.of c2⟩
        · exact hq y hy
      · have e3 : lb__law_coefficients_1 [.rf s.c, .pl (.int p), a, b, .pl (.int gap), .ow (fs.map pr), .pl (.int x), u7] = .ok .nx [.rf s1.c, .pl (.int p), a, b, .pl (.int gap), .ow ((fs ++ [q]).map pr), .pl (.int x), .pl (pr q)] := by
          rw [List.map_append]
          unfold lb__law_coefficients_1
          simp! only [h7, g0, hk, e1, List.length_map, ll]
        rw [List.append_assoc, List.singleton_append] at e2
        simp! only [Mi.forL, h6, e3, e2]
    · obtain ⟨qs, s2, v6, v7, hl2, hq, e2⟩ := co_loop1 h (a := a) (b := b) hg ds s (fs ++ [0]) (.pl (pr 0)) (.pl (.int x)) rfl rfl (by rw [List.length_append]; simp; omega)
      refine ⟨0 :: qs, s2, v6, v7, by rw [List.length_cons, List.length_cons, hl2], fun y hy => ?_, ?_⟩
      · rcases List.mem_cons.mp hy with rfl | hy
        · exact ⟨Cn.z h, Ht.zero (by decide)⟩
        · exact hq y hy
      · have e3 : lb__law_coefficients_1 [.rf s.c, .pl (.int p), a, b, .pl (.int gap), .ow (fs.map pr), .pl (.int x), u7] = .ok .nx [.rf s.c, .pl (.int p), a, b, .pl (.int gap), .ow ((fs ++ [0]).map pr), .pl (.int x), .pl (pr 0)] := by
          rw [List.map_append]
          unfold lb__law_coefficients_1
          simp! only [h7, g0, hk, pr0, List.length_map, ll]
        rw [List.append_assoc, List.singleton_append] at e2
        simp! only [Mi.forL, h6, e3, e2]
theorem coefficients_ex (h : FOk p) (s : Dz) (n : Nat) (n0 : 1 ≤ n) (n1 : n ≤ 100) : ∃ (qs : List Rat) (s' : Dz), qs.length = n ∧ (∀ q ∈ qs, Cn p q ∧ Hc p q) ∧ qs.getD 0 0 ≠ 0 ∧ m__law_coefficients s.c [.int p, .int n] = some (.nw (qs.map pr), s'.c) := by
  obtain ⟨kd, s1, k0, k1, e1⟩ := draw_ex s 5 (by decide)
  have en : (n : Int) - 1 = ((n - 1 : Nat) : Int) := by omega
  have er : rng1 [.int ((n - 1 : Nat) : Int)] = .ok (rngL 0 (n - 1)) := rng1_nat (by omega)
  have lr : (rngL 0 (n - 1)).length < 1000000 := by rw [rngL_len]; omega
  unfold m__law_coefficients b__law_coefficients
  have plain : ∀ (kk : ¬ kd = 1) (kk2 : ¬ kd = 2), ∃ (qs : List Rat) (s' : Dz), qs.length = n ∧ (∀ q ∈ qs, Cn p q ∧ Hc p q) ∧ qs.getD 0 0 ≠ 0 ∧ (¬ (kd = 0 ∧ (0 < p ∨ (n : Int) ≤ 12)) → runR 8 3 b__law_coefficients s.c [.int p, .int n] = some (.nw (qs.map pr), s'.c)) := fun kk kk2 => by
    obtain ⟨u, s2, u1, u2, u3, e2⟩ := unit_ex h s1
    obtain ⟨qs, s3, hl, hq, e3⟩ := co_loop0 h (a := .pl (.int n)) (b := .pl (.int kd)) (d := .un) (e := .un) (g := .un) (rngL 0 (n - 1)) s2
    rw [rngL_len] at hl
    refine ⟨u :: qs, s3, by rw [List.length_cons]; omega, fun y hy => ?_, u3, fun hn => ?_⟩
    · rcases List.mem_cons.mp hy with rfl | hy
      · exact ⟨u1, Hc.of u2⟩
      · exact hq y hy
    · have l1 : 1 + qs.length ≤ 1000000 := by omega
      unfold b__law_coefficients
      by_cases c0 : kd = 0
      · have c1 : ¬ 0 < p := fun z => hn ⟨c0, .inl z⟩
        have c2 : ¬ (n : Int) ≤ 12 := fun z => hn ⟨c0, .inr z⟩
        have c0 := eq_true c0
        simp! only [e1, c0, c1, c2, kk, kk2, e2, en, er, Mi.mLc, lr, e3, List.length_map, l1, cons_pr, List.singleton_append]
      · simp! only [e1, c0, kk, kk2, e2, en, er, Mi.mLc, lr, e3, List.length_map, l1, cons_pr, List.singleton_append]
  by_cases c1 : kd = 1
  · obtain ⟨qs, s3, hl, hq, e3⟩ := co_loop2 h (a := .pl (.int n)) (b := .pl (.int kd)) (d := .un) (e := .un) (g := .un) (rngL 0 (n - 1)) s1
    rw [rngL_len] at hl
    refine ⟨1 :: qs, s3, by rw [List.length_cons]; omega, fun y hy => ?_, by show (1 : Rat) ≠ 0; decide, ?_⟩
    · rcases List.mem_cons.mp hy with rfl | hy
      · exact ⟨one_cn h, Hc.of (Ht.int (i := 1) (by decide) (by decide))⟩
      · exact hq y hy
    · have l1 : 1 + qs.length ≤ 1000000 := by omega
      have c0 : ¬ kd = 0 := by omega
      have c1 := eq_true c1
      simp! only [e1, c0, c1, pr1, en, er, Mi.mLc, lr, e3, List.length_map, l1, cons_pr, List.singleton_append]
  by_cases c2 : kd = 2
  · obtain ⟨g, s2, g0, g1, e2⟩ := draw_ex s1 5 (by decide)
    obtain ⟨u, s3, u1, u2, u3, e3⟩ := unit_ex h s2
    obtain ⟨qs, s4, v6, v7, hl, hq, e4⟩ := co_loop1 h (a := .pl (.int n)) (b := .pl (.int kd)) (gap := 1 + g) (by omega) ((List.range (n - 1)).map fun (i : Nat) => (1 : Int) + (i : Int)) s3 [u] .un .un rfl rfl (by simp; omega)
    rw [← rngL_map] at e4
    rw [List.length_map, List.length_range] at hl
    refine ⟨u :: qs, s4, by rw [List.length_cons]; omega, fun y hy => ?_, u3, ?_⟩
    · rcases List.mem_cons.mp hy with rfl | hy
      · exact ⟨u1, Hc.of u2⟩
      · exact hq y hy
    · have s1' : small 1 = true := small_of (by decide) (by decide)
      have s2' : small (n : Int) = true := small_of (by omega) (by omega)
      have e5 : ((n : Int) - 1).toNat = n - 1 := by omega
      rw [List.singleton_append, List.map_cons, List.map_cons, List.map_nil] at e4
      have c0 : ¬ kd = 0 := by omega
      have c2 := eq_true c2
      simp! only [e1, c0, c1, c2, e2, e3, Mi.rng2, s1', s2', e5, e4, Mi.mRetV]
  by_cases c0 : kd = 0 ∧ (0 < p ∨ (n : Int) ≤ 12)
  · obtain ⟨qs, s2, a1, a2, a3, e2⟩ := planted_ex h s1 n n0 n1 (fun z => by rcases c0.2 with w | w <;> omega)
    refine ⟨qs, s2, a1, a2, a3, ?_⟩
    have c3 := eq_true c0.1
    rcases c0.2 with w | w
    · simp! only [e1, c3, w, e2]
    · by_cases w2 : 0 < p
      · simp! only [e1, c3, w2, e2]
      · simp! only [e1, c3, w2, w, e2]
  · obtain ⟨qs, s2, a1, a2, a3, e2⟩ := plain c1 c2
    exact ⟨qs, s2, a1, a2, a3, e2 c0⟩
end
end Mi

namespace Mi
local macro_rules | `(tactic| simp! only [$as,*]) => `(tactic| simp only [Mi.runM, Mi.runI, Mi.runR, Mi.outF, Mi.outI, Mi.outR, Mi.startE, Mi.bnd, Mi.ret, Mi.lift, Mi.fail, Mi.mVar, Mi.mC, Mi.mBin, Mi.mBinN, Mi.mUn, Mi.mFld, Mi.mFrz, Mi.mB, Mi.tru, Mi.mAnd, Mi.mOr, Mi.mNot, Mi.mAndV, Mi.mOrV, Mi.mNotV, Mi.mIf, Mi.mChain, Mi.mNil, Mi.mCons, Mi.mTup, Mi.mLst, Mi.mCB, Mi.mCBn, Mi.mIdxV, Mi.mSkip, Mi.thenF, Mi.mSeq, Mi.sto, Mi.mAsg, Mi.mAsgN, Mi.two, Mi.mPar, Mi.mDrop, Mi.mRet, Mi.mRetN, Mi.mRetV, Mi.mIfS, Mi.againF, Mi.gV, Mi.gsN, Mi.gsC, Mi.gT, Mi.mAsgT, Mi.tgt, Mi.mCall, Mi.frzR, Mi.newR, Mi.mCallN, Mi.recv, Mi.mMeth, Mi.mMethN, Mi.mMake, Mi.callR, Mi.mCallR, Mi.newM, Mi.mCallRN, Mi.mApp, Mi.mRev, Mi.setAt, Mi.mSetV, Mi.mSetF, Mi.mAug, Mi.one, Mi.mRaise, Mi.mRaise0, Mi.mTry, Mi.noEx, Mi.endX, Mi.inX, Mi.mTryAs, Mi.mXf, Mi.dI, Mi.dIc, Mi.dAdd, Mi.dSub, Mi.dLt, Mi.dLe, Mi.dGt, Mi.dGe, Mi.dMul, Mi.dDiv, Mi.dMod, Mi.dPow, Mi.dNeg, Mi.sEq, Mi.ofB, Mi.dEq, Mi.dNe, Mi.isNon, Mi.dIsN, Mi.dNotN, Mi.dInt, Mi.dI1, Mi.dI2, Mi.dAbs, Mi.dMin, Mi.dMax, Mi.dGcd, Mi.dLen1, Mi.dLen, Mi.mLenV, Mi.mIsi, Mi.isub, Mi.D.tn, Mi.dIx, Mi.opC, Mi.negC, Mi.eqC, Mi.ipC, Mi.Rv.d, Mi.mNoP, Mi.asI, Mi.mPart, Mi.mSlL, Mi.asL, Mi.asQ, Mi.mItQ, Mi.mItA, Mi.mFor, Mi.putD, List.map_cons, List.map_nil, List.length_cons, List.length_nil, List.replicate, List.cons_append, List.nil_append, List.getElem?_cons_zero, List.getElem?_cons_succ, List.set_cons_zero, List.set_cons_succ, Nat.sub_self, Nat.reduceAdd, Nat.reduceSub, Nat.reduceEqDiff, List.reverse_cons, id, Bool.not_true, Bool.not_false, if_true, if_false, Bool.false_eq_true, reduceIte, true_and, and_true, and_self, Option.toList, List.all_cons, List.all_nil, Bool.and_true, Bool.true_and, Bool.and_self, decide_true, decide_false, decide_eq_true_eq, reduceCtorEq, Mi.bo_pl, Mi.bo_ow, Mi.bo_rf, Mi.bo_un, Mi.sa_ow, Mi.sa_rf, Mi.sa_pl, Mi.oa_un, Mi.oa_pl, Mi.oa_ow, Mi.co_ow, Mi.co_rf, Mi.co_pl, Mi.st_ow, Mi.st_rf, Mi.lv_ow, Mi.lv_rf, Mi.lv_pl, Mi.ne_un, Mi.ne_pl, Mi.ne_ow, Mi.ne_rf, Mi.ne_se, Mi.ne_ex, Mi.th_un, Mi.th_pl, Mi.ie_ex, Mi.xf_ex, ne_eq, not_false_eq_true, not_true_eq_false, Mi.clr, Mi.putS, Option.isSome_some, Option.some.injEq, Int.reduceEq, Int.reduceNe, Int.reduceLT, Int.reduceLE, Nat.reduceLT, Nat.reduceLeDiff, decide_not, Bool.not_eq_true, Bool.decide_eq_true, Mi.ib_t, Mi.ib_f, Mi.mkR_ex, Mi.bO_s, Mi.rO_f, Mi.rO_t, Mi.dEqA_eq, Mi.eqN_0, Mi.eqN_1, Mi.eqN_2, Mi.eqN_3, Mi.eqB_ins, Mi.eqB_tt, Mi.eqB_ll, Mi.eqB_int, Mi.eqB_str, Mi.eqB_bl, Mi.eqB_non, Mi.eqK_ii, Mi.eqK_ss, Mi.eqK_bb, Mi.eqK_nn, Mi.eqK_ni, Mi.eqK_in, Mi.eqK_ns, Mi.eqK_sn, Mi.eqK_is, Mi.eqK_si, Mi.eqK_nt, Mi.eqK_nl, Mi.eqB_tn, Mi.eqB_ln, Mi.eqLs_nil, Mi.eqLs_nc, Mi.eqLs_cn, Mi.eqLs_cc, Mi.itE_int, Mi.itE_str, Mi.itE_bl, Mi.itE_non, Mi.appT, Mi.asB, Mi.mMakeK, Mi.mDic, Option.bind_some, Mi.mLstV, Mi.lsV, Mi.mTupV, Mi.dList, Mi.dTuple, Mi.mSlT, Mi.asT2, Mi.mIsiT, Mi.enumQ, Mi.dInN, Mi.three, Mi.mPar3, Mi.brw, Mi.mOwn, Mi.mCallB, Mi.mMakeB, Mi.noLx, Mi.noL_tup, Mi.noL_ins, Mi.noL_lst, Mi.noL_int, Mi.noL_str, Mi.noL_bl, Mi.noL_non, Mi.noL_dic, Mi.noLs_nil, Mi.noLs_cons, Mi.noLf_nil, Mi.noLf_cons, List.any_cons, List.any_nil, Bool.or_true, Bool.or_false, Bool.true_or, Bool.false_or, Mi.hd_t, Mi.hd_f, Mi.hf_t, Mi.hf_f, Mi.hd_eq, Mi.mSlV, Mi.cutO, Mi.dLenA, Mi.dLenA1, Mi.lenOf, Mi.dCat, $as,*]) | `(tactic| simp! only [$as,*] $l:location) => `(tactic| simp only [Mi.runM, Mi.runI, Mi.runR, Mi.outF, Mi.outI, Mi.outR, Mi.startE, Mi.bnd, Mi.ret, Mi.lift, Mi.fail, Mi.mVar, Mi.mC, Mi.mBin, Mi.mBinN, Mi.mUn, Mi.mFld, Mi.mFrz, Mi.mB, Mi.tru, Mi.mAnd, Mi.mOr, Mi.mNot, Mi.mAndV, Mi.mOrV, Mi.mNotV, Mi.mIf, Mi.mChain, Mi.mNil, Mi.mCons, Mi.mTup, Mi.mLst, Mi.mCB, Mi.mCBn, Mi.mIdxV, Mi.mSkip, Mi.thenF, Mi.mSeq, Mi.sto, Mi.mAsg, Mi.mAsgN, Mi.two, Mi.mPar, Mi.mDrop, Mi.mRet, Mi.mRetN, Mi.mRetV, Mi.mIfS, Mi.againF, Mi.gV, Mi.gsN, Mi.gsC, Mi.gT, Mi.mAsgT, Mi.tgt, Mi.mCall, Mi.frzR, Mi.newR, Mi.mCallN, Mi.recv, Mi.mMeth, Mi.mMethN, Mi.mMake, Mi.callR, Mi.mCallR, Mi.newM, Mi.mCallRN, Mi.mApp, Mi.mRev, Mi.setAt, Mi.mSetV, Mi.mSetF, Mi.mAug, Mi.one, Mi.mRaise, Mi.mRaise0, Mi.mTry, Mi.noEx, Mi.endX, Mi.inX, Mi.mTryAs, Mi.mXf, Mi.dI, Mi.dIc, Mi.dAdd, Mi.dSub, Mi.dLt, Mi.dLe, Mi.dGt, Mi.dGe, Mi.dMul, Mi.dDiv, Mi.dMod, Mi.dPow, Mi.dNeg, Mi.sEq, Mi.ofB, Mi.dEq, Mi.dNe, Mi.isNon, Mi.dIsN, Mi.dNotN, Mi.dInt, Mi.dI1, Mi.dI2, Mi.dAbs, Mi.dMin, Mi.dMax, Mi.dGcd, Mi.dLen1, Mi.dLen, Mi.mLenV, Mi.mIsi, Mi.isub, Mi.D.tn, Mi.dIx, Mi.opC, Mi.negC, Mi.eqC, Mi.ipC, Mi.Rv.d, Mi.mNoP, Mi.asI, Mi.mPart, Mi.mSlL, Mi.asL, Mi.asQ, Mi.mItQ, Mi.mItA, Mi.mFor, Mi.putD, List.map_cons, List.map_nil, List.length_cons, List.length_nil, List.replicate, List.cons_append, List.nil_append, List.getElem?_cons_zero, List.getElem?_cons_succ, List.set_cons_zero, List.set_cons_succ, Nat.sub_self, Nat.reduceAdd, Nat.reduceSub, Nat.reduceEqDiff, List.reverse_cons, id, Bool.not_true, Bool.not_false, if_true, if_false, Bool.false_eq_true, reduceIte, true_and, and_true, and_self, Option.toList, List.all_cons, List.all_nil, Bool.and_true, Bool.true_and, Bool.and_self, decide_true, decide_false, decide_eq_true_eq, reduceCtorEq, Mi.bo_pl, Mi.bo_ow, Mi.bo_rf, Mi.bo_un, Mi.sa_ow, Mi.sa_rf, Mi.sa_pl, Mi.oa_un, Mi.oa_pl, Mi.oa_ow, Mi.co_ow, Mi.co_rf, Mi.co_pl, Mi.st_ow, Mi.st_rf, Mi.lv_ow, Mi.lv_rf, Mi.lv_pl, Mi.ne_un, Mi.ne_pl, Mi.ne_ow, Mi.ne_rf, Mi.ne_se, Mi.ne_ex, Mi.th_un, Mi.th_pl, Mi.ie_ex, Mi.xf_ex, ne_eq, not_false_eq_true, not_true_eq_false, Mi.clr, Mi.putS, Option.isSome_some, Option.some.injEq, Int.reduceEq, Int.reduceNe, Int.reduceLT, Int.reduceLE, Nat.reduceLT, Nat.reduceLeDiff, decide_not, Bool.not_eq_true, Bool.decide_eq_true, Mi.ib_t, Mi.ib_f, Mi.mkR_ex, Mi.bO_s, Mi.rO_f, Mi.rO_t, Mi.dEqA_eq, Mi.eqN_0, Mi.eqN_1, Mi.eqN_2, Mi.eqN_3, Mi.eqB_ins, Mi.eqB_tt, Mi.eqB_ll, Mi.eqB_int, Mi.eqB_str, Mi.eqB_bl, Mi.eqB_non, Mi.eqK_ii, Mi.eqK_ss, Mi.eqK_bb, Mi.eqK_nn, Mi.eqK_ni, Mi.eqK_in, Mi.eqK_ns, Mi.eqK_sn, Mi.eqK_is, Mi.eqK_si, Mi.eqK_nt, Mi.eqK_nl, Mi.eqB_tn, Mi.eqB_ln, Mi.eqLs_nil, Mi.eqLs_nc, Mi.eqLs_cn, Mi.eqLs_cc, Mi.itE_int, Mi.itE_str, Mi.itE_bl, Mi.itE_non, Mi.appT, Mi.asB, Mi.mMakeK, Mi.mDic, Option.bind_some, Mi.mLstV, Mi.lsV, Mi.mTupV, Mi.dList, Mi.dTuple, Mi.mSlT, Mi.asT2, Mi.mIsiT, Mi.enumQ, Mi.dInN, Mi.three, Mi.mPar3, Mi.brw, Mi.mOwn, Mi.mCallB, Mi.mMakeB, Mi.noLx, Mi.noL_tup, Mi.noL_ins, Mi.noL_lst, Mi.noL_int, Mi.noL_str, Mi.noL_bl, Mi.noL_non, Mi.noL_dic, Mi.noLs_nil, Mi.noLs_cons, Mi.noLf_nil, Mi.noLf_cons, List.any_cons, List.any_nil, Bool.or_true, Bool.or_false, Bool.true_or, Bool.false_or, Mi.hd_t, Mi.hd_f, Mi.hf_t, Mi.hf_f, Mi.hd_eq, Mi.mSlV, Mi.cutO, Mi.dLenA, Mi.dLenA1, Mi.lenOf, Mi.dCat, $as,*] $l:location)
open PySem
/-! ### series -/
def srF (p : Int) (cs : List Rat) : List (Str × D) := [("field", fD p), ("coefficients", .tup (cs.map (el p))), ("known", .int (cs.length : Int))]
def srD (p : Int) (cs : List Rat) : D := .ins "Series" (srF p cs)
def exD (ds : List D) : D := .ins "Exact" [("exact", .lst ds)]
section
variable {p r : Int} {x y q : Rat} {n m k : Nat} {qs cs es : List Rat} {d : D} {ds gs : List D}
theorem mkR_srF : mkR "Series" (.ok (srF p cs)) = .ok (srD p cs) := rfl
theorem sr_field : dFld "field" (srD p cs) = .ok (fD p) := rfl
theorem sr_coef : dFld "coefficients" (srD p cs) = .ok (.tup (cs.map (el p))) := rfl
theorem sr_known : dFld "known" (srD p cs) = .ok (.int (cs.length : Int)) := rfl
theorem tn_srD : (srD p cs).tn = .c "Series" := rfl
theorem isub_SS : isub (.c "Series") (.c "Series") = true := rfl
theorem isub_EE : isub (exD ds).tn (.c "Exact") = true := rfl
theorem ex_exact : dFld "exact" (exD ds) = .ok (.lst ds) := rfl
theorem mkR_exD : mkR "Exact" (.ok [("exact", .lst ds)]) = .ok (exD ds) := rfl
theorem recv_Sf : recv "Series" "first" (srD p cs) = .ok () := rfl
theorem recv_St : recv "Series" "then" (srD p cs) = .ok () := rfl
theorem noL_srD : noL (srD p cs) = true := by
  unfold srD srF
  rw [noL_ins, noLf_cons, noLf_cons, noLf_cons, noLf_nil, noL_fD, noL_tup, noLs_el, noL_int]; rfl
theorem e_Exact : m_Exact___init__ [.lst ds] = .ok [("exact", .lst ds)] := by
  unfold m_Exact___init__ b_Exact___init__
  simp! only [Mi.ret]
theorem lcL_numS {a c s n : Sl} : ∀ (l : List (D × Rat)), (∀ x ∈ l, NumOk p x.1 x.2) →
    lcL (lcTurn 5 (ret true) le_Series___init___0) (l.map (·.1)) [a, .pl (fD p), c, s, n, .un] = .ok ((l.map (·.2)).map (el p)) [a, .pl (fD p), c, s, n, .un]
  | [], _ => rfl
  | x :: l, h => by
    have ih := lcL_numS (a := a) (c := c) (s := s) (n := n) l fun y hy => h y (List.mem_cons_of_mem _ hy)
    have hx := h x List.mem_cons_self
    unfold NumOk at hx
    have e1 : le_Series___init___0 [a, .pl (fD p), c, s, n, .pl x.1] = .ok (el p x.2) [a, .pl (fD p), c, s, n, .pl x.1] := by unfold le_Series___init___0; simp! only [-Mi.recv, recv_Fn, hx]
    simp! only [Mi.lcL, Mi.lcTurn, e1, ih]
theorem s_fc : ¬ (Str.ofString "field" = Str.ofString "coefficients") := by decide
theorem s_fk : ¬ (Str.ofString "field" = Str.ofString "known") := by decide
theorem s_ck : ¬ (Str.ofString "coefficients" = Str.ofString "known") := by decide
theorem at0 (h : 0 < qs.length) : listAt (qs.map (el p)) 0 = .ok (el p (qs.getD 0 0)) := listAt_el (el p) (j := 0) h
theorem e_Sinit (h : FOk p) {t : Bool} (l : List (D × Rat)) (l0 : 1 ≤ l.length) (hl : l.length ≤ 32) (hn : ∀ x ∈ l, NumOk p x.1 x.2) (hz : (l.map (·.2)).getD 0 0 ≠ 0) :
    m_Series___init__ [fD p, sq t (l.map (·.1))] = .ok (srF p (l.map (·.2))) := by
  have hg : ∀ d ∈ l.map (·.1), ∃ q, NumOk p d q := fun d hd => by
    obtain ⟨x, hx, rfl⟩ := List.mem_map.mp hd
    exact ⟨_, hn x hx⟩
  have l1 : (1 : Int) ≤ (l.length : Int) := by omega
  have l2 : (l.length : Int) ≤ 32 := by omega
  have l3 : l.length < 1000000 := by omega
  have l4 : 0 < (l.map (·.2)).length := by rw [List.length_map]; omega
  unfold m_Series___init__ b_Series___init__ srF
  simp! only [-Mi.D.tn, -Mi.isub, -Mi.dLen1, -Mi.asQ, -Mi.dEqA_eq, isi_sq, e_isseq, len_sq, l1, l2, e_rp_ok hg, show ¬ (0 : Int) ≤ -1 by decide, asQ_sq, Mi.mLc, l3, lcL_numS l hn, at0 l4, dEqA_el h, hz, len_lst, List.length_map, s_fc, s_fk, s_ck]
theorem e_SinitZ (h : FOk p) {t : Bool} (l : List (D × Rat)) (l0 : 1 ≤ l.length) (hl : l.length ≤ 32) (hn : ∀ x ∈ l, NumOk p x.1 x.2) (hz : (l.map (·.2)).getD 0 0 = 0) :
    m_Series___init__ [fD p, sq t (l.map (·.1))] = .ex "NoSeries" (some ("place", .int 0)) := by
  have hg : ∀ d ∈ l.map (·.1), ∃ q, NumOk p d q := fun d hd => by
    obtain ⟨x, hx, rfl⟩ := List.mem_map.mp hd
    exact ⟨_, hn x hx⟩
  have l1 : (1 : Int) ≤ (l.length : Int) := by omega
  have l2 : (l.length : Int) ≤ 32 := by omega
  have l3 : l.length < 1000000 := by omega
  have l4 : 0 < (l.map (·.2)).length := by rw [List.length_map]; omega
  unfold m_Series___init__ b_Series___init__
  simp! only [-Mi.D.tn, -Mi.isub, -Mi.dLen1, -Mi.asQ, -Mi.dEqA_eq, isi_sq, e_isseq, len_sq, l1, l2, e_rp_ok hg, show ¬ (0 : Int) ≤ -1 by decide, asQ_sq, Mi.mLc, l3, lcL_numS l hn, at0 l4, dEqA_el h, hz, List.length_map]
theorem e_SinitX {t : Bool} {ds rest : List D} {b : D} (hl : (ds ++ b :: rest).length ≤ 32) (h : ∀ d ∈ ds, ∃ q, NumOk p d q) (hb : NumX p b) :
    m_Series___init__ [fD p, sq t (ds ++ b :: rest)] = .ex "NoSeries" (some ("place", .int ds.length)) := by
  have l1 : (1 : Int) ≤ ((ds ++ b :: rest).length : Int) := by rw [List.length_append, List.length_cons]; omega
  have l2 : ((ds ++ b :: rest).length : Int) ≤ 32 := by omega
  have l3 : (0 : Int) ≤ (ds.length : Int) := by omega
  unfold m_Series___init__ b_Series___init__
  simp! only [-Mi.D.tn, -Mi.isub, -Mi.dLen1, -Mi.asQ, len_lst, isi_sq, e_isseq, len_sq, l1, l2, e_rp_bad h hb, l3]
theorem e_SinitL {t : Bool} {ds : List D} (hl : 32 < ds.length) : m_Series___init__ [fD p, sq t ds] = .ex "NoSeries" (some ("place", .int (-1))) := by
  have l1 : (1 : Int) ≤ (ds.length : Int) := by omega
  have l2 : ¬ (ds.length : Int) ≤ 32 := by omega
  unfold m_Series___init__ b_Series___init__
  simp! only [-Mi.D.tn, -Mi.isub, -Mi.dLen1, -Mi.asQ, len_lst, isi_sq, e_isseq, len_sq, l1, l2]
theorem e_SinitN {t : Bool} : m_Series___init__ [fD p, sq t []] = .ex "NoSeries" (some ("place", .int (-1))) := by
  have l1 : ¬ (1 : Int) ≤ (([] : List D).length : Int) := by decide
  unfold m_Series___init__ b_Series___init__
  simp! only [-Mi.D.tn, -Mi.isub, -Mi.dLen1, -Mi.asQ, -List.length_nil, len_lst, isi_sq, e_isseq, len_sq, l1]
  rfl
theorem e_SinitS {d : D} (h1 : isub d.tn (.c "Exact") = false) (h2 : m_is_sequence [d] = .ok (.pl (.bl false))) : m_Series___init__ [fD p, d] = .ex "NoSeries" (some ("place", .int (-1))) := by
  unfold m_Series___init__ b_Series___init__
  simp! only [-Mi.D.tn, -Mi.isub, h1, h2]
theorem e_SinitE (h : FOk p) (hl : 0 < cs.length) (hz : cs.getD 0 0 ≠ 0) : m_Series___init__ [fD p, exD (cs.map (el p))] = .ok (srF p cs) := by
  unfold m_Series___init__ b_Series___init__ srF
  simp! only [-Mi.D.tn, -Mi.isub, -Mi.dEqA_eq, isub_EE, ex_exact, at0 hl, dEqA_el h, hz, List.length_map, s_fc, s_fk, s_ck]
theorem e_SinitE0 (h : FOk p) (hl : 0 < cs.length) (hz : cs.getD 0 0 = 0) : m_Series___init__ [fD p, exD (cs.map (el p))] = .ex "NoSeries" (some ("place", .int 0)) := by
  unfold m_Series___init__ b_Series___init__
  simp! only [-Mi.D.tn, -Mi.isub, -Mi.dEqA_eq, isub_EE, ex_exact, at0 hl, dEqA_el h, hz]
/-! len, first, then -/
theorem e_Slen : m_Series___len__ [srD p cs] = .ok (.pl (.int (cs.length : Int))) := by
  unfold m_Series___len__ b_Series___len__
  simp! only [sr_coef, List.length_map]
theorem e_lenA (hl : cs.length ≤ 1000) : dLenA "Series" m_Series___len__ [srD p cs] = .ok (.int (cs.length : Int)) := by
  have e : dLenA "Series" m_Series___len__ [srD p cs] = lenOf (m_Series___len__ [srD p cs]) := by
    show (if ("Series" : Str) = "Series" then lenOf (m_Series___len__ [srD p cs]) else .bad) = _
    rw [if_pos rfl]
  rw [e, e_Slen]
  show hf _ _ _ = _
  rw [hf_pos ⟨by omega, by omega⟩]
theorem cutD_tk (ds : List D) (n : Nat) (h : n ≤ ds.length) : cutD ds none (some (n : Int)) = ds.take n := cutD_hi ds n h
theorem getD_take {j : Nat} (h : j < n) : (cs.take n).getD j 0 = cs.getD j 0 := by
  rw [List.getD_eq_getElem?_getD, List.getD_eq_getElem?_getD, List.getElem?_take, if_pos h]
theorem e_Sfirst (h : FOk p) (hz : cs.getD 0 0 ≠ 0) (k0 : 1 ≤ k) (k1 : k ≤ cs.length) : m_Series_first [srD p cs, .int (k : Int)] = .ok (.pl (srD p (cs.take k))) := by
  have a1 : (1 : Int) ≤ (k : Int) := by omega
  have a2 : (k : Int) ≤ (cs.length : Int) := by omega
  have e1 : cutD (cs.map (el p)) none (some (k : Int)) = (cs.take k).map (el p) := by rw [cutD_hi _ _ (by rw [List.length_map]; exact k1), List.map_take]
  have e2 := e_SinitE (cs := cs.take k) h (by rw [List.length_take]; omega) (by rw [getD_take (by omega)]; exact hz)
  unfold m_Series_first b_Series_first
  simp! only [e_is_integer, isIntD, sr_known, a1, a2, sr_coef, sr_field, e1, e_Exact, mkR_exD, e2, mkR_srF]
theorem e_SfirstX (hd : isIntD d = false) : m_Series_first [srD p cs, d] = .ex "NoCount" none := by
  unfold m_Series_first b_Series_first
  simp! only [e_is_integer, hd]
theorem e_SfirstR {k : Int} (hk : ¬ (1 ≤ k ∧ k ≤ cs.length)) : m_Series_first [srD p cs, .int k] = .ex "NoCount" none := by
  unfold m_Series_first b_Series_first
  by_cases a1 : 1 ≤ k
  · have a2 : ¬ k ≤ (cs.length : Int) := fun z => hk ⟨a1, z⟩
    simp! only [e_is_integer, isIntD, sr_known, a1, a2]
  · simp! only [e_is_integer, isIntD, sr_known, a1]
theorem lcL_then {v : D} {a b : Sl} : ∀ (l : List (D × Rat)), (∀ x ∈ l, NumOk p x.1 x.2) →
    lcL (lcTurn 4 (ret true) le_Series_then_0) (l.map (·.1)) [.pl (srD p cs), .pl v, a, b, .un] = .ok ((l.map (·.2)).map (el p)) [.pl (srD p cs), .pl v, a, b, .un]
  | [], _ => rfl
  | x :: l, h => by
    have ih := lcL_then (v := v) (a := a) (b := b) l fun y hy => h y (List.mem_cons_of_mem _ hy)
    have hx := h x List.mem_cons_self
    unfold NumOk at hx
    have e1 : le_Series_then_0 [.pl (srD p cs), .pl v, a, b, .pl x.1] = .ok (el p x.2) [.pl (srD p cs), .pl v, a, b, .pl x.1] := by unfold le_Series_then_0; simp! only [-Mi.recv, recv_Fn, sr_field, hx]
    simp! only [Mi.lcL, Mi.lcTurn, e1, ih]
theorem asQ_tup : asQ (.tup ds) = .ok ds := rfl
theorem e_Sthen (h : FOk p) {t : Bool} (c0 : 0 < cs.length) (hz : cs.getD 0 0 ≠ 0) (l : List (D × Rat)) (hl : cs.length + l.length ≤ 79) (hn : ∀ x ∈ l, NumOk p x.1 x.2) :
    m_Series_then [srD p cs, sq t (l.map (·.1))] = .ok (.pl (srD p (cs ++ l.map (·.2)))) := by
  have hg : ∀ d ∈ l.map (·.1), ∃ q, NumOk p d q := fun d hd => by
    obtain ⟨x, hx, rfl⟩ := List.mem_map.mp hd
    exact ⟨_, hn x hx⟩
  have l1 : ¬ (79 : Int) < (cs.length : Int) + (l.length : Int) := by omega
  have l3 : l.length < 1000000 := by omega
  have l4 : cs.length + l.length ≤ 1000000 := by omega
  have e2 := e_SinitE (cs := cs ++ l.map (·.2)) h (by rw [List.length_append]; omega) (by
    rw [List.getD_eq_getElem?_getD, List.getElem?_append_left c0, ← List.getD_eq_getElem?_getD]; exact hz)
  rw [List.map_append] at e2
  unfold m_Series_then b_Series_then
  simp! only [-Mi.dLen1, -Mi.asQ, asQ_tup, e_isseq, len_sq, sr_known, l1, sr_field, e_rp_ok hg, show ¬ (0 : Int) ≤ -1 by decide, sr_coef, asQ_sq, Mi.mLc, l3, lcL_then l hn, List.length_map, l4, e_Exact, mkR_exD, e2, mkR_srF]
theorem e_SthenX {t : Bool} {ds rest : List D} {b : D} (hl : cs.length + (ds ++ b :: rest).length ≤ 79) (h : ∀ d ∈ ds, ∃ q, NumOk p d q) (hb : NumX p b) :
    m_Series_then [srD p cs, sq t (ds ++ b :: rest)] = .ex "NoSeries" (some ("place", .int ds.length)) := by
  have l1 : ¬ (79 : Int) < (cs.length : Int) + ((ds ++ b :: rest).length : Int) := by omega
  have l3 : (0 : Int) ≤ (ds.length : Int) := by omega
  unfold m_Series_then b_Series_then
  simp! only [-Mi.dLen1, -Mi.asQ, e_isseq, len_sq, sr_known, l1, sr_field, e_rp_bad h hb, l3]
theorem e_SthenL {t : Bool} {ds : List D} (hl : 79 < cs.length + ds.length) : m_Series_then [srD p cs, sq t ds] = .ex "NoSeries" (some ("place", .int (-1))) := by
  have l1 : (79 : Int) < (cs.length : Int) + (ds.length : Int) := by omega
  unfold m_Series_then b_Series_then
  simp! only [-Mi.dLen1, -Mi.asQ, e_isseq, len_sq, sr_known, l1]
theorem e_SthenS {d : D} (h2 : m_is_sequence [d] = .ok (.pl (.bl false))) : m_Series_then [srD p cs, d] = .ex "NoSeries" (some ("place", .int (-1))) := by
  unfold m_Series_then b_Series_then
  simp! only [h2]
/-! equality -/
theorem el_inj (h : FOk p) (cx : Cn p x) (cy : Cn p y) : el p x = el p y ↔ x = y := by
  constructor
  · intro e
    rcases h.cases with h0 | h
    · rw [el0 h0, el0 h0] at e; exact rD_inj.mp e
    · rw [elP h, elP h] at e
      injection e with e
      rw [den1 (cx.resolve_left h.ne).1, den1 (cy.resolve_left h.ne).1, e]
  · rintro rfl; rfl
theorem it_el (h : FOk p) (cx : Cn p x) (cy : Cn p y) : itE (eqN T_Ratio 0) (el p x) (el p y) = some (decide (x = y)) := by
  refine itE_of ?_ fun z => decide_eq_true ((el_inj h cx cy).mp z)
  rcases h.cases with h0 | h
  · rw [el0 h0, el0 h0, eqN_0, tr_R.rr]
  · rw [elP h, elP h, eqN_0]
    have e : decide (x.num = y.num) = decide (x = y) := by
      rw [decide_eq_decide]
      constructor
      · intro e; rw [den1 (cx.resolve_left h.ne).1, den1 (cy.resolve_left h.ne).1, e]
      · rintro rfl; rfl
    simp! only [e]
theorem eqLs_el (h : FOk p) : ∀ (cs es : List Rat), (∀ c ∈ cs, Cn p c) → (∀ c ∈ es, Cn p c) → eqLs (eqN T_Ratio 0) (cs.map (el p)) (es.map (el p)) = some (decide (cs = es))
  | [], [], _, _ => by simp! only [Mi.ret]
  | [], e :: es, _, _ => by rw [List.map_nil, List.map_cons, eqLs_nc]; rfl
  | c :: cs, [], _, _ => by rw [List.map_nil, List.map_cons, eqLs_cn]; rfl
  | c :: cs, e :: es, hc, he => by
    rw [List.map_cons, List.map_cons, eqLs_cc, it_el h (hc _ List.mem_cons_self) (he _ List.mem_cons_self), bO_s]
    by_cases z : c = e
    · rw [decide_eq_true z, ib_t, eqLs_el h cs es (fun y hy => hc y (List.mem_cons_of_mem _ hy)) (fun y hy => he y (List.mem_cons_of_mem _ hy))]
      congr 1
      rw [decide_eq_decide, z, List.cons.injEq]
      simp
    · rw [decide_eq_false z, ib_f, decide_eq_false (fun w => z (List.cons.inj w).1)]
theorem eqA_coef (h : FOk p) (hc : ∀ c ∈ cs, Cn p c) (he : ∀ c ∈ es, Cn p c) : dEqA false T_Ratio 1 (.tup (cs.map (el p))) (.tup (es.map (el p))) = .ok (.bl (decide (cs = es))) := by
  rw [dEqA_eq, eqN_1, eqB_tt, eqLs_el h cs es hc he]
  cases decide (cs = es) <;> rfl
theorem eqA_F2 : dEqA false T_Field 0 (fD p) (fD r) = .ok (.bl (decide (p = r))) := by
  have e : appT T_Field "Field" [fD p, fD r] = some (decide (p = r)) := by
    have : appT T_Field "Field" [fD p, fD r] = asB (m_Field___eq__ [fD p, fD r]) := by simp only [T_Field, appT, if_true]
    rw [this, e_Feq]; rfl
  rw [dEqA_eq, eqN_0]
  show rO false (appT T_Field "Field" [fD p, fD r]) = _
  rw [e]
  cases decide (p = r) <;> rfl
theorem e_Seq (h : FOk p) (hc : ∀ c ∈ cs, Cn p c) (he : ∀ c ∈ es, Cn p c) : m_Series___eq__ [srD p cs, srD p es] = .ok (.pl (.bl (decide (cs = es)))) := by
  unfold m_Series___eq__ b_Series___eq__
  simp! only [-Mi.D.tn, -Mi.isub, -Mi.dEqA_eq, tn_srD, isub_SS, sr_field, eqA_F, sr_coef, eqA_coef h hc he]
theorem e_SeqX (hd : isub d.tn (.c "Series") = false) : m_Series___eq__ [srD p cs, d] = .ok (.pl (.bl false)) := by
  unfold m_Series___eq__ b_Series___eq__
  simp! only [-Mi.D.tn, -Mi.isub, hd]
theorem appS (ds : List D) : appT T_Series "Series" ds = asB (m_Series___eq__ ds) := by simp only [T_Series, appT, if_true]
theorem eqA_S (h : FOk p) (hc : ∀ c ∈ cs, Cn p c) (he : ∀ c ∈ es, Cn p c) : dEqA false T_Series 0 (srD p cs) (srD p es) = .ok (.bl (decide (cs = es))) := by
  rw [dEqA_eq, eqN_0]
  show rO false (appT T_Series "Series" [srD p cs, srD p es]) = _
  rw [appS, e_Seq h hc he]
  show rO false (some (decide (cs = es))) = _
  cases decide (cs = es) <;> rfl
theorem eqA_SX (hd : isub d.tn (.c "Series") = false) : dEqA false T_Series 0 (srD p cs) d = .ok (.bl false) := by
  rw [dEqA_eq, eqN_0]
  show rO false (appT T_Series "Series" [srD p cs, d]) = _
  rw [appS, e_SeqX hd]; rfl
/-! the law's reading -/
theorem e_toldS (h : FOk p) (hc : ∀ c ∈ cs, Cn p c) (c0 : 0 < cs.length) (hl : cs.length ≤ 100) (hz : cs.getD 0 0 ≠ 0) : m__law_told_series [.int p, srD p cs] = .ok (.pl (.lst (cs.map pr))) := by
  have e1 := e_row h hc hl
  have n1 : ¬ cs.length = 0 := by omega
  have q1 : dEqA false T_none 2 (.lst (cs.map pr)) (.lst []) = .ok (.bl false) := by simp! only [List.length_map, n1]
  have z2 : ¬ (cs.getD 0 0).num = 0 := fun w => hz (num_zero_iff.mp w)
  have a0 : listAt (cs.map pr) 0 = .ok (pr (cs.getD 0 0)) := listAt_el pr (j := 0) c0
  have i1 : dIx (.lst (cs.map pr)) (.int 0) = .ok (pr (cs.getD 0 0)) := a0
  unfold m__law_told_series b__law_told_series
  simp! only [-Mi.D.tn, -Mi.isub, -Mi.dEqA_eq, -Mi.dIx, -Mi.dLenA, tn_srD, isub_SS, sr_field, e_Finit h, mkR_fD, eqA_F, sr_coef, e1, q1, i1, pr_0, z2, sr_known, e_law_is_integer, isIntD, List.length_map, e_lenA (by omega : cs.length ≤ 1000)]
end
end Mi

namespace Mi
local macro_rules | `(tactic| simp! only [$as,*]) => `(tactic| simp only [Mi.runM, Mi.runI, Mi.runR, Mi.outF, Mi.outI, Mi.outR, Mi.startE, Mi.bnd, Mi.ret, Mi.lift, Mi.fail, Mi.mVar, Mi.mC, Mi.mBin, Mi.mBinN, Mi.mUn, Mi.mFld, Mi.mFrz, Mi.mB, Mi.tru, Mi.mAnd, Mi.mOr, Mi.mNot, Mi.mAndV, Mi.mOrV, Mi.mNotV, Mi.mIf, Mi.mChain, Mi.mNil, Mi.mCons, Mi.mTup, Mi.mLst, Mi.mCB, Mi.mCBn, Mi.mIdxV, Mi.mSkip, Mi.thenF, Mi.mSeq, Mi.sto, Mi.mAsg, Mi.mAsgN, Mi.two, Mi.mPar, Mi.mDrop, Mi.mRet, Mi.mRetN, Mi.mRetV, Mi.mIfS, Mi.againF, Mi.gV, Mi.gsN, Mi.gsC, Mi.gT, Mi.mAsgT, Mi.tgt, Mi.mCall, Mi.frzR, Mi.newR, Mi.mCallN, Mi.recv, Mi.mMeth, Mi.mMethN, Mi.mMake, Mi.callR, Mi.mCallR, Mi.newM, Mi.mCallRN, Mi.mApp, Mi.mRev, Mi.setAt, Mi.mSetV, Mi.mSetF, Mi.mAug, Mi.one, Mi.mRaise, Mi.mRaise0, Mi.mTry, Mi.noEx, Mi.endX, Mi.inX, Mi.mTryAs, Mi.mXf, Mi.dI, Mi.dIc, Mi.dAdd, Mi.dSub, Mi.dLt, Mi.dLe, Mi.dGt, Mi.dGe, Mi.dMul, Mi.dDiv, Mi.dMod, Mi.dPow, Mi.dNeg, Mi.sEq, Mi.ofB, Mi.dEq, Mi.dNe, Mi.isNon, Mi.dIsN, Mi.dNotN, Mi.dInt, Mi.dI1, Mi.dI2, Mi.dAbs, Mi.dMin, Mi.dMax, Mi.dGcd, Mi.dLen1, Mi.dLen, Mi.mLenV, Mi.mIsi, Mi.isub, Mi.D.tn, Mi.dIx, Mi.opC, Mi.negC, Mi.eqC, Mi.ipC, Mi.Rv.d, Mi.mNoP, Mi.asI, Mi.mPart, Mi.mSlL, Mi.asL, Mi.asQ, Mi.mItQ, Mi.mItA, Mi.mFor, Mi.putD, List.map_cons, List.map_nil, List.length_cons, List.length_nil, List.replicate, List.cons_append, List.nil_append, List.getElem?_cons_zero, List.getElem?_cons_succ, List.set_cons_zero, List.set_cons_succ, Nat.sub_self, Nat.reduceAdd, Nat.reduceSub, Nat.reduceEqDiff, List.reverse_cons, id, Bool.not_true, Bool.not_false, if_true, if_false, Bool.false_eq_true, reduceIte, true_and, and_true, and_self, Option.toList, List.all_cons, List.all_nil, Bool.and_true, Bool.true_and, Bool.and_self, decide_true, decide_false, decide_eq_true_eq, reduceCtorEq, Mi.bo_pl, Mi.bo_ow, Mi.bo_rf, Mi.bo_un, Mi.sa_ow, Mi.sa_rf, Mi.sa_pl, Mi.oa_un, Mi.oa_pl, Mi.oa_ow, Mi.co_ow, Mi.co_rf, Mi.co_pl, Mi.st_ow, Mi.st_rf, Mi.lv_ow, Mi.lv_rf, Mi.lv_pl, Mi.ne_un, Mi.ne_pl, Mi.ne_ow, Mi.ne_rf, Mi.ne_se, Mi.ne_ex, Mi.th_un, Mi.th_pl, Mi.ie_ex, Mi.xf_ex, ne_eq, not_false_eq_true, not_true_eq_false, Mi.clr, Mi.putS, Option.isSome_some, Option.some.injEq, Int.reduceEq, Int.reduceNe, Int.reduceLT, Int.reduceLE, Nat.reduceLT, Nat.reduceLeDiff, decide_not, Bool.not_eq_true, Bool.decide_eq_true, Mi.ib_t, Mi.ib_f, Mi.mkR_ex, Mi.bO_s, Mi.rO_f, Mi.rO_t, Mi.dEqA_eq, Mi.eqN_0, Mi.eqN_1, Mi.eqN_2, Mi.eqN_3, Mi.eqB_ins, Mi.eqB_tt, Mi.eqB_ll, Mi.eqB_int, Mi.eqB_str, Mi.eqB_bl, Mi.eqB_non, Mi.eqK_ii, Mi.eqK_ss, Mi.eqK_bb, Mi.eqK_nn, Mi.eqK_ni, Mi.eqK_in, Mi.eqK_ns, Mi.eqK_sn, Mi.eqK_is, Mi.eqK_si, Mi.eqK_nt, Mi.eqK_nl, Mi.eqB_tn, Mi.eqB_ln, Mi.eqLs_nil, Mi.eqLs_nc, Mi.eqLs_cn, Mi.eqLs_cc, Mi.itE_int, Mi.itE_str, Mi.itE_bl, Mi.itE_non, Mi.appT, Mi.asB, Mi.mMakeK, Mi.mDic, Option.bind_some, Mi.mLstV, Mi.lsV, Mi.mTupV, Mi.dList, Mi.dTuple, Mi.mSlT, Mi.asT2, Mi.mIsiT, Mi.enumQ, Mi.dInN, Mi.three, Mi.mPar3, Mi.brw, Mi.mOwn, Mi.mCallB, Mi.mMakeB, Mi.noLx, Mi.noL_tup, Mi.noL_ins, Mi.noL_lst, Mi.noL_int, Mi.noL_str, Mi.noL_bl, Mi.noL_non, Mi.noL_dic, Mi.noLs_nil, Mi.noLs_cons, Mi.noLf_nil, Mi.noLf_cons, List.any_cons, List.any_nil, Bool.or_true, Bool.or_false, Bool.true_or, Bool.false_or, Mi.hd_t, Mi.hd_f, Mi.hf_t, Mi.hf_f, Mi.hd_eq, Mi.mSlV, Mi.cutO, Mi.dLenA, Mi.dLenA1, Mi.lenOf, Mi.dCat, $as,*]) | `(tactic| simp! only [$as,*] $l:location) => `(tactic| simp only [Mi.runM, Mi.runI, Mi.runR, Mi.outF, Mi.outI, Mi.outR, Mi.startE, Mi.bnd, Mi.ret, Mi.lift, Mi.fail, Mi.mVar, Mi.mC, Mi.mBin, Mi.mBinN, Mi.mUn, Mi.mFld, Mi.mFrz, Mi.mB, Mi.tru, Mi.mAnd, Mi.mOr, Mi.mNot, Mi.mAndV, Mi.mOrV, Mi.mNotV, Mi.mIf, Mi.mChain, Mi.mNil, Mi.mCons, Mi.mTup, Mi.mLst, Mi.mCB, Mi.mCBn, Mi.mIdxV, Mi.mSkip, Mi.thenF, Mi.mSeq, Mi.sto, Mi.mAsg, Mi.mAsgN, Mi.two, Mi.mPar, Mi.mDrop, Mi.mRet, Mi.mRetN, Mi.mRetV, Mi.mIfS, Mi.againF, Mi.gV, Mi.gsN, Mi.gsC, Mi.gT, Mi.mAsgT, Mi.tgt, Mi.mCall, Mi.frzR, Mi.newR, Mi.mCallN, Mi.recv, Mi.mMeth, Mi.mMethN, Mi.mMake, Mi.callR, Mi.mCallR, Mi.newM, Mi.mCallRN, Mi.mApp, Mi.mRev, Mi.setAt, Mi.mSetV, Mi.mSetF, Mi.mAug, Mi.one, Mi.mRaise, Mi.mRaise0, Mi.mTry, Mi.noEx, Mi.endX, Mi.inX, Mi.mTryAs, Mi.mXf, Mi.dI, Mi.dIc, Mi.dAdd, Mi.dSub, Mi.dLt, Mi.dLe, Mi.dGt, Mi.dGe, Mi.dMul, Mi.dDiv, Mi.dMod, Mi.dPow, Mi.dNeg, Mi.sEq, Mi.ofB, Mi.dEq, Mi.dNe, Mi.isNon, Mi.dIsN, Mi.dNotN, Mi.dInt, Mi.dI1, Mi.dI2, Mi.dAbs, Mi.dMin, Mi.dMax, Mi.dGcd, Mi.dLen1, Mi.dLen, Mi.mLenV, Mi.mIsi, Mi.isub, Mi.D.tn, Mi.dIx, Mi.opC, Mi.negC, Mi.eqC, Mi.ipC, Mi.Rv.d, Mi.mNoP, Mi.asI, Mi.mPart, Mi.mSlL, Mi.asL, Mi.asQ, Mi.mItQ, Mi.mItA, Mi.mFor, Mi.putD, List.map_cons, List.map_nil, List.length_cons, List.length_nil, List.replicate, List.cons_append, List.nil_append, List.getElem?_cons_zero, List.getElem?_cons_succ, List.set_cons_zero, List.set_cons_succ, Nat.sub_self, Nat.reduceAdd, Nat.reduceSub, Nat.reduceEqDiff, List.reverse_cons, id, Bool.not_true, Bool.not_false, if_true, if_false, Bool.false_eq_true, reduceIte, true_and, and_true, and_self, Option.toList, List.all_cons, List.all_nil, Bool.and_true, Bool.true_and, Bool.and_self, decide_true, decide_false, decide_eq_true_eq, reduceCtorEq, Mi.bo_pl, Mi.bo_ow, Mi.bo_rf, Mi.bo_un, Mi.sa_ow, Mi.sa_rf, Mi.sa_pl, Mi.oa_un, Mi.oa_pl, Mi.oa_ow, Mi.co_ow, Mi.co_rf, Mi.co_pl, Mi.st_ow, Mi.st_rf, Mi.lv_ow, Mi.lv_rf, Mi.lv_pl, Mi.ne_un, Mi.ne_pl, Mi.ne_ow, Mi.ne_rf, Mi.ne_se, Mi.ne_ex, Mi.th_un, Mi.th_pl, Mi.ie_ex, Mi.xf_ex, ne_eq, not_false_eq_true, not_true_eq_false, Mi.clr, Mi.putS, Option.isSome_some, Option.some.injEq, Int.reduceEq, Int.reduceNe, Int.reduceLT, Int.reduceLE, Nat.reduceLT, Nat.reduceLeDiff, decide_not, Bool.not_eq_true, Bool.decide_eq_true, Mi.ib_t, Mi.ib_f, Mi.mkR_ex, Mi.bO_s, Mi.rO_f, Mi.rO_t, Mi.dEqA_eq, Mi.eqN_0, Mi.eqN_1, Mi.eqN_2, Mi.eqN_3, Mi.eqB_ins, Mi.eqB_tt, Mi.eqB_ll, Mi.eqB_int, Mi.eqB_str, Mi.eqB_bl, Mi.eqB_non, Mi.eqK_ii, Mi.eqK_ss, Mi.eqK_bb, Mi.eqK_nn, Mi.eqK_ni, Mi.eqK_in, Mi.eqK_ns, Mi.eqK_sn, Mi.eqK_is, Mi.eqK_si, Mi.eqK_nt, Mi.eqK_nl, Mi.eqB_tn, Mi.eqB_ln, Mi.eqLs_nil, Mi.eqLs_nc, Mi.eqLs_cn, Mi.eqLs_cc, Mi.itE_int, Mi.itE_str, Mi.itE_bl, Mi.itE_non, Mi.appT, Mi.asB, Mi.mMakeK, Mi.mDic, Option.bind_some, Mi.mLstV, Mi.lsV, Mi.mTupV, Mi.dList, Mi.dTuple, Mi.mSlT, Mi.asT2, Mi.mIsiT, Mi.enumQ, Mi.dInN, Mi.three, Mi.mPar3, Mi.brw, Mi.mOwn, Mi.mCallB, Mi.mMakeB, Mi.noLx, Mi.noL_tup, Mi.noL_ins, Mi.noL_lst, Mi.noL_int, Mi.noL_str, Mi.noL_bl, Mi.noL_non, Mi.noL_dic, Mi.noLs_nil, Mi.noLs_cons, Mi.noLf_nil, Mi.noLf_cons, List.any_cons, List.any_nil, Bool.or_true, Bool.or_false, Bool.true_or, Bool.false_or, Mi.hd_t, Mi.hd_f, Mi.hf_t, Mi.hf_f, Mi.hd_eq, Mi.mSlV, Mi.cutO, Mi.dLenA, Mi.dLenA1, Mi.lenOf, Mi.dCat, $as,*] $l:location)
open PySem
section
variable {p : Int} {x y q : Rat} {n m : Nat} {qs cs : List Rat} {d : D}
/-! ### _law_refused -/
def rfd (k : Int) : D := .tup [.str "refused", .int k]
def mdd : D := .tup [.str "made", .int 0]
theorem rfd_mk (k : Int) : D.tup [.str "refused", .int k] = rfd k := rfl
theorem mdd_mk : D.tup [.str "made", .int 0] = mdd := rfl
theorem noL_rfd (k : Int) : noL (rfd k) = true := by
  unfold rfd
  rw [noL_tup, noLs_cons, noLs_cons, noLs_nil, noL_str, noL_int]; rfl
theorem noL_mdd : noL mdd = true := by
  unfold mdd
  rw [noL_tup, noLs_cons, noLs_cons, noLs_nil, noL_str, noL_int]; rfl
theorem s_rm : ¬ (Str.ofString "refused" = Str.ofString "made") := by decide
theorem s_mr : ¬ (Str.ofString "made" = Str.ofString "refused") := by decide
/-! equalities of the answers -/
theorem eq_mm : dEqA false T_none 1 mdd mdd = .ok (.bl true) := by unfold mdd; simp! only [Mi.ret]
theorem ne_mm : dEqA true T_none 1 mdd mdd = .ok (.bl false) := by unfold mdd; simp! only [Mi.ret]
theorem eq_rm {k : Int} : dEqA false T_none 1 (rfd k) mdd = .ok (.bl false) := by unfold mdd rfd; simp! only [s_rm]
theorem eq_rr {k : Int} : dEqA false T_none 1 (rfd k) (rfd k) = .ok (.bl true) := by unfold rfd; simp! only [Mi.ret]
theorem ne_rr {k : Int} : dEqA true T_none 1 (rfd k) (rfd k) = .ok (.bl false) := by unfold rfd; simp! only [Mi.ret]
/-! the strange things -/
noncomputable def la (p : Int) : D := ib (decide (p = 0)) .dic (rD (Rat.divInt 1 p))
noncomputable def stL (p : Int) : List D := [.str "1", .bl true, .non, .lst [.int 1], .tup [], .str "", la p]
theorem laP (h : PF p) : la p = rD (Rat.divInt 1 p) := by unfold la; rw [decide_eq_false h.ne]; rfl
theorem la0 (h : p = 0) : la p = .dic := by unfold la; rw [decide_eq_true h]; rfl
theorem den_1p (h : PF p) : ((Rat.divInt 1 p).den : Int) = p := by
  have e := Sx.rat_den (p := 1) h.ne
  rw [if_neg (by have := h.pos; omega)] at e
  rw [← e]
  have : (Int.gcd 1 p : Int) = 1 := by simp
  rw [this, Int.fdiv_one]
theorem numX_la (h : FOk p) : NumX p (la p) := by
  rcases h.cases with h0 | h
  · rw [la0 h0]; exact numX_of rfl rfl
  · rw [laP h]
    exact e_numRx h _ (by rw [den_1p h]; exact Int.emod_self)
theorem seq_no : m_is_sequence [.str "1"] = .ok (.pl (.bl false)) := rfl
theorem numI_ex (h : FOk p) (i : Int) : ∃ q, NumOk p (.int i) q := by
  unfold NumOk
  rcases h.cases with h0 | h
  · exact ⟨(i : Rat), by rw [el0 h0, h0, e_numI0]⟩
  · exact ⟨((i % p : Int) : Rat), by rw [elP h, e_numI h]; rfl⟩
theorem not_seq (d : D) (h1 : isub d.tn (.b "list") = false) (h2 : isub d.tn (.b "tuple") = false) : m_is_sequence [d] = .ok (.pl (.bl false)) := by
  unfold m_is_sequence b_is_sequence
  simp! only [-Mi.D.tn, -Mi.isub, h1, h2]
theorem la_ns (h : FOk p) : m_is_sequence [la p] = .ok (.pl (.bl false)) ∧ isub (la p).tn (.c "Exact") = false := by
  rcases h.cases with h0 | h
  · rw [la0 h0]; exact ⟨not_seq _ (by decide) (by decide), rfl⟩
  · rw [laP h]; exact ⟨not_seq _ rfl rfl, rfl⟩
theorem take_set_drop {ds : List D} {j : Nat} {b : D} (h : ds[j]? = some b) : ds = ds.take j ++ b :: ds.drop (j + 1) := by
  obtain ⟨hj, rfl⟩ := List.getElem?_eq_some_iff.mp h
  rw [← List.drop_eq_getElem_cons hj, List.take_append_drop]
theorem sq_f (ds : List D) : D.lst ds = sq false ds := rfl
theorem sq_t (ds : List D) : D.tup ds = sq true ds := rfl
end
end Mi

namespace Mi
local macro_rules | `(tactic| simp! only [$as,*]) => `(tactic| simp only [Mi.runM, Mi.runI, Mi.runR, Mi.outF, Mi.outI, Mi.outR, Mi.startE, Mi.bnd, Mi.ret, Mi.lift, Mi.fail, Mi.mVar, Mi.mC, Mi.mBin, Mi.mBinN, Mi.mUn, Mi.mFld, Mi.mFrz, Mi.mB, Mi.tru, Mi.mAnd, Mi.mOr, Mi.mNot, Mi.mAndV, Mi.mOrV, Mi.mNotV, Mi.mIf, Mi.mChain, Mi.mNil, Mi.mCons, Mi.mTup, Mi.mLst, Mi.mCB, Mi.mCBn, Mi.mIdxV, Mi.mSkip, Mi.thenF, Mi.mSeq, Mi.sto, Mi.mAsg, Mi.mAsgN, Mi.two, Mi.mPar, Mi.mDrop, Mi.mRet, Mi.mRetN, Mi.mRetV, Mi.mIfS, Mi.againF, Mi.gV, Mi.gsN, Mi.gsC, Mi.gT, Mi.mAsgT, Mi.tgt, Mi.mCall, Mi.frzR, Mi.newR, Mi.mCallN, Mi.recv, Mi.mMeth, Mi.mMethN, Mi.mMake, Mi.callR, Mi.mCallR, Mi.newM, Mi.mCallRN, Mi.mApp, Mi.mRev, Mi.setAt, Mi.mSetV, Mi.mSetF, Mi.mAug, Mi.one, Mi.mRaise, Mi.mRaise0, Mi.mTry, Mi.noEx, Mi.endX, Mi.inX, Mi.mTryAs, Mi.mXf, Mi.dI, Mi.dIc, Mi.dAdd, Mi.dSub, Mi.dLt, Mi.dLe, Mi.dGt, Mi.dGe, Mi.dMul, Mi.dDiv, Mi.dMod, Mi.dPow, Mi.dNeg, Mi.sEq, Mi.ofB, Mi.dEq, Mi.dNe, Mi.isNon, Mi.dIsN, Mi.dNotN, Mi.dInt, Mi.dI1, Mi.dI2, Mi.dAbs, Mi.dMin, Mi.dMax, Mi.dGcd, Mi.dLen1, Mi.dLen, Mi.mLenV, Mi.mIsi, Mi.isub, Mi.D.tn, Mi.dIx, Mi.opC, Mi.negC, Mi.eqC, Mi.ipC, Mi.Rv.d, Mi.mNoP, Mi.asI, Mi.mPart, Mi.mSlL, Mi.asL, Mi.asQ, Mi.mItQ, Mi.mItA, Mi.mFor, Mi.putD, List.map_cons, List.map_nil, List.length_cons, List.length_nil, List.replicate, List.cons_append, List.nil_append, List.getElem?_cons_zero, List.getElem?_cons_succ, List.set_cons_zero, List.set_cons_succ, Nat.sub_self, Nat.reduceAdd, Nat.reduceSub, Nat.reduceEqDiff, List.reverse_cons, id, Bool.not_true, Bool.not_false, if_true, if_false, Bool.false_eq_true, reduceIte, true_and, and_true, and_self, Option.toList, List.all_cons, List.all_nil, Bool.and_true, Bool.true_and, Bool.and_self, decide_true, decide_false, decide_eq_true_eq, reduceCtorEq, Mi.bo_pl, Mi.bo_ow, Mi.bo_rf, Mi.bo_un, Mi.sa_ow, Mi.sa_rf, Mi.sa_pl, Mi.oa_un, Mi.oa_pl, Mi.oa_ow, Mi.co_ow, Mi.co_rf, Mi.co_pl, Mi.st_ow, Mi.st_rf, Mi.lv_ow, Mi.lv_rf, Mi.lv_pl, Mi.ne_un, Mi.ne_pl, Mi.ne_ow, Mi.ne_rf, Mi.ne_se, Mi.ne_ex, Mi.th_un, Mi.th_pl, Mi.ie_ex, Mi.xf_ex, ne_eq, not_false_eq_true, not_true_eq_false, Mi.clr, Mi.putS, Option.isSome_some, Option.some.injEq, Int.reduceEq, Int.reduceNe, Int.reduceLT, Int.reduceLE, Nat.reduceLT, Nat.reduceLeDiff, decide_not, Bool.not_eq_true, Bool.decide_eq_true, Mi.ib_t, Mi.ib_f, Mi.mkR_ex, Mi.bO_s, Mi.rO_f, Mi.rO_t, Mi.dEqA_eq, Mi.eqN_0, Mi.eqN_1, Mi.eqN_2, Mi.eqN_3, Mi.eqB_ins, Mi.eqB_tt, Mi.eqB_ll, Mi.eqB_int, Mi.eqB_str, Mi.eqB_bl, Mi.eqB_non, Mi.eqK_ii, Mi.eqK_ss, Mi.eqK_bb, Mi.eqK_nn, Mi.eqK_ni, Mi.eqK_in, Mi.eqK_ns, Mi.eqK_sn, Mi.eqK_is, Mi.eqK_si, Mi.eqK_nt, Mi.eqK_nl, Mi.eqB_tn, Mi.eqB_ln, Mi.eqLs_nil, Mi.eqLs_nc, Mi.eqLs_cn, Mi.eqLs_cc, Mi.itE_int, Mi.itE_str, Mi.itE_bl, Mi.itE_non, Mi.appT, Mi.asB, Mi.mMakeK, Mi.mDic, Option.bind_some, Mi.mLstV, Mi.lsV, Mi.mTupV, Mi.dList, Mi.dTuple, Mi.mSlT, Mi.asT2, Mi.mIsiT, Mi.enumQ, Mi.dInN, Mi.three, Mi.mPar3, Mi.brw, Mi.mOwn, Mi.mCallB, Mi.mMakeB, Mi.noLx, Mi.noL_tup, Mi.noL_ins, Mi.noL_lst, Mi.noL_int, Mi.noL_str, Mi.noL_bl, Mi.noL_non, Mi.noL_dic, Mi.noLs_nil, Mi.noLs_cons, Mi.noLf_nil, Mi.noLf_cons, List.any_cons, List.any_nil, Bool.or_true, Bool.or_false, Bool.true_or, Bool.false_or, Mi.hd_t, Mi.hd_f, Mi.hf_t, Mi.hf_f, Mi.hd_eq, Mi.mSlV, Mi.cutO, Mi.dLenA, Mi.dLenA1, Mi.lenOf, Mi.dCat, $as,*]) | `(tactic| simp! only [$as,*] $l:location) => `(tactic| simp only [Mi.runM, Mi.runI, Mi.runR, Mi.outF, Mi.outI, Mi.outR, Mi.startE, Mi.bnd, Mi.ret, Mi.lift, Mi.fail, Mi.mVar, Mi.mC, Mi.mBin, Mi.mBinN, Mi.mUn, Mi.mFld, Mi.mFrz, Mi.mB, Mi.tru, Mi.mAnd, Mi.mOr, Mi.mNot, Mi.mAndV, Mi.mOrV, Mi.mNotV, Mi.mIf, Mi.mChain, Mi.mNil, Mi.mCons, Mi.mTup, Mi.mLst, Mi.mCB, Mi.mCBn, Mi.mIdxV, Mi.mSkip, Mi.thenF, Mi.mSeq, Mi.sto, Mi.mAsg, Mi.mAsgN, Mi.two, Mi.mPar, Mi.mDrop, Mi.mRet, Mi.mRetN, Mi.mRetV, Mi.mIfS, Mi.againF, Mi.gV, Mi.gsN, Mi.gsC, Mi.gT, Mi.mAsgT, Mi.tgt, Mi.mCall, Mi.frzR, Mi.newR, Mi.mCallN, Mi.recv, Mi.mMeth, Mi.mMethN, Mi.mMake, Mi.callR, Mi.mCallR, Mi.newM, Mi.mCallRN, Mi.mApp, Mi.mRev, Mi.setAt, Mi.mSetV, Mi.mSetF, Mi.mAug, Mi.one, Mi.mRaise, Mi.mRaise0, Mi.mTry, Mi.noEx, Mi.endX, Mi.inX, Mi.mTryAs, Mi.mXf, Mi.dI, Mi.dIc, Mi.dAdd, Mi.dSub, Mi.dLt, Mi.dLe, Mi.dGt, Mi.dGe, Mi.dMul, Mi.dDiv, Mi.dMod, Mi.dPow, Mi.dNeg, Mi.sEq, Mi.ofB, Mi.dEq, Mi.dNe, Mi.isNon, Mi.dIsN, Mi.dNotN, Mi.dInt, Mi.dI1, Mi.dI2, Mi.dAbs, Mi.dMin, Mi.dMax, Mi.dGcd, Mi.dLen1, Mi.dLen, Mi.mLenV, Mi.mIsi, Mi.isub, Mi.D.tn, Mi.dIx, Mi.opC, Mi.negC, Mi.eqC, Mi.ipC, Mi.Rv.d, Mi.mNoP, Mi.asI, Mi.mPart, Mi.mSlL, Mi.asL, Mi.asQ, Mi.mItQ, Mi.mItA, Mi.mFor, Mi.putD, List.map_cons, List.map_nil, List.length_cons, List.length_nil, List.replicate, List.cons_append, List.nil_append, List.getElem?_cons_zero, List.getElem?_cons_succ, List.set_cons_zero, List.set_cons_succ, Nat.sub_self, Nat.reduceAdd, Nat.reduceSub, Nat.reduceEqDiff, List.reverse_cons, id, Bool.not_true, Bool.not_false, if_true, if_false, Bool.false_eq_true, reduceIte, true_and, and_true, and_self, Option.toList, List.all_cons, List.all_nil, Bool.and_true, Bool.true_and, Bool.and_self, decide_true, decide_false, decide_eq_true_eq, reduceCtorEq, Mi.bo_pl, Mi.bo_ow, Mi.bo_rf, Mi.bo_un, Mi.sa_ow, Mi.sa_rf, Mi.sa_pl, Mi.oa_un, Mi.oa_pl, Mi.oa_ow, Mi.co_ow, Mi.co_rf, Mi.co_pl, Mi.st_ow, Mi.st_rf, Mi.lv_ow, Mi.lv_rf, Mi.lv_pl, Mi.ne_un, Mi.ne_pl, Mi.ne_ow, Mi.ne_rf, Mi.ne_se, Mi.ne_ex, Mi.th_un, Mi.th_pl, Mi.ie_ex, Mi.xf_ex, ne_eq, not_false_eq_true, not_true_eq_false, Mi.clr, Mi.putS, Option.isSome_some, Option.some.injEq, Int.reduceEq, Int.reduceNe, Int.reduceLT, Int.reduceLE, Nat.reduceLT, Nat.reduceLeDiff, decide_not, Bool.not_eq_true, Bool.decide_eq_true, Mi.ib_t, Mi.ib_f, Mi.mkR_ex, Mi.bO_s, Mi.rO_f, Mi.rO_t, Mi.dEqA_eq, Mi.eqN_0, Mi.eqN_1, Mi.eqN_2, Mi.eqN_3, Mi.eqB_ins, Mi.eqB_tt, Mi.eqB_ll, Mi.eqB_int, Mi.eqB_str, Mi.eqB_bl, Mi.eqB_non, Mi.eqK_ii, Mi.eqK_ss, Mi.eqK_bb, Mi.eqK_nn, Mi.eqK_ni, Mi.eqK_in, Mi.eqK_ns, Mi.eqK_sn, Mi.eqK_is, Mi.eqK_si, Mi.eqK_nt, Mi.eqK_nl, Mi.eqB_tn, Mi.eqB_ln, Mi.eqLs_nil, Mi.eqLs_nc, Mi.eqLs_cn, Mi.eqLs_cc, Mi.itE_int, Mi.itE_str, Mi.itE_bl, Mi.itE_non, Mi.appT, Mi.asB, Mi.mMakeK, Mi.mDic, Option.bind_some, Mi.mLstV, Mi.lsV, Mi.mTupV, Mi.dList, Mi.dTuple, Mi.mSlT, Mi.asT2, Mi.mIsiT, Mi.enumQ, Mi.dInN, Mi.three, Mi.mPar3, Mi.brw, Mi.mOwn, Mi.mCallB, Mi.mMakeB, Mi.noLx, Mi.noL_tup, Mi.noL_ins, Mi.noL_lst, Mi.noL_int, Mi.noL_str, Mi.noL_bl, Mi.noL_non, Mi.noL_dic, Mi.noLs_nil, Mi.noLs_cons, Mi.noLf_nil, Mi.noLf_cons, List.any_cons, List.any_nil, Bool.or_true, Bool.or_false, Bool.true_or, Bool.false_or, Mi.hd_t, Mi.hd_f, Mi.hf_t, Mi.hf_f, Mi.hd_eq, Mi.mSlV, Mi.cutO, Mi.dLenA, Mi.dLenA1, Mi.lenOf, Mi.dCat, $as,*] $l:location)
open PySem
section
variable {p : Int} {x y q : Rat} {n m k : Nat} {qs cs es : List Rat} {d : D} {ds gs : List D} {f s o : Int} {w sp sr a b : Sl}
theorem xs_Ns : Sx.xsub "NoSeries" "NoSeries" = true := rfl
theorem q_ok {gs : List (Str × D)} (h : m_Series___init__ [fD p, d] = .ok gs) : m__law_refused [fD p, d] = .ok (.pl mdd) := by
  unfold m__law_refused b__law_refused mdd
  generalize m_Series___init__ = mi at h ⊢
  simp! only [h, Mi.mkR]
theorem q_x {k : Int} (h : m_Series___init__ [fD p, d] = .ex "NoSeries" (some ("place", .int k))) : m__law_refused [fD p, d] = .ok (.pl (rfd k)) := by
  unfold m__law_refused b__law_refused rfd
  generalize m_Series___init__ = mi at h ⊢
  simp! only [h, xs_Ns]
theorem f_ok {v : D} (h : m_Series_then [srD p cs, d] = .ok (.pl v)) : m__law_further [srD p cs, d] = .ok (.pl mdd) := by
  unfold m__law_further b__law_further mdd
  generalize m_Series_then = mi at h ⊢
  simp! only [-Mi.recv, recv_St, h]
theorem f_x {k : Int} (h : m_Series_then [srD p cs, d] = .ex "NoSeries" (some ("place", .int k))) : m__law_further [srD p cs, d] = .ok (.pl (rfd k)) := by
  unfold m__law_further b__law_further rfd
  generalize m_Series_then = mi at h ⊢
  simp! only [-Mi.recv, recv_St, h, xs_Ns]
theorem c_x (h : m_Series_first [srD p cs, d] = .ex "NoCount" none) : m__law_counted [srD p cs, d] = .ok (.pl (.str "refused")) := by
  unfold m__law_counted b__law_counted
  simp! only [-Mi.recv, recv_Sf, h, xs_Nc]
theorem split_at {j : Nat} {b : D} (hb : ds[j]? = some b) (hok : ∀ i < j, ∀ d, ds[i]? = some d → ∃ q, NumOk p d q) : ds = ds.take j ++ b :: ds.drop (j + 1) ∧ (ds.take j).length = j ∧ ∀ d ∈ ds.take j, ∃ q, NumOk p d q := by
  have hj : j < ds.length := (List.getElem?_eq_some_iff.mp hb).1
  refine ⟨take_set_drop hb, by rw [List.length_take]; omega, fun d hd => ?_⟩
  obtain ⟨i, hi, rfl⟩ := List.mem_iff_getElem.mp hd
  rw [List.length_take] at hi
  refine hok i (by omega) _ ?_
  rw [List.getElem_take, List.getElem?_eq_getElem]
theorem q_at (t : Bool) {j : Nat} {b : D} (hl : ds.length ≤ 32) (hb : ds[j]? = some b) (hx : NumX p b) (hok : ∀ i < j, ∀ d, ds[i]? = some d → ∃ q, NumOk p d q) : m__law_refused [fD p, sq t ds] = .ok (.pl (rfd j)) := by
  obtain ⟨e, lt, hd⟩ := split_at hb hok
  have hh := e_SinitX (p := p) (t := t) (ds := ds.take j) (rest := ds.drop (j + 1)) (b := b) (by rw [← e]; exact hl) hd hx
  rw [← e, lt] at hh
  exact q_x hh
theorem f_at (t : Bool) {j : Nat} {b : D} (hl : cs.length + ds.length ≤ 79) (hb : ds[j]? = some b) (hx : NumX p b) (hok : ∀ i < j, ∀ d, ds[i]? = some d → ∃ q, NumOk p d q) : m__law_further [srD p cs, sq t ds] = .ok (.pl (rfd j)) := by
  obtain ⟨e, lt, hd⟩ := split_at hb hok
  have hh := e_SthenX (cs := cs) (p := p) (t := t) (ds := ds.take j) (rest := ds.drop (j + 1)) (b := b) (by rw [← e]; exact hl) hd hx
  rw [← e, lt] at hh
  exact f_x hh
theorem q_no (h1 : isub d.tn (.c "Exact") = false) (h2 : isub d.tn (.b "list") = false) (h3 : isub d.tn (.b "tuple") = false) : m__law_refused [fD p, d] = .ok (.pl (rfd (-1))) := q_x (e_SinitS h1 (not_seq _ h2 h3))
theorem f_no (h2 : isub d.tn (.b "list") = false) (h3 : isub d.tn (.b "tuple") = false) : m__law_further [srD p cs, d] = .ok (.pl (rfd (-1))) := f_x (e_SthenS (not_seq _ h2 h3))
theorem oddS (h : FOk p) (k : Int) (k0 : 0 ≤ k) (k7 : k < 7) : ∃ d, listAt (stL p) k = .ok d ∧ NumX p d := by
  have : k = 0 ∨ k = 1 ∨ k = 2 ∨ k = 3 ∨ k = 4 ∨ k = 5 ∨ k = 6 := by omega
  rcases this with rfl | rfl | rfl | rfl | rfl | rfl | rfl
  · exact ⟨_, rfl, numX_of rfl rfl⟩
  · exact ⟨_, rfl, numX_of rfl rfl⟩
  · exact ⟨_, rfl, numX_of rfl rfl⟩
  · exact ⟨_, rfl, numX_of rfl rfl⟩
  · exact ⟨_, rfl, numX_of rfl rfl⟩
  · exact ⟨_, rfl, numX_of rfl rfl⟩
  · exact ⟨_, rfl, numX_la h⟩
theorem pairs_of : ∀ (ds : List D), (∀ d ∈ ds, ∃ q, NumOk p d q) → ∃ l : List (D × Rat), l.map (·.1) = ds ∧ l.length = ds.length ∧ ∀ x ∈ l, NumOk p x.1 x.2
  | [], _ => ⟨[], rfl, rfl, fun _ h => nomatch h⟩
  | d :: ds, hn => by
    obtain ⟨l, e, el, hl⟩ := pairs_of ds fun y hy => hn y (List.mem_cons_of_mem _ hy)
    obtain ⟨q, hq⟩ := hn d List.mem_cons_self
    refine ⟨(d, q) :: l, by rw [List.map_cons, e], by rw [List.length_cons, List.length_cons, el], fun y hy => ?_⟩
    rcases List.mem_cons.mp hy with rfl | hy
    · exact hq
    · exact hl y hy
theorem numI1 (h : FOk p) : NumOk p (.int 1) 1 := by
  unfold NumOk
  rcases h.cases with h0 | h
  · rw [el0 h0, h0, e_numI0]; rfl
  · rw [elP h, e_numI h, Int.emod_eq_of_lt (by decide) h.pr.1]; rfl
theorem numIp (h : FOk p) : NumOk p (.int p) 0 := by
  rcases h.cases with h0 | h
  · rw [h0] at *; exact numOk_0 (.inl rfl)
  · unfold NumOk
    rw [elP h, e_numI h, Int.emod_self]; rfl
/-! ### _law_more_refusals -/
theorem rp1 {k : Int} (h0 : 0 ≤ k) (h1 : k ≤ 100000) : repOk 1 k = true := hd_pos ⟨⟨h0, h1⟩, by decide⟩
theorem e_more (h : FOk p) (c0 : 0 < cs.length) (hl : cs.length ≤ 79) (hz : cs.getD 0 0 ≠ 0) (d : D) : m__law_more_refusals [srD p cs, d] = .ok (.pl (.bl true)) := by
  have n1 : m__law_further [srD p cs, .str "123"] = .ok (.pl (rfd (-1))) := f_no (by decide) (by decide)
  have n2 : m__law_further [srD p cs, .non] = .ok (.pl (rfd (-1))) := f_no (by decide) (by decide)
  have n3 : m__law_further [srD p cs, .int 5] = .ok (.pl (rfd (-1))) := f_no (by decide) (by decide)
  have n4 : m__law_further [srD p cs, .dic] = .ok (.pl (rfd (-1))) := f_no (by decide) (by decide)
  have r1 := rp1 (k := 79 - (cs.length : Int)) (by omega) (by omega)
  have r2 := rp1 (k := 79 - (cs.length : Int) + 1) (by omega) (by omega)
  have t1 : (79 - (cs.length : Int)).toNat = 79 - cs.length := by omega
  have t2 : (79 - (cs.length : Int) + 1).toNat = 80 - cs.length := by omega
  have n5 : m__law_further [srD p cs, .lst (List.replicate (79 - cs.length) [D.int 0]).flatten] = .ok (.pl mdd) := by
    rw [List.flatten_replicate_singleton]
    obtain ⟨l, e, el, hn⟩ := pairs_of (p := p) (List.replicate (79 - cs.length) (D.int 0)) fun d hd => by
      rw [List.eq_of_mem_replicate hd]; exact ⟨0, numOk_0 h⟩
    rw [List.length_replicate] at el
    have := e_Sthen (t := false) h c0 hz l (by omega) hn
    rw [e] at this
    exact f_ok this
  have n6 : ∀ d : D, m__law_further [srD p cs, .lst (List.replicate (80 - cs.length) [d]).flatten] = .ok (.pl (rfd (-1))) := fun d => by
    rw [List.flatten_replicate_singleton]
    exact f_x (e_SthenL (t := false) (by rw [List.length_replicate]; omega))
  have c1 := c_x (e_SfirstR (p := p) (cs := cs) (k := 0) (by omega))
  have c2 := c_x (e_SfirstR (p := p) (cs := cs) (k := -1) (by omega))
  have c3 := c_x (e_SfirstR (p := p) (cs := cs) (k := (cs.length : Int) + 1) (by omega))
  have c4 := c_x (e_SfirstX (p := p) (cs := cs) (d := .bl true) rfl)
  have c5 := c_x (e_SfirstX (p := p) (cs := cs) (d := .non) rfl)
  have c6 := c_x (e_SfirstX (p := p) (cs := cs) (d := .str "1") rfl)
  have c7 := c_x (e_SfirstX (p := p) (cs := cs) (d := rD ((1 : Int) : Rat)) rfl)
  have st : startE 5 [srD p cs, d] = [.pl (srD p cs), .pl d, .un, .un, .un] := rfl
  unfold m__law_more_refusals b__law_more_refusals lr__law_more_refusals_1 lr__law_more_refusals_2 lr__law_more_refusals_3 lr__law_more_refusals_4 lr__law_more_refusals_5
  simp! only [-Mi.dEqA_eq, -List.replicate, -Mi.startE, -Mi.dLenA, st, Mi.forL, lb__law_more_refusals_6, lb__law_more_refusals_1, n1, n2, n3, n4, rfd_mk, ne_rr, e_lenA (by omega : cs.length ≤ 1000), Mi.mRep, r1, r2, t1, t2, n5, n6, mdd_mk, ne_mm, c1, c2, c3, c4, c5, c6, c7, e_init1, mkR_rF]
/-! ### _law_refusals -/
noncomputable abbrev rS (p : Int) (gs : List D) (f s o : Int) (w sp sr a b : Sl) : Env := [.pl (fD p), .pl (.int p), .pl (.lst gs), .pl (.int f), .pl (.int s), .pl (.int o), .ow (stL p), w, sp, sr, a, b]
theorem ix7_6 : L2.ixN 7 6 = some 6 := rfl
theorem rs1 (h : FOk p) : b__law_refusals [.pl (fD p), .pl (.int p), .pl (.lst gs), .pl (.int f), .pl (.int s), .pl (.int o), .un, .un, .un, .un, .un, .un] = lr__law_refusals_2 (rS p gs f s o .un .un .un .un .un) := by
  unfold b__law_refusals lr__law_refusals_1 rS stL
  rcases h.cases with h0 | h
  · rw [la0 h0]
    simp! only [show ¬ (0 : Int) < p by omega]
  · rw [laP h]
    simp! only [h.pos, e_init h.ne, mkR_rF, ix7_6]
theorem rs2 : lr__law_refusals_2 (rS p gs f s o .un sp sr a b) = lr__law_refusals_3 (rS p gs f s o (.pl (.tup [])) sp sr a b) := by
  have n1 : m__law_refused [fD p, .str "123"] = .ok (.pl (rfd (-1))) := q_no rfl (by decide) (by decide)
  have n2 : m__law_refused [fD p, .non] = .ok (.pl (rfd (-1))) := q_no rfl (by decide) (by decide)
  have n3 : m__law_refused [fD p, .int 5] = .ok (.pl (rfd (-1))) := q_no rfl (by decide) (by decide)
  have n4 : m__law_refused [fD p, .dic] = .ok (.pl (rfd (-1))) := q_no rfl (by decide) (by decide)
  have n5 : m__law_refused [fD p, .lst []] = .ok (.pl (rfd (-1))) := q_x (e_SinitN (t := false))
  have n6 : m__law_refused [fD p, .tup []] = .ok (.pl (rfd (-1))) := q_x (e_SinitN (t := true))
  unfold lr__law_refusals_2 rS
  simp! only [-Mi.dEqA_eq, Mi.forL, lb__law_refusals_12, n1, n2, n3, n4, n5, n6, rfd_mk, ne_rr]
theorem rs3 (h : FOk p) : lr__law_refusals_3 (rS p gs f s o w sp sr a b) = lr__law_refusals_5 (rS p gs f s o w sp sr a b) := by
  have n1 : m__law_refused [fD p, .lst (List.replicate (32 : Int).toNat [D.int 1]).flatten] = .ok (.pl mdd) := by
    rw [List.flatten_replicate_singleton]
    have := e_Sinit (t := false) h (List.replicate 32 ((.int 1 : D), (1 : Rat))) (by decide) (by decide) (fun x hx => by rw [List.eq_of_mem_replicate hx]; exact numI1 h) (by show (1 : Rat) ≠ 0; decide)
    rw [List.map_replicate] at this
    exact q_ok this
  have n2 : ∀ d : D, m__law_refused [fD p, .lst (List.replicate (33 : Int).toNat [d]).flatten] = .ok (.pl (rfd (-1))) := fun d => by
    rw [List.flatten_replicate_singleton]
    exact q_x (e_SinitL (t := false) (by rw [List.length_replicate]; decide))
  have n3 : m__law_refused [fD p, .lst [.int 0, .int 1]] = .ok (.pl (rfd 0)) := by
    have := e_SinitZ (t := false) h [((.int 0 : D), (0 : Rat)), ((.int 1 : D), (1 : Rat))] (by decide) (by decide) (fun x hx => by
      rcases List.mem_cons.mp hx with rfl | hx
      · exact numOk_0 h
      · rcases List.mem_cons.mp hx with rfl | hx
        · exact numI1 h
        · cases hx) rfl
    exact q_x this
  unfold lr__law_refusals_3 lr__law_refusals_4 rS
  simp! only [-Mi.dEqA_eq, -List.replicate, Mi.mRep, rp1 (k := 32) (by decide) (by decide), rp1 (k := 33) (by decide) (by decide), n1, n2, n3, rfd_mk, mdd_mk, ne_rr, ne_mm]
theorem cutD_1 (ds : List D) (h : 1 ≤ ds.length) : cutD ds (some 1) none = ds.drop 1 := by
  unfold cutD
  rw [show (some (1 : Int)) = some ((1 : Nat) : Int) from rfl, HT.sIx_nat, HT.sIx_none, Nat.min_eq_left h, List.take_of_length_le (by rw [List.length_drop]; exact Nat.le_refl _)]
theorem rs5 {i j : Nat} {d1 d2 : D} {o2 : Int} {l : List (D × Rat)} (h : FOk p) (eg : l.map (·.1) = gs) (g0 : 1 ≤ gs.length) (hl : gs.length ≤ 32) (hN : ∀ x ∈ l, NumOk p x.1 x.2) (hz : (l.map (·.2)).getD 0 0 ≠ 0) (o1 : listAt (stL p) o = .ok d1) (x1 : NumX p d1) (eo : iMod (o + 1) 7 = o2) (o2 : listAt (stL p) o2 = .ok d2) (x2 : NumX p d2)
    (ei : iMod f gs.length = i) (hi : i < gs.length) (ej : iMod s gs.length = j) (hj : j < gs.length) :
    ∃ ρ, lr__law_refusals_5 (rS p gs f s o w .un .un .un .un) = .ok (.rt (.pl (.bl true))) ρ := by
  have hn : ∀ d ∈ gs, ∃ q, NumOk p d q := fun d hd => by
    rw [← eg] at hd
    obtain ⟨x, hx, rfl⟩ := List.mem_map.mp hd
    exact ⟨_, hN x hx⟩
  have ll : l.length = gs.length := by rw [← eg, List.length_map]
  have ei0 := e_Sinit (t := false) h l (by omega) (by omega) hN hz
  rw [eg, ← sq_f] at ei0
  have hr : m__law_refused [fD p, .lst gs] = .ok (.pl mdd) := q_ok ei0
  have l0 : ¬ (gs.length : Int) = 0 := by omega
  have k1 : m__law_refused [fD p, .lst (.int p :: gs.drop 1)] = .ok (.pl (rfd 0)) := by
    have := e_SinitZ (t := false) h (((.int p : D), (0 : Rat)) :: l.drop 1) (by rw [List.length_cons]; omega) (by rw [List.length_cons, List.length_drop]; omega) (fun x hx => by
      rcases List.mem_cons.mp hx with rfl | hx
      · exact numIp h
      · exact hN x (List.mem_of_mem_drop hx)) rfl
    rw [List.map_cons, List.map_drop, eg] at this
    exact q_x this
  have g1 : (gs.set i d1)[i]? = some d1 := by rw [List.getElem?_set_self hi]
  have ok1 : ∀ k < i, ∀ d, (gs.set i d1)[k]? = some d → ∃ q, NumOk p d q := fun k hk d e => by
    rw [List.getElem?_set_ne (by omega)] at e
    exact hn d (List.mem_of_getElem? e)
  have r1 := q_at false (p := p) (ds := gs.set i d1) (by rw [List.length_set]; exact hl) g1 x1 ok1
  have r2 := q_at true (p := p) (ds := gs.set i d1) (by rw [List.length_set]; exact hl) g1 x1 ok1
  have r4 : m__law_refused [fD p, .lst (.int 0 :: (gs.set i d1).drop 1)] = .ok (.pl (rfd i)) := by
    by_cases z : i = 0
    · subst z
      have := e_SinitZ (t := false) h (((.int 0 : D), (0 : Rat)) :: l.drop 1) (by rw [List.length_cons]; omega) (by rw [List.length_cons, List.length_drop]; omega) (fun x hx => by
        rcases List.mem_cons.mp hx with rfl | hx
        · exact numOk_0 h
        · exact hN x (List.mem_of_mem_drop hx)) rfl
      rw [List.map_cons, List.map_drop, eg] at this
      have e : (gs.set 0 d1).drop 1 = gs.drop 1 := by cases gs <;> rfl
      rw [e]
      exact q_x this
    · have e : (D.int 0 :: (gs.set i d1).drop 1)[i]? = some d1 := by
        obtain ⟨i', rfl⟩ : ∃ i', i = i' + 1 := ⟨i - 1, by omega⟩
        rw [List.getElem?_cons_succ, List.getElem?_drop, Nat.add_comm 1 i']; exact g1
      refine q_at false (p := p) (ds := .int 0 :: (gs.set i d1).drop 1) (by rw [List.length_cons, List.length_drop, List.length_set]; omega) e x1 fun k hk d e => ?_
      cases k with
      | zero => cases e; exact ⟨0, numOk_0 h⟩
      | succ k =>
        rw [List.getElem?_cons_succ, List.getElem?_drop, Nat.add_comm 1 k] at e
        exact ok1 (k + 1) hk d e
  have g3 : ∃ (c : Nat) (b : D), ((min (i : Int) (j : Int) : Int)) = c ∧ ((gs.set i d1).set j d2)[c]? = some b ∧ NumX p b ∧ ∀ k < c, ∀ d, ((gs.set i d1).set j d2)[k]? = some d → ∃ q, NumOk p d q := by
    by_cases c : j ≤ i
    · refine ⟨j, d2, by omega, List.getElem?_set_self (by rw [List.length_set]; exact hj), x2, fun k hk d e => ?_⟩
      rw [List.getElem?_set_ne (by omega), List.getElem?_set_ne (by omega)] at e
      exact hn d (List.mem_of_getElem? e)
    · refine ⟨i, d1, by omega, by rw [List.getElem?_set_ne (by omega)]; exact g1, x1, fun k hk d e => ?_⟩
      rw [List.getElem?_set_ne (by omega), List.getElem?_set_ne (by omega)] at e
      exact hn d (List.mem_of_getElem? e)
  obtain ⟨c, b, ec, gb, xb, okb⟩ := g3
  have l2 : ((gs.set i d1).set j d2).length = gs.length := by rw [List.length_set, List.length_set]
  have lc : (l.map (·.2)).length = gs.length := by rw [List.length_map]; exact ll
  have r3 := q_at false (p := p) (by rw [l2]; exact hl) gb xb okb
  have r5 := f_at false (cs := l.map (·.2)) (p := p) (by rw [l2, lc]; omega) gb xb okb
  have r6 := e_more (cs := l.map (·.2)) h (by omega) (by omega) hz d1
  rw [← sq_f] at r1 r3 r5
  rw [← sq_t] at r2
  have i1 : L2.ixN gs.length (i : Int) = some i := ixN_nt hi
  have i2 : L2.ixN gs.length (j : Int) = some j := ixN_nt hj
  have c1 := cutD_1 gs g0
  have c2 := cutD_1 (gs.set i d1) (by rw [List.length_set]; exact g0)
  have z1 : 0 + 1 + (gs.drop 1).length ≤ 1000000 := by rw [List.length_drop]; omega
  have z2 : 0 + 1 + ((gs.set i d1).drop 1).length ≤ 1000000 := by rw [List.length_drop, List.length_set]; omega
  rw [Nat.zero_add] at z1 z2
  unfold lr__law_refusals_5 lr__law_refusals_6 lr__law_refusals_7 lr__law_refusals_8 lr__law_refusals_9 lr__law_refusals_10 lr__law_refusals_11 lr__law_refusals_12 lr__law_refusals_13 lr__law_refusals_14 rS
  simp! only [-Mi.dEqA_eq, c1, z1, k1, hr, mdd_mk, ne_mm, l0, ei, ej, o1, i1, r1, noL_rfd, rfd_mk, ne_rr, r2, c2, z2, r4, eo, o2, i2, List.length_set, r3, ec, ei0, mkR_srF, r5, eq_rr, r6]
  exact ⟨_, rfl⟩
theorem e_refusals (h : FOk p) (l : List (D × Rat)) (l0 : 1 ≤ l.length) (hl : l.length ≤ 32) (hn : ∀ x ∈ l, NumOk p x.1 x.2) (hz : (l.map (·.2)).getD 0 0 ≠ 0) (o0 : 0 ≤ o) (o7 : o < 7) : m__law_refusals [fD p, .int p, .lst (l.map (·.1)), .int f, .int s, .int o] = .ok (.pl (.bl true)) := by
  obtain ⟨d1, o1, x1⟩ := oddS h o o0 o7
  obtain ⟨d2, o2, x2⟩ := oddS h (iMod (o + 1) 7) (by rw [iMod_eq, Int.fmod_eq_emod_of_nonneg _ (by decide)]; omega) (by rw [iMod_eq, Int.fmod_eq_emod_of_nonneg _ (by decide)]; omega)
  have hb := (rs1 (gs := l.map (·.1)) (f := f) (s := s) (o := o) h).trans (rs2.trans (rs3 h))
  have hll : (l.map (·.1)).length = l.length := List.length_map ..
  obtain ⟨gs, eg⟩ : ∃ gs, l.map (·.1) = gs := ⟨_, rfl⟩
  rw [eg] at hb hll ⊢
  have md : ∀ k : Int, 0 ≤ iMod k (gs.length : Int) ∧ iMod k (gs.length : Int) < gs.length := fun k => by
    rw [iMod_eq, Int.fmod_eq_emod_of_nonneg _ (by omega)]
    exact ⟨Int.emod_nonneg _ (by omega), Int.emod_lt_of_pos _ (by omega)⟩
  have m1 := md f
  have m2 := md s
  obtain ⟨ρ, e⟩ := rs5 (w := .pl (.tup [])) (i := (iMod f gs.length).toNat) (j := (iMod s gs.length).toNat) h eg (by omega) (by omega) hn hz o1 x1 rfl o2 x2 (Int.toNat_of_nonneg m1.1).symm (by omega) (Int.toNat_of_nonneg m2.1).symm (by omega)
  unfold m__law_refusals
  refine runM_of rfl (ρ' := ρ) ?_
  show b__law_refusals [.pl (fD p), .pl (.int p), .pl (.lst gs), .pl (.int f), .pl (.int s), .pl (.int o), .un, .un, .un, .un, .un, .un] = _
  rw [hb, e]
end
end Mi

namespace Mi
local macro_rules | `(tactic| simp! only [$as,*]) => `(tactic| simp only [Mi.runM, Mi.runI, Mi.runR, Mi.outF, Mi.outI, Mi.outR, Mi.startE, Mi.bnd, Mi.ret, Mi.lift, Mi.fail, Mi.mVar, Mi.mC, Mi.mBin, Mi.mBinN, Mi.mUn, Mi.mFld, Mi.mFrz, Mi.mB, Mi.tru, Mi.mAnd, Mi.mOr, Mi.mNot, Mi.mAndV, Mi.mOrV, Mi.mNotV, Mi.mIf, Mi.mChain, Mi.mNil, Mi.mCons, Mi.mTup, Mi.mLst, Mi.mCB, Mi.mCBn, Mi.mIdxV, Mi.mSkip, Mi.thenF, Mi.mSeq, Mi.sto, Mi.mAsg, Mi.mAsgN, Mi.two, Mi.mPar, Mi.mDrop, Mi.mRet, Mi.mRetN, Mi.mRetV, Mi.mIfS, Mi.againF, Mi.gV, Mi.gsN, Mi.gsC, Mi.gT, Mi.mAsgT, Mi.tgt, Mi.mCall, Mi.frzR, Mi.newR, Mi.mCallN, Mi.recv, Mi.mMeth, Mi.mMethN, Mi.mMake, Mi.callR, Mi.mCallR, Mi.newM, Mi.mCallRN, Mi.mApp, Mi.mRev, Mi.setAt, Mi.mSetV, Mi.mSetF, Mi.mAug, Mi.one, Mi.mRaise, Mi.mRaise0, Mi.mTry, Mi.noEx, Mi.endX, Mi.inX, Mi.mTryAs, Mi.mXf, Mi.dI, Mi.dIc, Mi.dAdd, Mi.dSub, Mi.dLt, Mi.dLe, Mi.dGt, Mi.dGe, Mi.dMul, Mi.dDiv, Mi.dMod, Mi.dPow, Mi.dNeg, Mi.sEq, Mi.ofB, Mi.dEq, Mi.dNe, Mi.isNon, Mi.dIsN, Mi.dNotN, Mi.dInt, Mi.dI1, Mi.dI2, Mi.dAbs, Mi.dMin, Mi.dMax, Mi.dGcd, Mi.dLen1, Mi.dLen, Mi.mLenV, Mi.mIsi, Mi.isub, Mi.D.tn, Mi.dIx, Mi.opC, Mi.negC, Mi.eqC, Mi.ipC, Mi.Rv.d, Mi.mNoP, Mi.asI, Mi.mPart, Mi.mSlL, Mi.asL, Mi.asQ, Mi.mItQ, Mi.mItA, Mi.mFor, Mi.putD, List.map_cons, List.map_nil, List.length_cons, List.length_nil, List.replicate, List.cons_append, List.nil_append, List.getElem?_cons_zero, List.getElem?_cons_succ, List.set_cons_zero, List.set_cons_succ, Nat.sub_self, Nat.reduceAdd, Nat.reduceSub, Nat.reduceEqDiff, List.reverse_cons, id, Bool.not_true, Bool.not_false, if_true, if_false, Bool.false_eq_true, reduceIte, true_and, and_true, and_self, Option.toList, List.all_cons, List.all_nil, Bool.and_true, Bool.true_and, Bool.and_self, decide_true, decide_false, decide_eq_true_eq, reduceCtorEq, Mi.bo_pl, Mi.bo_ow, Mi.bo_rf, Mi.bo_un, Mi.sa_ow, Mi.sa_rf, Mi.sa_pl, Mi.oa_un, Mi.oa_pl, Mi.oa_ow, Mi.co_ow, Mi.co_rf, Mi.co_pl, Mi.st_ow, Mi.st_rf, Mi.lv_ow, Mi.lv_rf, Mi.lv_pl, Mi.ne_un, Mi.ne_pl, Mi.ne_ow, Mi.ne_rf, Mi.ne_se, Mi.ne_ex, Mi.th_un, Mi.th_pl, Mi.ie_ex, Mi.xf_ex, ne_eq, not_false_eq_true, not_true_eq_false, Mi.clr, Mi.putS, Option.isSome_some, Option.some.injEq, Int.reduceEq, Int.reduceNe, Int.reduceLT, Int.reduceLE, Nat.reduceLT, Nat.reduceLeDiff, decide_not, Bool.not_eq_true, Bool.decide_eq_true, Mi.ib_t, Mi.ib_f, Mi.mkR_ex, Mi.bO_s, Mi.rO_f, Mi.rO_t, Mi.dEqA_eq, Mi.eqN_0, Mi.eqN_1, Mi.eqN_2, Mi.eqN_3, Mi.eqB_ins, Mi.eqB_tt, Mi.eqB_ll, Mi.eqB_int, Mi.eqB_str, Mi.eqB_bl, Mi.eqB_non, Mi.eqK_ii, Mi.eqK_ss, Mi.eqK_bb, Mi.eqK_nn, Mi.eqK_ni, Mi.eqK_in, Mi.eqK_ns, Mi.eqK_sn, Mi.eqK_is, Mi.eqK_si, Mi.eqK_nt, Mi.eqK_nl, Mi.eqB_tn, Mi.eqB_ln, Mi.eqLs_nil, Mi.eqLs_nc, Mi.eqLs_cn, Mi.eqLs_cc, Mi.itE_int, Mi.itE_str, Mi.itE_bl, Mi.itE_non, Mi.appT, Mi.asB, Mi.mMakeK, Mi.mDic, Option.bind_some, Mi.mLstV, Mi.lsV, Mi.mTupV, Mi.dList, Mi.dTuple, Mi.mSlT, Mi.asT2, Mi.mIsiT, Mi.enumQ, Mi.dInN, Mi.three, Mi.mPar3, Mi.brw, Mi.mOwn, Mi.mCallB, Mi.mMakeB, Mi.noLx, Mi.noL_tup, Mi.noL_ins, Mi.noL_lst, Mi.noL_int, Mi.noL_str, Mi.noL_bl, Mi.noL_non, Mi.noL_dic, Mi.noLs_nil, Mi.noLs_cons, Mi.noLf_nil, Mi.noLf_cons, List.any_cons, List.any_nil, Bool.or_true, Bool.or_false, Bool.true_or, Bool.false_or, Mi.hd_t, Mi.hd_f, Mi.hf_t, Mi.hf_f, Mi.hd_eq, Mi.mSlV, Mi.cutO, Mi.dLenA, Mi.dLenA1, Mi.lenOf, Mi.dCat, $as,*]) | `(tactic| simp! only [$as,*] $l:location) => `(tactic| simp only [Mi.runM, Mi.runI, Mi.runR, Mi.outF, Mi.outI, Mi.outR, Mi.startE, Mi.bnd, Mi.ret, Mi.lift, Mi.fail, Mi.mVar, Mi.mC, Mi.mBin, Mi.mBinN, Mi.mUn, Mi.mFld, Mi.mFrz, Mi.mB, Mi.tru, Mi.mAnd, Mi.mOr, Mi.mNot, Mi.mAndV, Mi.mOrV, Mi.mNotV, Mi.mIf, Mi.mChain, Mi.mNil, Mi.mCons, Mi.mTup, Mi.mLst, Mi.mCB, Mi.mCBn, Mi.mIdxV, Mi.mSkip, Mi.thenF, Mi.mSeq, Mi.sto, Mi.mAsg, Mi.mAsgN, Mi.two, Mi.mPar, Mi.mDrop, Mi.mRet, Mi.mRetN, Mi.mRetV, Mi.mIfS, Mi.againF, Mi.gV, Mi.gsN, Mi.gsC, Mi.gT, Mi.mAsgT, Mi.tgt, Mi.mCall, Mi.frzR, Mi.newR, Mi.mCallN, Mi.recv, Mi.mMeth, Mi.mMethN, Mi.mMake, Mi.callR, Mi.mCallR, Mi.newM, Mi.mCallRN, Mi.mApp, Mi.mRev, Mi.setAt, Mi.mSetV, Mi.mSetF, Mi.mAug, Mi.one, Mi.mRaise, Mi.mRaise0, Mi.mTry, Mi.noEx, Mi.endX, Mi.inX, Mi.mTryAs, Mi.mXf, Mi.dI, Mi.dIc, Mi.dAdd, Mi.dSub, Mi.dLt, Mi.dLe, Mi.dGt, Mi.dGe, Mi.dMul, Mi.dDiv, Mi.dMod, Mi.dPow, Mi.dNeg, Mi.sEq, Mi.ofB, Mi.dEq, Mi.dNe, Mi.isNon, Mi.dIsN, Mi.dNotN, Mi.dInt, Mi.dI1, Mi.dI2, Mi.dAbs, Mi.dMin, Mi.dMax, Mi.dGcd, Mi.dLen1, Mi.dLen, Mi.mLenV, Mi.mIsi, Mi.isub, Mi.D.tn, Mi.dIx, Mi.opC, Mi.negC, Mi.eqC, Mi.ipC, Mi.Rv.d, Mi.mNoP, Mi.asI, Mi.mPart, Mi.mSlL, Mi.asL, Mi.asQ, Mi.mItQ, Mi.mItA, Mi.mFor, Mi.putD, List.map_cons, List.map_nil, List.length_cons, List.length_nil, List.replicate, List.cons_append, List.nil_append, List.getElem?_cons_zero, List.getElem?_cons_succ, List.set_cons_zero, List.set_cons_succ, Nat.sub_self, Nat.reduceAdd, Nat.reduceSub, Nat.reduceEqDiff, List.reverse_cons, id, Bool.not_true, Bool.not_false, if_true, if_false, Bool.false_eq_true, reduceIte, true_and, and_true, and_self, Option.toList, List.all_cons, List.all_nil, Bool.and_true, Bool.true_and, Bool.and_self, decide_true, decide_false, decide_eq_true_eq, reduceCtorEq, Mi.bo_pl, Mi.bo_ow, Mi.bo_rf, Mi.bo_un, Mi.sa_ow, Mi.sa_rf, Mi.sa_pl, Mi.oa_un, Mi.oa_pl, Mi.oa_ow, Mi.co_ow, Mi.co_rf, Mi.co_pl, Mi.st_ow, Mi.st_rf, Mi.lv_ow, Mi.lv_rf, Mi.lv_pl, Mi.ne_un, Mi.ne_pl, Mi.ne_ow, Mi.ne_rf, Mi.ne_se, Mi.ne_ex, Mi.th_un, Mi.th_pl, Mi.ie_ex, Mi.xf_ex, ne_eq, not_false_eq_true, not_true_eq_false, Mi.clr, Mi.putS, Option.isSome_some, Option.some.injEq, Int.reduceEq, Int.reduceNe, Int.reduceLT, Int.reduceLE, Nat.reduceLT, Nat.reduceLeDiff, decide_not, Bool.not_eq_true, Bool.decide_eq_true, Mi.ib_t, Mi.ib_f, Mi.mkR_ex, Mi.bO_s, Mi.rO_f, Mi.rO_t, Mi.dEqA_eq, Mi.eqN_0, Mi.eqN_1, Mi.eqN_2, Mi.eqN_3, Mi.eqB_ins, Mi.eqB_tt, Mi.eqB_ll, Mi.eqB_int, Mi.eqB_str, Mi.eqB_bl, Mi.eqB_non, Mi.eqK_ii, Mi.eqK_ss, Mi.eqK_bb, Mi.eqK_nn, Mi.eqK_ni, Mi.eqK_in, Mi.eqK_ns, Mi.eqK_sn, Mi.eqK_is, Mi.eqK_si, Mi.eqK_nt, Mi.eqK_nl, Mi.eqB_tn, Mi.eqB_ln, Mi.eqLs_nil, Mi.eqLs_nc, Mi.eqLs_cn, Mi.eqLs_cc, Mi.itE_int, Mi.itE_str, Mi.itE_bl, Mi.itE_non, Mi.appT, Mi.asB, Mi.mMakeK, Mi.mDic, Option.bind_some, Mi.mLstV, Mi.lsV, Mi.mTupV, Mi.dList, Mi.dTuple, Mi.mSlT, Mi.asT2, Mi.mIsiT, Mi.enumQ, Mi.dInN, Mi.three, Mi.mPar3, Mi.brw, Mi.mOwn, Mi.mCallB, Mi.mMakeB, Mi.noLx, Mi.noL_tup, Mi.noL_ins, Mi.noL_lst, Mi.noL_int, Mi.noL_str, Mi.noL_bl, Mi.noL_non, Mi.noL_dic, Mi.noLs_nil, Mi.noLs_cons, Mi.noLf_nil, Mi.noLf_cons, List.any_cons, List.any_nil, Bool.or_true, Bool.or_false, Bool.true_or, Bool.false_or, Mi.hd_t, Mi.hd_f, Mi.hf_t, Mi.hf_f, Mi.hd_eq, Mi.mSlV, Mi.cutO, Mi.dLenA, Mi.dLenA1, Mi.lenOf, Mi.dCat, $as,*] $l:location)
open PySem
section
variable {p : Int} {x y q : Rat} {n m k : Nat} {qs cs es ms : List Rat} {d : D} {ds gs : List D}
/-- the numbers of a row, passed one by one -/
theorem given_gen (h : FOk p) {le : M D} {E : Sl → Env} {v : Nat} (hc : ∀ q ∈ qs, Cn p q) (hle : ∀ (i : Nat) (d : D), i < qs.length → m__law_passed [.int p, pr (qs.getD i 0), .int (i : Int)] = .ok (.pl d) → le (E (.pl (.int (i : Int)))) = .ok d (E (.pl (.int (i : Int)))))
    (hs : ∀ i : Int, gV v (.int i) (E .un) = some (E (.pl (.int i)))) (hr : ∀ i : Int, clr v (E (.pl (.int i))) = .ok () (E .un)) : ∀ (m i : Nat), i + m = qs.length → ∃ l : List (D × Rat), l.map (·.2) = qs.drop i ∧ (∀ x ∈ l, NumOk p x.1 x.2) ∧
    lcL (lcTurn v (ret true) le) (rngL i m) (E .un) = .ok (l.map (·.1)) (E .un)
  | 0, i, hi => ⟨[], by rw [List.drop_of_length_le (by omega)]; rfl, (fun _ hx => nomatch hx), rfl⟩
  | m + 1, i, hi => by
    have hj : i < qs.length := by omega
    obtain ⟨l, a1, a2, a3⟩ := given_gen h hc hle hs hr m (i + 1) (by omega)
    obtain ⟨d, e1, e2⟩ := passed_ex h (hc _ (getD_mem hj)) (i : Int)
    refine ⟨(d, qs.getD i 0) :: l, by rw [List.map_cons, a1, drop_getD hj], fun x hx => ?_, ?_⟩
    · rcases List.mem_cons.mp hx with rfl | hx
      · exact e2
      · exact a2 x hx
    · have e3 := hle i d hj e1
      rw [rngL_cons]
      rw [natS] at a3
      simp! only [-Mi.gV, -Mi.clr, Mi.lcL, Mi.lcTurn, hs, e3, hr, a3]
/-- the same as a whole list -/
theorem given_all (h : FOk p) {le : M D} {E : Sl → Env} {v : Nat} (hc : ∀ q ∈ qs, Cn p q) (hle : ∀ (i : Nat) (d : D), i < qs.length → m__law_passed [.int p, pr (qs.getD i 0), .int (i : Int)] = .ok (.pl d) → le (E (.pl (.int (i : Int)))) = .ok d (E (.pl (.int (i : Int)))))
    (hs : ∀ i : Int, gV v (.int i) (E .un) = some (E (.pl (.int i)))) (hr : ∀ i : Int, clr v (E (.pl (.int i))) = .ok () (E .un)) : ∃ l : List (D × Rat), l.map (·.2) = qs ∧ l.length = qs.length ∧ (∀ x ∈ l, NumOk p x.1 x.2) ∧
    lcL (lcTurn v (ret true) le) (rngL 0 qs.length) (E .un) = .ok (l.map (·.1)) (E .un) := by
  obtain ⟨l, a1, a2, a3⟩ := given_gen h hc hle hs hr qs.length 0 (by omega)
  rw [List.drop_zero] at a1
  exact ⟨l, a1, by rw [← a1, List.length_map], a2, a3⟩
theorem eq_rows (T : Tab) : dEqA false T 2 (.lst (cs.map pr)) (.lst (cs.map pr)) = .ok (.bl true) := by
  rw [dEqA_eq, eqN_2, eqB_ll, if_pos rfl, eqLs_pr]; rfl
theorem eq_row0 (T : Tab) : dEqA false T 2 (.lst (cs.map pr)) (.lst []) = .ok (.bl (decide (cs = []))) := by
  cases cs with
  | nil => simp! only [Mi.ret]
  | cons c cs =>
    rw [decide_eq_false (by simp)]
    simp! only [Nat.add_eq_zero_iff, Nat.one_ne_zero, and_false]
end
end Mi

namespace Mi
local macro_rules | `(tactic| simp! only [$as,*]) => `(tactic| simp only [Mi.runM, Mi.runI, Mi.runR, Mi.outF, Mi.outI, Mi.outR, Mi.startE, Mi.bnd, Mi.ret, Mi.lift, Mi.fail, Mi.mVar, Mi.mC, Mi.mBin, Mi.mBinN, Mi.mUn, Mi.mFld, Mi.mFrz, Mi.mB, Mi.tru, Mi.mAnd, Mi.mOr, Mi.mNot, Mi.mAndV, Mi.mOrV, Mi.mNotV, Mi.mIf, Mi.mChain, Mi.mNil, Mi.mCons, Mi.mTup, Mi.mLst, Mi.mCB, Mi.mCBn, Mi.mIdxV, Mi.mSkip, Mi.thenF, Mi.mSeq, Mi.sto, Mi.mAsg, Mi.mAsgN, Mi.two, Mi.mPar, Mi.mDrop, Mi.mRet, Mi.mRetN, Mi.mRetV, Mi.mIfS, Mi.againF, Mi.gV, Mi.gsN, Mi.gsC, Mi.gT, Mi.mAsgT, Mi.tgt, Mi.mCall, Mi.frzR, Mi.newR, Mi.mCallN, Mi.recv, Mi.mMeth, Mi.mMethN, Mi.mMake, Mi.callR, Mi.mCallR, Mi.newM, Mi.mCallRN, Mi.mApp, Mi.mRev, Mi.setAt, Mi.mSetV, Mi.mSetF, Mi.mAug, Mi.one, Mi.mRaise, Mi.mRaise0, Mi.mTry, Mi.noEx, Mi.endX, Mi.inX, Mi.mTryAs, Mi.mXf, Mi.dI, Mi.dIc, Mi.dAdd, Mi.dSub, Mi.dLt, Mi.dLe, Mi.dGt, Mi.dGe, Mi.dMul, Mi.dDiv, Mi.dMod, Mi.dPow, Mi.dNeg, Mi.sEq, Mi.ofB, Mi.dEq, Mi.dNe, Mi.isNon, Mi.dIsN, Mi.dNotN, Mi.dInt, Mi.dI1, Mi.dI2, Mi.dAbs, Mi.dMin, Mi.dMax, Mi.dGcd, Mi.dLen1, Mi.dLen, Mi.mLenV, Mi.mIsi, Mi.isub, Mi.D.tn, Mi.dIx, Mi.opC, Mi.negC, Mi.eqC, Mi.ipC, Mi.Rv.d, Mi.mNoP, Mi.asI, Mi.mPart, Mi.mSlL, Mi.asL, Mi.asQ, Mi.mItQ, Mi.mItA, Mi.mFor, Mi.putD, List.map_cons, List.map_nil, List.length_cons, List.length_nil, List.replicate, List.cons_append, List.nil_append, List.getElem?_cons_zero, List.getElem?_cons_succ, List.set_cons_zero, List.set_cons_succ, Nat.sub_self, Nat.reduceAdd, Nat.reduceSub, Nat.reduceEqDiff, List.reverse_cons, id, Bool.not_true, Bool.not_false, if_true, if_false, Bool.false_eq_true, reduceIte, true_and, and_true, and_self, Option.toList, List.all_cons, List.all_nil, Bool.and_true, Bool.true_and, Bool.and_self, decide_true, decide_false, decide_eq_true_eq, reduceCtorEq, Mi.bo_pl, Mi.bo_ow, Mi.bo_rf, Mi.bo_un, Mi.sa_ow, Mi.sa_rf, Mi.sa_pl, Mi.oa_un, Mi.oa_pl, Mi.oa_ow, Mi.co_ow, Mi.co_rf, Mi.co_pl, Mi.st_ow, Mi.st_rf, Mi.lv_ow, Mi.lv_rf, Mi.lv_pl, Mi.ne_un, Mi.ne_pl, Mi.ne_ow, Mi.ne_rf, Mi.ne_se, Mi.ne_ex, Mi.th_un, Mi.th_pl, Mi.ie_ex, Mi.xf_ex, ne_eq, not_false_eq_true, not_true_eq_false, Mi.clr, Mi.putS, Option.isSome_some, Option.some.injEq, Int.reduceEq, Int.reduceNe, Int.reduceLT, Int.reduceLE, Nat.reduceLT, Nat.reduceLeDiff, decide_not, Bool.not_eq_true, Bool.decide_eq_true, Mi.ib_t, Mi.ib_f, Mi.mkR_ex, Mi.bO_s, Mi.rO_f, Mi.rO_t, Mi.dEqA_eq, Mi.eqN_0, Mi.eqN_1, Mi.eqN_2, Mi.eqN_3, Mi.eqB_ins, Mi.eqB_tt, Mi.eqB_ll, Mi.eqB_int, Mi.eqB_str, Mi.eqB_bl, Mi.eqB_non, Mi.eqK_ii, Mi.eqK_ss, Mi.eqK_bb, Mi.eqK_nn, Mi.eqK_ni, Mi.eqK_in, Mi.eqK_ns, Mi.eqK_sn, Mi.eqK_is, Mi.eqK_si, Mi.eqK_nt, Mi.eqK_nl, Mi.eqB_tn, Mi.eqB_ln, Mi.eqLs_nil, Mi.eqLs_nc, Mi.eqLs_cn, Mi.eqLs_cc, Mi.itE_int, Mi.itE_str, Mi.itE_bl, Mi.itE_non, Mi.appT, Mi.asB, Mi.mMakeK, Mi.mDic, Option.bind_some, Mi.mLstV, Mi.lsV, Mi.mTupV, Mi.dList, Mi.dTuple, Mi.mSlT, Mi.asT2, Mi.mIsiT, Mi.enumQ, Mi.dInN, Mi.three, Mi.mPar3, Mi.brw, Mi.mOwn, Mi.mCallB, Mi.mMakeB, Mi.noLx, Mi.noL_tup, Mi.noL_ins, Mi.noL_lst, Mi.noL_int, Mi.noL_str, Mi.noL_bl, Mi.noL_non, Mi.noL_dic, Mi.noLs_nil, Mi.noLs_cons, Mi.noLf_nil, Mi.noLf_cons, List.any_cons, List.any_nil, Bool.or_true, Bool.or_false, Bool.true_or, Bool.false_or, Mi.hd_t, Mi.hd_f, Mi.hf_t, Mi.hf_f, Mi.hd_eq, Mi.mSlV, Mi.cutO, Mi.dLenA, Mi.dLenA1, Mi.lenOf, Mi.dCat, $as,*]) | `(tactic| simp! only [$as,*] $l:location) => `(tactic| simp only [Mi.runM, Mi.runI, Mi.runR, Mi.outF, Mi.outI, Mi.outR, Mi.startE, Mi.bnd, Mi.ret, Mi.lift, Mi.fail, Mi.mVar, Mi.mC, Mi.mBin, Mi.mBinN, Mi.mUn, Mi.mFld, Mi.mFrz, Mi.mB, Mi.tru, Mi.mAnd, Mi.mOr, Mi.mNot, Mi.mAndV, Mi.mOrV, Mi.mNotV, Mi.mIf, Mi.mChain, Mi.mNil, Mi.mCons, Mi.mTup, Mi.mLst, Mi.mCB, Mi.mCBn, Mi.mIdxV, Mi.mSkip, Mi.thenF, Mi.mSeq, Mi.sto, Mi.mAsg, Mi.mAsgN, Mi.two, Mi.mPar, Mi.mDrop, Mi.mRet, Mi.mRetN, Mi.mRetV, Mi.mIfS, Mi.againF, Mi.gV, Mi.gsN, Mi.gsC, Mi.gT, Mi.mAsgT, Mi.tgt, Mi.mCall, Mi.frzR, Mi.newR, Mi.mCallN, Mi.recv, Mi.mMeth, Mi.mMethN, Mi.mMake, Mi.callR, Mi.mCallR, Mi.newM, Mi.mCallRN, Mi.mApp, Mi.mRev, Mi.setAt, Mi.mSetV, Mi.mSetF, Mi.mAug, Mi.one, Mi.mRaise, Mi.mRaise0, Mi.mTry, Mi.noEx, Mi.endX, Mi.inX, Mi.mTryAs, Mi.mXf, Mi.dI, Mi.dIc, Mi.dAdd, Mi.dSub, Mi.dLt, Mi.dLe, Mi.dGt, Mi.dGe, Mi.dMul, Mi.dDiv, Mi.dMod, Mi.dPow, Mi.dNeg, Mi.sEq, Mi.ofB, Mi.dEq, Mi.dNe, Mi.isNon, Mi.dIsN, Mi.dNotN, Mi.dInt, Mi.dI1, Mi.dI2, Mi.dAbs, Mi.dMin, Mi.dMax, Mi.dGcd, Mi.dLen1, Mi.dLen, Mi.mLenV, Mi.mIsi, Mi.isub, Mi.D.tn, Mi.dIx, Mi.opC, Mi.negC, Mi.eqC, Mi.ipC, Mi.Rv.d, Mi.mNoP, Mi.asI, Mi.mPart, Mi.mSlL, Mi.asL, Mi.asQ, Mi.mItQ, Mi.mItA, Mi.mFor, Mi.putD, List.map_cons, List.map_nil, List.length_cons, List.length_nil, List.replicate, List.cons_append, List.nil_append, List.getElem?_cons_zero, List.getElem?_cons_succ, List.set_cons_zero, List.set_cons_succ, Nat.sub_self, Nat.reduceAdd, Nat.reduceSub, Nat.reduceEqDiff, List.reverse_cons, id, Bool.not_true, Bool.not_false, if_true, if_false, Bool.false_eq_true, reduceIte, true_and, and_true, and_self, Option.toList, List.all_cons, List.all_nil, Bool.and_true, Bool.true_and, Bool.and_self, decide_true, decide_false, decide_eq_true_eq, reduceCtorEq, Mi.bo_pl, Mi.bo_ow, Mi.bo_rf, Mi.bo_un, Mi.sa_ow, Mi.sa_rf, Mi.sa_pl, Mi.oa_un, Mi.oa_pl, Mi.oa_ow, Mi.co_ow, Mi.co_rf, Mi.co_pl, Mi.st_ow, Mi.st_rf, Mi.lv_ow, Mi.lv_rf, Mi.lv_pl, Mi.ne_un, Mi.ne_pl, Mi.ne_ow, Mi.ne_rf, Mi.ne_se, Mi.ne_ex, Mi.th_un, Mi.th_pl, Mi.ie_ex, Mi.xf_ex, ne_eq, not_false_eq_true, not_true_eq_false, Mi.clr, Mi.putS, Option.isSome_some, Option.some.injEq, Int.reduceEq, Int.reduceNe, Int.reduceLT, Int.reduceLE, Nat.reduceLT, Nat.reduceLeDiff, decide_not, Bool.not_eq_true, Bool.decide_eq_true, Mi.ib_t, Mi.ib_f, Mi.mkR_ex, Mi.bO_s, Mi.rO_f, Mi.rO_t, Mi.dEqA_eq, Mi.eqN_0, Mi.eqN_1, Mi.eqN_2, Mi.eqN_3, Mi.eqB_ins, Mi.eqB_tt, Mi.eqB_ll, Mi.eqB_int, Mi.eqB_str, Mi.eqB_bl, Mi.eqB_non, Mi.eqK_ii, Mi.eqK_ss, Mi.eqK_bb, Mi.eqK_nn, Mi.eqK_ni, Mi.eqK_in, Mi.eqK_ns, Mi.eqK_sn, Mi.eqK_is, Mi.eqK_si, Mi.eqK_nt, Mi.eqK_nl, Mi.eqB_tn, Mi.eqB_ln, Mi.eqLs_nil, Mi.eqLs_nc, Mi.eqLs_cn, Mi.eqLs_cc, Mi.itE_int, Mi.itE_str, Mi.itE_bl, Mi.itE_non, Mi.appT, Mi.asB, Mi.mMakeK, Mi.mDic, Option.bind_some, Mi.mLstV, Mi.lsV, Mi.mTupV, Mi.dList, Mi.dTuple, Mi.mSlT, Mi.asT2, Mi.mIsiT, Mi.enumQ, Mi.dInN, Mi.three, Mi.mPar3, Mi.brw, Mi.mOwn, Mi.mCallB, Mi.mMakeB, Mi.noLx, Mi.noL_tup, Mi.noL_ins, Mi.noL_lst, Mi.noL_int, Mi.noL_str, Mi.noL_bl, Mi.noL_non, Mi.noL_dic, Mi.noLs_nil, Mi.noLs_cons, Mi.noLf_nil, Mi.noLf_cons, List.any_cons, List.any_nil, Bool.or_true, Bool.or_false, Bool.true_or, Bool.false_or, Mi.hd_t, Mi.hd_f, Mi.hf_t, Mi.hf_f, Mi.hd_eq, Mi.mSlV, Mi.cutO, Mi.dLenA, Mi.dLenA1, Mi.lenOf, Mi.dCat, $as,*] $l:location)
open PySem
section
variable {p f s o : Int} {x y q : Rat} {n m : Nat} {qs cs ms : List Rat} {d sc : D} {st gs : List D} {z row mo fl gv md kp sp lg la k : Sl}
abbrev lE (sc : D) (st : List D) (p : Int) (z row mo fl gv md kp sp lg la : Sl) (f s o : Int) (k : Sl) : Env := [.pl sc, .ow st, .pl (.int p), z, row, mo, fl, gv, md, kp, sp, lg, la, .pl (.int f), .pl (.int s), .pl (.int o), k]
theorem lawA (ns : List Int) : ∃ (s0 : Dz) (p f s o : Int) (cs ms : List Rat), FOk p ∧ 0 ≤ f ∧ 0 ≤ s ∧ 0 ≤ o ∧ o < 7 ∧ 1 ≤ cs.length ∧ cs.length ≤ 32 ∧ ms.length ≤ 20 ∧ (∀ q ∈ cs, Cn p q) ∧ (∀ q ∈ ms, Cn p q) ∧ cs.getD 0 0 ≠ 0 ∧
    b_law [.pl (.lst (ns.map D.int)), .un, .un, .un, .un, .un, .un, .un, .un, .un, .un, .un, .un, .un, .un, .un, .un] = lr_law_7 (lE (.lst (ns.map D.int)) s0.c p (.pl (.int cs.length)) (.pl (.lst (cs.map pr))) (.pl (.lst (ms.map pr))) .un .un .un .un .un .un .un f s o .un) := by
  obtain ⟨s0, e0⟩ := e_state ns
  obtain ⟨p, s1, hp, e1⟩ := prime_ex s0
  obtain ⟨f, s2, f0, f1, e2⟩ := draw_ex s1 32 (by decide)
  obtain ⟨s, s3, k0, k1, e3⟩ := draw_ex s2 32 (by decide)
  obtain ⟨o, s4, o0, o1, e4⟩ := draw_ex s3 7 (by decide)
  obtain ⟨z, s5, z0, z1, e5⟩ := draw_ex s4 10 (by decide)
  obtain ⟨c, s6, c0, c1, e6⟩ := draw_ex s5 5 (by decide)
  have key : ∀ (s7 : Dz) (n : Nat), 1 ≤ n → n ≤ 32 → ∃ (s0 : Dz) (cs ms : List Rat), cs.length = n ∧ ms.length ≤ 20 ∧ (∀ q ∈ cs, Cn p q) ∧ (∀ q ∈ ms, Cn p q) ∧ cs.getD 0 0 ≠ 0 ∧
      lr_law_5 (lE (.lst (ns.map D.int)) s7.c p (.pl (.int n)) .un .un .un .un .un .un .un .un .un f s o .un) = lr_law_7 (lE (.lst (ns.map D.int)) s0.c p (.pl (.int n)) (.pl (.lst (cs.map pr))) (.pl (.lst (ms.map pr))) .un .un .un .un .un .un .un f s o .un) := fun s7 n hn hn2 => by
    obtain ⟨cs, s8, a1, a2, a3, e7⟩ := coefficients_ex hp s7 n hn (by omega)
    obtain ⟨v, s9, v0, v1, e8⟩ := draw_ex s8 20 (by decide)
    obtain ⟨v, rfl⟩ : ∃ j : Nat, v = j := ⟨v.toNat, by omega⟩
    obtain ⟨ms, s10, b1, b2, e9⟩ := small_exH hp s9 v (by omega)
    refine ⟨s10, cs, ms, a1, by omega, fun q hq => (a2 q hq).1, fun q hq => (b2 q hq).1, a3, ?_⟩
    unfold lr_law_5 lr_law_6 lE
    simp! only [e7, e8, e9]
  by_cases hc : c = 0
  · obtain ⟨v, s7, v0, v1, e7⟩ := draw_ex s6 32 (by decide)
    obtain ⟨v, rfl⟩ : ∃ n : Nat, v = n := ⟨v.toNat, by omega⟩
    obtain ⟨s', cs, ms, a1, a2, a3, a4, a5, a6⟩ := key s7 (1 + v) (by omega) (by omega)
    refine ⟨s', p, f, s, o, cs, ms, hp, f0, k0, o0, o1, by omega, by omega, a2, a3, a4, a5, ?_⟩
    have en : (1 : Int) + (v : Int) = ((1 + v : Nat) : Int) := by omega
    rw [a1, ← a6]
    unfold b_law lr_law_1 lr_law_2 lr_law_3 lr_law_4 lE
    simp! only [e0, e1, e2, e3, e4, e5, e6, hc, e7, en]
  · obtain ⟨v, rfl⟩ : ∃ n : Nat, z = n := ⟨z.toNat, by omega⟩
    obtain ⟨s', cs, ms, a1, a2, a3, a4, a5, a6⟩ := key s6 (1 + v) (by omega) (by omega)
    refine ⟨s', p, f, s, o, cs, ms, hp, f0, k0, o0, o1, by omega, by omega, a2, a3, a4, a5, ?_⟩
    have en : (1 : Int) + (v : Int) = ((1 + v : Nat) : Int) := by omega
    rw [a1, ← a6]
    unfold b_law lr_law_1 lr_law_2 lr_law_3 lr_law_4 lE
    simp! only [e0, e1, e2, e3, e4, e5, e6, hc, en]
theorem lawB (h : FOk p) (hc : ∀ q ∈ cs, Cn p q) (l1 : 1 ≤ cs.length) (l2 : cs.length ≤ 32) (hz : cs.getD 0 0 ≠ 0) : ∃ (l : List (D × Rat)) (gv : Sl), l.map (·.2) = cs ∧ l.length = cs.length ∧ (∀ x ∈ l, NumOk p x.1 x.2) ∧
    lr_law_7 (lE sc st p (.pl (.int cs.length)) (.pl (.lst (cs.map pr))) mo .un .un .un .un .un .un .un f s o .un) =
    lr_law_13 (lE sc st p (.pl (.int cs.length)) (.pl (.lst (cs.map pr))) mo (.pl (fD p)) gv (.pl (srD p cs)) (.pl (.lst (l.map (·.1)))) .un .un .un f s o .un) := by
  obtain ⟨l, a1, a2, a3, a4⟩ := given_all (le := le_law_15) (v := 16) (E := fun k => lE sc st p (.pl (.int cs.length)) (.pl (.lst (cs.map pr))) mo (.pl (fD p)) .un .un .un .un .un .un f s o k) h hc (fun i d hi e => by
    unfold le_law_15 lE
    simp! only [listAt_el pr hi, e]) (fun i => rfl) (fun i => rfl)
  have ei := e_Sinit (t := false) h l (by omega) (by omega) a3 (by rw [a1]; exact hz)
  rw [a1, ← sq_f] at ei
  have r2 : rng1 [.int (cs.length : Int)] = .ok (rngL 0 cs.length) := rng1_nat (by omega)
  have lr : (rngL 0 cs.length).length < 1000000 := by rw [rngL_len]; omega
  have l3 : (l.map (·.1)).length < 1000000 := by rw [List.length_map]; omega
  have i0 : L2.ixN (l.map (·.1)).length 0 = some 0 := ixN_nt (j := 0) (by rw [List.length_map]; omega)
  refine ⟨l, .ow ((List.map Prod.fst l).set 0 (D.int 0) ++ [D.int 7]), a1, a2, a3, ?_⟩
  unfold lr_law_7 lr_law_8 lr_law_9 lr_law_10 lr_law_11 lr_law_12
  unfold lE at a4 ⊢
  simp! only [e_Finit h, mkR_fD, Mi.mLc, r2, lr, a4, ei, mkR_srF, noL_srD, i0, List.length_set, l3]
theorem app_nil_iff : (cs = cs ++ ms) ↔ ms = [] := by
  constructor
  · intro e
    have := congrArg List.length e
    rw [List.length_append] at this
    exact List.eq_nil_of_length_eq_zero (by omega)
  · rintro rfl; rw [List.append_nil]
theorem take_iff (h : n ≤ cs.length) : (cs = cs.take n) ↔ n = cs.length := by
  constructor
  · intro e
    have := congrArg List.length e
    rw [List.length_take] at this
    omega
  · rintro rfl; rw [List.take_length]
theorem getD_appL (h : 0 < cs.length) : (cs ++ ms).getD 0 0 = cs.getD 0 0 := by
  rw [List.getD_eq_getElem?_getD, List.getD_eq_getElem?_getD, List.getElem?_append_left h]
theorem ne79 : (((79 : Nat) : Int) = 79) = True := eq_true rfl
theorem dNe_bb (a b : Bool) (e : a = b) : dNe (.bl a) (.bl b) = .ok (.bl false) := by subst e; cases a <;> rfl
theorem law_true (ns : List Int) (hl : ns.length ≤ 63) : m_law [.lst (ns.map D.int)] = .ok (.pl (.bl true)) := by
  obtain ⟨s0, p, f, s, o, cs, ms, h, f0, k0, o0, o7, l1, l2, l3, hc, hm, hz, eA⟩ := lawA ns
  obtain ⟨l, gv, a1, a2, a3, eB⟩ := lawB (sc := .lst (ns.map D.int)) (st := s0.c) (mo := .pl (.lst (ms.map pr))) (f := f) (s := s) (o := o) h hc l1 l2 hz
  have t1 := e_toldS h hc (by omega) (by omega) hz
  have ei := e_Sinit (t := true) h l (by omega) (by omega) a3 (by rw [a1]; exact hz)
  rw [a1, ← sq_t] at ei
  obtain ⟨v, ev⟩ : ∃ v : Nat, iMod f cs.length = v := ⟨(iMod f cs.length).toNat, by
    have : 0 ≤ iMod f cs.length := by rw [iMod_eq, Int.fmod_eq_emod_of_nonneg _ (by omega)]; exact Int.emod_nonneg _ (by omega)
    omega⟩
  have hv : v < cs.length := by
    have : iMod f cs.length < cs.length := by rw [iMod_eq, Int.fmod_eq_emod_of_nonneg _ (by omega)]; exact Int.emod_lt_of_pos _ (by omega)
    omega
  have n0 : ¬ (cs.length : Int) = 0 := by omega
  have es : (1 : Int) + (v : Int) = ((1 + v : Nat) : Int) := by omega
  have f1 := e_Sfirst (k := 1 + v) h hz (by omega) (by omega)
  have f2 := e_Sfirst (k := cs.length) h hz (by omega) (by omega)
  rw [List.take_length] at f2
  have hct : ∀ q ∈ cs.take (1 + v), Cn p q := fun q hq => hc q (List.mem_of_mem_take hq)
  have t2 := e_toldS (cs := cs.take (1 + v)) h hct (by rw [List.length_take]; omega) (by rw [List.length_take]; omega) (by rw [getD_take (by omega)]; exact hz)
  have c1 : cutD (cs.map pr) none (some ((1 + v : Nat) : Int)) = (cs.take (1 + v)).map pr := by rw [cutD_hi _ _ (by rw [List.length_map]; omega), List.map_take]
  obtain ⟨l', b1, b2, b3, b4⟩ := given_all (qs := ms) (le := le_law_6) (v := 16) (E := fun k => lE (.lst (ns.map D.int)) s0.c p (.pl (.int cs.length)) (.pl (.lst (cs.map pr))) (.pl (.lst (ms.map pr))) (.pl (fD p)) gv (.pl (srD p cs)) (.pl (.lst (l.map (·.1)))) (.pl (.int ((1 + v : Nat) : Int))) .un .un f s o k) h hm (fun i d hi e => by
    unfold le_law_6 lE
    simp! only [listAt_el pr hi, e]) (fun i => rfl) (fun i => rfl)
  have g1 := e_Sthen (t := false) h (by omega) hz l' (by omega) b3
  rw [b1, ← sq_f] at g1
  have hcm : ∀ q ∈ cs ++ ms, Cn p q := fun q hq => by
    rcases List.mem_append.mp hq with w | w
    · exact hc q w
    · exact hm q w
  have zcm : (cs ++ ms).getD 0 0 ≠ 0 := by rw [getD_appL (by omega)]; exact hz
  have lcm : (cs ++ ms).length = cs.length + ms.length := List.length_append
  have t3 := e_toldS (cs := cs ++ ms) h hcm (by omega) (by omega) zcm
  have f3 := e_Sfirst (k := cs.length) h zcm (by omega) (by omega)
  rw [List.take_left'] at f3
  · have g2 := e_Sthen (t := true) h (by omega) hz [] (by simp; omega) (fun x hx => nomatch hx)
    rw [List.map_nil, List.map_nil, List.append_nil, ← sq_t] at g2
    have q1 := eqA_S h hc hc
    rw [decide_eq_true rfl] at q1
    have q2 := eqA_SX (p := p) (cs := cs) (d := .lst (l.map (·.1))) rfl
    have q3 := eqA_S h hc hcm
    have q4 := eq_row0 (cs := ms) T_none
    have q5 := eqA_S h hc hct
    have d1 : decide (cs = cs ++ ms) = decide (ms = []) := decide_eq_decide.mpr app_nil_iff
    have d2 : decide (cs = cs.take (1 + v)) = decide (((1 + v : Nat) : Int) = (cs.length : Int)) := decide_eq_decide.mpr (by rw [take_iff (by omega)]; omega)
    rw [d1] at q3
    rw [d2] at q5
    have r1 := rp1 (k := 79 - (cs.length : Int) - (ms.length : Int)) (by omega) (by omega)
    have tn : (79 - (cs.length : Int) - (ms.length : Int)).toNat = 79 - cs.length - ms.length := by omega
    obtain ⟨lz, z1, z2, z3⟩ := pairs_of (p := p) (List.replicate (79 - cs.length - ms.length) (D.int 0)) fun d hd => by
      rw [List.eq_of_mem_replicate hd]; exact ⟨0, numOk_0 h⟩
    rw [List.length_replicate] at z2
    have g3 := e_Sthen (t := false) h (by omega) zcm lz (by omega) z3
    rw [z1, ← sq_f] at g3
    have hfl : (List.replicate (79 - cs.length - ms.length) [D.int 0]).flatten = List.replicate (79 - cs.length - ms.length) (D.int 0) := List.flatten_replicate_singleton
    have ll : (cs ++ ms ++ lz.map (·.2)).length = 79 := by rw [List.length_append, lcm, List.length_map]; omega
    have lA := e_lenA (p := p) (cs := cs ++ ms ++ lz.map (·.2)) (by omega)
    rw [ll] at lA
    have zl : (cs ++ ms ++ lz.map (·.2)).getD 0 0 ≠ 0 := by rw [getD_appL (by omega)]; exact zcm
    have f4 := e_Sfirst (k := cs.length) h zl (by omega) (by omega)
    rw [List.append_assoc, List.take_left'] at f4
    · rw [List.append_assoc] at g3 lA
      have t4 := e_refusals (f := f) (s := s) (o := o) h l (by omega) (by omega) a3 (by rw [a1]; exact hz) o0 o7
      have r2 : rng1 [.int (ms.length : Int)] = .ok (rngL 0 ms.length) := rng1_nat (by omega)
      have lr : (rngL 0 ms.length).length < 1000000 := by rw [rngL_len]; omega
      have lc : cs.length + ms.length ≤ 1000000 := by omega
      have mp : cs.map pr ++ ms.map pr = (cs ++ ms).map pr := List.map_append.symm
      have hb : ∃ ρ, b_law [.pl (.lst (ns.map D.int)), .un, .un, .un, .un, .un, .un, .un, .un, .un, .un, .un, .un, .un, .un, .un, .un] = .ok (.rt (.pl (.bl true))) ρ := by
        rw [eA, eB]
        unfold lr_law_13 lr_law_14 lr_law_15 lr_law_16 lr_law_17 lr_law_18 lr_law_19 lr_law_20 lr_law_21 lr_law_22
        unfold lE at b4 ⊢
        simp! only [-Mi.dEqA_eq, -Mi.recv, -Mi.dLenA, -List.replicate, recv_Sf, recv_St, t1, ne_rows, ei, mkR_srF, n0, ev, es, f1, t2, c1, f2, List.length_map, r2, Mi.mLc, lr, b4, g1, t3, lc, mp, f3, q1, g2, q2, q3, q4, q5, eq_self, Mi.mRep, r1, tn, hfl, g3, lA, f4, eq_rows, t4, ne79]
        exact ⟨_, rfl⟩
      obtain ⟨ρ, hb⟩ := hb
      exact runM_of rfl hb
    · rfl
  · rfl
end
end Mi

namespace Sx
open PySem PySem.Spec PyProof.Rows L2
theorem facts {w : World} {K : PySem.W.Frag} {h : Heap} {mg : Str → Option Value} {f : Addr} (X : K.In h) (G : h.Ns mainGlobals mg) (hfa : mg ("law" : Str) = some (.ref f)) (c : SaysM fa fn fz K) :
    ∃ (fd : FuncData) (sp : Sp), (∀ (s : Shared) (v : Value), BindsTo s fd ⟨[v], []⟩ [("_law_script", v)]) ∧ (∀ (H : Hp) (li : Addr) (ns : List Int), ns.length ≤ 63 → SqL K H li (ns.map V.int) → sp [.ref li] H (fun v _ => v = .bl true) fun _ _ _ => False) ∧
      ∀ base : Heap, K.In base → base.Ns mainGlobals mg → FnOk PP w K mg base (L2.CX PP w) 43 f fd ["_law_script"] sp := by
  have : Sy K := ⟨c⟩
  have M := mg_mk X G
  obtain ⟨fd, F⟩ := def_law (K := K)
  have e := hfa.symm.trans (g_law M)
  cases e
  have b := FunD.bindsA (ps := ["_law_script"]) F fun _ _ _ _ _ _ us hl => match us, hl with | [_], _ => rfl
  refine ⟨fd, Mi.spM K Mi.m_law, fun s v => b s [v] rfl, fun H li ns hl hS => ⟨[.lst (ns.map Mi.D.int)], .cons (.lst hS (Mi.IsL.ints ns)) .nil, ?_⟩, fun base _ _ => Mi.fok_law M F⟩
  rw [Mi.law_true ns hl]
  exact fun v H2 _ hv => hv.bl_eq
end Sx
open PySem PySem.W PySem.Calls PyProof.Rows
theorem PySem.Challenge.cw_seriessquares_k09_series_made_holds : PySem.Challenge.rw_seriessquares_k09_series_made.Holds := by
  w_on; o_law
  refine GH.head_anyG (r := OpenLaw.row PySem.Challenge.rw_seriessquares_k09_series_made) (q := view (OpenLaw.row PySem.Challenge.rw_seriessquares_k09_series_made).prog [58]) (H := Sx.hk) (ob := Sx.ob) (M1 := 4000) (M2 := 8000) (loose := Sx.loose) (d := HandSHeadRun.topDef (OpenLaw.row PySem.Challenge.rw_seriessquares_k09_series_made).prog 58) (kwd := []) Sx.ob_eq
    Sx.run (by kernel_rfl) (by kernel_rfl) (by kernel_rfl) (by rfl) (by first | assumption | decide +kernel) (by decide +kernel) ⟨rfl, rfl, rfl, rfl, rfl, by decide +kernel⟩ ?hw ?hc
  case hw => w_witness2
  case hc =>
    refine Sx.walk_x (law := PySem.Challenge.rw_seriessquares_k09_series_made) (lim := 63) (lev := 43) (x := "_law_script") rfl (by decide) (by kernel_rfl) ⟨rfl, by decide, by decide⟩ ?F
    intro w mg fa h Y G hmg0
    obtain ⟨K, KX, c⟩ := Y
    have hmg : mg ("law" : PySem.Str) = some (.ref fa) := by
      have e : (HandSHeadRun.topDef (OpenLaw.row PySem.Challenge.rw_seriessquares_k09_series_made).prog 58).name = ("law" : PySem.Str) := by kernel_rfl
      rw [← e]
      exact hmg0
    obtain ⟨fd, sp, hb, hs, hF⟩ := Sx.facts (w := w) KX G hmg c
    exact ⟨K, fd, sp, KX, hb, hs, hF⟩
