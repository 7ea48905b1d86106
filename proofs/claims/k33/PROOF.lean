import PyProof.Rows.All
import Wide.All
import OpenK.AllK
import Wide.FinOn
import KE.KExcSuper
import HandS.ForMost
import HandS.Exc
import HandS.ExcInit
import KE.KExcIs
import HandS.Wide
import HandS.ExcValue
import HandS.Evl
import HandS.OwnEq
import HandS.ExcOwn
import KE.KOpsOwn
import HandS.TryMany
import HandS.IsInst
import HandS.Walk
import HandS.Zip
import HandS.MakeKwOnly
import HandS.WordsExc
import HandS.Star
import HandS.Property
import PyProof.AutoSeq1
import HandS.GenList
import PySem.Challenge.RW_owedanswers_k33_answers_one_by_one
import HandS.Comp
import OpenK.KOps
import HandS.Style
section
set_option Elab.async false
set_option autoImplicit false
set_option linter.all false
set_option maxRecDepth 100000
set_option maxHeartbeats 4000000
namespace PySem
namespace OxE
open PySem.W PySem.Calls PyProof.Rows PySem.HandSPX
/-! an error class of the program: `def __init__(self, f, ..): super().__init__(text); self.f = f; ..` -/
def oxSup (txt : Str) (q0 q1 q2 q3 q4 q5 : Pos) : Stmt := .Expr (.Call (.Attribute (.Call (.Name "super" q0) [] [] q1) "__init__" q2) [.Constant (.str txt) 0 q3] [] q4) q5
inductive Asgs : List Str → List Stmt → Prop
  | nil : Asgs [] []
  | cons {f : Str} {fs : List Str} {ss : List Stmt} (r1 r2 r3 r4 : Pos) : Asgs fs ss → Asgs (f :: fs) (.Assign [.Attribute (.Name "self" r1) f r2] (.Name f r3) r4 :: ss)
/-- the arguments and the scope of such an __init__ with the fields fs -/
structure OxSig (fs : List Str) (params : Arguments) (sc : Scope) : Prop where
  kind : sc.kind = .function
  co : sc.isCoroutine = false
  gen : sc.isGenerator = false
  ncell : ∀ y ∈ sc.names, y.2 ≠ .cell
  hd : (params.posonlyargs ++ params.args).head?.map (·.arg) = some ("self" : Str)
  lself : sc.names.lookup ("self" : Str) = some NameKind.local
  lf : ∀ f ∈ fs, sc.names.lookup f = some NameKind.local
  lsup : sc.names.lookup ("super" : Str) = some NameKind.globalImplicit
  lcls : sc.names.lookup ("__class__" : Str) = some NameKind.free
  nself : ∀ f ∈ fs, f ≠ "self"
  ndbg : ∀ f ∈ fs, (f == ("__debug__" : Str)) = false
  nd : fs.Nodup
  few : 0 < fs.length ∧ fs.length ≤ 20
  bnd : ∀ (q : Str) (body : List Stmt) (doc pm cdv ct : Value) (an : Option Addr) (cc : Addr) (a : Value) (vs : List Value), vs.length = fs.length → bindArgs (ksFn "__init__" q params body sc .none .none doc pm an cdv ct cc) ⟨a :: vs, []⟩ = (pure ((("self" : Str), a) :: fs.zip vs) : Sem (List (Str × Value)))
  bndK : ∀ (q : Str) (body : List Stmt) (doc pm cdv ct : Value) (an : Option Addr) (cc : Addr) (a : Value) (vs : List Value), vs.length = fs.length → bindArgs (ksFn "__init__" q params body sc .none .none doc pm an cdv ct cc) ⟨[a], fs.zip vs⟩ = (pure ((("self" : Str), a) :: fs.zip vs) : Sem (List (Str × Value)))
  sw : ∀ (q txt : Str) (q0 q1 q2 q3 q4 : Pos) (L fI cc : Addr) (cd : Value) (n : Nat), swapsWith (.Call (.Attribute (.Call (.Name "super" q0) [] [] q1) "__init__" q2) [.Constant (.str txt) 0 q3] [] q4) none n (ksEnv q sc L fI cd cc) = pure false
/-- o.name(text), the call on the line of its name -/
theorem ev_meth (o : Expr) (name txt : Str) (apos p3 pos : Pos) (env : Env) (hl : (apos.endLine == pos.line) = true) : eval (.Call (.Attribute o name apos) [.Constant (.str txt) 0 p3] [] pos) env = (do
      let ov ← attributeBase o name env (eval o env)
      standAt apos.atName
      let (g, first) ← holding [ov] (getMethod ov name (do return (← importBound o env).getD true))
      callWith pos g first (backTo pos (starEach [.Constant (.str txt) 0 p3] env)) []) := by
  rw [arm_eval_Call]
  have hform : methodCallForm (([.Constant (.str txt) 0 p3] : List Expr).length + ([] : List Keyword).length) (backTo pos (starEach [.Constant (.str txt) 0 p3] env)) (backToKw pos (keywordEach [] env)) = true := rfl
  have hpos : methodCallPos true o env apos pos = pure pos := by unfold methodCallPos; simp [hl]
  unfold methodCall
  rw [hform]
  unfold calleeOf
  simp only [if_true, hpos, pure_bind]
  rfl
structure ExTxt (P : Program) (K : Frag) (mg : Str → Option Value) (nm : Str) (fs : List Str) (C fI : Addr) : Prop where
  gC : mg nm = some (.ref C)
  nmd : (nm == ("__debug__" : Str)) = false
  cls : ∃ (nm' q : Str) (N : Addr) (bs bm : List Value) (sn : List Str) (sub : List Value) (ab : Bool) (col : Option Bool) (dd : Option Addr) (k0 k1 k2 k3 k5 : Option Value), K.lookup C = some (excClassObj nm' q C N bs bm true sn sub ab col dd k0 k1 k2 k3 k5 "ValueError.__new__") ∧ refsVE bm = true ∧
    alongIn K "__init__" (((Value.ref C :: bm).dropWhile (· != .ref C)).drop 1) = some (some (.builtin "ValueError.__init__"))
  sa : findIn K (.ref C) "__setattr__" = some (some (.builtin "object.__setattr__"))
  ga : findIn K (.ref C) "__getattribute__" = some (some (.builtin "BaseException.__getattribute__"))
  gg : findIn K (.ref C) "__getattr__" = some none
  noN : ∀ f ∈ fs, findIn K (.ref C) f = some none
  iC : findIn K (.ref C) "__init__" = some (some (.ref fI))
  tC : typeIn K (.ref fI) = some (.type "function")
  kC : keepIn K (.ref C) = true
  exC : subIn K (.ref C) (.type "BaseException") = some true
  veC : subIn K (.ref C) (.type "ValueError") = some true
  slC : mroIn K C (.ref C) = some true
  tyC : typeIn K (.ref C) = some (.type "type")
  hdC : hasDictIn K C = true
  fn : ∃ (oc : Value) (od : Option Addr) (doc pm : Value) (an : Option Addr) (ct : Value) (osl : Array (Option Value)) (q txt : Str) (params : Arguments) (sc : Scope) (q0 q1 q2 q3 q4 q5 : Pos) (asgs : List Stmt) (cda cc : Addr) (ccl cl : Value) (cdd cld : Option Addr) (vs : Array Value) (ccs csl : Array (Option Value)) (file : Str) (tf : Tok),
    K.lookup fI = some ⟨oc, od, .func (ksFn "__init__" q params (oxSup txt q0 q1 q2 q3 q4 q5 :: asgs) sc .none .none doc pm an (.ref cda) ct cc), osl⟩ ∧ codeIn K (.ref cda) q = true ∧ (q2.endLine == q4.line) = true ∧ OxSig fs params sc ∧ Asgs fs asgs ∧
    K.lookup cda = some ⟨ccl, cdd, .fields vs, ccs⟩ ∧ vs[2]? = some (.str file tf) ∧ ((P.main.file : Str) == file) = true ∧ K.lookup cc = some ⟨cl, cld, .cell (some (.ref C)), csl⟩
  sup : mg "super" = none
  tp : nsIn K cStatics "thirdparty.any" = some none
  top : (P.main.scope.names.lookup ("super" : Str)).isSome = false
/-- what __init__ leaves of a fresh exception at x -/
structure InitEnd (h h' : Heap) (x C dx t1 : Addr) (fv : List (Str × Value)) : Prop where
  keep : ∀ b o, b ≠ x → h.get? b = some o → h'.get? b = some o
  obj : h'.get? x = some { cls := .ref C, dict := some dx, data := .fields #[.ref t1, .none, .none, .none, .bool false, .none] }
  dbig : h.objs.size ≤ dx
  dne : dx ≠ x
  ns : h'.Ns1 dx (fun y => fv.reverse.lookup y)
theorem lookup_rev_cons {fv : List (Str × Value)} {f y : Str} {v : Value} (m : Str → Option Value) (hm : ∀ z, m z = fv.lookup z) : (fun z => if z = f then some v else m z) y = ((f, v) :: fv).lookup y := by
  show (if y = f then some v else m y) = _
  by_cases h : y = f
  · subst h; simp [List.lookup]
  · have e : (y == f) = false := by simpa using h
    rw [if_neg h, hm]; simp [List.lookup, e]
theorem zip_lookup : ∀ {fs : List Str} {vs : List Value} {i : Nat} {f : Str} {v : Value}, fs.Nodup → fs[i]? = some f → vs[i]? = some v → (fs.zip vs).lookup f = some v
  | [], _, _, _, _, _, h, _ => by simp at h
  | _ :: _, [], _, _, _, _, _, h => by simp at h
  | g :: fs, u :: vs, 0, f, v, nd, h1, h2 => by
    simp at h1 h2; subst h1; subst h2; simp [List.zip_cons_cons, List.lookup]
  | g :: fs, u :: vs, i + 1, f, v, nd, h1, h2 => by
    have hm : f ∈ fs := List.mem_of_getElem? (by simpa using h1)
    have ne : (f == g) = false := by
      rw [beq_eq_false_iff_ne]; intro e; subst e; exact (List.nodup_cons.mp nd).1 hm
    rw [List.zip_cons_cons]
    simp only [List.lookup, ne]
    exact zip_lookup (i := i) (List.nodup_cons.mp nd).2 (by simpa using h1) (by simpa using h2)
theorem mem_lookup {l : List (Str × Value)} {f : Str} {v : Value} (nd : (l.map (·.1)).Nodup) (h : (f, v) ∈ l) : l.reverse.lookup f = some v := by
  have key : ∀ {l : List (Str × Value)}, (l.map (·.1)).Nodup → (f, v) ∈ l → l.lookup f = some v := by
    intro l
    induction l with
    | nil => intro _ h; cases h
    | cons p l ih =>
      obtain ⟨g, u⟩ := p
      intro nd h
      rw [List.map_cons, List.nodup_cons] at nd
      rcases List.mem_cons.mp h with e | h'
      · cases e; simp [List.lookup]
      · have ne : (f == g) = false := by
          rw [beq_eq_false_iff_ne]; intro e; subst e
          exact nd.1 (List.mem_map_of_mem (f := (·.1)) h')
        simp only [List.lookup, ne]
        exact ih nd.2 h'
  refine key ?_ (List.mem_reverse.mpr h)
  rw [List.map_reverse]
  exact (List.reverse_perm _).nodup_iff.mpr nd
section
variable {prog : Program} {w : World} {A : Around} {E : Value → Shared → Prop} {R : Result → Shared → Prop} {s : Shared} {K : Frag} {mg mb : Str → Option Value} {nm : Str} {fs : List Str} {C fI : Addr}
/-- super().__init__(text): the method-wrapper at u called -/
theorem mw_call {u e t : Addr} {rest : List Value} {Q : Value → Shared → Prop} {nm q : Str} {N : Addr} {bs bm : List Value} {hdct : Bool} {sn : List Str} {sub : List Value} {ab : Bool} {col : Option Bool} {dd : Option Addr} {k0 k1 k2 k3 k5 : Option Value}
    (hC : s.heap.get? C = some (excClassObj nm q C N bs bm hdct sn sub ab col dd k0 k1 k2 k3 k5 "ValueError.__new__")) (hu : s.heap.get? u = some (kxs_mw "ValueError.__init__" e)) (he : s.heap.get? e = some (excO C t)) (hz : rest.length ≤ sizeLine)
    (h : ∀ h' t', (∀ b o, b ≠ e → s.heap.get? b = some o → h'.get? b = some o) → h'.get? e = some (excO C t') → Q .none { s with heap := h' }) :
    wpAny (model prog w) A (call (.ref u) rest) Q E s := by
  obtain ⟨hh, g, d, tk, os⟩ := s
  refine wpAny_call (codeAny_of_tree ?_)
  show wpAny _ A.in1 (callAny (.ref u) ⟨rest, []⟩) _ _ _
  simp only [callAny]
  refine wpAny_bind (wpAny_load hu ?_)
  simp only [kxs_mw, show (Value.type "method-wrapper" == Value.type "method" || Value.type "method-wrapper" == Value.type "builtin_function_or_method" || Value.type "method-wrapper" == Value.type "method-wrapper") = true by decide, if_true]
  refine KFB.if_so (by decide) ?_
  refine wpAny_bind (check_bound_init F.excBase_ValueError.toExcCallFacts hC he rfl ?_)
  refine wpAny_bind (wpAny_pure (wpAny_pure ?_))
  refine ⟨plainId_quiet F.excBase_ValueError.init.plain _, codeAny_builtin F.excBase_ValueError.initEntry ?_⟩
  exact exc_init_tree (cls := .ref C) (t0 := t) (dv := none) (c2 := .none) (c3 := .none) (b4 := .bool false) he hz fun h' k e' _ => h h' _ k e'
theorem ldK {M : Model} {s : Shared} {name : Str} {scope : Scope} {L a : Addr} {cd : Value} {cc : Addr} {m : Str → Option Value} {x : Str} {pos : Pos} {v : Value} {Q : Value → Shared → Prop} {A : Around} {E : Value → Shared → Prop} (hn : s.heap.Ns L m) (hv : m x = some v) (h : Q v s)
    (hk : scope.kind = .function) (hl : scope.names.lookup x = some NameKind.local) (hd : (x == ("__debug__" : Str)) = false) :
    wpAny M A (eval (.Name x pos) (ksEnv name scope L a cd cc)) Q E s := wpAny_Name (wpAny_loadName_local hk hl hn hv h) hd
/-- the stores behind the first -/
theorem ox_rest {q : Str} {sc : Scope} {L fI cc x dx : Addr} {cd : Value} {m : Str → Option Value} {fv : Array Value} {Cd : ClassData} {Q : Flow → Shared → Prop} (hk : sc.kind = .function) (hls : sc.names.lookup ("self" : Str) = some NameKind.local) (hms : m "self" = some (.ref x))
    (hcl : clsIn K C = some Cd) (hmro : refsVE Cd.mro = true) (hdct : Cd.hasDict = true) (hsa : findIn K (.ref C) "__setattr__" = some (some (.builtin "object.__setattr__"))) :
    ∀ (gs : List Str) (us : List Value) (ss : List Stmt) (acc : List (Str × Value)) (s : Shared), Asgs gs ss → us.length = gs.length → K.In s.heap → K.lookup dx = none → s.heap.Ns L m → dx ≠ L → s.heap.get? x = some { cls := .ref C, dict := some dx, data := .fields fv } → dx ≠ x →
    s.heap.Ns1 dx (fun y => acc.lookup y) → acc.length + gs.length ≤ 900 → (∀ f ∈ gs, sc.names.lookup f = some NameKind.local ∧ (f == ("__debug__" : Str)) = false ∧ findIn K (.ref C) f = some none) → (∀ p ∈ gs.zip us, m p.1 = some p.2) →
    (∀ h' tk, (∀ b o, b ≠ dx → s.heap.get? b = some o → h'.get? b = some o) → h'.Ns1 dx (fun y => ((gs.zip us).reverse ++ acc).lookup y) → Q .next { s with heap := h', toks := tk }) →
    wpAny (model prog w) A (execs ss (ksEnv q sc L fI cd cc)) Q E s
  | [], us, _, acc, s, .nil, hl, X, hdK, hL, hdL, hx, hdx, hns, hz, hf, hm, hq => by
    refine wpAny_execs_nil ?_
    exact hq s.heap s.toks (fun _ _ _ e => e) (by simpa using hns)
  | g :: gs, u :: us, _, acc, s, .cons r1 r2 r3 r4 as, hl, X, hdK, hL, hdL, hx, hdx, hns, hz, hf, hm, hq => by
    obtain ⟨f1, f2, f3⟩ := hf g List.mem_cons_self
    have mg' : m g = some u := hm (g, u) (by rw [List.zip_cons_cons]; exact List.mem_cons_self)
    refine wpAny_execs_cons (plainObj_wpAny_Assign_Attribute ?_ (by rfl))
    refine ldK (v := u) hL mg' (ldK (v := .ref x) hL hms ?_ hk hls (by decide +kernel)) hk f1 f2
    have hw : Within (fun y => acc.lookup y) (acc.map (·.1)) := fun y hy => by
      have key : ∀ {l : List (Str × Value)}, l.lookup y ≠ none → y ∈ l.map (·.1) := by
        intro l
        induction l with
        | nil => intro h; exact absurd rfl h
        | cons p l ih =>
          intro h
          obtain ⟨f, z⟩ := p
          by_cases e : y = f
          · rw [e]; exact List.mem_cons_self
          · have e' : (y == f) = false := by simpa using e
            simp only [List.lookup, e'] at h
            exact List.mem_cons_of_mem _ (ih h)
      exact key hy
    obtain ⟨oD, _, _, hoD, _, _⟩ := hns.count hw
    obtain ⟨hp, gg, d, t, os⟩ := s
    refine set_plain X (ox := { cls := .ref C, dict := some dx, data := .fields fv }) (od := some oD) ⟨hx, rfl, rfl, hoD⟩ hsa ?_
    refine OEX.osa_old X hx hns hw (by rw [List.length_map]; simp at hz; omega) hcl hmro hdct f3 (fun h' tk' k hn => ?_)
    have X' : K.In h' := fun b o e => k b o (fun z => by rw [z, hdK] at e; cases e) (X b o e)
    have hL' : h'.Ns L m := by
      obtain ⟨oL, es, ep, e1, r⟩ := hL
      exact ⟨oL, es, ep, k _ _ (Ne.symm hdL) e1, r⟩
    have hn' : h'.Ns1 dx (fun y => ((g, u) :: acc).lookup y) := by
      have e : (fun y => if y = g then some u else acc.lookup y) = (fun y => ((g, u) :: acc).lookup y) := funext fun y => lookup_rev_cons (fv := acc) (f := g) (v := u) (fun z => acc.lookup z) (fun _ => rfl)
      rw [← e]; exact hn
    refine ox_rest hk hls hms hcl hmro hdct hsa gs us _ ((g, u) :: acc) ⟨h', gg, d, tk', os⟩ as (by simpa using hl) X' hdK hL' hdL (k _ _ (Ne.symm hdx) hx) hdx hn' (by simp at hz ⊢; omega) (fun f hf' => hf f (List.mem_cons_of_mem _ hf')) (fun p hp => hm p (by rw [List.zip_cons_cons]; exact List.mem_cons_of_mem _ hp)) fun h'' tk k2 hn2 => ?_
    refine hq h'' tk (fun b o hb e => k2 b o hb (k b o hb e)) ?_
    rw [List.zip_cons_cons, List.reverse_cons, List.append_assoc]
    exact hn2
  | _ :: _, [], _, _, _, _, hl, _, _, _, _, _, _, _, _, _, _, _ => by simp at hl
theorem ox_init (T : ExTxt prog K mg nm fs C fI) {x t0 : Addr} {args : Args} {us : List Value} (hlen : us.length = fs.length) (hargs : args = ⟨.ref x :: us, []⟩ ∨ args = ⟨[.ref x], fs.zip us⟩) (X : K.In s.heap) (G : s.heap.Ns mainGlobals mg) (Bn : s.heap.Ns builtinsNs mb) (hbb : ∀ x : Str, x ≠ "__name__" → mb x = bootBuiltins x) (hlim : s.heap.NoLimit) (hx : s.heap.get? x = some (excO C t0)) (hnx : K.lookup x = none) (hroom : A.depth < recursionLimit)
    (hq : ∀ h' tk dx t1, InitEnd s.heap h' x C dx t1 (fs.zip us) → R (.ok (.ret .none)) { s with heap := h', toks := tk }) :
    codeAny (model prog w) A (.call (.ref fI) args) R s := by
  obtain ⟨nm', q, N, bs, bm, sn, sub, ab, col, dd, k0, k1, k2, k3, k5, hC, hbm, hal⟩ := T.cls
  obtain ⟨oc, od, doc, pm, an, ct, osl, qq, txt, params, sc, q0, q1, q2, q3, q4, q5, asgs, cda, cc, ccl, cl, cdd, cld, vs, ccs, csl, file, tf, hfn, hcd, hline, S, hasg, hco, hvs, hfile, hcell⟩ := T.fn
  have hcl : clsIn K C = some { name := nm', bases := bs, mro := .ref C :: bm, ns := N, qualname := q, hasDict := true, slotNames := sn, subclasses := sub, abstract := ab, collection := col, hasDel := false } := by unfold clsIn; rw [hC] <;> rfl
  have hbd : bindArgs (ksFn "__init__" qq params (oxSup txt q0 q1 q2 q3 q4 q5 :: asgs) sc .none .none doc pm an (.ref cda) ct cc) args = (pure ((("self" : Str), .ref x) :: fs.zip us) : Sem (List (Str × Value))) := by
    rcases hargs with e | e
    · rw [e]; exact S.bnd _ _ _ _ _ _ _ _ _ _ hlen
    · rw [e]; exact S.bndK _ _ _ _ _ _ _ _ _ _ hlen
  obtain ⟨ar, har, har2⟩ : ∃ ar, (params.posonlyargs ++ params.args).head? = some ar ∧ ar.arg = ("self" : Str) := by
    have z := S.hd
    cases e : (params.posonlyargs ++ params.args).head? with
    | none => rw [e] at z; cases z
    | some ar => rw [e] at z; exact ⟨ar, rfl, Option.some.inj z⟩
  refine ks_codeAny_call_defAt (fd := ksFn "__init__" qq params (oxSup txt q0 q1 q2 q3 q4 q5 :: asgs) sc .none .none doc pm an (.ref cda) ct cc) (body := oxSup txt q0 q1 q2 q3 q4 q5 :: asgs) (binds := (("self" : Str), .ref x) :: fs.zip us)
    hroom (X _ _ hfn) rfl hlim (codeRec_of X hcd) rfl (BindsTo.of_eq hbd) S.ncell ?hloc (fun h₁ hns k => ?_) S.co S.gen S.kind
  case hloc =>
    intro y hy
    rcases List.mem_cons.mp hy with rfl | hy
    · exact S.lself
    · exact S.lf _ (List.of_mem_zip hy).1
  have X₁ : K.In h₁ := X.keeps k
  have hx₁ := k _ _ hx
  have hC₁ := X₁ _ _ hC
  have hxC : x ≠ C := fun z => by
    rw [z] at hx
    have e := (X _ _ hC).symm.trans hx
    cases e
  have ndk : (((("self" : Str), Value.ref x) :: fs.zip us).map (·.1)).Nodup := by
    rw [List.map_cons, List.map_fst_zip (by omega)]
    exact List.nodup_cons.mpr ⟨fun h => S.nself _ h rfl, S.nd⟩
  have mself : ((("self" : Str), Value.ref x) :: fs.zip us).reverse.lookup ("self" : Str) = some (.ref x) := mem_lookup ndk List.mem_cons_self
  have mf : ∀ p ∈ fs.zip us, ((("self" : Str), Value.ref x) :: fs.zip us).reverse.lookup p.1 = some p.2 := fun p hp => mem_lookup ndk (List.mem_cons_of_mem _ hp)
  show _root_.PySem.wpAt _ _ (.func (oxSup txt q0 q1 q2 q3 q4 q5 :: asgs) (ksEnv qq sc s.heap.objs.size fI (.ref cda) cc)) (execs (oxSup txt q0 q1 q2 q3 q4 q5 :: asgs) (ksEnv qq sc s.heap.objs.size fI (.ref cda) cc)) _ _ _
  refine ks_wpAt_execs_cons (ks_wpAt_Expr_any (ks_wpAt_MethodCall ?_ (ev_meth _ _ _ _ _ _ _ hline)) (by simp [interactive, S.kind]) (S.sw ..))
  have hIve : ∀ h2 : Heap, K.In h2 → h2.get? x = some (excO C t0) → Looks (model prog w) h2 (isInstance (.ref x) (.type "ValueError")) true := fun h2 X2 e2 =>
    (show W.InstAt h2 x (excO C t0) C none from ⟨e2, rfl, rfl, trivial⟩).type.andThen (looks_subIn X2 T.veC)
  refine ks_wpAt_super_base (env := ksEnv qq sc s.heap.objs.size fI (.ref cda) cc) S.lsup S.lcls (by decide +kernel) rfl (X₁ _ _ hfn) rfl har rfl (X₁ _ _ hco) rfl hvs hfile T.top ?_
  refine ks_loadName_global S.kind S.lsup (loadGlobal_builtin (env := ksEnv qq sc s.heap.objs.size fI (.ref cda) cc) (G.keeps k) T.sup (Bn.keeps k) ((hbb _ (by decide +kernel)).trans (by first | boot_by_name | rfl | kernel_rfl)) ⟨rfl, ?_⟩)
  refine wpAny_loadName_free S.kind S.lcls rfl ⟨_, X₁ _ _ hcell, rfl⟩ ?_
  rw [har2]
  refine wpAny_loadName_local S.kind S.lself hns mself ?_
  refine ks_wpAny_isType_cls hC₁ rfl ⟨rfl, ?_⟩
  refine ks_wpAny_call_super hC₁ rfl hx₁ rfl (fun c z => by cases z) (looks_mroIn X₁ T.slC) (fun h₂ e₂ k₂ => ?_)
  have X₂ : K.In h₂ := X₁.keeps k₂
  refine kxs_getMethod kxs_ValueError e₂ (looks_opaque X₂ T.tp) (l₀ := .ref C :: bm) (fun A Q E s k q => wpAny_bind ((looks_clsIn X₂ hcl) A _ E s k (wpAny_pure q))) rfl X₂ hal (hIve h₂ X₂ (k₂ _ _ hx₁)) hxC (by decide +kernel) ?_
  have k₃ : ∀ b o, h₂.get? b = some o → (h₂.push (kxs_mw "ValueError.__init__" x)).get? b = some o := fun b o e => Heap.get?_push_of_some _ e
  have hu : (h₂.push (kxs_mw "ValueError.__init__" x)).get? h₂.objs.size = some (kxs_mw "ValueError.__init__" x) := Heap.get?_push_at rfl rfl
  refine kxs_callWith (i := "ValueError.__init__") (x := x) (by rfl) (evalArgs_plain ?_)
  show wpAny _ _ (spliced ((false, eval (.Constant (.str txt) 0 q3) (ksEnv qq sc s.heap.objs.size fI (.ref cda) cc)) :: backTo q4 (starEach [] (ksEnv qq sc s.heap.objs.size fI (.ref cda) cc)))) _ _ _
  refine Calls.spliced_cons (Calls.Constant_str (Calls.spliced_nil ⟨hu, ?_⟩))
  refine mw_call (X₂.keeps k₃ _ _ hC) hu (k₃ _ _ (k₂ _ _ hx₁)) (by show 1 ≤ sizeLine; rw [sizeLine_eq]; decide) fun h₄ t₄ k₄ e₄ => ?_
  -- self.f = f
  have kx : ∀ b o, b ≠ x → h₁.get? b = some o → h₄.get? b = some o := fun b o hb e => k₄ b o hb (k₃ b o (k₂ b o e))
  have X₄ : K.In h₄ := fun b o e => kx b o (fun z => by rw [z, hnx] at e; cases e) (X₁ b o e)
  have ns₄ : h₄.Ns s.heap.objs.size (fun y => ((("self" : Str), Value.ref x) :: fs.zip us).reverse.lookup y) := by
    obtain ⟨oL, es, ep, hL, r⟩ := hns
    exact ⟨oL, es, ep, kx _ _ (Ne.symm (Nat.ne_of_lt (Heap.lt_size hx))) hL, r⟩
  have big : s.heap.objs.size < h₄.objs.size := by
    obtain ⟨oL, es, ep, hL, r⟩ := ns₄
    exact Heap.lt_size hL
  obtain ⟨few0, few1⟩ := S.few
  have Slf := S.lf
  have Sdb := S.ndbg
  have TnoN := T.noN
  cases hasg with
  | nil => exact absurd few0 (by simp)
  | @cons f gs ss r1 r2 r3 r4 as =>
    cases us with
    | nil => simp at hlen
    | cons u us =>
      refine wpAt_of_wpAny ?_
      refine wpAny_execs_cons (plainObj_wpAny_Assign_Attribute ?_ (by rfl))
      refine ldK (v := u) ns₄ (mf (f, u) (by rw [List.zip_cons_cons]; exact List.mem_cons_self)) (ldK (v := .ref x) ns₄ mself ?_ S.kind S.lself (by decide +kernel)) S.kind (Slf f List.mem_cons_self) (Sdb f List.mem_cons_self)
      refine set_plain X₄ (ox := excO C t₄) (od := none) ⟨e₄, rfl, rfl, trivial⟩ T.sa ?_
      refine exc_osa X₄ e₄ hcl (show refsVE (.ref C :: bm) = true from hbm) rfl (TnoN f List.mem_cons_self) (fun h₅ tk₅ dx k₅ dn dne hx₅ hn₅ => ?_)
      have X₅ : K.In h₅ := fun b o e => k₅ b o (fun z => by rw [z, hnx] at e; cases e) (X₄ b o e)
      have hdK : K.lookup dx = none := by
        cases e : K.lookup dx with
        | none => rfl
        | some o => exact absurd (Nat.lt_of_lt_of_le (Heap.lt_size (X₄ _ _ e)) dn) (Nat.lt_irrefl _)
      have ns₅ : h₅.Ns s.heap.objs.size (fun y => ((("self" : Str), Value.ref x) :: (f :: gs).zip (u :: us)).reverse.lookup y) := by
        obtain ⟨oL, es, ep, hL, r⟩ := ns₄
        exact ⟨oL, es, ep, k₅ _ _ (Ne.symm (Nat.ne_of_lt (Heap.lt_size hx))) hL, r⟩
      have hn₅' : h₅.Ns1 dx (fun y => [(f, u)].lookup y) := by
        have e : (fun y => if y = f then some u else none) = (fun y => [(f, u)].lookup y) := funext fun y => lookup_rev_cons (fv := []) (f := f) (v := u) (fun _ => none) (fun _ => rfl)
        rw [← e]; exact hn₅
      refine ox_rest (L := s.heap.objs.size) (x := x) (dx := dx) S.kind S.lself mself hcl (show refsVE (.ref C :: bm) = true from hbm) rfl T.sa gs us _ [(f, u)] _ as (by simpa using hlen) X₅ hdK ns₅ (Nat.ne_of_gt (Nat.lt_of_lt_of_le big dn)) hx₅ dne hn₅' (by simp at few1 ⊢; omega)
        (fun g hg => ⟨Slf g (List.mem_cons_of_mem _ hg), Sdb g (List.mem_cons_of_mem _ hg), TnoN g (List.mem_cons_of_mem _ hg)⟩) (fun p hp => mf p (by rw [List.zip_cons_cons]; exact List.mem_cons_of_mem _ hp)) fun h₆ tk₆ k₆ hn₆ => ?_
      refine hq h₆ tk₆ dx t₄ ⟨fun b o hb e => k₆ b o (Nat.ne_of_lt (Nat.lt_of_lt_of_le (Heap.lt_size e) (Nat.le_trans (Nat.le_of_lt big) dn))) (k₅ b o hb (kx b o hb (k b o e))), k₆ _ _ (Ne.symm dne) hx₅, Nat.le_trans (Nat.le_of_lt big) dn, dne, ?_⟩
      rw [List.zip_cons_cons, List.reverse_cons]
      exact hn₆
end
end OxE
end PySem
end
section
set_option Elab.async false
set_option autoImplicit false
set_option linter.all false
set_option maxRecDepth 100000
set_option maxHeartbeats 4000000
namespace PySem
namespace OxE
open PySem.W PySem.Calls PyProof.Rows PySem.HandSPX
section
variable {M : Model} {A : Around} {E : Value → Shared → Prop} {h : Heap} {g : Array GenState} {d : Drawn} {t : Nat} {os : OsState}
variable {nm q : Str} {C N : Addr} {bs bm bmB : List Value} {hdct : Bool} {sn : List Str} {sub : List Value} {ab : Bool} {col : Option Bool} {dd : Option Addr} {k0 k1 k2 k3 k5 : Option Value} {B newId initId : String}
theorem check_newK (F : ExcBaseFacts B newId initId bmB) (hT : ∀ X : String, bm.contains (.type X) = bmB.contains (.type X)) {kw : List (Str × Value)} {Q : Unit → Shared → Prop}
    (hC : h.get? C = some (excClassObj nm q C N bs bm hdct sn sub ab col dd k0 k1 k2 k3 k5 newId)) (hq : Q () ⟨h, g, d, t, os⟩) : wpAny M A (checkBuiltinCall newId ⟨[.ref C], kw⟩) Q E ⟨h, g, d, t, os⟩ := by
  have hcont : (Value.ref C :: bm).contains (.type B) = true := by rw [List.contains_cons, hT, F.hasB, Bool.or_true]
  have hstar := F.noStar
  simp only [checkBuiltinCall, F.newKind, F.newSplit, F.newRow]
  repeat (first | refine wpAny_loadPart_at hC ?_ | (refine wpAny_isSubtype_exc hC ?_; rw [hcont]) | refine wpAny_staticBase_exc hC ?_ | refine wpAny_madeBy_exc hC ?_ | simp only [bne_self_eq_false, Bool.false_eq_true, if_false] | wp_step)
  exact hq
end
section
variable {prog : Program} {w : World} {A : Around} {E : Value → Shared → Prop} {R : Result → Shared → Prop} {h : Heap} {g : Array GenState} {d : Drawn} {t : Nat} {os : OsState}
variable {nm q : Str} {C N : Addr} {bs bm bmB : List Value} {hdct : Bool} {sn : List Str} {sub : List Value} {ab : Bool} {col : Option Bool} {dd : Option Addr} {k0 k1 k2 k3 k5 : Option Value} {B newId initId : String}

theorem new_ownK (F : ExcBaseFacts B newId initId bmB) (hT : ∀ X : String, bm.contains (.type X) = bmB.contains (.type X)) {kw : List (Str × Value)}
    (hC : h.get? C = some (excClassObj nm q C N bs bm hdct sn sub ab col dd k0 k1 k2 k3 k5 newId))
    (hq : R (.ok (.ret (.ref (h.objs.size + 1)))) ⟨(h.push { cls := .type "tuple", data := .seq #[] }).push
      { cls := .ref C, data := .fields #[.ref h.objs.size, .none, .none, .none, .bool false, .none] }, g, d, t, os⟩) :
    codeAny (model prog w) A (.builtin newId ⟨[.ref C], kw⟩) R ⟨h, g, d, t, os⟩ := by
  have hends := F.ends
  have hcB : (Value.ref C :: bm).contains (.type B) = true := by rw [List.contains_cons, hT, F.hasB, Bool.or_true]
  have hcA : (Value.ref C :: bm).contains (.type "AttributeError") = false := by rw [List.contains_cons, hT, F.noAttr]; rfl
  have hcN : (Value.ref C :: bm).contains (.type "NameError") = false := by rw [List.contains_cons, hT, F.noName]; rfl
  refine codeAny_builtinAt F.entry ?_
  unfold Builtin.«BaseException.__new__»
  refine wpAt_bind ?_
  show wpAt _ _ _ (stack >>= _) _ _ _
  refine wpAt_bind (wpAt_stack fun p below => wpAt_of_wpAny ?_)
  wp_walk
  refine wpAt_of_wpAny ?_
  rw [F.owner]
  repeat (first | with_reducible refine wpAny_madeHere_exc F.canon hC ?_ | with_reducible refine wpAny_loadPart_at hC ?_ | (with_reducible refine wpAny_isSubtype_exc hC ?_; first | rw [hcB] | rw [hcA] | rw [hcN]) | wp_step)
  show R _ _
  rw [Heap.size_push]
  exact hq

theorem type_call_ownK (F : ExcBaseFacts B newId initId bmB) (hT : ∀ X : String, bm.contains (.type X) = bmB.contains (.type X)) {kw : List (Str × Value)} {fI : Addr} {Q : Fin → Shared → Prop}
    (hC : h.get? C = some (excClassObj nm q C N bs bm hdct sn sub ab col dd k0 k1 k2 k3 k5 newId))
    (hi : W.Looks (model prog w) h (typeLookup (.ref C) "__init__") (some (.ref fI))) (hb : ∀ self, W.Looks (model prog w) h (bindSpecial (.ref fI) self) (.ref fI, [self]))
    (hq : codeAny (model prog w) A (.call (.ref fI) ⟨[.ref (h.objs.size + 1)], kw⟩)
      (fun r s' => match r with | .ok (.ret v) => v = .none ∧ Q (.done (.ret (.ref (h.objs.size + 1)))) s' | .ok _ => False | .error e => E e s')
      ⟨(h.push (W.kdv_tup [])).push (excO C h.objs.size), g, d, t, os⟩) :
    wpAny (model prog w) A (Builtin.«type.__call__» ⟨[.ref C], kw⟩) Q E ⟨h, g, d, t, os⟩ := by
  repeat (first | with_reducible refine wpAny_loadPart_at hC ?_ | with_reducible refine wpAny_madeBy_exc hC ?_ | wp_step)
  refine codeAny_call_builtin_code (Code.quiet_builtin _ F.quiet) (check_newK F hT hC ?_)
  refine new_ownK F hT hC ?_
  show wpAny _ _ _ _ _ _
  have k : ∀ b o, h.get? b = some o → ((h.push (W.kdv_tup [])).push (excO C h.objs.size)).get? b = some o := fun b o e => Heap.get?_push_of_some _ (Heap.get?_push_of_some _ e)
  have hC₁ := k _ _ hC
  have hget : ((h.push (W.kdv_tup [])).push (excO C h.objs.size)).get? (h.objs.size + 1) = some (excO C h.objs.size) := by heap_get
  have hcC : (Value.ref C :: bm).contains (.ref C) = true := by simp
  have i1 := hi.keeps k
  have b1 := (hb (.ref (h.objs.size + 1))).keeps k
  unfold isInstance
  repeat (first | with_reducible refine wpAny_loadPart_at hget ?_ | (with_reducible refine wpAny_isSubtype_exc hC₁ ?_; rw [hcC]) | wp_step)
  show wpAny _ _ (typeLookup (.ref C) _) _ _ _
  refine i1.at ?_
  refine wpAny_holding (wpAny_bind (b1.at ?_))
  refine wpAny_bind (wpAny_call (codeAny_mono hq fun r s' z => ?_))
  rcases r with e | (v | _ | _ | _) <;> first | exact z | exact z.elim | skip
  obtain ⟨rfl, z⟩ := z
  first
    | exact wpAny_pure (wpAny_pure z)
    | (wp_walk; exact z)

theorem call_ownK (F : ExcBaseFacts B newId initId bmB) (hT : ∀ X : String, bm.contains (.type X) = bmB.contains (.type X)) {kw : List (Str × Value)} {fI : Addr}
    (hC : h.get? C = some (excClassObj nm q C N bs bm hdct sn sub ab col dd k0 k1 k2 k3 k5 newId))
    (hi : W.Looks (model prog w) h (typeLookup (.ref C) "__init__") (some (.ref fI))) (hb : ∀ self, W.Looks (model prog w) h (bindSpecial (.ref fI) self) (.ref fI, [self]))
    (hq : codeAny (model prog w) (A.under (.builtin "type.__call__" ⟨[.ref C], kw⟩)) (.call (.ref fI) ⟨[.ref (h.objs.size + 1)], kw⟩) (W.InitBack (h.objs.size + 1) R)
      ⟨(h.push (W.kdv_tup [])).push (excO C h.objs.size), g, d, t, os⟩) :
    codeAny (model prog w) A (.call (.ref C) ⟨[], kw⟩) R ⟨h, g, d, t, os⟩ := by
  have f1 := tc_lookup
  have f2 := tc_bind (.ref C)
  have hTy : (⟨h, g, d, t, os⟩ : Shared).TypeIs (.ref C) "type" := ⟨_, hC, rfl⟩
  refine codeAny_of_tree ?_
  show wpAny _ _ (callAny (.ref C) _) _ _ _
  repeat (any_goals (first | assumption | with_reducible refine wpAny_loadPart_at hC ?_ | wp_step))
  refine ⟨rfl, ?_⟩
  refine codeAny_call_builtin_at (Code.quiet_builtin _ (by decide +kernel)) entry_typeCall (wpAny_check_type_call_sub hC (type_call_ownK F hT hC hi hb ?_))
  refine codeAny_mono hq fun r s' z => ?_
  rcases r with e | (v | _ | _ | _) <;> exact z

end
end OxE
end PySem
end
section
set_option Elab.async false
set_option autoImplicit false
set_option linter.all false
set_option maxRecDepth 100000
set_option maxHeartbeats 4000000
namespace PySem
namespace OxE
open PySem.W PySem.Calls PyProof.Rows PySem.HandSPX
section
variable {prog : Program} {w : World} {A : Around} {E : Value → Shared → Prop} {R : Result → Shared → Prop} {s : Shared} {K : Frag} {mg mb : Str → Option Value} {nm : Str} {fs : List Str} {C fI : Addr}
/-- such an error, made: a new object with its own dict -/
theorem ox_made (T : ExTxt prog K mg nm fs C fI) {args : Args} {us : List Value} (hlen : us.length = fs.length) (hargs : args = ⟨us, []⟩ ∨ args = ⟨[], fs.zip us⟩) (X : K.In s.heap) (G : s.heap.Ns mainGlobals mg) (Bn : s.heap.Ns builtinsNs mb) (hbb : ∀ x : Str, x ≠ "__name__" → mb x = bootBuiltins x) (hlim : s.heap.NoLimit) (hroom : A.depth + 1 < recursionLimit)
    (hq : ∀ h' tk e d t1, (∀ b o, s.heap.get? b = some o → h'.get? b = some o) → s.heap.objs.size ≤ e → h'.get? e = some { cls := .ref C, dict := some d, data := .fields #[.ref t1, .none, .none, .none, .bool false, .none] } → s.heap.objs.size ≤ d → d ≠ e → h'.Ns1 d (fun y => (fs.zip us).reverse.lookup y) → R (.ok (.ret (.ref e))) { s with heap := h', toks := tk }) :
    codeAny (model prog w) A (.call (.ref C) args) R s := by
  obtain ⟨nm', q, N, bs, bm, sn, sub, ab, col, dd, k0, k1, k2, k3, k5, hC, hbm, hal⟩ := T.cls
  have few : us.length ≤ 20 := by
    obtain ⟨_, _, _, _, _, _, _, _, _, _, sc, _, _, _, _, _, _, _, _, _, _, _, _, _, _, _, _, _, _, _, _, _, S, _⟩ := T.fn
    rw [hlen]; exact S.few.2
  have hrest : us.length ≤ sizeLine := by rw [sizeLine_eq]; omega
  obtain ⟨hp, g, dr, tk, os⟩ := s
  -- __init__ over the fresh object
  have main : ∀ (vs : List Value) (A' : Around) (args' : Args), A'.depth < recursionLimit → (args' = ⟨.ref (hp.objs.size + 1) :: us, []⟩ ∨ args' = ⟨[.ref (hp.objs.size + 1)], fs.zip us⟩) →
      codeAny (model prog w) A' (.call (.ref fI) args') (W.InitBack (hp.objs.size + 1) R) ⟨(hp.push (kdv_tup vs)).push (excO C hp.objs.size), g, dr, tk, os⟩ := by
    intro vs A' args' hr ha
    have k : ∀ b o, hp.get? b = some o → ((hp.push (kdv_tup vs)).push (excO C hp.objs.size)).get? b = some o := fun b o e => Heap.get?_push_of_some _ (Heap.get?_push_of_some _ e)
    have hget : ((hp.push (kdv_tup vs)).push (excO C hp.objs.size)).get? (hp.objs.size + 1) = some (excO C hp.objs.size) := by heap_get
    have hnx : K.lookup (hp.objs.size + 1) = none := by
      cases e : K.lookup (hp.objs.size + 1) with
      | none => rfl
      | some o => exact absurd (Nat.lt_of_succ_lt (Heap.lt_size (show hp.get? (hp.objs.size + 1) = some o from X _ _ e))) (Nat.lt_irrefl _)
    refine ox_init (mb := mb) (s := ⟨(hp.push (kdv_tup vs)).push (excO C hp.objs.size), g, dr, tk, os⟩) T hlen ha (X.keeps k) (G.keeps k) (Bn.keeps k) hbb (hlim.keeps k) hget hnx hr fun h' tk' dx t1 D => ?_
    have hsz : ((hp.push (kdv_tup vs)).push (excO C hp.objs.size)).objs.size = hp.objs.size + 1 + 1 := by rw [Heap.size_push, Heap.size_push]
    have big : hp.objs.size ≤ dx := by
      have z := D.dbig
      have z' : ((hp.push (kdv_tup vs)).push (excO C hp.objs.size)).objs.size ≤ dx := z
      rw [hsz] at z'; omega
    exact ⟨rfl, hq h' tk' (hp.objs.size + 1) dx t1 (fun b o e => D.keep b o (Nat.ne_of_lt (Nat.lt_succ_of_lt (Heap.lt_size e))) (k b o e)) (Nat.le_succ _) D.obj big D.dne D.ns⟩
  rcases hargs with e | e
  · subst e
    exact call_own F.excBase_ValueError (fun Y => refsVE_contains Y bm hbm) (X _ _ hC) (looks_findIn X T.iC) (fun self => bind_fn X self T.tC) hrest (main us _ _ (by show A.depth + 1 < _; exact hroom) (.inl rfl))
  · subst e
    exact call_ownK F.excBase_ValueError (fun Y => refsVE_contains Y bm hbm) (X _ _ hC) (looks_findIn X T.iC) (fun self => bind_fn X self T.tC) (main [] _ _ (by show A.depth + 1 < _; exact hroom) (.inr rfl))
end
end OxE
end PySem
namespace L2
open PySem PySem.Spec PyProof.Rows PySem.OxE
theorem relO_zip : ∀ {fs : List Str} {vs : List V} {us : List Value}, Vals vs us → ∀ f, RelO ((fs.zip vs).lookup f) ((fs.zip us).lookup f)
  | [], _, _, _, _ => True.intro
  | _ :: _, _, _, .nil, _ => True.intro
  | g :: fs, _, _, .cons r t, f => by
    rw [List.zip_cons_cons, List.zip_cons_cons]
    by_cases h : f = g
    · subst h; simp only [List.lookup, beq_self_eq_true]; exact r
    · have e : (f == g) = false := by simpa using h
      simp only [List.lookup, e]; exact relO_zip t f
theorem relO_kv : ∀ {l : List (Str × V)} {m : List (Str × Value)}, Paired (fun (p : Str × V) (q : Str × Value) => p.1 = q.1 ∧ RelV p.2 q.2) l m → ∀ f, RelO (l.lookup f) (m.lookup f)
  | _, _, .nil, _ => True.intro
  | (g, v) :: l, (g', u) :: m, .cons r t, f => by
    obtain ⟨e, r⟩ := r
    obtain rfl : g = g' := e
    by_cases h : f = g
    · subst h; simp only [List.lookup, beq_self_eq_true]; exact r
    · have e : (f == g) = false := by simpa using h
      simp only [List.lookup, e]; exact relO_kv t f
theorem paired_snoc {α β : Type} {F : α → β → Prop} : ∀ {l : List α} {m : List β} {a : α} {b : β}, Paired F l m → F a b → Paired F (l ++ [a]) (m ++ [b])
  | _, _, _, _, .nil, h => .cons h .nil
  | _, _, _, _, .cons r t, h => .cons r (paired_snoc t h)
theorem paired_rev {α β : Type} {F : α → β → Prop} : ∀ {l : List α} {m : List β}, Paired F l m → Paired F l.reverse m.reverse
  | _, _, .nil => .nil
  | _, _, .cons r t => by rw [List.reverse_cons, List.reverse_cons]; exact paired_snoc (paired_rev t) r
theorem paired_zip : ∀ {fs : List Str} {vs : List V} {us : List Value}, Vals vs us → Paired (fun (p : Str × V) (q : Str × Value) => p.1 = q.1 ∧ RelV p.2 q.2) (fs.zip vs) (fs.zip us)
  | [], _, _, _ => .nil
  | _ :: _, _, _, .nil => .nil
  | _ :: _, _, _, .cons r t => .cons ⟨rfl, r⟩ (paired_zip t)
/-- the fields of a made error, as they stand in its dict -/
def exF (fs : List Str) (vs : List V) : List (Str × V) := (fs.zip vs).reverse
theorem relO_exF {fs : List Str} {vs : List V} {us : List Value} (r : Vals vs us) (f : Str) : RelO ((exF fs vs).lookup f) ((fs.zip us).reverse.lookup f) := relO_kv (paired_rev (paired_zip r)) f
/-- what is read off an error of the class at C -/
structure ExRd (K : PySem.W.Frag) (C : Addr) : Prop where
  ga : PySem.W.findIn K (.ref C) "__getattribute__" = some (some (.builtin "BaseException.__getattribute__"))
  gg : PySem.W.findIn K (.ref C) "__getattr__" = some none
  exC : PySem.W.subIn K (.ref C) (.type "BaseException") = some true
  hdC : PySem.W.hasDictIn K C = true
theorem _root_.PySem.OxE.ExTxt.rd {P : Program} {K : PySem.W.Frag} {mg : Str → Option Value} {nm : Str} {fs : List Str} {C fI : Addr} (T : ExTxt P K mg nm fs C fI) : ExRd K C := ⟨T.ga, T.gg, T.exC, T.hdC⟩
section
variable {X : Cx} {nm : Str} {fs : List Str} {C fI : Addr} {e : Expr} {es : List Expr} {ta : TA} {p pos : Pos}
/-- C(e, ..) as a value: a new error at e, its dict at d -/
def tOx (C : Addr) (fs : List Str) (ta : TA) : TE := fun σ H Q => ta σ H fun vs H1 => vs.length = fs.length ∧ ∀ e d, H1 e = none → H1 d = none → d ≠ e → Q (.ref e) (upd (upd H1 d (exd d (exF fs vs))) e (exo e C (some d)))
theorem ox_laid {pins : List (Addr × Obj)} {σ : St} {H1 : Hp} {us : List Value} {vs : List V} {hp h' : Heap} {g : Array GenState} {dr : Drawn} {tk tk' : Nat} {os : OsState} {e d t1 : Addr} (I1 : Inv X pins σ H1 ⟨hp, g, dr, tk, os⟩) (r : Vals vs us)
    (k : ∀ b o, hp.get? b = some o → h'.get? b = some o) (he : hp.objs.size ≤ e) (ho : h'.get? e = some { cls := .ref C, dict := some d, data := .fields #[.ref t1, .none, .none, .none, .bool false, .none] }) (hd : hp.objs.size ≤ d) (hde : d ≠ e) (hn : h'.Ns1 d (fun y => (fs.zip us).reverse.lookup y)) :
    Inv X pins σ (upd (upd H1 d (exd d (exF fs vs))) e (exo e C (some d))) ⟨h', g, dr, tk', os⟩ := by
  have n1 : H1 d = none := I1.hok.fresh hd
  have n2 : H1 e = none := I1.hok.fresh he
  refine I1.un (t' := tk') ⟨fun b o q n _ _ => k b o q, fun b o q n _ _ => ⟨o.slots, k b o q⟩, fun b o q n _ => ?_, fun b o q _ => ⟨o, k b o q⟩, fun b xs q => ?_, fun b o u q => ?_, fun b ps q => ⟨#[], ?_⟩⟩ fun b o q => ?_
  · rw [upd_ne (Nat.ne_of_lt (Nat.lt_of_lt_of_le (Heap.lt_size q) he)), upd_ne (Nat.ne_of_lt (Nat.lt_of_lt_of_le (Heap.lt_size q) hd))]; exact n
  · rw [upd_ne (ne_of_none q n2), upd_ne (ne_of_none q n1)]; exact q
  · rw [upd_ne (ne_of_none q n2), upd_ne (ne_of_none q n1)]; exact q
  · rw [upd_ne (ne_of_none q n2), upd_ne (ne_of_none q n1), q]; simp
  · by_cases hb : b = e
    · subst hb; rw [upd_same] at q; cases q; exact exo_ok ho
    · rw [upd_ne hb] at q
      by_cases hb2 : b = d
      · subst hb2; rw [upd_same] at q; cases q; exact exd_ok hn (relO_exF r)
      · rw [upd_ne hb2] at q
        exact (I1.hok b o q).stay (fun c v _ z => k c v z) (fun c hc => by rw [upd_ne (ne_of_none hc n2), upd_ne (ne_of_none hc n1)]; exact hc) fun c xs hc => by rw [upd_ne (ne_of_none hc n2), upd_ne (ne_of_none hc n1)]; exact hc
theorem ox_mod {pins : List (Addr × Obj)} {σ : St} {H : Hp} {s : Shared} (I : Inv X pins σ H s) : ∃ mb, s.heap.Ns mainGlobals X.mg ∧ s.heap.Ns builtinsNs mb ∧ ∀ x : Str, x ≠ "__name__" → mb x = bootBuiltins x := by
  obtain ⟨mb, h1, h2⟩ := I.mod.blt
  exact ⟨mb, I.mod.glob.keeps I.bk, h1.keeps I.bk, h2⟩
theorem pe_ox {k : Nat} (T : ExTxt X.prog X.K X.mg nm fs C fI) (hr : Room k X.A) (hg : Gl X nm) (ha : PA X (e :: es) ta)
    (he : starEach (e :: es) X.env = (false, eval e X.env) :: starEach es X.env := by rfl) (hpl : (backTo pos (starEach es X.env)).any (·.1) = false := by rfl) : PE X (.Call (.Name nm p) (e :: es) [] pos) (tOx C fs ta) := by
  refine ⟨fun pins s σ H Q I h => ?_⟩
  refine wpAny_Call_Name_kw (ld_glob I hg T.gC ?_ T.nmd)
  refine PySem.W.callWith_K (h₀ := X.base) I.ok.mod.kin T.kC (thn (ha.run pos pins s σ H _ I h) fun us s1 ⟨vs, H1, I1, r1, hl, q1⟩ => ⟨I1.kIn, ?_⟩) he hpl
  show wpAny _ _ (call (.ref C) us) _ _ _
  obtain ⟨mb, hg1, hb1, hbb⟩ := ox_mod I1
  have hlim := I1.nolimit
  obtain ⟨hp, g, dr, tk, os⟩ := s1
  refine wpAny_call (ox_made T (us := us) (by rw [← r1.length]; exact hl) (.inl rfl) I1.kIn hg1 hb1 hbb hlim (by have := hr.dp; omega) fun h' tk' e d t1 k2 he' ho hd hde hn => ?_)
  exact ⟨.ref e, _, ox_laid I1 r1 k2 he' ho hd hde hn, rfl, q1 e d (I1.hok.fresh he') (I1.hok.fresh hd) hde⟩
/-- C(f = e, ..): every field by its name, in order -/
theorem pe_oxK {k : Nat} {kws : List Keyword} (T : ExTxt X.prog X.K X.mg nm fs C fI) (hr : Room k X.A) (hg : Gl X nm) (hkw : PK X kws ta)
    (hall : (backToKw pos (keywordEach kws X.env)).all (·.1.isSome) = true := by rfl) (hks : (backToKw pos (keywordEach kws X.env)).filterMap (·.1) = fs := by rfl)
    (hpl : ((backTo pos (starEach [] X.env)).any (·.1) || (backToKw pos (keywordEach kws X.env)).any (·.1.isNone)) = false := by rfl) : PE X (.Call (.Name nm p) [] kws pos) (tOx C fs ta) := by
  refine ⟨fun pins s σ H Q I h => ?_⟩
  refine wpAny_Call_Name_kw (ld_glob I hg T.gC ?_ T.nmd)
  refine PySem.W.callWith_KW0 (h₀ := X.base) I.ok.mod.kin T.kC hall ?_ hpl
  refine thn (hkw.run pos pins s σ H _ I h) fun us s1 ⟨vs, H1, I1, r1, hl, q1⟩ => ⟨I1.kIn, ?_⟩
  rw [hks]
  obtain ⟨mb, hg1, hb1, hbb⟩ := ox_mod I1
  have hlim := I1.nolimit
  obtain ⟨hp, g, dr, tk, os⟩ := s1
  refine wpAny_call (ox_made T (us := us) (by rw [← r1.length]; exact hl) (.inr rfl) I1.kIn hg1 hb1 hbb hlim (by have := hr.dp; omega) fun h' tk' e d t1 k2 he' ho hd hde hn => ?_)
  exact ⟨.ref e, _, ox_laid I1 r1 k2 he' ho hd hde hn, rfl, q1 e d (I1.hok.fresh he') (I1.hok.fresh hd) hde⟩
/-- raise C(e, ..) -/
def tMkOx (C : Addr) (fs : List Str) (ta : TA) : St → Hp → XK → Prop := fun σ H Q => ta σ H fun vs H1 => vs.length = fs.length ∧ ∀ d : Addr, H1 d = none → Q (.ref C) (some d) (upd H1 d (.xd (exF fs vs)))
theorem pmk_ox {k : Nat} (T : ExTxt X.prog X.K X.mg nm fs C fI) (hr : Room k X.A) (hg : Gl X nm) (ha : PA X (e :: es) ta)
    (he : starEach (e :: es) X.env = (false, eval e X.env) :: starEach es X.env := by rfl) (hpl : (backTo pos (starEach es X.env)).any (·.1) = false := by rfl) : PMk X (.Call (.Name nm p) (e :: es) [] pos) (tMkOx C fs ta) := by
  intro pins s σ H Q I h
  refine wpAny_Call_Name_kw (ld_glob I hg T.gC ?_ T.nmd)
  refine PySem.W.callWith_K (h₀ := X.base) I.ok.mod.kin T.kC (thn (ha.run pos pins s σ H _ I h) fun us s1 ⟨vs, H1, I1, r1, hl, q1⟩ => ⟨I1.kIn, ?_⟩) he hpl
  show wpAny _ _ (call (.ref C) us) _ _ _
  obtain ⟨mb, hg1, hb1, hbb⟩ := ox_mod I1
  have hlim := I1.nolimit
  obtain ⟨hp, g, dr, tk, os⟩ := s1
  refine wpAny_call (ox_made T (us := us) (by rw [← r1.length]; exact hl) (.inl rfl) I1.kIn hg1 hb1 hbb hlim (by have := hr.dp; omega) fun h' tk' e d t1 k2 he' ho hd hde hn => ?_)
  show MkP X pins σ Q (.ref e) ⟨h', g, dr, tk', os⟩
  obtain ⟨G', g1, g2⟩ := restrict h' fun b => decide (b ≠ e)
  have gk : ∀ b, b ≠ e → G'.get? b = h'.get? b := fun b hb => g1 b (decide_eq_true hb)
  have ge : G'.get? e = none := g2 e (by simp)
  have old : ∀ b o, hp.get? b = some o → G'.get? b = some o := fun b o q => (gk b (Nat.ne_of_lt (Nat.lt_of_lt_of_le (Heap.lt_size q) he'))).trans (k2 b o q)
  have J : Inv X pins σ (upd H1 d (.xd (exF fs vs))) ⟨G', g, dr, tk', os⟩ := I1.laid (t' := tk') old hd ⟨_, hn.at (fun o q => (gk d hde).trans q), relO_exF r1⟩
  refine ⟨e, _, _, ⟨G', g, dr, tk', os⟩, _, .ref C, some d, rfl, J, fun b o q => ?_, ge, ho, ⟨rfl, rfl⟩, rfl, rfl, ?_, rfl, I1.bare, raises_own T.exC T.tyC, q1 d (I1.hok.fresh hd)⟩
  · by_cases hb : b = e
    · rw [hb, show (⟨G', g, dr, tk', os⟩ : Shared).heap.get? e = none from ge] at q; cases q
    · exact (gk b hb).symm.trans q
  · rw [upd_ne (Ne.symm hde)]; exact I1.hok.fresh he'
def tRaiseOx (C : Addr) (fs : List Str) (W : WX) (ta : TA) : TS := fun _ σ H => tMkOx C fs ta σ H fun cls d H' => W cls d σ H'
theorem ps_raiseOx {W : WX} {k : Nat} {pos2 : Pos} (hc : X.calm = true) (T : ExTxt X.prog X.K X.mg nm fs C fI) (hr : Room k X.A) (tk : Takes X W) (hg : Gl X nm) (ha : PA X (e :: es) ta)
    (he : starEach (e :: es) X.env = (false, eval e X.env) :: starEach es X.env := by rfl) (hpl : (backTo pos (starEach es X.env)).any (·.1) = false := by rfl) :
    PS X (.Raise (some (.Call (.Name nm p) (e :: es) [] pos)) none pos2) (tRaiseOx C fs W ta) := ps_raise hc tk (pmk_ox T hr hg ha he hpl)
end
section
variable {X : Cx} {e : Expr} {te : TE} {f : Str} {pos : Pos}
/-- x.f, x an error that is held as a value -/
def tOxF (K : PySem.W.Frag) (f : Str) (te : TE) : TE := fun σ H Q => te σ H fun x H1 => ∃ (a C d : Addr) (fv : List (Str × V)) (v : V), x = .ref a ∧ H1 a = some (exo a C (some d)) ∧ H1 d = some (exd d fv) ∧ ExRd K C ∧ PySem.W.findIn K (.ref C) f = some none ∧ fv.lookup f = some v ∧ Q v H1
theorem pe_oxF (he : PE X e te) (hb : attributeBase e f X.env (eval e X.env) = eval e X.env) : PE X (.Attribute e f pos) (tOxF X.K f te) := by
  refine ⟨fun pins s σ H Q I h => ?_⟩
  refine attr_of hb (thn (he.run pins s σ H _ I h) fun u s1 ⟨x, H1, I1, rx, a, C, d, fv, v, ex, ea, ed, T, hno, hl, q⟩ => ?_)
  subst ex
  obtain rfl : u = Value.ref a := rx
  obtain ⟨t1, ho⟩ := exo_at I1.hok ea
  obtain ⟨mA, hns, hr⟩ := exd_at I1.hok ed
  obtain ⟨od, hod, hlk⟩ := lookIn_ns hns
  obtain ⟨u, hu, ru⟩ := RelO.some_of (v := v) (o := mA f) (by rw [← hl]; exact hr f)
  have J : PySem.W.InstAt s1.heap a _ C (some od) := ⟨ho, rfl, rfl, hod⟩
  exact PySem.HandSPX.exc_get I1.kIn J T.ga T.gg T.exC (PySem.W.findObj_own T.hdC hno rfl (by rw [hlk, hu])) (handed_of ru) ⟨v, H1, I1.tok _, ru, q⟩
/-- isinstance(x, c), x an error that is held as a value -/
structure ExIs (K : PySem.W.Frag) (C : Addr) : Prop where
  rd : ExRd K C
  cl : (PySem.W.clsIn K C).isSome = true
  ha : PySem.W.findIn K (.ref C) "__class__" = some (some (.builtin "object.__class__"))
  hn : PySem.W.specialIn K (.builtin "object.__class__") "__get__" = some (some (.builtin "getset_descriptor.__get__"))
  ht : PySem.W.takesIn K (.builtin "object.__class__") = some true
  hm : PySem.W.mroIn K C (.type "object") = some true
def rIsOx (K : PySem.W.Frag) : List V → Hp → VK → Prop := fun xs H Q => ∃ (a C d : Addr) (fv : List (Str × V)) (c : V) (cv : Value) (b : Bool), xs = [.ref a, c] ∧ H a = some (exo a C (some d)) ∧ H d = some (exd d fv) ∧ ExIs K C ∧ (∀ u, RelV c u → u = cv) ∧ PySem.W.kitOne K (.ref C) cv = some b ∧ Q (.bl b) H
theorem call_isOx : CallR X (.builtin "isinstance") (rIsOx X.K) := by
  intro pins s σ H xs us Q I r h
  obtain ⟨a, C, d, fv, c, cv, b, rfl, ea, ed, T, hcv, e, q⟩ := h
  cases r with
  | cons rx rr =>
    cases rr with
    | cons rt rr =>
      cases rr
      cases rx
      have ec := hcv _ rt
      subst ec
      obtain ⟨t1, ho⟩ := exo_at I.hok ea
      obtain ⟨mA, hns, hr⟩ := exd_at I.hok ed
      obtain ⟨od, hod, hlk⟩ := lookIn_ns hns
      have J : PySem.W.InstAt s.heap a _ C (some od) := ⟨ho, rfl, rfl, hod⟩
      exact PySem.W.kia_one (PySem.W.kitx_exc T.cl T.rd.ga T.rd.gg T.rd.exC T.ha T.hn T.ht T.hm) I.kIn J e (fun z => nomatch z) fun tk => ⟨.bl b, H, I.kept (t' := tk) fun _ _ z => z, rfl, q⟩
/-- n.f, n the error that the suite holds (at a; its class cls, its dict d) -/
def tByOx (K : PySem.W.Frag) (f : Str) (a : Addr) (cls : Value) (d : Option Addr) (te : TE) : TE := fun σ H Q => te σ H fun x H1 => x = .ref a ∧ ∃ (C dd : Addr) (fv : List (Str × V)) (v : V), cls = .ref C ∧ d = some dd ∧ H1 dd = some (.xd fv) ∧ ExRd K C ∧ PySem.W.findIn K (.ref C) f = some none ∧ fv.lookup f = some v ∧ Q v H1
theorem pe_byOx {a : Addr} {oe : Obj} {cls : Value} {d : Option Addr} {pn : List (Addr × Obj)} (hz : Zc cls d oe) (hf : ∃ vs, oe.data = .fields vs) (he : PE (X.suite a ((a, oe) :: pn)) e te)
    (hb : attributeBase e f X.env (eval e X.env) = eval e X.env := by rfl) : PE (X.suite a ((a, oe) :: pn)) (.Attribute e f pos) (tByOx X.K f a cls d te) := by
  refine ⟨fun pins s σ H Q I h => ?_⟩
  refine attr_of hb (thn (he.run pins s σ H _ I h) fun u s1 ⟨x, H1, I1, rx, ex, C, dd, fv, v, ec, ed, ea, T, hno, hl, q⟩ => ?_)
  subst ex
  obtain rfl : u = Value.ref a := rx
  subst ec ed
  obtain ⟨ha, _⟩ := I1.pin (a, oe) (List.mem_append_left _ List.mem_cons_self)
  obtain ⟨vs, hd⟩ := hf
  obtain ⟨mA, hns, hr⟩ := (show ObjOk X.prog X.w H1 s1.heap dd (.xd fv) from I1.hok dd _ ea)
  obtain ⟨od, ho, hlk⟩ := lookIn_ns hns
  obtain ⟨u, hu, ru⟩ := RelO.some_of (v := v) (o := mA f) (by rw [← hl]; exact hr f)
  have J : PySem.W.InstAt s1.heap a oe C (some od) := ⟨ha, hz.1, by unfold PySem.W.notCls; rw [hd] <;> rfl, by rw [hz.2]; exact ho⟩
  exact PySem.HandSPX.exc_get I1.kIn J T.ga T.gg T.exC (PySem.W.findObj_own T.hdC hno rfl (by rw [hlk, hu])) (handed_of ru) ⟨v, H1, I1.tok _, ru, q⟩
end
end L2
end
section
set_option Elab.async false
set_option autoImplicit false
set_option linter.all false
set_option maxRecDepth 100000
set_option maxHeartbeats 4000000
namespace PySem
namespace OxE
open PySem.W PySem.Calls PyProof.Rows PySem.HandSPX
theorem sig_symbol {p0 p1 : Pos} : OxSig ["symbol"] { posonlyargs := [], args := [{ arg := "self", annotation := none, pos := p0 }, { arg := "symbol", annotation := none, pos := p1 }], vararg := none, kwonlyargs := [], kw_defaults := [], kwarg := none, defaults := [] }
    { kind := .function, names := [(PySem.Str.ofString "self", .local), (PySem.Str.ofString "symbol", .local), (PySem.Str.ofString "__class__", .free), (PySem.Str.ofString "super", .globalImplicit)], isGenerator := false, isCoroutine := false, more := [] } where
  kind := rfl
  co := rfl
  gen := rfl
  ncell := by decide +kernel
  hd := rfl
  lself := by decide +kernel
  lf := by decide +kernel
  lsup := by decide +kernel
  lcls := by decide +kernel
  nself := by decide +kernel
  ndbg := by decide +kernel
  nd := by decide +kernel
  few := by decide
  bnd := fun q body doc pm cdv ct an cc a vs hl => match vs, hl with | [_], _ => rfl
  bndK := fun q body doc pm cdv ct an cc a vs hl => match vs, hl with | [_], _ => rfl
  sw := fun q txt q0 q1 q2 q3 q4 L fI cc cd n => rfl
theorem sig_row {p0 p1 : Pos} : OxSig ["row"] { posonlyargs := [], args := [{ arg := "self", annotation := none, pos := p0 }, { arg := "row", annotation := none, pos := p1 }], vararg := none, kwonlyargs := [], kw_defaults := [], kwarg := none, defaults := [] }
    { kind := .function, names := [(PySem.Str.ofString "self", .local), (PySem.Str.ofString "row", .local), (PySem.Str.ofString "__class__", .free), (PySem.Str.ofString "super", .globalImplicit)], isGenerator := false, isCoroutine := false, more := [] } where
  kind := rfl
  co := rfl
  gen := rfl
  ncell := by decide +kernel
  hd := rfl
  lself := by decide +kernel
  lf := by decide +kernel
  lsup := by decide +kernel
  lcls := by decide +kernel
  nself := by decide +kernel
  ndbg := by decide +kernel
  nd := by decide +kernel
  few := by decide
  bnd := fun q body doc pm cdv ct an cc a vs hl => match vs, hl with | [_], _ => rfl
  bndK := fun q body doc pm cdv ct an cc a vs hl => match vs, hl with | [_], _ => rfl
  sw := fun q txt q0 q1 q2 q3 q4 L fI cc cd n => rfl
theorem sig_what {p0 p1 : Pos} : OxSig ["what"] { posonlyargs := [], args := [{ arg := "self", annotation := none, pos := p0 }, { arg := "what", annotation := none, pos := p1 }], vararg := none, kwonlyargs := [], kw_defaults := [], kwarg := none, defaults := [] }
    { kind := .function, names := [(PySem.Str.ofString "self", .local), (PySem.Str.ofString "what", .local), (PySem.Str.ofString "__class__", .free), (PySem.Str.ofString "super", .globalImplicit)], isGenerator := false, isCoroutine := false, more := [] } where
  kind := rfl
  co := rfl
  gen := rfl
  ncell := by decide +kernel
  hd := rfl
  lself := by decide +kernel
  lf := by decide +kernel
  lsup := by decide +kernel
  lcls := by decide +kernel
  nself := by decide +kernel
  ndbg := by decide +kernel
  nd := by decide +kernel
  few := by decide
  bnd := fun q body doc pm cdv ct an cc a vs hl => match vs, hl with | [_], _ => rfl
  bndK := fun q body doc pm cdv ct an cc a vs hl => match vs, hl with | [_], _ => rfl
  sw := fun q txt q0 q1 q2 q3 q4 L fI cc cd n => rfl
theorem sig_half {p0 p1 : Pos} : OxSig ["half"] { posonlyargs := [], args := [{ arg := "self", annotation := none, pos := p0 }, { arg := "half", annotation := none, pos := p1 }], vararg := none, kwonlyargs := [], kw_defaults := [], kwarg := none, defaults := [] }
    { kind := .function, names := [(PySem.Str.ofString "self", .local), (PySem.Str.ofString "half", .local), (PySem.Str.ofString "__class__", .free), (PySem.Str.ofString "super", .globalImplicit)], isGenerator := false, isCoroutine := false, more := [] } where
  kind := rfl
  co := rfl
  gen := rfl
  ncell := by decide +kernel
  hd := rfl
  lself := by decide +kernel
  lf := by decide +kernel
  lsup := by decide +kernel
  lcls := by decide +kernel
  nself := by decide +kernel
  ndbg := by decide +kernel
  nd := by decide +kernel
  few := by decide
  bnd := fun q body doc pm cdv ct an cc a vs hl => match vs, hl with | [_], _ => rfl
  bndK := fun q body doc pm cdv ct an cc a vs hl => match vs, hl with | [_], _ => rfl
  sw := fun q txt q0 q1 q2 q3 q4 L fI cc cd n => rfl
theorem sig_number {p0 p1 : Pos} : OxSig ["number"] { posonlyargs := [], args := [{ arg := "self", annotation := none, pos := p0 }, { arg := "number", annotation := none, pos := p1 }], vararg := none, kwonlyargs := [], kw_defaults := [], kwarg := none, defaults := [] }
    { kind := .function, names := [(PySem.Str.ofString "self", .local), (PySem.Str.ofString "number", .local), (PySem.Str.ofString "__class__", .free), (PySem.Str.ofString "super", .globalImplicit)], isGenerator := false, isCoroutine := false, more := [] } where
  kind := rfl
  co := rfl
  gen := rfl
  ncell := by decide +kernel
  hd := rfl
  lself := by decide +kernel
  lf := by decide +kernel
  lsup := by decide +kernel
  lcls := by decide +kernel
  nself := by decide +kernel
  ndbg := by decide +kernel
  nd := by decide +kernel
  few := by decide
  bnd := fun q body doc pm cdv ct an cc a vs hl => match vs, hl with | [_], _ => rfl
  bndK := fun q body doc pm cdv ct an cc a vs hl => match vs, hl with | [_], _ => rfl
  sw := fun q txt q0 q1 q2 q3 q4 L fI cc cd n => rfl
theorem sig_word {p0 p1 : Pos} : OxSig ["word"] { posonlyargs := [], args := [{ arg := "self", annotation := none, pos := p0 }, { arg := "word", annotation := none, pos := p1 }], vararg := none, kwonlyargs := [], kw_defaults := [], kwarg := none, defaults := [] }
    { kind := .function, names := [(PySem.Str.ofString "self", .local), (PySem.Str.ofString "word", .local), (PySem.Str.ofString "__class__", .free), (PySem.Str.ofString "super", .globalImplicit)], isGenerator := false, isCoroutine := false, more := [] } where
  kind := rfl
  co := rfl
  gen := rfl
  ncell := by decide +kernel
  hd := rfl
  lself := by decide +kernel
  lf := by decide +kernel
  lsup := by decide +kernel
  lcls := by decide +kernel
  nself := by decide +kernel
  ndbg := by decide +kernel
  nd := by decide +kernel
  few := by decide
  bnd := fun q body doc pm cdv ct an cc a vs hl => match vs, hl with | [_], _ => rfl
  bndK := fun q body doc pm cdv ct an cc a vs hl => match vs, hl with | [_], _ => rfl
  sw := fun q txt q0 q1 q2 q3 q4 L fI cc cd n => rfl
theorem sig_name {p0 p1 : Pos} : OxSig ["name"] { posonlyargs := [], args := [{ arg := "self", annotation := none, pos := p0 }, { arg := "name", annotation := none, pos := p1 }], vararg := none, kwonlyargs := [], kw_defaults := [], kwarg := none, defaults := [] }
    { kind := .function, names := [(PySem.Str.ofString "self", .local), (PySem.Str.ofString "name", .local), (PySem.Str.ofString "__class__", .free), (PySem.Str.ofString "super", .globalImplicit)], isGenerator := false, isCoroutine := false, more := [] } where
  kind := rfl
  co := rfl
  gen := rfl
  ncell := by decide +kernel
  hd := rfl
  lself := by decide +kernel
  lf := by decide +kernel
  lsup := by decide +kernel
  lcls := by decide +kernel
  nself := by decide +kernel
  ndbg := by decide +kernel
  nd := by decide +kernel
  few := by decide
  bnd := fun q body doc pm cdv ct an cc a vs hl => match vs, hl with | [_], _ => rfl
  bndK := fun q body doc pm cdv ct an cc a vs hl => match vs, hl with | [_], _ => rfl
  sw := fun q txt q0 q1 q2 q3 q4 L fI cc cd n => rfl
theorem sig_at {p0 p1 : Pos} : OxSig ["at"] { posonlyargs := [], args := [{ arg := "self", annotation := none, pos := p0 }, { arg := "at", annotation := none, pos := p1 }], vararg := none, kwonlyargs := [], kw_defaults := [], kwarg := none, defaults := [] }
    { kind := .function, names := [(PySem.Str.ofString "self", .local), (PySem.Str.ofString "at", .local), (PySem.Str.ofString "__class__", .free), (PySem.Str.ofString "super", .globalImplicit)], isGenerator := false, isCoroutine := false, more := [] } where
  kind := rfl
  co := rfl
  gen := rfl
  ncell := by decide +kernel
  hd := rfl
  lself := by decide +kernel
  lf := by decide +kernel
  lsup := by decide +kernel
  lcls := by decide +kernel
  nself := by decide +kernel
  ndbg := by decide +kernel
  nd := by decide +kernel
  few := by decide
  bnd := fun q body doc pm cdv ct an cc a vs hl => match vs, hl with | [_], _ => rfl
  bndK := fun q body doc pm cdv ct an cc a vs hl => match vs, hl with | [_], _ => rfl
  sw := fun q txt q0 q1 q2 q3 q4 L fI cc cd n => rfl
theorem sig_kind_lengths_moves {p0 p1 p2 p3 : Pos} : OxSig ["kind", "lengths", "moves"] { posonlyargs := [], args := [{ arg := "self", annotation := none, pos := p0 }, { arg := "kind", annotation := none, pos := p1 }, { arg := "lengths", annotation := none, pos := p2 }, { arg := "moves", annotation := none, pos := p3 }], vararg := none, kwonlyargs := [], kw_defaults := [], kwarg := none, defaults := [] }
    { kind := .function, names := [(PySem.Str.ofString "self", .local), (PySem.Str.ofString "kind", .local), (PySem.Str.ofString "lengths", .local), (PySem.Str.ofString "moves", .local), (PySem.Str.ofString "__class__", .free), (PySem.Str.ofString "super", .globalImplicit)], isGenerator := false, isCoroutine := false, more := [] } where
  kind := rfl
  co := rfl
  gen := rfl
  ncell := by decide +kernel
  hd := rfl
  lself := by decide +kernel
  lf := by decide +kernel
  lsup := by decide +kernel
  lcls := by decide +kernel
  nself := by decide +kernel
  ndbg := by decide +kernel
  nd := by decide +kernel
  few := by decide
  bnd := fun q body doc pm cdv ct an cc a vs hl => match vs, hl with | [_, _, _], _ => rfl
  bndK := fun q body doc pm cdv ct an cc a vs hl => match vs, hl with | [_, _, _], _ => rfl
  sw := fun q txt q0 q1 q2 q3 q4 L fI cc cd n => rfl
theorem exTxt_mk {P : Program} {K : Frag} {mg : Str → Option Value} {nm : Str} {fs : List Str} {C fI : Addr} {h : Heap} (X : K.In h) (G : h.Ns mainGlobals mg)
    {nm' q q2 txt : Str} {N cda cc : Addr} {bs bm : List Value} {sn : List Str} {sub : List Value} {ab : Bool} {col : Option Bool} {dd od an cdd cld : Option Addr} {k0 k1 k2 k3 k5 : Option Value} {oc doc pm ct ccl cl : Value} {osl ccs csl : Array (Option Value)} {params : Arguments} {sc : Scope} {q0 q1 q2' q3 q4 q5 : Pos} {asgs : List Stmt} {vs : Array Value} {file : Str} {tf : Tok}
    (nmd : (nm == ("__debug__" : Str)) = false)
    (aC : nsIn K mainGlobals nm = some (some (.ref C)))
    (lC : K.lookup C = some (excClassObj nm' q C N bs bm true sn sub ab col dd k0 k1 k2 k3 k5 "ValueError.__new__"))
    (iC : findIn K (.ref C) "__init__" = some (some (.ref fI)))
    (lF : K.lookup fI = some ⟨oc, od, .func (ksFn "__init__" q2 params (oxSup txt q0 q1 q2' q3 q4 q5 :: asgs) sc .none .none doc pm an (.ref cda) ct cc), osl⟩)
    (lD : K.lookup cda = some ⟨ccl, cdd, .fields vs, ccs⟩)
    (lc : K.lookup cc = some ⟨cl, cld, .cell (some (.ref C)), csl⟩)
    (hvs : vs[2]? = some (.str file tf))
    (hfile : ((P.main.file : Str) == file) = true)
    (cF : codeIn K (.ref cda) q2 = true)
    (ln : (q2'.endLine == q4.line) = true) (sig : OxSig fs params sc) (as : Asgs fs asgs)
    (rv : refsVE bm = true)
    (al : alongIn K "__init__" (((Value.ref C :: bm).dropWhile (· != .ref C)).drop 1) = some (some (.builtin "ValueError.__init__")))
    (sa : findIn K (.ref C) "__setattr__" = some (some (.builtin "object.__setattr__"))) (ga : findIn K (.ref C) "__getattribute__" = some (some (.builtin "BaseException.__getattribute__"))) (gg : findIn K (.ref C) "__getattr__" = some none)
    (nn : (fs.all fun f => findIn K (.ref C) f == some none) = true)
    (tC : typeIn K (.ref fI) = some (.type "function")) (kC : keepIn K (.ref C) = true) (exC : subIn K (.ref C) (.type "BaseException") = some true) (veC : subIn K (.ref C) (.type "ValueError") = some true) (slC : mroIn K C (.ref C) = some true)
    (tyC : typeIn K (.ref C) = some (.type "type")) (hdC : hasDictIn K C = true) (sup : nsIn K mainGlobals "super" = some none) (tp : nsIn K cStatics "thirdparty.any" = some none) (top : (P.main.scope.names.lookup ("super" : Str)).isSome = false) : ExTxt P K mg nm fs C fI where
  gC := mg_of X G aC
  nmd := nmd
  cls := ⟨nm', q, N, bs, bm, sn, sub, ab, col, dd, k0, k1, k2, k3, k5, lC, rv, al⟩
  sa := sa
  ga := ga
  gg := gg
  noN := fun f hf => beq_iff_eq.mp (List.all_eq_true.mp nn f hf)
  iC := iC
  tC := tC
  kC := kC
  exC := exC
  veC := veC
  slC := slC
  tyC := tyC
  hdC := hdC
  fn := ⟨oc, od, doc, pm, an, ct, osl, q2, txt, params, sc, q0, q1, q2', q3, q4, q5, asgs, cda, cc, ccl, cl, cdd, cld, vs, ccs, csl, file, tf, lF, cF, ln, sig, as, lD, hvs, hfile, lc⟩
  sup := mg_none_of X G sup
  tp := tp
  top := top
end OxE
end PySem
end
section
set_option Elab.async false
set_option autoImplicit false
set_option linter.all false
set_option maxRecDepth 100000
set_option maxHeartbeats 4000000
namespace L2
open PySem PySem.Spec PyProof.Rows PySem.OxE
/-! errors held as values -/
def IsEx (H : Hp) (v : V) (C : Addr) (fv : List (Str × V)) : Prop := ∃ e d, v = .ref e ∧ H e = some (exo e C (some d)) ∧ H d = some (exd d fv)
def IsX (K : PySem.W.Frag) (H : Hp) (v : V) (t : Addr) : Prop := (∃ fv, IsEx H v t fv ∧ ExIs K t) ∨ (∃ e, v = .ref e ∧ H e = some (ExO (.ref t) e) ∧ ExIs K t)
theorem IsEx.mono {H H' : Hp} {v : V} {C : Addr} {fv : List (Str × V)} (s : Same H H') (h : IsEx H v C fv) : IsEx H' v C fv := by
  obtain ⟨e, d, h1, h2, h3⟩ := h
  exact ⟨e, d, h1, s _ _ h2, s _ _ h3⟩
theorem IsX.mono {K : PySem.W.Frag} {H H' : Hp} {v : V} {t : Addr} (s : Same H H') (h : IsX K H v t) : IsX K H' v t := by
  rcases h with ⟨fv, h, i⟩ | ⟨e, h1, h2, i⟩
  · exact .inl ⟨fv, h.mono s, i⟩
  · exact .inr ⟨e, h1, s _ _ h2, i⟩
theorem Same.new {H : Hp} {p : Addr} {o : HO} (h : H p = none) : Same H (upd H p o) := fun b u e => by rw [upd_ne (ne_of_none e h)]; exact e
/-- all but the object at p is as it was -/
def But (p : Addr) (H H' : Hp) : Prop := ∀ b o, b ≠ p → H b = some o → H' b = some o
theorem But.upd {p : Addr} {H : Hp} {o : HO} : But p H (upd H p o) := fun b u h e => by rw [upd_ne h]; exact e
theorem But.trans {p : Addr} {H H1 H2 : Hp} (a : But p H H1) (b : But p H1 H2) : But p H H2 := fun c o h e => b c o h (a c o h e)
theorem But.same {p : Addr} {H H1 H2 : Hp} (s : Same H H1) (b : But p H1 H2) (h : H p = none) : Same H H2 := fun c o e => b c o (fun z => by rw [z, h] at e; cases e) (s c o e)
theorem mk_step {H : Hp} {e d C : Addr} {fv : List (Str × V)} (he : H e = none) (hd : H d = none) (hde : d ≠ e) : Same H (upd (upd H d (exd d fv)) e (exo e C (some d))) ∧ IsEx (upd (upd H d (exd d fv)) e (exo e C (some d))) (.ref e) C fv :=
  ⟨fun b u q => by rw [upd_ne (ne_of_none q he), upd_ne (ne_of_none q hd)]; exact q, e, d, rfl, upd_same, by rw [upd_ne hde, upd_same]⟩
def rIsX (K : PySem.W.Frag) : List V → Hp → VK → Prop := fun xs H Q => ∃ v c t cv b, xs = [v, c] ∧ IsX K H v t ∧ (∀ u, RelV c u → u = cv) ∧ PySem.W.kitOne K (.ref t) cv = some b ∧ Q (.bl b) H
theorem call_isX {X : Cx} : CallR X (.builtin "isinstance") (rIsX X.K) := by
  intro pins s σ H xs us Q I r h
  obtain ⟨v, c, t, cv, b, rfl, hx, hcv, e, q⟩ := h
  rcases hx with ⟨fv, ⟨a, d, rfl, ea, ed⟩, T⟩ | ⟨a, rfl, ea, T⟩
  · exact call_isOx pins s σ H _ us Q I r ⟨a, t, d, fv, c, cv, b, rfl, ea, ed, T, hcv, e, q⟩
  · cases r with
    | cons rx rr =>
      cases rr with
      | cons rt rr =>
        cases rr
        cases rx
        have ec := hcv _ rt
        subst ec
        obtain ⟨⟨oe, vs, ho, hz, hd, _⟩, _, _⟩ := I.hok a _ ea
        have J : PySem.W.InstAt s.heap a oe t none := ⟨ho, hz.1, by unfold PySem.W.notCls; rw [hd] <;> rfl, by rw [hz.2]; trivial⟩
        exact PySem.W.kia_one (PySem.W.kitx_exc T.cl T.rd.ga T.rd.gg T.rd.exC T.ha T.hn T.ht T.hm) I.kIn J e (fun z => nomatch z) fun tk => ⟨.bl b, H, I.kept (t' := tk) fun _ _ z => z, rfl, q⟩
theorem isx_use {K : PySem.W.Frag} {H : Hp} {Q : VK} {v : V} {t C : Addr} {b : Bool} (h : IsX K H v t) (hk : PySem.W.kitOne K (.ref t) (.ref C) = some b) (q : Q (.bl b) H) : rIsX K [v, .ref C] H Q :=
  ⟨v, .ref C, t, .ref C, b, rfl, h, fun u r => r, hk, q⟩
theorem isx_useT {K : PySem.W.Frag} {H : Hp} {Q : VK} {v : V} {t : Addr} {n : String} {b : Bool} (h : IsX K H v t) (hk : PySem.W.kitOne K (.ref t) (.type n) = some b) (q : Q (.bl b) H) : rIsX K [v, .ty n] H Q :=
  ⟨v, .ty n, t, .type n, b, rfl, h, fun u r => r, hk, q⟩
section
variable {P : Program} {K : PySem.W.Frag} {mg : Str → Option Value} {nm f : Str} {fs : List Str} {C fI : Addr} {ta tb te : TE} {tA : TA} {σ : St} {H : Hp} {Q : VK}
theorem tox_use {vs : List V} (h : Evl.EvA tA σ H vs) (hl : vs.length = fs.length) (q : ∀ v H2, Same H H2 → IsEx H2 v C (exF fs vs) → Q v H2) : tOx C fs tA σ H Q :=
  h H (Evl.Ex.refl H) _ fun H1 e1 => ⟨hl, fun e d he hd hde => by
    obtain ⟨s, x⟩ := mk_step (C := C) (fv := exF fs vs) he hd hde
    exact q _ _ (Same.trans e1 s) x⟩
theorem q_ox {vs : List V} {i : Nat} {tz : TS} {D : Ends} (h : Evl.EvA tA σ H vs) (hl : vs.length = fs.length) (q : ∀ v H2, Same H H2 → IsEx H2 v C (exF fs vs) → tz D (σ.set i (some v)) H2) : tSeq (tAsg (tOx C fs tA) (gName i)) tz D σ H := tox_use (Q := fun v H2 => tz D (σ.set i (some v)) H2) h hl q
theorem oxv_use {v u : V} {fv : List (Str × V)} (T : ExTxt P K mg nm fs C fI) (hf : f ∈ fs) (x : IsEx H v C fv) (hl : fv.lookup f = some u) (q : Q u H) :
    ∃ (a C d : Addr) (fv : List (Str × V)) (u : V), v = .ref a ∧ H a = some (exo a C (some d)) ∧ H d = some (exd d fv) ∧ ExRd K C ∧ PySem.W.findIn K (.ref C) f = some none ∧ fv.lookup f = some u ∧ Q u H := by
  obtain ⟨e, d, h1, h2, h3⟩ := x
  exact ⟨e, C, d, fv, u, h1, h2, h3, T.rd, T.noN f hf, hl, q⟩
/-- C(e).f | C(f = e).f -/
theorem ev_oxf {vs : List V} {u : V} (T : ExTxt P K mg nm fs C fI) (hf : f ∈ fs) (h : Evl.EvA tA σ H vs) (hl : vs.length = fs.length) (hu : (exF fs vs).lookup f = some u) : Evl.Ev (tOxF K f (tOx C fs tA)) σ H u := fun H1 e1 Q q =>
  tox_use (h.mono e1) hl fun v H2 s x => oxv_use T hf x hu (q H2 s)
/-- v.f -/
theorem ev_oxv {v u : V} {fv : List (Str × V)} (T : ExTxt P K mg nm fs C fI) (hf : f ∈ fs) (he : Evl.Ev te σ H v) (x : IsEx H v C fv) (hu : fv.lookup f = some u) : Evl.Ev (tOxF K f te) σ H u := fun H1 e1 Q q =>
  he H1 e1 _ fun H2 e2 => oxv_use T hf ((x.mono e1).mono e2) hu (q H2 e2)
theorem el_cat {p : Addr} {xs ys : List V} (ha : Evl.Ev ta σ H (.ref p)) (hp : H p = some (.lst xs)) (hb : Evl.EvL tb σ H ys) (hz : xs.length + ys.length ≤ 100000) : Evl.EvL (tOp rCat ta tb) σ H (xs ++ ys) := fun H1 e1 Q q =>
  ha H1 e1 _ fun H2 e2 => hb H2 (e1.trans e2) _ fun b H3 hb0 e3 hb3 => ⟨p, b, xs, ys, rfl, rfl, e3 _ _ (e2 _ _ (e1 _ _ hp)), hb3, Evl.sz_of hz, fun r hr => q r _ (Evl.fresh_back e2 (Evl.fresh_back e3 hr)) ((e2.trans e3).trans (Evl.Ex.new hr)) upd_same⟩
theorem el_rep {v : V} {n : Nat} (ha : Evl.Ev ta σ H v) (hn : n ≤ 1000) : Evl.EvL (tOp rRep (tLst (tCons ta tNil)) (tC (.int (n : Int)))) σ H (List.replicate n v) := fun H1 e1 Q q =>
  ha H1 e1 _ fun H2 e2 => ⟨by show 1 ≤ sizeLine; decide, fun p hp => ⟨p, n, [v], rfl, rfl, upd_same, by omega, by omega, by
    have : ([v] : List V).length * (n : Int).toNat = n := by simp
    rw [this]; exact Evl.sz_of (by omega), fun r hr => by
    have e : (List.replicate (n : Int).toNat [v]).flatten = List.replicate n v := by
      rw [Int.toNat_natCast]; simp
    rw [e]
    exact q r _ (Evl.fresh_back e2 (Evl.fresh_back (Evl.Ex.new hp) hr)) ((e2.trans (Evl.Ex.new hp)).trans (Evl.Ex.new hr)) upd_same⟩⟩
/-! data: what a value is worth (HandS's Dp), kept by an extension -/
mutual
theorem Dp.mono {H H' : Hp} (s : Same H H') : ∀ {v : V} {d : PyData}, Dp K H v d → Dp K H' v d
  | _, _, .non => .non
  | _, _, .bl b => .bl b
  | _, _, .int i => .int i
  | _, _, .str x => .str x
  | _, _, .lst h t => .lst (Evl.ex_l s h) (DpAll.mono s t)
  | _, _, .tup h t => .tup (Evl.ex_t s h) (DpAll.mono s t)
theorem DpAll.mono {H H' : Hp} (s : Same H H') : ∀ {vs : List V} {ds : List PyData}, DpAll K H vs ds → DpAll K H' vs ds
  | _, _, .nil => .nil
  | _, _, .cons h t => .cons (Dp.mono s h) (DpAll.mono s t)
end
theorem dpAll_rep {v : V} {d : PyData} (h : Dp K H v d) : ∀ n, DpAll K H (List.replicate n v) (List.replicate n d)
  | 0 => .nil
  | n + 1 => .cons h (dpAll_rep h n)
theorem ev_eqD {x y : V} {d e : PyData} {b : Bool} (ha : Evl.Ev ta σ H x) (hb : Evl.Ev tb σ H y) (dx : Dp K H x d) (dy : Dp K H y e) (sx : SeqAt.shaped d = true) (sy : SeqAt.shaped e = true) (hd : PyData.eqv d e = b) : Evl.Ev (tOp (rEqD K) ta tb) σ H (.bl b) := fun H1 e1 Q q =>
  ha H1 e1 _ fun H2 e2 => hb H2 (e1.trans e2) _ fun H3 e3 => ⟨d, e, dx.mono ((e1.trans e2).trans e3), dy.mono ((e1.trans e2).trans e3), sx, sy, by rw [hd]; exact q H3 (e2.trans e3)⟩
/-- == of a list that stands and a new one -/
theorem ev_eqDL {x : V} {ys : List V} {d e : PyData} {b : Bool} (ha : Evl.Ev ta σ H x) (hb : Evl.EvL tb σ H ys) (dx : Dp K H x d) (dy : ∀ p H1, Same H H1 → H1 p = some (.lst ys) → Dp K H1 (.ref p) e) (sx : SeqAt.shaped d = true) (sy : SeqAt.shaped e = true) (hd : PyData.eqv d e = b) : Evl.Ev (tOp (rEqD K) ta tb) σ H (.bl b) := fun H1 e1 Q q =>
  ha H1 e1 _ fun H2 e2 => hb H2 (e1.trans e2) _ fun p H3 hp e3 h3 => ⟨d, e, dx.mono ((e1.trans e2).trans e3), dy p H3 ((e1.trans e2).trans e3) h3, sx, sy, by rw [hd]; exact q H3 (e2.trans e3)⟩
theorem eqv_self {d : PyData} (h : SeqAt.shaped d = true) : PyData.eqv d d = true := SeqAt.eqv_refl d (SeqAt.canLay_of_shaped h)
end
/-- what is evaluated to data -/
def EvD (K : PySem.W.Frag) (te : TE) (σ : St) (H : Hp) (d : PyData) : Prop := ∀ H1, Evl.Ex H H1 → ∀ Q : VK, (∀ v H2, Evl.Ex H1 H2 → Dp K H2 v d → Q v H2) → te σ H1 Q
def EvDs (K : PySem.W.Frag) (ta : TA) (σ : St) (H : Hp) (ds : List PyData) : Prop := ∀ H1, Evl.Ex H H1 → ∀ Q : List V → Hp → Prop, (∀ vs H2, Evl.Ex H1 H2 → DpAll K H2 vs ds → Q vs H2) → ta σ H1 Q
section
variable {K : PySem.W.Frag} {ta tb te : TE} {tA tr : TA} {σ : St} {H : Hp}
theorem evd_of {v : V} {d : PyData} (h : Evl.Ev te σ H v) (hd : Dp K H v d) : EvD K te σ H d := fun H1 e1 Q q => h H1 e1 Q fun H2 e2 => q v H2 e2 (hd.mono (Same.trans e1 e2))
theorem evd_var {i : Nat} {v : V} {d : PyData} (h : σ[i]? = some (some v)) (hd : Dp K H v d) : EvD K (tVar i) σ H d := evd_of (Evl.ev_var h) hd
theorem evd_int {i : Int} : EvD K (tC (.int i)) σ H (.int i) := evd_of Evl.ev_c (.int i)
theorem evd_str {x : Str} : EvD K (tC (.str x)) σ H (.str x) := evd_of Evl.ev_c (.str x)
theorem evds_nil : EvDs K tNil σ H [] := fun H1 _ Q q => q [] H1 (Evl.Ex.refl H1) .nil
theorem evds_cons {d : PyData} {ds : List PyData} (h : EvD K te σ H d) (hr : EvDs K tr σ H ds) : EvDs K (tCons te tr) σ H (d :: ds) := fun H1 e1 Q q =>
  h H1 e1 _ fun v H2 e2 hv => hr H2 (e1.trans e2) _ fun vs H3 e3 hvs => q _ H3 (e2.trans e3) (.cons (hv.mono e3) hvs)
theorem DpAll.length {H : Hp} : ∀ {vs : List V} {ds : List PyData}, DpAll K H vs ds → vs.length = ds.length
  | _, _, .nil => rfl
  | _, _, .cons _ t => by rw [List.length_cons, List.length_cons, DpAll.length t]
theorem evd_tup {ds : List PyData} (h : EvDs K tA σ H ds) (hz : ds.length ≤ 10000) : EvD K (tTup tA) σ H (.tuple ds) := fun H1 e1 Q q =>
  h H1 e1 _ fun vs H2 e2 hvs => ⟨Evl.sz_of (by rw [DpAll.length hvs]; omega), fun p hp => q _ _ (e2.trans (Evl.Ex.new hp)) (.tup (SqT.of upd_same) (hvs.mono (Same.new hp)))⟩
theorem evd_lst {ds : List PyData} (h : EvDs K tA σ H ds) (hz : ds.length ≤ 10000) : EvD K (tLst tA) σ H (.list ds) := fun H1 e1 Q q =>
  h H1 e1 _ fun vs H2 e2 hvs => ⟨Evl.sz_of (by rw [DpAll.length hvs]; omega), fun p hp => q _ _ (e2.trans (Evl.Ex.new hp)) (.lst (SqL.of upd_same) (hvs.mono (Same.new hp)))⟩
theorem evd_abs {n : Int} (h : EvD K te σ H (.int n)) : EvD K (tCB (fun xs H Q => ∃ i, xs = [.int i] ∧ Q (.int (if i < 0 then -i else i)) H) (tCons te tNil)) σ H (.int (if n < 0 then -n else n)) := fun H1 e1 Q q =>
  h H1 e1 _ fun v H2 e2 hv => by
    cases hv
    exact ⟨n, rfl, q _ H2 e2 (.int _)⟩
theorem q_parD {i j : Nat} {d e : PyData} {tz : TS} {D : Ends} (h : EvDs K tA σ H [d, e]) (k : ∀ v u H1, Same H H1 → Dp K H1 v d → Dp K H1 u e → tz D ((σ.set i (some v)).set j (some u)) H1) : tSeq (tPar i j tA) tz D σ H :=
  h H (Evl.Ex.refl H) _ fun vs H1 e1 hvs => by
    cases hvs with
    | cons a t => cases t with
      | cons b t => cases t; exact ⟨_, _, rfl, k _ _ H1 e1 a b⟩
theorem Dp.int_inv {H : Hp} {v : V} {n : Int} (h : Dp K H v (.int n)) : v = .int n := by cases h; rfl
theorem Dp.tup_inv {H : Hp} {v : V} {ds : List PyData} (h : Dp K H v (.tuple ds)) : ∃ a, v = .ref a := by cases h; exact ⟨_, rfl⟩
end
def ExAll (H : Hp) (vs : List V) (sp : List (Addr × List (Str × V))) : Prop := Paired (fun v (s : Addr × List (Str × V)) => IsEx H v s.1 s.2) vs sp
theorem ExAll.mono {H H' : Hp} {vs : List V} {sp : List (Addr × List (Str × V))} (s : Same H H') (h : ExAll H vs sp) : ExAll H' vs sp := Paired.mapP h fun _ _ x => x.mono s
theorem ExAll.append {H : Hp} : ∀ {vs us : List V} {sp sq : List (Addr × List (Str × V))}, ExAll H vs sp → ExAll H us sq → ExAll H (vs ++ us) (sp ++ sq)
  | _, _, _, _, .nil, h => h
  | _, _, _, _, .cons r t, h => .cons r (ExAll.append t h)
theorem ExAll.get {H : Hp} : ∀ {vs : List V} {sp : List (Addr × List (Str × V))} {k : Nat} {C : Addr} {fv : List (Str × V)}, ExAll H vs sp → sp[k]? = some (C, fv) → ∃ v, vs[k]? = some v ∧ IsEx H v C fv
  | _, _, _, _, _, .nil, e => by simp at e
  | _, _, 0, _, _, .cons r _, e => by
    have e' := Option.some.inj (by simpa using e)
    exact ⟨_, rfl, by rw [e'] at r; exact r⟩
  | _, _, k + 1, _, _, .cons _ t, e => ExAll.get (k := k) t (by simpa using e)
/-- a list of errors made in a row -/
def EvAX (t : TA) (σ : St) (H : Hp) (sp : List (Addr × List (Str × V))) : Prop := ∀ H1, Evl.Ex H H1 → ∀ Q : List V → Hp → Prop, (∀ vs H2, Evl.Ex H1 H2 → ExAll H2 vs sp → Q vs H2) → t σ H1 Q
theorem eax_nil {σ : St} {H : Hp} : EvAX tNil σ H [] := fun H1 _ Q q => q [] H1 (Evl.Ex.refl H1) .nil
theorem eax_cons {σ : St} {H : Hp} {tA tr : TA} {C : Addr} {fs : List Str} {us : List V} {sp : List (Addr × List (Str × V))} (h : Evl.EvA tA σ H us) (hl : us.length = fs.length) (hr : EvAX tr σ H sp) : EvAX (tCons (tOx C fs tA) tr) σ H ((C, exF fs us) :: sp) := fun H1 e1 Q q =>
  tox_use (h.mono e1) hl fun v H2 s x => hr H2 (e1.trans s) _ fun vs H3 e3 xs => q _ H3 (Same.trans s e3) (.cons (x.mono e3) xs)
theorem q_lstX {σ : St} {H : Hp} {t : TA} {i : Nat} {tz : TS} {D : Ends} {sp : List (Addr × List (Str × V))} (h : EvAX t σ H sp) (hz : sp.length ≤ 1000) (q : ∀ p vs H1, H p = none → Same H H1 → H1 p = some (.lst vs) → ExAll H1 vs sp → tz D (σ.set i (some (.ref p))) H1) : tSeq (tAsg (tLst t) (gName i)) tz D σ H :=
  h H (Evl.Ex.refl H) _ fun vs H1 e1 x => ⟨Evl.sz_of (by have := Paired.length x; omega), fun p hp => q p vs _ (Evl.fresh_back e1 hp) (Same.trans e1 (Same.new hp)) upd_same (x.mono (Same.new hp))⟩
theorem q_catX {σ : St} {H : Hp} {ta : TE} {t : TA} {i : Nat} {tz : TS} {D : Ends} {l : Addr} {xs : List V} {sp : List (Addr × List (Str × V))} (ha : Evl.Ev ta σ H (.ref l)) (hl : H l = some (.lst xs)) (h : EvAX t σ H sp) (hz : xs.length + sp.length ≤ 1000)
    (q : ∀ p vs H1, H p = none → Same H H1 → H1 p = some (.lst (xs ++ vs)) → ExAll H1 vs sp → tz D (σ.set i (some (.ref p))) H1) : tSeq (tAsg (tOp rCat ta (tLst t)) (gName i)) tz D σ H :=
  ha H (Evl.Ex.refl H) _ fun H1 e1 => h H1 e1 _ fun vs H2 e2 x => ⟨Evl.sz_of (by have := Paired.length x; omega), fun p hp =>
    ⟨l, p, xs, vs, rfl, rfl, Same.new hp _ _ (e2 _ _ (e1 _ _ hl)), upd_same, Evl.sz_of (by have := Paired.length x; omega), fun r hr =>
      q r vs _ (Evl.fresh_back e1 (Evl.fresh_back e2 (Evl.fresh_back (Evl.Ex.new hp) hr))) (Same.trans (Same.trans e1 e2) (Same.trans (Same.new hp) (Same.new hr))) upd_same (x.mono (Same.trans (Same.new hp) (Same.new hr)))⟩⟩
end L2
end
section
set_option Elab.async false
set_option autoImplicit false
set_option linter.all false
set_option maxRecDepth 100000
set_option maxHeartbeats 2000000
/-! an own class's __getitem__, __setitem__, __contains__ -/
namespace L2
open PySem PySem.Spec PyProof.Rows
/-- the class at C has a def at f for the special name m -/
structure Spc (K : PySem.W.Frag) (C : Addr) (m : Str) (f : Addr) : Prop where
  find : PySem.W.findIn K (.ref C) m = some (some (.ref f))
  isf : PySem.W.isFn K (.ref f) = true
  fnin : PySem.W.fnIn K f = true
section
variable {X : Cx} {CX : CXT} {k : Nat} {f C : Addr} {fd : FuncData} {ps : List Str} {sp : Sp} {E : XK} {o i value : Expr} {pos pos' : Pos} {td ty tv : TE}
theorem run_own {A : Around} {pins : List (Addr × Obj)} {σ : L2.St} {H : Hp} {s : Shared} {Q : VK} {us : List Value} {vs : List V} (F : FnOk X.prog X.w X.K X.mg X.base CX k f fd ps sp) (sb : Sub X k A) (hb : Binds X.K fd ps []) (hx : PassesAt CX X σ E)
    (I : Inv X pins σ H s) (r : Vals vs us) (h : sp vs H Q E) : wpAny (model X.prog X.w) A (call (.ref f) us) (EP X pins σ Q) X.xe s := by
  have e0 : Env0 X.prog X.w X.K X.mg X.base A X.stack s H := by
    have e := I.env0
    exact ⟨by rw [sb.fr]; exact e.frames, e.mod, e.bs, e.bsz, e.funs, e.frf, e.hok, e.bare⟩
  have hl := F.len _ _ _ _ h
  refine wpAny_call (codeAny_mono (F.run A X.stack s H ⟨us, []⟩ us vs Q E sb.room e0 (by
    have := hb s us I.kIn (by rw [List.append_nil, ← r.length]; exact hl)
    rw [List.append_nil] at this
    exact this) r h) fun r s' hq => ?_)
  cases r with
  | error e => exact hx pins H s e s' I hq
  | ok fl =>
    cases fl with
    | ret u => exact I.after hq
    | next => exact False.elim hq
    | brk => exact False.elim hq
    | cont => exact False.elim hq
/-- o[i] by the class's own __getitem__ -/
def tIxOwn (C : Addr) (sp : Sp) (E : L2.St → XK) (td ty : TE) : TE := fun σ H Q => td σ H fun x H1 => ty σ H1 fun y H2 => ∃ a dx fs, x = .ref a ∧ H2 a = some (.ins C dx fs) ∧ sp [.ref a, y] H2 Q (E σ)
theorem pe_ixOwn {E : L2.St → XK} (S : Spc X.K C "__getitem__" f) (F : FnOk X.prog X.w X.K X.mg X.base CX k f fd ps sp) (hr : Room (k + 1) X.A) (hb : Binds X.K fd ps []) (hx : ∀ σ, PassesAt CX X σ (E σ)) (ho : PE X o td) (hi : PE X i ty)
    (hsl : ∀ a v, subscripted i true (.ref a) v = runValue (.builtin "lifetime.subscript" ⟨[.ref a, v], []⟩) := by exact fun _ _ => rfl) : PE X (.Subscript o i pos) (tIxOwn C sp E td ty) := by
  refine ⟨fun pins s σ H Q I h => ?_⟩
  refine Subscript_ (thn (ho.run pins s σ H _ I h) fun u s1 ⟨x, H1, I1, rx, q1⟩ => thn (hi.run pins s1 σ H1 _ I1 q1) fun iv s2 ⟨y, H2, I2, ry, a, dx, fs, ex, ea, q2⟩ => ?_)
  subst ex
  obtain rfl : u = Value.ref a := rx
  obtain ⟨mA, J, _⟩ := ins_get I2.hok ea
  obtain ⟨od, J, _⟩ := J.look
  obtain ⟨m, hF⟩ := I2.fr
  exact PySem.W.sub_K hF I2.ok.mod.kin J S.find S.fnin S.isf (run_own (us := [.ref a, iv]) (vs := [.ref a, y]) F ⟨hr.in1, rfl⟩ hb (hx σ) I2 (.cons rfl (.cons ry .nil)) q2) (hsl a iv)
/-- o[i] = v by the class's own __setitem__ -/
def sSetOwn (C : Addr) (sp : Sp) (E : L2.St → XK) (td ty tv : TE) : TS := fun D σ H => tv σ H fun v H1 => td σ H1 fun x H2 => ty σ H2 fun y H3 => ∃ a dx fs, x = .ref a ∧ H3 a = some (.ins C dx fs) ∧ sp [.ref a, y, v] H3 (fun _ H4 => D.nx σ H4) (E σ)
theorem ps_setOwn {E : L2.St → XK} (S : Spc X.K C "__setitem__" f) (hq : PySem.W.noSeq X.K C = true) (F : FnOk X.prog X.w X.K X.mg X.base CX k f fd ps sp) (hr : Room k X.A) (hb : Binds X.K fd ps []) (hx : ∀ σ, PassesAt CX X σ (E σ)) (ho : PE X o td) (hi : PE X i ty) (hv : PE X value tv)
    (hs : swapsWith value (some (.Subscript o i pos')) pos.line X.env = pure false) : PS X (.Assign [.Subscript o i pos'] value pos) (sSetOwn C sp E td ty tv) := by
  refine ⟨fun pins s σ H D I h => ?_⟩
  refine wpAny_Assign_Subscript (thn (hv.run pins s σ H _ I h) fun r s1 ⟨v, H1, I1, rv, q1⟩ => thn (ho.run pins s1 σ H1 _ I1 q1) fun u s2 ⟨x, H2, I2, rx, q2⟩ => thn (hi.run pins s2 σ H2 _ I2 q2) fun iv s3 ⟨y, H3, I3, ry, a, dx, fs, ex, ea, q3⟩ => ?_) hs
  subst ex
  obtain rfl : u = Value.ref a := rx
  obtain ⟨mA, J, _⟩ := ins_get I3.hok ea
  obtain ⟨od, J, _⟩ := J.look
  obtain ⟨m, hF⟩ := I3.fr
  refine PySem.W.ksp_setItem hF I3.ok.mod.kin J hq S.find S.isf (wpAny_mono (run_own (us := [.ref a, iv, r]) (vs := [.ref a, y, v]) F ⟨hr, rfl⟩ hb (hx σ) I3 (.cons rfl (.cons ry (.cons rv .nil))) q3) (fun _ s4 ⟨_, H4, I4, _, q4⟩ => ⟨σ, H4, I4, q4⟩) fun _ _ z => z)
/-- x in o by the class's own __contains__ -/
def rInOwn (C : Addr) (sp : Sp) (E : XK) (neg : Bool) : R2 := fun x y H Q => ∃ a dx fs, y = .ref a ∧ H a = some (.ins C dx fs) ∧ sp [.ref a, x] H (fun v H1 => ∃ b, v = .bl b ∧ Q (.bl (if neg then !b else b)) H1) E
theorem op_inOwn (S : Spc X.K C "__contains__" f) (F : FnOk X.prog X.w X.K X.mg X.base CX k f fd ps sp) (hr : Room k X.A) (hb : Binds X.K fd ps []) (hx : Passes CX X E) : OpR X (compareOp .In) (rInOwn C sp E false) := by
  intro pins s σ H x y v u Q I rx ry h
  obtain ⟨a, dx, fs, rfl, ea, q⟩ := h
  cases ry
  obtain ⟨mA, J, _⟩ := ins_get I.hok ea
  obtain ⟨od, J, _⟩ := J.look
  obtain ⟨m, hF⟩ := I.fr
  refine PySem.W.in_K hF I.ok.mod.kin J S.find S.isf (wpAny_mono (run_own (us := [.ref a, v]) (vs := [.ref a, x]) F ⟨hr, rfl⟩ hb (fun pins H s e s' => hx pins σ H s e s') I (.cons (show RelV (V.ref a) (Value.ref a) from rfl) (.cons rx .nil)) q) (fun r s4 ⟨z, H4, I4, rz, b, ez, q4⟩ => ?_) fun _ _ z => z)
  subst ez
  cases rz
  exact wpAny_truthy_bool ⟨.bl b, H4, I4, rfl, q4⟩
theorem pass_at {X : Cx} {CX : CXT} {E : XK} (h : Passes CX X E) (σ : L2.St) : PassesAt CX X σ E := fun pins H s e s' => h pins σ H s e s'
/-- o.m(e, ..), o.m(), the exception wished for by the slots -/
def tMethX (C : Addr) (m : Str) (sp : Sp) (E : L2.St → XK) (ta : TE) (t : TA) : TE := fun σ H Q => ta σ H fun x H1 => ∃ a dx fs, x = .ref a ∧ H1 a = some (.ins C dx fs) ∧ fs.lookup m = none ∧ t σ H1 fun vs H2 => sp (x :: vs) H2 Q (E σ)
theorem pe_methX {E : L2.St → XK} {m : Str} {apos : Pos} {e : Expr} {es : List Expr} {t : TA} {pl : Sem Bool} (he : PE X o td) (c : Cls X.K C) (hm : Meth X.K C m f) (F : FnOk X.prog X.w X.K X.mg X.base CX k f fd ps sp) (hr : Room k X.A) (hb : Binds X.K fd ps []) (hx : ∀ σ, PassesAt CX X σ (E σ)) (ha : PA X (e :: es) t)
    (hst : starEach (e :: es) X.env = (false, eval e X.env) :: starEach es X.env := by rfl) (hpl : (backTo pos (starEach es X.env)).any (·.1) = false := by rfl)
    (ht : eval (.Call (.Attribute o m apos) (e :: es) [] pos) X.env = (do
      let ov ← eval o X.env
      standAt apos.atName
      let (f, first) ← holding [ov] (getMethod ov m pl)
      callWith pos f first (backTo pos (starEach (e :: es) X.env)) (backToKw pos (keywordEach [] X.env))) := by rfl) :
    PE X (.Call (.Attribute o m apos) (e :: es) [] pos) (tMethX C m sp E td t) := by
  refine ⟨fun pins s σ H Q I h => ?_⟩
  refine PySem.W.methodCall_KW (pl := pl) (thn (he.run pins s σ H _ I h) fun u s1 ⟨x, H1, I1, rx, a, dx, fs, ex, ea, l, q⟩ => ?_) ht
  subst ex
  obtain rfl : u = Value.ref a := rx
  refine getmeth_ok I1 ea c hm l ?_
  refine PySem.W.callWith_K (first := [.ref a]) (h₀ := X.base) I.ok.mod.kin hm.kp (thn (ha.run pos pins s1 σ H1 _ I1 q) fun us s2 ⟨vs, H2, I2, r, q2⟩ => ⟨I2.kIn, ?_⟩) hst hpl
  exact run_fnS (us := .ref a :: us) (vs := .ref a :: vs) F hr hb (hx σ) I2 (.cons rfl r) q2
theorem pe_methX0 {E : L2.St → XK} {m : Str} {apos : Pos} {pl : Sem Bool} (he : PE X o td) (c : Cls X.K C) (hm : Meth X.K C m f) (F : FnOk X.prog X.w X.K X.mg X.base CX k f fd ps sp) (hr : Room k X.A) (hb : Binds X.K fd ps []) (hx : ∀ σ, PassesAt CX X σ (E σ))
    (ht : eval (.Call (.Attribute o m apos) [] [] pos) X.env = (do
      let ov ← eval o X.env
      standAt apos.atName
      let (f, first) ← holding [ov] (getMethod ov m pl)
      callWith pos f first (backTo pos (starEach [] X.env)) (backToKw pos (keywordEach [] X.env))) := by rfl) :
    PE X (.Call (.Attribute o m apos) [] [] pos) (tMethX C m sp E td tNil) := by
  refine ⟨fun pins s σ H Q I h => ?_⟩
  refine PySem.W.methodCall_KW (pl := pl) (thn (he.run pins s σ H _ I h) fun u s1 ⟨x, H1, I1, rx, a, dx, fs, ex, ea, l, q⟩ => ?_) ht
  subst ex
  obtain rfl : u = Value.ref a := rx
  refine getmeth_ok I1 ea c hm l ?_
  exact PySem.W.callWith_K0 (first := [.ref a]) I1.kIn hm.kp (run_fnS (us := [.ref a]) (vs := [.ref a]) F hr hb (hx σ) I1 (.cons rfl .nil) q)
theorem passE {X : Cx} {E : XK} (tk : Takes X fun cls d _ H => E cls d H) : Passes (L2.CX X.prog X.w) X E := fun pins σ H s e s' I c => tk e s' (XE.of_call I (fun _ _ _ h => h) c)
end
end L2
end
section
set_option Elab.async false
set_option autoImplicit false
set_option linter.all false
set_option maxRecDepth 100000
set_option maxHeartbeats 2000000
/-! several except clauses, with and without a name -/
namespace L2
open PySem PySem.Spec PyProof.Rows
/-- what the clauses wish of an exception of the body; a clause with a name: its slot -/
def wNm (K : PySem.W.Frag) (Wout : WX) (D : Ends) : List (Value × Option Nat × (Addr → Value → Option Addr → TS)) → WX
  | [] => Wout
  | (c, none, ts) :: r => fun cls d σ H => ∃ b, PySem.W.exmOne K cls c = some b ∧ (b = true → ∀ a, H a = none → ts a cls d D σ H) ∧ (b = false → wNm K Wout D r cls d σ H)
  | (c, some i, ts) :: r => fun cls d σ H => ∃ b, PySem.W.exmOne K cls c = some b ∧
      (b = true → ∀ a, H a = none → ts a cls d { nx := fun σ' H' => D.nx (σ'.set i none) H', rt := D.rt, bk := fun σ' H' => D.bk (σ'.set i none) H', ct := fun σ' H' => D.ct (σ'.set i none) H' } (σ.set i (some (.ref a))) H) ∧ (b = false → wNm K Wout D r cls d σ H)
inductive HdsNm (X : Cx) : List ExceptHandler → List (Value × Option Nat × (Addr → Value → Option Addr → TS)) → Prop
  | nil : HdsNm X [] []
  | plain {x : Str} {c : Value} {ts : Addr → Value → Option Addr → TS} {b₀ : Stmt} {suite : List Stmt} {np pos' : Pos} {hds : List ExceptHandler} {l : List (Value × Option Nat × (Addr → Value → Option Addr → TS))} (hc : Names X x c)
      (hsu : ∀ (a : Addr) (oe : Obj) (cls : Value) (d : Option Addr) (pn : List (Addr × Obj)), Zc cls d oe → (∃ vs, oe.data = .fields vs) → PSs (X.suite a ((a, oe) :: pn)) (b₀ :: suite) (ts a cls d)) (r : HdsNm X hds l) :
      HdsNm X (.ExceptHandler (some (.Name x np)) none (b₀ :: suite) pos' :: hds) ((c, none, ts) :: l)
  | named {x n : Str} {c : Value} {i : Nat} {ts : Addr → Value → Option Addr → TS} {b₀ : Stmt} {suite : List Stmt} {np pos' : Pos} {hds : List ExceptHandler} {l : List (Value × Option Nat × (Addr → Value → Option Addr → TS))} (hi : X.N[i]? = some n) (hln : X.env.kindOf n = some .local) (hc : Names X x c)
      (hsu : ∀ (a : Addr) (oe : Obj) (cls : Value) (d : Option Addr) (pn : List (Addr × Obj)), Zc cls d oe → (∃ vs, oe.data = .fields vs) → PSs (X.suite a ((a, oe) :: pn)) (b₀ :: suite) (ts a cls d)) (r : HdsNm X hds l) :
      HdsNm X (.ExceptHandler (some (.Name x np)) (some n) (b₀ :: suite) pos' :: hds) ((c, some i, ts) :: l)
section
variable {X : Cx} {body : List Stmt} {h₀ : ExceptHandler} {hds : List ExceptHandler} {l : List (Value × Option Nat × (Addr → Value → Option Addr → TS))} {pos : Pos} {tb : WX → TS} {Wout : WX}
theorem ps_try_nm (hN : X.N.Nodup) (hs : X.stack = X.env :: X.outer) (hf : X.env.frame = some X.env.locals) (tk : Takes X Wout)
    (hb : ∀ (W : WX) (pn : List (Addr × Obj)) (xe : Value → Shared → Prop), Takes (X.tr pn xe) W → PassesOwn (model X.prog X.w) X.A X.env xe → PSs (X.tr pn xe) body (tb W))
    (hh : HdsNm X (h₀ :: hds) l) : PS X (.Try body (h₀ :: hds) [] [] pos) (fun D σ H => tb (wNm X.K Wout D l) D σ H) := by
  refine ⟨fun pins s σ H D I h => ?_⟩
  have ok := I.ok
  have hfr : X.A.frames = some (X.env :: X.outer) := by rw [ok.frames, hs]
  refine wpAny_Try_except ?_
  refine wpAny_mono ((hb (wNm X.K Wout D l) (X.pn ++ pins) (fun e s₁ => wpAny (model X.prog X.w) X.A (noteFrame e X.env) (fun _ s₂ => wpAny (model X.prog X.w) X.A (setFlight e none) (fun _ s₃ =>
    wpAny (model X.prog X.w) X.A (handleBy e X.env (h₀ :: hds)) (SP X pins D) X.xe s₃) X.xe s₂) X.xe s₁) (fun u s' xx => ?_) PassesOwn.looking).run [] s σ H D (I.toTry _) h) (fun f s1 hsp => ?_) (fun e s1 he => he)
  · -- the catch
    obtain ⟨a, B, sI, pins', σ', H', cls, d, rfl, J', nb, up, sky, na, os, ag, w⟩ := xx
    have J : Inv X pins σ' H' sI := J'.ofTry ok
    have sky' : Sky B (X.env :: X.outer) a (Zc cls d) X.env.locals s'.heap := by rw [← hs]; exact sky
    show wpAny (model X.prog X.w) X.A (noteFrame (.ref a) X.env) _ _ _
    refine Sky.land Zc.steady hfr hf sky' fun h3 fl3 up3 => ?_
    have J3 : Inv X pins σ' H' { s' with heap := h3 } := J.landed nb fl3.1 (up.trans up3) os ag
    obtain ⟨oe3, vs3, he3, hz3, hd3⟩ := fl3.there
    have notFr : ∀ {h : Heap} {o : Obj} {vs : Array Value}, h.FunFrames B (X.env :: X.outer) → h.get? a = some o → o.data = .fields vs → a ∉ frs (X.env :: X.outer) := fun {h o vs} ff e dd hm => by
      obtain ⟨_, o', e', hnf⟩ := ff.mem hm
      rw [e] at e'; cases e'
      exact hnf _ dd
    have nfr := notFr fl3.2.2.1 he3 hd3
    have nL : a ≠ X.env.locals := fun z => nfr (List.mem_filterMap.mpr ⟨X.env, List.mem_cons_self, by rw [hf, z]⟩)
    have nF : a ∉ X.fs := fun hm => by
      obtain ⟨e, he, q⟩ := List.mem_filterMap.mp hm
      exact nfr (List.mem_filterMap.mpr ⟨e, List.mem_cons_of_mem _ he, q⟩)
    have S3 := J3.suite he3 hd3 na nL nF
    have go : ∀ {hds' : List ExceptHandler} {l' : List (Value × Option Nat × (Addr → Value → Option Addr → TS))}, HdsNm X hds' l' → wNm X.K Wout D l' cls d σ' H' →
        wpAny (model X.prog X.w) X.A (handleBy (.ref a) X.env hds') (SP X pins D) X.xe { s' with heap := h3 } := by
      intro hds' l' hk
      induction hk with
      | nil =>
        intro w
        refine wpAny_handleBy_nil ?_
        obtain ⟨k1, k2, k3, oe, vs, T, oT, ts', he, hz, hd, h1, hr⟩ := id fl3
        unfold PySem.passOn
        refine wpAny_bind (wpAny_field he hd h1 ?_)
        rw [if_neg (show ¬ ((Value.ref T == Value.none) = true) from by simp)]
        have fin : wpAny (model X.prog X.w) X.A (setFlight (.ref a) X.env.frame) (fun _ s4 => wpAny (model X.prog X.w) X.A (throw (.ref a) : Sem Flow) (SP X pins D) X.xe s4) X.xe { s' with heap := h3 } := by
          rw [hf]
          refine HandSPX.setFlight_upZ fl3 fun h4 hh4 up4 => wpAny_throw (tk _ _ ?_)
          exact ⟨a, B, sI, pins, σ', H', cls, d, rfl, J, nb, (up.trans up3).trans up4, .inr (.inr (by rw [hs]; exact hh4)), na, os, ag, w⟩
        first
          | exact wpAny_bind (wpAny_pure (wpAny_bind fin))
          | exact wpAny_bind fin
      | @plain x c ts b₀ suite np pos' hds2 l2 hc hsu r ih =>
        intro w
        obtain ⟨b, hb1, hyes, hno⟩ := w
        refine wpAny_handleBy_cons (codeAny_handlers_test ?_) (by intro q; cases q)
        have LT : PySem.W.Looks (model X.prog X.w) h3 (typeOf (.ref a)) cls := fun A Q E s k q => wpAny_typeOf_ref (k _ _ he3) (by rw [hz3.1]; exact q)
        have LM := PySem.W.exm_one (M := model X.prog X.w) (J3.kIn) LT hb1
        have test : ∀ {Q : Value → Shared → Prop} {E : Value → Shared → Prop}, Q c { s' with heap := h3 } → wpAny (model X.prog X.w) (X.A.mark (some (.ref a))) (eval (.Name x np) X.env) Q E { s' with heap := h3 } := fun {Q E} q => by
          obtain ⟨hg, hdbg, hm | ⟨hm, hv, hnn⟩⟩ := hc
          · exact ld_glob (X := X.suite a ((a, oe3) :: (X.pn ++ pins))) S3 hg hm q hdbg
          · exact ld_blt (X := X.suite a ((a, oe3) :: (X.pn ++ pins))) S3 hg hm hv q hnn hdbg
        refine test (LM.here ?_)
        cases b with
        | true =>
          refine codeAny_handlers_suite ?_
          refine HandSPX.lands_againZ fl3 fun h4 fl4 up4 => ?_
          have J4 : Inv X pins σ' H' { s' with heap := h4 } := J.landed nb fl4.1 ((up.trans up3).trans up4) os ag
          obtain ⟨oe4, vs4, he4, hz4, hd4⟩ := fl4.there
          have S4 := J4.suite he4 hd4 na nL nF
          refine wpAny_mono ((hsu a oe4 cls d (X.pn ++ pins) hz4 ⟨_, hd4⟩).run [] _ _ H' _ S4 (hyes rfl a na)) (fun f s6 hsp => ?_) (fun _ _ z => False.elim z)
          cases f with
          | next =>
            obtain ⟨σ6, H6, S6, q6⟩ := hsp
            exact ⟨_, _, S6.unsuite ok, q6⟩
          | brk =>
            obtain ⟨σ6, H6, S6, q6⟩ := hsp
            exact ⟨_, _, S6.unsuite ok, q6⟩
          | cont =>
            obtain ⟨σ6, H6, S6, q6⟩ := hsp
            exact ⟨_, _, S6.unsuite ok, q6⟩
          | ret u =>
            obtain ⟨v6, σ6, H6, S6, r6, q6⟩ := hsp
            exact ⟨_, _, _, S6.unsuite ok, r6, q6⟩
        | false =>
          show wpAny _ X.A (handleBy (.ref a) X.env hds2) _ _ _
          exact ih (hno rfl)
      | @named x n c i ts b₀ suite np pos' hds2 l2 hi hln hc hsu r ih =>
        intro w
        obtain ⟨b, hb1, hyes, hno⟩ := w
        refine wpAny_handleBy_cons (codeAny_handlers_test ?_) (by intro q; cases q)
        have LT : PySem.W.Looks (model X.prog X.w) h3 (typeOf (.ref a)) cls := fun A Q E s k q => wpAny_typeOf_ref (k _ _ he3) (by rw [hz3.1]; exact q)
        have LM := PySem.W.exm_one (M := model X.prog X.w) (J3.kIn) LT hb1
        have test : ∀ {Q : Value → Shared → Prop} {E : Value → Shared → Prop}, Q c { s' with heap := h3 } → wpAny (model X.prog X.w) (X.A.mark (some (.ref a))) (eval (.Name x np) X.env) Q E { s' with heap := h3 } := fun {Q E} q => by
          obtain ⟨hg, hdbg, hm | ⟨hm, hv, hnn⟩⟩ := hc
          · exact ld_glob (X := X.suite a ((a, oe3) :: (X.pn ++ pins))) S3 hg hm q hdbg
          · exact ld_blt (X := X.suite a ((a, oe3) :: (X.pn ++ pins))) S3 hg hm hv q hnn hdbg
        refine test (LM.here ?_)
        cases b with
        | true =>
          refine codeAny_handlers_suite_as ?_
          refine HandSPX.lands_againZ fl3 fun h4 fl4 up4 => ?_
          have J4 : Inv X pins σ' H' { s' with heap := h4 } := J.landed nb fl4.1 ((up.trans up3).trans up4) os ag
          obtain ⟨oe4, vs4, he4, hz4, hd4⟩ := fl4.there
          have S4 := J4.suite he4 hd4 na nL nF
          have hloc : Loc X.env.scope n := .inl hln
          refine store_ok (X := X.suite a ((a, oe4) :: (X.pn ++ pins))) (v := .ref a) S4 hN hi hloc rfl (fun s5 S5 => ?_) (.inr hln)
          refine wpAny_mono ((hsu a oe4 cls d (X.pn ++ pins) hz4 ⟨_, hd4⟩).run [] s5 _ H' _ S5 (hyes rfl a na)) (fun f s6 hsp => ?_) (fun _ _ z => False.elim z)
          have leave : ∀ {σ6 : St} {H6 : Hp} {Q : Shared → Prop}, Inv (X.suite a ((a, oe4) :: (X.pn ++ pins))) [] σ6 H6 s6 → (∀ s7, Inv X pins (σ6.set i none) H6 s7 → Q s7) →
              wpAny (model X.prog X.w) X.A (do bindName X.env n .none; unbindBehindTheSuite X.env n pos') (fun _ s7 => Q s7) X.xe s6 := fun {σ6 H6 Q} S6 hq => gone_ok (S6.unsuite ok) hN hi hln hq
          cases f with
          | next => obtain ⟨σ6, H6, S6, q6⟩ := hsp; exact leave S6 fun s7 J7 => ⟨_, _, J7, q6⟩
          | brk => obtain ⟨σ6, H6, S6, q6⟩ := hsp; exact leave S6 fun s7 J7 => ⟨_, _, J7, q6⟩
          | cont => obtain ⟨σ6, H6, S6, q6⟩ := hsp; exact leave S6 fun s7 J7 => ⟨_, _, J7, q6⟩
          | ret u => obtain ⟨v6, σ6, H6, S6, r6, q6⟩ := hsp; exact leave S6 fun s7 J7 => ⟨_, _, _, J7, r6, q6⟩
        | false =>
          show wpAny _ X.A (handleBy (.ref a) X.env hds2) _ _ _
          exact ih (hno rfl)
    exact go hh w
  · cases f with
    | next =>
      obtain ⟨σ', H', J', q⟩ := hsp
      exact wpAny_execs_nil ⟨σ', H', J'.ofTry ok, q⟩
    | brk =>
      obtain ⟨σ', H', J', q⟩ := hsp
      exact ⟨σ', H', J'.ofTry ok, q⟩
    | cont =>
      obtain ⟨σ', H', J', q⟩ := hsp
      exact ⟨σ', H', J'.ofTry ok, q⟩
    | ret u =>
      obtain ⟨v, σ', H', J', r, q⟩ := hsp
      exact ⟨v, σ', H', J'.ofTry ok, r, q⟩
end
end L2
end
section
set_option Elab.async false
set_option autoImplicit false
set_option linter.all false
set_option maxRecDepth 100000
set_option maxHeartbeats 4000000
namespace LawC
open PySem PySem.Spec PyProof.Rows L2 PySem.OxE
/-! what several laws' own helpers promise -/
/-- the draws' source -/
def srcV (d m t : Int) : HO := .lst [.int d, .int m, .int t]
def SM : Int := 4294967296
structure SrcAt (H : Hp) (p : Addr) (t : Int) : Prop where
  ex : ∃ d m, H p = some (srcV d m t) ∧ 0 ≤ d ∧ 0 ≤ m ∧ m < SM
  t0 : 0 ≤ t
def spSource (K : PySem.W.Frag) : Sp := fun vs H Q _ => ∃ (a : Addr) (ns : List Int) (pl : Int), vs = [.ref a, .int pl] ∧ SqL K H a (ns.map V.int) ∧ 0 ≤ pl ∧ pl < 12 ∧
  ∀ (p : Addr) (H' : Hp), H p = none → Same H H' → SrcAt H' p 0 → Q (.ref p) H'
def spDraw : Sp := fun vs H Q _ => ∃ (p : Addr) (t n : Int), vs = [.ref p, .int n] ∧ SrcAt H p t ∧ t < 100000 ∧ 0 < n ∧ n.natAbs < 2 ^ 100 ∧
  ∀ (k t' : Int) (H' : Hp), 0 ≤ k → k < n → t ≤ t' → t' ≤ t + 1 → But p H H' → SrcAt H' p t' → Q (.int k) H'
def spOf (K : PySem.W.Frag) : Sp := fun vs H Q _ => ∃ (p l : Addr) (t : Int) (xs : List V), vs = [.ref p, .ref l] ∧ SrcAt H p t ∧ t < 100000 ∧ H l = some (.lst xs) ∧ 0 < xs.length ∧ xs.length < 1000 ∧ p ≠ l ∧
  ∀ (v : V) (t' : Int) (H' : Hp), v ∈ xs → t ≤ t' → t' ≤ t + 1 → But p H H' → SrcAt H' p t' → Q v H'
theorem rem0 {a n : Int} (h : 0 < n) : 0 ≤ a % n := Int.emod_nonneg a (by omega)
theorem rem1 {a n : Int} (h : 0 < n) : a % n < n := Int.emod_lt_of_pos a h
theorem div0 {a n : Int} (h : 0 < n) (ha : 0 ≤ a) : 0 ≤ a / n := Int.ediv_nonneg ha (by omega)
/-! `same`: two values that are worth the same -/
def tyN : PyData → String
  | .none => "NoneType"
  | .bool _ => "bool"
  | .int _ => "int"
  | .str _ => "str"
  | .list _ => "list"
  | .tuple _ => "tuple"
  | .dict _ => "dict"
theorem dp_ty {K : PySem.W.Frag} {H : Hp} {v : V} {d : PyData} (h : Dp K H v d) : TyX K H v (.type (tyN d)) := by
  cases h with
  | non => exact .base .non
  | bl b => exact .base (.bl b)
  | int i => exact .base (.int i)
  | str x => exact .base (.str x)
  | lst h _ =>
    rcases h with (h | ⟨o, h⟩) | ⟨o, its, n, hl, hc, _⟩
    · exact .base (.lst h)
    · exact .base (.frz h)
    · exact .kList hl hc
  | tup h _ =>
    rcases h with (h | ⟨o, h⟩) | ⟨o, its, n, hl, hc, _⟩
    · exact .base (.tup h)
    · exact .fTuple h
    · exact .kTuple hl hc
mutual
/-- how deep lists and tuples stand in it -/
def dep : PyData → Nat
  | .list xs => depAll xs + 1
  | .tuple xs => depAll xs + 1
  | _ => 0
def depAll : List PyData → Nat
  | [] => 0
  | x :: xs => max (dep x) (depAll xs)
end
theorem depAll_mem : ∀ {xs : List PyData} {x : PyData}, x ∈ xs → dep x ≤ depAll xs
  | y :: ys, x, h => by
    unfold depAll
    rcases List.mem_cons.mp h with rfl | h
    · exact Nat.le_max_left _ _
    · exact Nat.le_trans (depAll_mem h) (Nat.le_max_right _ _)
mutual
def noDict : PyData → Bool
  | .dict _ => false
  | .list xs => noDictAll xs
  | .tuple xs => noDictAll xs
  | _ => true
def noDictAll : List PyData → Bool
  | [] => true
  | x :: xs => noDict x && noDictAll xs
end
mutual
/-- no dict, no list of more than a thousand -/
def okD : PyData → Bool
  | .dict _ => false
  | .list xs => decide (xs.length ≤ 1000) && okDAll xs
  | .tuple xs => decide (xs.length ≤ 1000) && okDAll xs
  | _ => true
def okDAll : List PyData → Bool
  | [] => true
  | x :: xs => okD x && okDAll xs
end
theorem okDAll_mem : ∀ {xs : List PyData} {x : PyData}, okDAll xs = true → x ∈ xs → okD x = true
  | y :: ys, x, h, hm => by
    unfold okDAll at h
    obtain ⟨h1, h2⟩ := Bool.and_eq_true_iff.mp h
    rcases List.mem_cons.mp hm with rfl | hm
    · exact h1
    · exact okDAll_mem h2 hm
theorem okD_lst {xs : List V} {ds : List PyData} {K : PySem.W.Frag} {H : Hp} (h : okD (.list ds) = true) (a : DpAll K H xs ds) : xs.length ≤ 1000 ∧ okDAll ds = true := by
  unfold okD at h
  obtain ⟨h1, h2⟩ := Bool.and_eq_true_iff.mp h
  exact ⟨by rw [DpAll.length a]; exact of_decide_eq_true h1, h2⟩
theorem okD_tup {xs : List V} {ds : List PyData} {K : PySem.W.Frag} {H : Hp} (h : okD (.tuple ds) = true) (a : DpAll K H xs ds) : xs.length ≤ 1000 ∧ okDAll ds = true := by
  unfold okD at h
  obtain ⟨h1, h2⟩ := Bool.and_eq_true_iff.mp h
  exact ⟨by rw [DpAll.length a]; exact of_decide_eq_true h1, h2⟩
theorem kitA_lst {K : PySem.W.Frag} : PySem.W.kitAny K (.type "list") [.type "tuple", .type "list"] = some true := by
  refine kitAny_cons (b := false) (kit_ty (by decide +kernel)) (fun _ => kitAny_cons (b := true) (kit_ty (by decide +kernel)) (fun h => nomatch h) fun _ => rfl) fun h => nomatch h
theorem kitA_tup {K : PySem.W.Frag} : PySem.W.kitAny K (.type "tuple") [.type "tuple", .type "list"] = some true := by
  refine kitAny_cons (b := true) (kit_ty (by decide +kernel)) (fun h => nomatch h) fun _ => rfl
theorem kitA_int {K : PySem.W.Frag} : PySem.W.kitAny K (.type "int") [.type "tuple", .type "list"] = some false := by
  refine kitAny_cons (b := false) (kit_ty (by decide +kernel)) (fun _ => kitAny_cons (b := false) (kit_ty (by decide +kernel)) (fun _ => rfl) fun h => nomatch h) fun h => nomatch h
theorem kitA_str {K : PySem.W.Frag} : PySem.W.kitAny K (.type "str") [.type "tuple", .type "list"] = some false := by
  refine kitAny_cons (b := false) (kit_ty (by decide +kernel)) (fun _ => kitAny_cons (b := false) (kit_ty (by decide +kernel)) (fun _ => rfl) fun h => nomatch h) fun h => nomatch h
def spSame (K : PySem.W.Frag) (n : Nat) : Sp := fun vs H Q _ => ∃ (x y : V) (d : PyData), vs = [x, y] ∧ Dp K H x d ∧ Dp K H y d ∧ dep d ≤ n ∧ okD d = true ∧ ∀ H', Same H H' → Q (.bl true) H'
theorem DpAll.get {K : PySem.W.Frag} {H : Hp} : ∀ {vs : List V} {ds : List PyData} {i : Nat} {v : V}, DpAll K H vs ds → vs[i]? = some v → ∃ d, d ∈ ds ∧ ds[i]? = some d ∧ Dp K H v d
  | _, _, 0, _, .cons h _, e => ⟨_, List.mem_cons_self, rfl, by cases e; exact h⟩
  | _, _, i + 1, _, .cons _ t, e => by
    obtain ⟨d, h1, h2, h3⟩ := DpAll.get (i := i) t (by simpa using e)
    exact ⟨d, List.mem_cons_of_mem _ h1, by simpa using h2, h3⟩
/-- [same(a, b) for a, b in zip(xs, ys)] -/
theorem zip_turns {K : PySem.W.Frag} {J : It} {D : Addr} {xs ys : List V} {ds : List PyData} {n : Nat} {G : Hp → Prop} {H1 : Hp} {vs : List Nat} {σ : L2.St} {i j : Nat} {Qd : Hp → Prop} {g : TG}
    (w : Walk J xs.length G (YPair (fun i => xs[i]?) (fun i => ys[i]?))) (hG : ∀ H', Same H1 H' → G H') (hD : H1 D = none) (dx : DpAll K H1 xs ds) (dy : DpAll K H1 ys ds) (hn : depAll ds ≤ n) (hz : xs.length ≤ 1000 ∧ okDAll ds = true)
    (hg : ∀ T x y H' k, H' T = some (.tup [x, y]) → k (((wipe σ vs).set i (some x)).set j (some y)) H' → g (.ref T) (wipe σ vs) H' k)
    (hw : ∀ x y, wipe (((wipe σ vs).set i (some x)).set j (some y)) vs = wipe σ vs) (hi : ∀ x y : V, (((wipe σ vs).set i (some x)).set j (some y))[i]? = some (some x)) (hj : ∀ x y : V, (((wipe σ vs).set i (some x)).set j (some y))[j]? = some (some y))
    (hd : ∀ H', Same H1 H' → H' D = some (.lst (List.replicate xs.length (.bl true))) → Qd H') :
    ∃ W : Nat → Nat → Hp → Prop, (∃ m, W 0 m (upd H1 D (.lst []))) ∧ ∀ i' m H, W i' m H →
      (J.stop i' H ∧ Qd H) ∨ (J.go i' H ∧ ∃ Nx : Hp → Prop, (∀ H', Nx H' → ∃ m', m' < m ∧ W (i' + 1) m' H') ∧ ∀ x H', J.yld i' H x H' → g x (wipe σ vs) H' fun σ2 H2 => wipe σ2 vs = wipe σ vs ∧ tYes σ2 H2 fun b H3 =>
        if b = true then tCall (spSame K n) [] E0 (tCons (tVar i) (tCons (tVar j) tNil)) σ2 H3 fun y H4 => ∃ acc, H4 D = some (.lst acc) ∧ acc.length < sizeLine ∧ Nx (upd H4 D (.lst (acc ++ [y]))) else Nx H3) := by
  refine lc_it w (fun k H' => Same H1 H' ∧ H' D = some (.lst (List.replicate k (.bl true)))) ⟨Same.new hD, upd_same⟩ (fun k H' _ p => hG H' p.1) (fun k v H H' hk p y => ?_) fun H' p => hd H' p.1 p.2
  obtain ⟨T, x, z, rfl, hT, rfl, hx, hz2⟩ := y
  obtain ⟨p1, p2⟩ := p
  have s2 := Same.trans p1 (Same.new (o := .tup [x, z]) hT)
  refine hg T x z _ _ upd_same ⟨hw x z, ?_⟩
  show tCall (spSame K n) [] E0 (tCons (tVar i) (tCons (tVar j) tNil)) _ _ _
  obtain ⟨d, m1, m2, m3⟩ := DpAll.get dx hx
  obtain ⟨e, q1, q2, q3⟩ := DpAll.get dy hz2
  have ed : e = d := by rw [m2] at q2; exact (Option.some.inj q2).symm
  subst ed
  refine ⟨x, hi x z, z, hj x z, x, z, e, rfl, m3.mono s2, q3.mono s2, Nat.le_trans (depAll_mem m1) hn, okDAll_mem hz.2 m1, fun H5 e5 => ⟨_, e5 _ _ (Same.new hT _ _ p2), Evl.sz_lt (by rw [List.length_replicate]; omega), ?_, ?_⟩⟩
  · intro b o hb
    have := e5 _ _ (s2 b o hb)
    rw [upd_ne (ne_of_none hb hD)]
    exact this
  · rw [upd_same, List.replicate_succ']
/-! readings' lemmas for `same` -/
section
variable {K : PySem.W.Frag} {σ : L2.St} {H : Hp} {ta : TE} {v : V} {d : PyData}
theorem ev_isi {T : String} {b : Bool} (h : Evl.Ev ta σ H v) (hd : Dp K H v d) (hk : kitB (tyN d) T = some b) : Evl.Ev (tCB (rIsi K) (tCons ta (tCons (tC (.ty T)) tNil))) σ H (.bl b) :=
  Evl.ev_cb (Evl.ea_cons h (Evl.ea_cons Evl.ev_c Evl.ea_nil)) fun H1 e1 Q q => ⟨v, .ty T, _, .type T, b, rfl, .ty T, dp_ty (hd.mono e1), kit_ty hk, q H1 (Evl.Ex.refl H1)⟩
theorem ev_isN (h : Evl.Ev ta σ H v) : Evl.Ev (tOp (fun x y H Q => y = V.non ∧ Q (V.bl (decide (x = V.non))) H) ta (tC .non)) σ H (.bl (decide (v = .non))) :=
  Evl.ev_op h Evl.ev_c fun H1 e Q q => ⟨rfl, q H1 (Evl.Ex.refl H1)⟩
theorem ev_isiT {T1 T2 : String} {b : Bool} (h : Evl.Ev ta σ H v) (hd : Dp K H v d) (hk : PySem.W.kitAny K (.type (tyN d)) [.type T1, .type T2] = some b) : Evl.Ev (tCB (rIsiT K) (tCons ta (tCons (tTup (tCons (tC (.ty T1)) (tCons (tC (.ty T2)) tNil))) tNil))) σ H (.bl b) := fun H1 e1 Q q =>
  h H1 e1 _ fun H2 e2 => ⟨by show 2 ≤ sizeLine; decide, fun p hp => ⟨v, p, [.ty T1, .ty T2], _, _, b, rfl, upd_same, .cons (.ty T1) (.cons (.ty T2) .nil), dp_ty (hd.mono ((e1.trans e2).trans (Evl.Ex.new hp))), hk, q _ (e2.trans (Evl.Ex.new hp))⟩⟩
theorem DpAll.same_length {vs us : List V} {ds : List PyData} (a : DpAll K H vs ds) (b : DpAll K H us ds) : vs.length = us.length := by rw [DpAll.length a, DpAll.length b]
end
theorem walk_zipT {K : PySem.W.Frag} {a b : Addr} {xs ys : List V} (hl : xs.length = ys.length) : Walk (RZ.ItzT K a b) xs.length (fun H => SqT K H a xs ∧ SqT K H b ys) (YPair (fun i => xs[i]?) (fun i => ys[i]?)) := by
  refine ⟨fun i _ hi q => ⟨xs, ys, xs[i], ys[i], q.1, q.2, by simp [hi], by simp [show i < ys.length by omega]⟩, fun _ q => ⟨xs, ys, q.1, q.2, by omega⟩, fun i H v H' _ q y => ?_⟩
  obtain ⟨T, x, z, h1, h2, h3, h4, h5⟩ := y
  exact ⟨T, x, z, h1, h2, h3, h4 xs q.1, h5 ys q.2⟩
section
variable {K : PySem.W.Frag} {σ : L2.St} {H : Hp} {ta : TE} {v : V}
theorem ev_lenT {p : Addr} {xs : List V} (h : Evl.Ev ta σ H (.ref p)) (hp : SqT K H p xs) : Evl.Ev (tCB (fun xs H Q => ∃ x n, xs = [x] ∧ LenV K x H n ∧ Q (V.int n) H) (tCons ta tNil)) σ H (.int xs.length) :=
  Evl.ev_cb (Evl.ea_cons h Evl.ea_nil) fun H1 e1 Q q => ⟨_, _, rfl, .inr ⟨_, Evl.ex_t e1 hp, rfl⟩, q H1 (Evl.Ex.refl H1)⟩
theorem ev_lenL {p : Addr} {xs : List V} (h : Evl.Ev ta σ H (.ref p)) (hp : SqL K H p xs) : Evl.Ev (tCB (fun xs H Q => ∃ x n, xs = [x] ∧ LenV K x H n ∧ Q (V.int n) H) (tCons ta tNil)) σ H (.int xs.length) :=
  Evl.ev_cb (Evl.ea_cons h Evl.ea_nil) fun H1 e1 Q q => ⟨_, _, rfl, .inl ⟨_, Evl.ex_l e1 hp, rfl⟩, q H1 (Evl.Ex.refl H1)⟩
theorem ev_fld {x C dx : Addr} {fs : List (Str × V)} {f : Str} (h : Evl.Ev ta σ H (.ref x)) (hx : H x = some (.ins C dx fs)) (c : Cls K C) (n : NoAttr K C f) (l : fs.lookup f = some v) : Evl.Ev (tFld K ta f) σ H v := fun H1 e1 Q q =>
  h H1 e1 _ fun H2 e2 => ⟨x, C, dx, fs, v, rfl, e2 _ _ (e1 _ _ hx), c, n, l, q H2 e2⟩
theorem inV_str {u : Str} : ∀ {ws : List Str}, inV (.str u) (ws.map V.str) = decide (u ∈ ws)
  | [] => by simp [inV]
  | x :: ws => by
    have ih := inV_str (u := u) (ws := ws)
    unfold inV at ih ⊢
    rw [List.map_cons, List.any_cons, ih]
    by_cases h : x = u
    · subst h
      simp [eqV]
    · have h2 : ¬ u = x := fun q => h q.symm
      simp [eqV, h, h2]
theorem flat_strs : ∀ {ws : List Str}, (ws.map V.str).all flatV = true
  | [] => rfl
  | x :: ws => by rw [List.map_cons, List.all_cons, flat_strs (ws := ws)]; rfl
end
section
variable {K : PySem.W.Frag} {σ : L2.St} {H : Hp} {te tt : TE} {t : TT}
theorem el_slN {tl th : TO} {xs : List V} {lo hi : Option Int} (h : Evl.EvL te σ H xs) (h1 : Evl.EvO tl σ H lo) (h2 : Evl.EvO th σ H hi) : Evl.EvL (tSl (rSlL K) te tl th) σ H (cutV xs lo hi) := fun H1 e _ q =>
  h H1 e _ fun a H2 ha e2 hx => h1 H2 (e.trans e2) _ fun H3 e3 => h2 H3 ((e.trans e2).trans e3) _ fun H4 e4 =>
    ⟨a, xs, rfl, SqL.of (e4 _ _ (e3 _ _ hx)), fun p hp => q p _ (Evl.fresh_back ((e2.trans e3).trans e4) hp) (((e2.trans e3).trans e4).trans (Evl.Ex.new hp)) upd_same⟩
theorem filt_step {f : V → Bool} {xs : List V} {i : Nat} {x : V} (h : xs[i]? = some x) : (xs.take (i + 1)).filter f = (xs.take i).filter f ++ (if f x = true then [x] else []) := by
  rw [List.take_add_one, h, List.filter_append]
  congr 1
  cases hf : f x <;> simp [hf]
/-- [x for x in xs if f x] -/
theorem el_filt {a : Addr} {xs : List V} {tl : TE} {j : Nat} {vs : List Nat} {f : V → Bool} (h : Evl.Ev tl σ H (.ref a)) (hx : SqL K H a xs) (hz : xs.length ≤ 40000) (hw : ∀ x, wipe ((wipe σ vs).set j (some x)) vs = wipe σ vs)
    (ht : ∀ (x : V) H1, Evl.Ex H H1 → x ∈ xs → Evl.EvT t ((wipe σ vs).set j (some x)) H1 (f x)) (he : ∀ (x : V) H1, Evl.Ex H H1 → x ∈ xs → Evl.Ev te ((wipe σ vs).set j (some x)) H1 x) :
    Evl.EvL (tLc (iList K tl) (gName j) t te vs) σ H (xs.filter f) := fun H0 e Q q => h H0 e _ fun H1 e1 => ⟨a, rfl, ⟨xs, Evl.ex_l (e.trans e1) hx⟩, fun Dl hD =>
  lc_list (xs := xs) (fun i H' => Same H1 H' ∧ H' Dl = some (.lst ((xs.take i).filter f))) ⟨Same.new hD, upd_same⟩ (fun i H' _ p => Evl.ex_l ((e.trans e1).trans p.1) hx) (fun i x H' hi p => ⟨hw x, by
    obtain ⟨p1, p2⟩ := p
    have hm := List.mem_of_getElem? hi
    refine ht x H' ((e.trans e1).trans p1) hm H' (Evl.Ex.refl H') _ fun H3 e3 => ?_
    have hl : ((xs.take i).filter f).length < sizeLine := Evl.sz_lt (by
      have := List.length_filter_le f (xs.take i)
      rw [List.length_take] at this
      omega)
    cases hf : f x with
    | true =>
      refine he x H3 ((e.trans e1).trans (Same.trans p1 e3)) hm H3 (Evl.Ex.refl H3) _ fun H4 e4 => ⟨_, e4 _ _ (e3 _ _ p2), hl, ?_, ?_⟩
      · intro b o hb
        have := e4 _ _ (e3 _ _ (p1 b o hb))
        rw [upd_ne (ne_of_none hb hD)]
        exact this
      · rw [upd_same, filt_step hi, hf]
        rfl
    | false =>
      refine ⟨Same.trans p1 e3, ?_⟩
      rw [e3 _ _ p2, filt_step hi, hf]
      simp⟩) (fun H' p => q Dl H' (Evl.fresh_back e1 hD) (e1.trans p.1) (by rw [p.2, List.take_of_length_le (Nat.le_refl _)]))⟩
end
end LawC
end
section
set_option Elab.async false
set_option autoImplicit false
set_option linter.all false
set_option maxRecDepth 100000
set_option maxHeartbeats 2000000
/-! methods with a star parameter; list.extend of a tuple; properties that a raising def reads -/
namespace L2
open PySem PySem.Spec PyProof.Rows
def rExtendT : V → List V → Hp → VK → Prop := fun x vs H Q => ∃ l b xs zs, x = .ref l ∧ vs = [.ref b] ∧ H l = some (.lst xs) ∧ H b = some (.tup zs) ∧ xs.length + zs.length ≤ sizeLine ∧ Q .non (upd H l (.lst (xs ++ zs)))
theorem list_extend_tupO (l : Addr) (items : Array Value) (n : Nat) (b : Addr) (od : Option Addr) (sl : Array (Option Value)) (items2 : Array Value) (n2 : Nat) (hs0 : ¬(!items.isEmpty && Builtin.List.listTooLong (items.size + items2.size)) = true) (hs1 : items.size ≤ sizeLine) (hs2 : items.size + items2.size ≤ sizeLine + 1) :
    Meets (Builtin.«list.extend» ⟨[.ref l, .ref b], []⟩) (fun _ R s => s.heap.get? l = some { cls := .type "list", dict := none, data := .seq items n, slots := #[] } ∧ s.heap.get? b = some { cls := .type "tuple", dict := od, data := .seq items2 n2, slots := sl } ∧ R (.ok (.ret Value.none)) { s with heap := s.heap.update l (Obj.mapSeq fun x => x ++ items2), toks := s.toks }) :=
  .of_wp fun prog w A R s h => by
    obtain ⟨hp, g, d, tk, os⟩ := s; obtain ⟨hl, hb, h⟩ := h; have f1 := AutoSeq1.idx_int; have f2 := AutoSeq1.sub_tuple_tuple; have f3 := AutoSeq1.sub_list_list; have f4 := AutoSeq1.sub_tuple_list; have f5 := AutoSeq1.sub_list_tuple;
    have hz' : (items ++ items2).size ≤ sizeLine + 1 := by rw [Array.size_append]; exact hs2
    wp_walk using (wpAny_updateSeq hl rfl (hz := hs1) (_hz' := hz')), AutoSeq1.wpAny_loadPart' hl, AutoSeq1.wpAny_loadPart' hb; exact ⟨_, rfl, h⟩
theorem mt_extendT {X : Cx} : MtM X "list.extend" rExtendT := by
  intro pins s σ H x vs v us Q I rx rv h
  obtain ⟨l, b, xs, zs, rfl, rfl, hH, hB, hz, q⟩ := h
  cases rx
  obtain ⟨u, rfl, ru⟩ := rv.one
  cases ru
  obtain ⟨z, its, n, r, hl, e⟩ := I.lstM hH
  obtain ⟨its2, r2, ⟨o2, e2, c2, n2, d2⟩, z2⟩ := I.tuple (SqT.of hB)
  obtain ⟨cl2, od2, da2, sl2⟩ := o2
  cases c2
  cases d2
  have hl2 := r2.length
  have hsz : its.toArray.size + its2.toArray.size ≤ sizeLine := by rw [List.size_toArray, List.size_toArray]; omega
  have hlong : ¬ (!its.toArray.isEmpty && Builtin.List.listTooLong (its.toArray.size + its2.toArray.size)) = true := by
    rw [notLongL hsz, Bool.and_false]
    exact Bool.false_ne_true
  refine call_meets F.slot_list_extend ⟨_, e, rfl⟩ F.entry_list_extend (F.args_list_extend_2 _ _)
    (list_extend_tupO l its.toArray n b od2 sl2 its2.toArray n2 hlong (by rw [List.size_toArray]; omega) (by omega)) ⟨e, e2, ?_⟩
  refine ⟨.non, _, I.lset (its' := its ++ its2) hH e (by simp) (r.append r2) ?_, rfl, q⟩
  rw [List.length_append]
  omega
section
variable {P : Program} {w : World} {K : PySem.W.Frag} {mg : Str → Option Value} {base : Heap}
/-- a def whose last parameter is starred, by its body -/
theorem Fun.star {x qual pv : Str} {st : Stmt} {f : Addr} {fd : FuncData} {N ps : List Str} {k : Nat} {sp : Sp} (F : Fun K x qual st f fd) (S : FnScope N (ps ++ [pv]) (defScope st))
    (hb : ∀ (kV doc pm : Value) (an : Option Addr) (cdv ct : Value) (us rest : List Value), us.length = ps.length → bindArgs (PySem.W.fnOf x qual (defArgs st) (defBody st) (defScope st) .none kV doc pm an cdv ct) ⟨us ++ rest, []⟩ = (newTuple rest >>= fun t => pure (ps.zip us ++ [(pv, t)])))
    (hbody : ∀ (cdv : Value) (A : Around) (outer : List Env) (s : Shared) (H : Hp) (vs : List V) (Q : VK) (E : XK), Room k (A.deeper (envOfC qual (defScope st) s.heap.objs.size f cdv)) → sp vs H Q E →
      ∃ t, PSs (cxOf (L2.CX P w) P w K mg base N qual (defScope st) f cdv A outer s H E) (defBody st) t ∧ t { nx := fun _ H' => Q .non H', rt := Q } (start N vs) H) :
    FnR P w K mg base (L2.CX P w) (k + 1) f (fun vs H Q E => ∃ ws rest, vs = ws ++ rest ∧ ws.length = ps.length ∧ rest.length ≤ sizeLine ∧ ∀ p, H p = Option.none → sp (ws ++ [V.ref p]) (upd H p (.tup rest)) Q E) := by
  obtain ⟨oc, od, kV, doc, pm, an, cdv, ct, osl, rfl, lk, hcd⟩ := F.ex
  exact StX.fn_star lk hcd S StX.cxUp (hb kV doc pm an cdv ct) fun A outer s H vs Q E hr hsp => hbody cdv A outer s H vs Q E hr hsp
end
section
variable {X : Cx} {CX : CXT} {k : Nat} {f C : Addr} {fd : FuncData} {ps : List Str} {sp : Sp} {E : L2.St → XK} {o : Expr} {pos apos : Pos} {td : TE} {m : Str}
theorem run_fnRS {pins : List (Addr × Obj)} {σ : L2.St} {H : Hp} {s : Shared} {Q : VK} {us : List Value} {vs : List V} (F : FnR X.prog X.w X.K X.mg X.base CX k f sp) (hr : Room k X.A) (hx : PassesAt CX X σ (E σ))
    (I : Inv X pins σ H s) (r : Vals vs us) (h : sp vs H Q (E σ)) : wpAny (model X.prog X.w) X.A (call (.ref f) us) (EP X pins σ Q) X.xe s := by
  refine wpAny_call (codeAny_mono (F X.A X.stack s H us vs Q (E σ) hr I.env0 r h) fun r s' hq => ?_)
  cases r with
  | error e => exact hx pins H s e s' I hq
  | ok fl =>
    cases fl with
    | ret u => exact I.after hq
    | next => exact False.elim hq
    | brk => exact False.elim hq
    | cont => exact False.elim hq
theorem pe_methRX {e : Expr} {es : List Expr} {t : TA} {pl : Sem Bool} (he : PE X o td) (c : Cls X.K C) (hm : Meth X.K C m f) (F : FnR X.prog X.w X.K X.mg X.base CX k f sp) (hr : Room k X.A) (hx : ∀ σ, PassesAt CX X σ (E σ)) (ha : PA X (e :: es) t)
    (hst : starEach (e :: es) X.env = (false, eval e X.env) :: starEach es X.env := by rfl) (hpl : (backTo pos (starEach es X.env)).any (·.1) = false := by rfl)
    (ht : eval (.Call (.Attribute o m apos) (e :: es) [] pos) X.env = (do
      let ov ← eval o X.env
      standAt apos.atName
      let (f, first) ← holding [ov] (getMethod ov m pl)
      callWith pos f first (backTo pos (starEach (e :: es) X.env)) (backToKw pos (keywordEach [] X.env))) := by rfl) :
    PE X (.Call (.Attribute o m apos) (e :: es) [] pos) (tMethX C m sp E td t) := by
  refine ⟨fun pins s σ H Q I h => ?_⟩
  refine PySem.W.methodCall_KW (pl := pl) (thn (he.run pins s σ H _ I h) fun u s1 ⟨x, H1, I1, rx, a, dx, fs, ex, ea, l, q⟩ => ?_) ht
  subst ex
  obtain rfl : u = Value.ref a := rx
  refine getmeth_ok I1 ea c hm l ?_
  refine PySem.W.callWith_K (first := [.ref a]) (h₀ := X.base) I.ok.mod.kin hm.kp (thn (ha.run pos pins s1 σ H1 _ I1 q) fun us s2 ⟨vs, H2, I2, r, q2⟩ => ⟨I2.kIn, ?_⟩) hst hpl
  exact run_fnRS (us := .ref a :: us) (vs := .ref a :: vs) F hr (hx σ) I2 (.cons rfl r) q2
theorem pe_methRX0 {pl : Sem Bool} (he : PE X o td) (c : Cls X.K C) (hm : Meth X.K C m f) (F : FnR X.prog X.w X.K X.mg X.base CX k f sp) (hr : Room k X.A) (hx : ∀ σ, PassesAt CX X σ (E σ))
    (ht : eval (.Call (.Attribute o m apos) [] [] pos) X.env = (do
      let ov ← eval o X.env
      standAt apos.atName
      let (f, first) ← holding [ov] (getMethod ov m pl)
      callWith pos f first (backTo pos (starEach [] X.env)) (backToKw pos (keywordEach [] X.env))) := by rfl) :
    PE X (.Call (.Attribute o m apos) [] [] pos) (tMethX C m sp E td tNil) := by
  refine ⟨fun pins s σ H Q I h => ?_⟩
  refine PySem.W.methodCall_KW (pl := pl) (thn (he.run pins s σ H _ I h) fun u s1 ⟨x, H1, I1, rx, a, dx, fs, ex, ea, l, q⟩ => ?_) ht
  subst ex
  obtain rfl : u = Value.ref a := rx
  refine getmeth_ok I1 ea c hm l ?_
  exact PySem.W.callWith_K0 (first := [.ref a]) I1.kIn hm.kp (run_fnRS (us := [.ref a]) (vs := [.ref a]) F hr (hx σ) I1 (.cons rfl .nil) q)
end
end L2
end
section
set_option Elab.async false
set_option autoImplicit false
set_option linter.all false
set_option maxRecDepth 100000
set_option maxHeartbeats 2000000
/-! isinstance of the error that an except clause holds -/
namespace L2
open PySem PySem.Spec PyProof.Rows PySem.OxE
/-- isinstance(e, T), e the error held at a (its class cls, its dict d) -/
def rIsHeld (K : PySem.W.Frag) (a : Addr) (cls : Value) (d : Option Addr) : List V → Hp → VK → Prop := fun xs H Q => ∃ (C dd : Addr) (fv : List (Str × V)) (c : V) (cv : Value) (b : Bool), xs = [.ref a, c] ∧ cls = .ref C ∧ d = some dd ∧ H dd = some (.xd fv) ∧ ExIs K C ∧ (∀ u, RelV c u → u = cv) ∧ PySem.W.kitOne K (.ref C) cv = some b ∧ Q (.bl b) H
theorem call_isHeld {X : Cx} {a : Addr} {oe : Obj} {cls : Value} {d : Option Addr} {pn : List (Addr × Obj)} (hz : Zc cls d oe) (hf : ∃ vs, oe.data = .fields vs) : CallR (X.suite a ((a, oe) :: pn)) (.builtin "isinstance") (rIsHeld X.K a cls d) := by
  intro pins s σ H xs us Q I r h
  obtain ⟨C, dd, fv, c, cv, b, rfl, ecl, ed, ea, T, hcv, e, q⟩ := h
  cases r with
  | cons rx rr =>
    cases rr with
    | cons rt rr =>
      cases rr
      cases rx
      have ec := hcv _ rt
      subst ec ecl ed
      obtain ⟨ha, _⟩ := I.pin (a, oe) (List.mem_append_left _ List.mem_cons_self)
      obtain ⟨vs, hd⟩ := hf
      obtain ⟨mA, hns, hr⟩ := (show ObjOk X.prog X.w H s.heap dd (.xd fv) from I.hok dd _ ea)
      obtain ⟨od, ho, hlk⟩ := lookIn_ns hns
      have J : PySem.W.InstAt s.heap a oe C (some od) := ⟨ha, hz.1, by unfold PySem.W.notCls; rw [hd] <;> rfl, by rw [hz.2]; exact ho⟩
      exact PySem.W.kia_one (PySem.W.kitx_exc T.cl T.rd.ga T.rd.gg T.rd.exC T.ha T.hn T.ht T.hm) I.kIn J e (fun z => nomatch z) fun tk => ⟨.bl b, H, I.kept (t' := tk) fun _ _ z => z, rfl, q⟩
end L2
end
section
set_option Elab.async false
set_option autoImplicit false
set_option linter.all false
set_option maxRecDepth 100000
set_option maxHeartbeats 2000000
/-! a generator that a for or a comprehension wakes: what its consumer keeps, the context in which its frame runs -/
namespace L2
open PySem PySem.Spec PyProof.Rows GenW

/-- the context of the generator's frame eg, woken by code of X within A -/
def wakeX (X : Cx) (eg : Env) (N : List Str) (sv : Shared) (Hv : Hp) (pn : List (Addr × Obj)) (A : Around) (xe : Value → Shared → Prop) : Cx :=
  { prog := X.prog, w := X.w, K := X.K, mg := X.mg, base := X.base, A := A.deeper eg, N := N, s_0 := sv, H_0 := Hv, env := eg, outer := X.stack, stack := eg :: X.stack, ex := [], fn := fun _ => true, calm := true, pn := pn, xe := xe }

/-- the consumer X over the state sv that it looks back to; at L the generator's frame, its self the object x; pn: young objects that stand as they are -/
structure CS (X : Cx) (pins : List (Addr × Obj)) (σ : L2.St) (sv : Shared) (Hv : Hp) (L x : Addr) (pn : List (Addr × Obj)) (H : Hp) (s : Shared) : Prop where
  inv0 : Inv X pins σ Hv sv
  below : sv.heap.objs.size ≤ L
  os : s.os = sv.os
  bare : AllBare s.gens
  un : Un (frs X.stack) [] Hv H sv.heap s.heap
  hok : HOk X.prog X.w H s.heap
  fr : ∃ m, s.heap.Ns L m ∧ m "self" = some (.ref x)
  free : H L = none
  pin : ∀ p ∈ pn, s.heap.get? p.1 = some p.2 ∧ H p.1 = none ∧ p.1 ≠ L ∧ p.1 ∉ frs X.stack ∧ ∀ v, p.2.data ≠ .cell v

section
variable {X : Cx} {pins pn : List (Addr × Obj)} {σ : L2.St} {sv s s' : Shared} {Hv H H' : Hp} {L x f : Addr} {qual : Str} {scope : Scope} {cd : Value} {A : Around} {xe : Value → Shared → Prop}
theorem CS.inv (c : CS X pins σ sv Hv L x pn H s) : Inv X pins σ H s := c.inv0.call' (ch := []) c.os c.un c.hok c.bare (fun b z => absurd z (by simp))

theorem CS.start (c : CS X pins σ sv Hv L x pn H s) (hA : A.frames = some X.stack) (hh : A.handled = none) (S : GScope ["self"] ["self"] scope) (hc : cellsFrom (L + 1) scope.names [] = []) :
    Inv (wakeX X (envOfC qual scope L f cd) ["self"] sv Hv pn A xe) [] [some (.ref x)] H s := by
  have nc : ∀ y b, (envOfC qual scope L f cd).cells.lookup y = some b → False := fun y b e => by
    have e : (cellsFrom (L + 1) scope.names []).lookup y = some b := e
    rw [hc] at e
    cases e
  have n0 : ∀ b : Addr, b ∉ ([] : List Addr) := fun b z => by cases z
  refine ⟨⟨c.inv0.ok.mod, S.kind, rfl, rfl, c.below, fun y z b e _ => (nc y b e).elim, fun y hy => ?_, fun y b _ e => (nc y b e).elim, fun _ => hh, Around.frames_deeper hA, .inr ⟨rfl, rfl⟩, fun b z => absurd z (n0 b), c.inv0.bs, Nat.le_trans c.inv0.ok.bsz c.inv0.sz, fun b _ _ => n0 b, fun b z => absurd z (n0 b), c.inv0.stack, c.inv0.stkFree⟩,
    c.os, c.bare, c.un, ?_, fun y b e => (nc y b e).elim, c.free, fun y b e => (nc y b e).elim, fun p hp => c.pin p (by simpa [wakeX] using hp), c.hok, rfl⟩
  · have hy : scope.names.lookup y = some .cell ∨ scope.names.lookup y = some .free := hy
    rcases hy with hy | hy
    · exact cell_has hy
    · exact absurd rfl (S.nofree _ (PySem.mem_of_lookup hy))
  · obtain ⟨m, hn, hx⟩ := c.fr
    refine ⟨m, hn, fun i y v h1 h2 _ => ?_⟩
    match i, h1, h2 with
    | 0, h1, h2 =>
      obtain rfl : "self" = y := by simpa [wakeX] using h1
      obtain rfl : V.ref x = v := by simpa using h2
      rcases S.par "self" (by simp) with q | q
      · exact ⟨.ref x, rfl, .inl ⟨q, hx⟩⟩
      · obtain ⟨b, e⟩ := cell_has (n := L + 1) q
        exact (nc _ b e).elim
    | i + 1, h1, h2 => simp [wakeX] at h1

theorem CS.stop (c : CS X pins σ sv Hv L x pn H s) (S : GScope ["self"] ["self"] scope) (hc : cellsFrom (L + 1) scope.names [] = []) (I : Inv (wakeX X (envOfC qual scope L f cd) ["self"] sv Hv pn A xe) [] [some (.ref x)] H' s') : CS X pins σ sv Hv L x pn H' s' := by
  refine ⟨c.inv0, c.below, I.os, I.bare, I.base, I.hok, ?_, I.free, fun p hp => I.pin p (List.mem_append_left _ hp)⟩
  obtain ⟨m, hn, hl⟩ := I.loc
  have hv : Vis scope "self" := by
    rcases S.par "self" (by simp) with q | q
    · exact .inl q
    · exact .inr (.inl q)
  obtain ⟨u, r, q⟩ := hl 0 "self" (.ref x) rfl rfl hv
  obtain rfl : u = Value.ref x := r
  refine ⟨m, hn, ?_⟩
  rcases q with ⟨_, q⟩ | ⟨_, b, e, _⟩
  · exact q
  · have e : (cellsFrom (L + 1) scope.names []).lookup ("self" : Str) = some b := e
    rw [hc] at e
    cases e

/-- a generator that its method's call made: not begun -/
structure GNew (X : Cx) (pins : List (Addr × Obj)) (σ : L2.St) (sv : Shared) (Hv : Hp) (qual : Str) (st : Stmt) (f x a g : Nat) (cd : Value) (go : Obj) (s : Shared) : Prop where
  cs : CS X pins σ sv Hv sv.heap.objs.size x [(a, go)] Hv s
  gen : s.gens[g]? = some (.fresh (.func (defBody st) (envOfC qual (defScope st) sv.heap.objs.size f cd)))
  obj : s.heap.get? a = some go
  cls : go.cls = .type "generator"
  dat : ∃ nm qn, go.data = .fields #[.int g 0, nm, qn]
  slo : go.slots = #[]
  old : ∀ b o, sv.heap.get? b = some o → s.heap.get? b = some o
theorem gen_call {name : Str} {st : Stmt} {fd : FuncData} {E : Value → Shared → Prop} (I : Inv X pins σ H s) (hcalm : X.calm = true) (F : Fun X.K name qual st f fd) (S : GScope ["self"] ["self"] (defScope st)) (hb : Binds X.K fd ["self"] []) (hc : cellsFrom (s.heap.objs.size + 1) (defScope st).names [] = []) (hd : X.A.depth < recursionLimit) :
    wpAny (model X.prog X.w) X.A (call (.ref f) [.ref x]) (fun u s' => ∃ cd a g go, u = .ref a ∧ GNew X pins σ s H qual st f x a g cd go s') E s := by
  obtain ⟨oc, od, kV, doc, pm, an, cdv, ct, osl, rfl, lk, hcd⟩ := F.ex
  have KX : X.K.In s.heap := I.kIn
  have lim : s.heap.NoLimit := I.nolimit
  have hbt := hb s [.ref x] I.kIn rfl
  have hkind : ∀ y ∈ (["self"] : List Str).zip [Value.ref x], (defScope st).names.lookup y.1 = some .local ∨ ((defScope st).names.lookup y.1 = some .cell ∧ ((cellsFrom (s.heap.objs.size + 1) (defScope st).names []).lookup y.1).isSome = true) := fun ⟨n, v⟩ hy => by
    rcases S.par n (List.of_mem_zip hy).1 with q | q
    · exact .inl q
    · exact .inr ⟨q, PySem.W.cellsFrom_some _ _ _ (.inl q)⟩
  refine wpAny_call (codeAny_call_generator hd (KX _ _ lk) rfl S.co S.gen rfl (PySem.W.codeRec_of KX hcd) (hbt _ _ _ _ ?_))
  refine wpAny_newFunctionEnv_cells S.kind hkind fun env he s1 y => ?_
  subst he
  have lim1 : s1.heap.NoLimit := lim.keeps y.toInCall.keep
  refine ⟨lim1, ?_⟩
  obtain ⟨h1, tk, es1, hk1⟩ := y.done
  have os1 : s1.os = s.os := by rw [es1]
  have gen1 : s1.gens = s.gens := by rw [es1]
  have lt1 : s.heap.objs.size < s1.heap.objs.size := y.toInCall.ns.lt
  have kp1 : ∀ b o, s.heap.get? b = some o → s1.heap.get? b = some o := y.toInCall.keep
  have I1 := inv_startG (N := ["self"]) (ps := ["self"]) (E := fun _ _ _ => False) (vs := [.ref x]) (us := [.ref x]) S (I.ok.hd hcalm) I.env0 rfl (.cons rfl .nil) y
  have main : ∀ (go : Obj) (nm qn : Value) (tk2 : Nat), go.cls = .type "generator" → go.data = .fields #[.int s1.gens.size 0, nm, qn] → go.slots = #[] → (∀ h : Heap, (h.push go).get? h.objs.size = some go) →
      GNew X pins σ s H qual st f x s1.heap.objs.size s1.gens.size cdv go { s1 with gens := s1.gens.push (.fresh (.func (defBody st) (envOfC qual (defScope st) s.heap.objs.size f cdv))), toks := tk2, heap := s1.heap.push go } := by
    intro go nm qn tk2 hgc hgd hgs hgp
    have kp2 : ∀ b o, s.heap.get? b = some o → (s1.heap.push go).get? b = some o := fun b o e => Heap.get?_push_of_some _ (kp1 b o e)
    refine ⟨⟨I, Nat.le_refl _, os1, AllBare.push (by rw [gen1]; exact I.bare) rfl, Un.kept kp2, I.hok.kept kp2, ?_, I.hok.fresh (Nat.le_refl _), fun p hp => ?_⟩, Array.getElem?_push_size .., hgp _, hgc, ⟨nm, qn, hgd⟩, hgs, kp2⟩
    · obtain ⟨m, hn, hl⟩ := I1.loc
      have hv : Vis (defScope st) "self" := by
        rcases S.par "self" (by simp) with q | q
        · exact .inl q
        · exact .inr (.inl q)
      obtain ⟨u, r, q⟩ := hl 0 "self" (.ref x) rfl rfl hv
      obtain rfl : u = Value.ref x := r
      refine ⟨bindL (envOfC qual (defScope st) s.heap.objs.size f cdv).kindOf ((["self"] : List Str).zip [Value.ref x]) fun _ => none, y.toInCall.ns.push _, ?_⟩
      rcases S.par "self" (by simp) with q | q
      · exact bindL_get (P := ["self"]) (vs := [.ref x]) (i := 0) (by simp) rfl rfl q
      · obtain ⟨b, e⟩ := cell_has (n := s.heap.objs.size + 1) q
        rw [hc] at e
        cases e
    · rw [List.mem_singleton.mp hp]
      refine ⟨hgp _, I.hok.fresh (Nat.le_of_lt lt1), Nat.ne_of_gt lt1, fun hm => ?_, fun v q => by rw [hgd] at q; cases q⟩
      obtain ⟨_, o, ho, _⟩ := I.stack.mem hm
      exact absurd (Nat.lt_trans lt1 (Heap.lt_size ho)) (Nat.lt_irrefl _)
  exact ⟨cdv, _, _, _, rfl, main _ _ _ _ rfl rfl rfl fun h => Heap.get?_push_size _ rfl⟩
end
/-- what is pinned is not tracked while an exception is in the air either -/
theorem XE.strong {X : Cx} {W : WX} {u : Value} {s' : Shared} (h : XE X W u s') : XE X (fun cls d σ H => W cls d σ H ∧ ∀ p ∈ X.pn, H p.1 = none) u s' := by
  obtain ⟨a, B, sI, pins, σ, H, cls, d, e, I, nb, up, sky, na, os, ag, w⟩ := h
  exact ⟨a, B, sI, pins, σ, H, cls, d, e, I, nb, up, sky, na, os, ag, w, fun p hp => (I.pin p (List.mem_append_left _ hp)).2.1⟩
end L2
end
section
set_option Elab.async false
set_option autoImplicit false
set_option linter.all false
set_option maxRecDepth 100000
set_option maxHeartbeats 4000000
namespace K33
open PySem PySem.Spec PyProof.Rows L2 PySem.OxE LawC
def top (i : Nat) : Stmt := PySem.Challenge.pw_owedanswers_k33_answers_one_by_one.main.body.getD i (.Pass ⟨0, 0, 0, 0⟩)
abbrev s_is_out : Stmt := top 8
theorem sc_is_out : FnScope ["mark"] ["mark"] (defScope s_is_out) := ⟨rfl, rfl, rfl, by decide +kernel, rfl, by decide +kernel, by decide +kernel⟩
abbrev s_is_in : Stmt := top 9
theorem sc_is_in : FnScope ["mark"] ["mark"] (defScope s_is_in) := ⟨rfl, rfl, rfl, by decide +kernel, rfl, by decide +kernel, by decide +kernel⟩
abbrev s_mark_of : Stmt := top 10
theorem sc_mark_of : FnScope ["sending", "reading"] ["sending", "reading"] (defScope s_mark_of) := ⟨rfl, rfl, rfl, by decide +kernel, rfl, by decide +kernel, by decide +kernel⟩
abbrev s_is_amid : Stmt := top 11
theorem sc_is_amid : FnScope ["word", "mark"] ["word", "mark"] (defScope s_is_amid) := ⟨rfl, rfl, rfl, by decide +kernel, rfl, by decide +kernel, by decide +kernel⟩
abbrev s_row_fault : Stmt := top 12
theorem sc_row_fault : FnScope ["word", "mark", "owed"] ["word", "mark", "owed"] (defScope s_row_fault) := ⟨rfl, rfl, rfl, by decide +kernel, rfl, by decide +kernel, by decide +kernel⟩
abbrev s_mark_after : Stmt := top 13
theorem sc_mark_after : FnScope ["word", "mark"] ["word", "mark"] (defScope s_mark_after) := ⟨rfl, rfl, rfl, by decide +kernel, rfl, by decide +kernel, by decide +kernel⟩
abbrev s_Line_init : Stmt := inClass (top 15) 0
theorem sc_Line_init : FnScope ["self", "number"] ["self", "number"] (defScope s_Line_init) := ⟨rfl, rfl, rfl, by decide +kernel, rfl, by decide +kernel, by decide +kernel⟩
abbrev s_Line_len : Stmt := inClass (top 15) 1
theorem sc_Line_len : FnScope ["self"] ["self"] (defScope s_Line_len) := ⟨rfl, rfl, rfl, by decide +kernel, rfl, by decide +kernel, by decide +kernel⟩
abbrev s_Line_contains : Stmt := inClass (top 15) 2
theorem sc_Line_contains : FnScope ["self", "tag"] ["self", "tag"] (defScope s_Line_contains) := ⟨rfl, rfl, rfl, by decide +kernel, rfl, by decide +kernel, by decide +kernel⟩
abbrev s_Line_mark : Stmt := inClass (top 15) 3
theorem sc_Line_mark : FnScope ["self"] ["self"] (defScope s_Line_mark) := ⟨rfl, rfl, rfl, by decide +kernel, rfl, by decide +kernel, by decide +kernel⟩
abbrev s_Line_is_open : Stmt := inClass (top 15) 4
theorem sc_Line_is_open : FnScope ["self"] ["self"] (defScope s_Line_is_open) := ⟨rfl, rfl, rfl, by decide +kernel, rfl, by decide +kernel, by decide +kernel⟩
abbrev s_Line_is_clean : Stmt := inClass (top 15) 5
theorem sc_Line_is_clean : FnScope ["self"] ["self"] (defScope s_Line_is_clean) := ⟨rfl, rfl, rfl, by decide +kernel, rfl, by decide +kernel, by decide +kernel⟩
abbrev s_Line_owed : Stmt := inClass (top 15) 6
theorem sc_Line_owed : FnScope ["self"] ["self"] (defScope s_Line_owed) := ⟨rfl, rfl, rfl, by decide +kernel, rfl, by decide +kernel, by decide +kernel⟩
abbrev s_Line_need : Stmt := inClass (top 15) 7
theorem sc_Line_need : FnScope ["self", "word", "owed", "fault"] ["self", "word", "owed"] (defScope s_Line_need) := ⟨rfl, rfl, rfl, by decide +kernel, rfl, by decide +kernel, by decide +kernel⟩
abbrev s_Line_ask : Stmt := inClass (top 15) 8
theorem sc_Line_ask : FnScope ["self", "tags"] ["self", "tags"] (defScope s_Line_ask) := ⟨rfl, rfl, rfl, by decide +kernel, rfl, by decide +kernel, by decide +kernel⟩
abbrev s_Line_begin : Stmt := inClass (top 15) 9
theorem sc_Line_begin : FnScope ["self", "tag"] ["self", "tag"] (defScope s_Line_begin) := ⟨rfl, rfl, rfl, by decide +kernel, rfl, by decide +kernel, by decide +kernel⟩
abbrev s_Line_finish : Stmt := inClass (top 15) 10
theorem sc_Line_finish : FnScope ["self"] ["self"] (defScope s_Line_finish) := ⟨rfl, rfl, rfl, by decide +kernel, rfl, by decide +kernel, by decide +kernel⟩
abbrev s_Line_read : Stmt := inClass (top 15) 11
theorem sc_Line_read : FnScope ["self"] ["self"] (defScope s_Line_read) := ⟨rfl, rfl, rfl, by decide +kernel, rfl, by decide +kernel, by decide +kernel⟩
abbrev s_Line_head : Stmt := inClass (top 15) 12
theorem sc_Line_head : FnScope ["self"] ["self"] (defScope s_Line_head) := ⟨rfl, rfl, rfl, by decide +kernel, rfl, by decide +kernel, by decide +kernel⟩
abbrev s_Line_body : Stmt := inClass (top 15) 13
theorem sc_Line_body : FnScope ["self"] ["self"] (defScope s_Line_body) := ⟨rfl, rfl, rfl, by decide +kernel, rfl, by decide +kernel, by decide +kernel⟩
abbrev s_Line_drain : Stmt := inClass (top 15) 14
theorem sc_Line_drain : FnScope ["self", "tags"] ["self"] (defScope s_Line_drain) := ⟨rfl, rfl, rfl, by decide +kernel, rfl, by decide +kernel, by decide +kernel⟩
abbrev s_Line_close : Stmt := inClass (top 15) 15
theorem sc_Line_close : FnScope ["self", "cause"] ["self", "cause"] (defScope s_Line_close) := ⟨rfl, rfl, rfl, by decide +kernel, rfl, by decide +kernel, by decide +kernel⟩
abbrev s_Line_tags : Stmt := inClass (top 15) 16
theorem sc_Line_tags : FnScope ["self"] ["self"] (defScope s_Line_tags) := ⟨rfl, rfl, rfl, by decide +kernel, rfl, by decide +kernel, by decide +kernel⟩
abbrev s_Line_answers : Stmt := inClass (top 15) 17
theorem sc_Line_answers : GScope ["self"] ["self"] (defScope s_Line_answers) := ⟨rfl, rfl, rfl, by decide +kernel, rfl, by decide +kernel, by decide +kernel⟩

abbrev s_source : Stmt := top 17
theorem sc_source : FnScope ["_law_script", "_law_place", "_law_cell", "_law_large"] ["_law_script", "_law_place"] (defScope s_source) := ⟨rfl, rfl, rfl, by decide +kernel, rfl, by decide +kernel, by decide +kernel⟩
abbrev s_draw : Stmt := top 18
theorem sc_draw : FnScope ["_law_source_here", "_law_many", "_law_digit", "_law_turn", "_law_mixed"] ["_law_source_here", "_law_many"] (defScope s_draw) := ⟨rfl, rfl, rfl, by decide +kernel, rfl, by decide +kernel, by decide +kernel⟩
abbrev s_same : Stmt := top 20
theorem sc_same : FnScope ["_law_actual", "_law_due", "_law_one", "_law_two"] ["_law_actual", "_law_due"] (defScope s_same) := ⟨rfl, rfl, rfl, by decide +kernel, rfl, by decide +kernel, by decide +kernel⟩
abbrev s_some : Stmt := top 21
theorem sc_some : FnScope ["_law_line", "_law_most", "_law_got", "_law_tag"] ["_law_line", "_law_most"] (defScope s_some) := ⟨rfl, rfl, rfl, by decide +kernel, rfl, by decide +kernel, by decide +kernel⟩
abbrev s_refused : Stmt := top 22
theorem sc_refused : FnScope ["_law_line", "_law_told", "e"] ["_law_line"] (defScope s_refused) := ⟨rfl, rfl, rfl, by decide +kernel, rfl, by decide +kernel, by decide +kernel⟩
abbrev s_holds : Stmt := top 23
theorem sc_holds : FnScope ["_law_source_here", "_law_line", "_law_queue", "_law_count", "_law_begun", "_law_turn", "_law_place", "_law_most", "_law_due"] ["_law_source_here"] (defScope s_holds) := ⟨rfl, rfl, rfl, by decide +kernel, rfl, by decide +kernel, by decide +kernel⟩
abbrev s_law : Stmt := top 24
theorem sc_law : FnScope ["_law_script", "_law_place", "_law_source_here", "_law_half", "_law_shut", "_law_count", "_law_turn", "_law_number", "_law_rest"] ["_law_script"] (defScope s_law) := ⟨rfl, rfl, rfl, by decide +kernel, rfl, by decide +kernel, by decide +kernel⟩
def LW : List Str := ["ask", "begin", "finish", "read", "head", "body"]
structure Ad where
  cAm : Addr
  iAm : Addr
  cCl : Addr
  iCl : Addr
  cSt : Addr
  iSt : Addr
  cO : Addr
  c_Line : Addr
  a_LW : Addr
  p_mark : Addr
  p_open : Addr
  p_clean : Addr
  p_owed : Addr
  f_is_out : Addr
  fd_is_out : FuncData
  f_is_in : Addr
  fd_is_in : FuncData
  f_mark_of : Addr
  fd_mark_of : FuncData
  f_is_amid : Addr
  fd_is_amid : FuncData
  f_row_fault : Addr
  fd_row_fault : FuncData
  f_mark_after : Addr
  fd_mark_after : FuncData
  f_Line_init : Addr
  fd_Line_init : FuncData
  f_Line_len : Addr
  fd_Line_len : FuncData
  f_Line_contains : Addr
  fd_Line_contains : FuncData
  f_Line_mark : Addr
  fd_Line_mark : FuncData
  f_Line_is_open : Addr
  fd_Line_is_open : FuncData
  f_Line_is_clean : Addr
  fd_Line_is_clean : FuncData
  f_Line_owed : Addr
  fd_Line_owed : FuncData
  f_Line_need : Addr
  fd_Line_need : FuncData
  f_Line_ask : Addr
  fd_Line_ask : FuncData
  f_Line_begin : Addr
  fd_Line_begin : FuncData
  f_Line_finish : Addr
  fd_Line_finish : FuncData
  f_Line_read : Addr
  fd_Line_read : FuncData
  f_Line_head : Addr
  fd_Line_head : FuncData
  f_Line_body : Addr
  fd_Line_body : FuncData
  f_Line_drain : Addr
  fd_Line_drain : FuncData
  f_Line_close : Addr
  fd_Line_close : FuncData
  f_Line_tags : Addr
  fd_Line_tags : FuncData
  f_Line_answers : Addr
  fd_Line_answers : FuncData

  f_source : Addr
  fd_source : FuncData
  f_draw : Addr
  fd_draw : FuncData
  f_same : Addr
  fd_same : FuncData
  f_some : Addr
  fd_some : FuncData
  f_refused : Addr
  fd_refused : FuncData
  f_holds : Addr
  fd_holds : FuncData
  f_law : Addr
  fd_law : FuncData
def F3 : List Str := ["closed", "amid", "starved"]
/-- the class of that fault's error -/
def cX (A : Ad) (u : Str) : Addr := if u = "closed" then A.cCl else if u = "amid" then A.cAm else A.cSt
structure Txt (P : Program) (K : PySem.W.Frag) (mg : Str → Option Value) (A : Ad) : Prop where
  x_Amid : ExTxt P K mg "Amid" ["half"] A.cAm A.iAm
  x_Closed : ExTxt P K mg "Closed" ["number"] A.cCl A.iCl
  x_Starved : ExTxt P K mg "Starved" ["number"] A.cSt A.iSt
  mO : mg "OwedError" = some (.ref A.cO)
  m_Line : mg "Line" = some (.ref A.c_Line)
  cl : Cls K A.c_Line
  nsq : PySem.W.noSeq K A.c_Line = true
  Mk_Line : Mk K A.c_Line A.f_Line_init
  n_number : NoAttr K A.c_Line "number"
  n_cause : NoAttr K A.c_Line "cause"
  n_state : NoAttr K A.c_Line "state"
  n_queue : NoAttr K A.c_Line "queue"
  n_sending : NoAttr K A.c_Line "sending"
  n_is_lent : NoAttr K A.c_Line "is_lent"
  P_mark : PropOf K A.c_Line "mark" A.p_mark A.f_Line_mark
  P_open : PropOf K A.c_Line "is_open" A.p_open A.f_Line_is_open
  P_clean : PropOf K A.c_Line "is_clean" A.p_clean A.f_Line_is_clean
  P_owed : PropOf K A.c_Line "owed" A.p_owed A.f_Line_owed
  F_Line_mark : Fun K "mark" "Line.mark" s_Line_mark A.f_Line_mark A.fd_Line_mark
  b_Line_mark : Binds K A.fd_Line_mark ["self"] []
  F_Line_is_open : Fun K "is_open" "Line.is_open" s_Line_is_open A.f_Line_is_open A.fd_Line_is_open
  b_Line_is_open : Binds K A.fd_Line_is_open ["self"] []
  F_Line_is_clean : Fun K "is_clean" "Line.is_clean" s_Line_is_clean A.f_Line_is_clean A.fd_Line_is_clean
  b_Line_is_clean : Binds K A.fd_Line_is_clean ["self"] []
  F_Line_owed : Fun K "owed" "Line.owed" s_Line_owed A.f_Line_owed A.fd_Line_owed
  b_Line_owed : Binds K A.fd_Line_owed ["self"] []
  m_LW : mg "LINE_WORDS" = some (.ref A.a_LW)
  q_LW : ∀ H, SqT K H A.a_LW (LW.map V.str)
  F_Line_init : FunD K "__init__" "Line.__init__" (defArgs s_Line_init) (defBody s_Line_init) (defScope s_Line_init) [.int 0] [] A.f_Line_init A.fd_Line_init
  F_Line_close : FunD K "close" "Line.close" (defArgs s_Line_close) (defBody s_Line_close) (defScope s_Line_close) [.non] [] A.f_Line_close A.fd_Line_close
  M_Line_close : Meth K A.c_Line "close" A.f_Line_close
  F_Line_ask : Fun K "ask" "Line.ask" s_Line_ask A.f_Line_ask A.fd_Line_ask
  M_Line_ask : Meth K A.c_Line "ask" A.f_Line_ask
  F_Line_len : Fun K "__len__" "Line.__len__" s_Line_len A.f_Line_len A.fd_Line_len
  S_Line_len : Spc K A.c_Line "__len__" A.f_Line_len
  b_Line_len : Binds K A.fd_Line_len ["self"] []
  F_Line_contains : Fun K "__contains__" "Line.__contains__" s_Line_contains A.f_Line_contains A.fd_Line_contains
  S_Line_contains : Spc K A.c_Line "__contains__" A.f_Line_contains
  b_Line_contains : Binds K A.fd_Line_contains ["self", "tag"] []
  F_Line_need : Fun K "need" "Line.need" s_Line_need A.f_Line_need A.fd_Line_need
  M_Line_need : Meth K A.c_Line "need" A.f_Line_need
  b_Line_need : Binds K A.fd_Line_need ["self", "word", "owed"] []
  F_Line_begin : Fun K "begin" "Line.begin" s_Line_begin A.f_Line_begin A.fd_Line_begin
  M_Line_begin : Meth K A.c_Line "begin" A.f_Line_begin
  b_Line_begin : Binds K A.fd_Line_begin ["self", "tag"] []
  F_Line_finish : Fun K "finish" "Line.finish" s_Line_finish A.f_Line_finish A.fd_Line_finish
  M_Line_finish : Meth K A.c_Line "finish" A.f_Line_finish
  b_Line_finish : Binds K A.fd_Line_finish ["self"] []
  F_Line_read : Fun K "read" "Line.read" s_Line_read A.f_Line_read A.fd_Line_read
  M_Line_read : Meth K A.c_Line "read" A.f_Line_read
  b_Line_read : Binds K A.fd_Line_read ["self"] []
  F_Line_head : Fun K "head" "Line.head" s_Line_head A.f_Line_head A.fd_Line_head
  M_Line_head : Meth K A.c_Line "head" A.f_Line_head
  b_Line_head : Binds K A.fd_Line_head ["self"] []
  F_Line_body : Fun K "body" "Line.body" s_Line_body A.f_Line_body A.fd_Line_body
  M_Line_body : Meth K A.c_Line "body" A.f_Line_body
  b_Line_body : Binds K A.fd_Line_body ["self"] []
  F_Line_drain : Fun K "drain" "Line.drain" s_Line_drain A.f_Line_drain A.fd_Line_drain
  M_Line_drain : Meth K A.c_Line "drain" A.f_Line_drain
  b_Line_drain : Binds K A.fd_Line_drain ["self"] []
  F_Line_tags : Fun K "tags" "Line.tags" s_Line_tags A.f_Line_tags A.fd_Line_tags
  M_Line_tags : Meth K A.c_Line "tags" A.f_Line_tags
  b_Line_tags : Binds K A.fd_Line_tags ["self"] []
  F_Line_answers : Fun K "answers" "Line.answers" s_Line_answers A.f_Line_answers A.fd_Line_answers
  M_Line_answers : Meth K A.c_Line "answers" A.f_Line_answers
  b_Line_answers : Binds K A.fd_Line_answers ["self"] []
  F_is_out : Fun K "is_out" "is_out" s_is_out A.f_is_out A.fd_is_out
  m_is_out : mg "is_out" = some (.ref A.f_is_out)
  b_is_out : Binds K A.fd_is_out ["mark"] []
  F_is_in : Fun K "is_in" "is_in" s_is_in A.f_is_in A.fd_is_in
  m_is_in : mg "is_in" = some (.ref A.f_is_in)
  b_is_in : Binds K A.fd_is_in ["mark"] []
  F_mark_of : Fun K "mark_of" "mark_of" s_mark_of A.f_mark_of A.fd_mark_of
  m_mark_of : mg "mark_of" = some (.ref A.f_mark_of)
  b_mark_of : Binds K A.fd_mark_of ["sending", "reading"] []
  F_is_amid : Fun K "is_amid" "is_amid" s_is_amid A.f_is_amid A.fd_is_amid
  m_is_amid : mg "is_amid" = some (.ref A.f_is_amid)
  b_is_amid : Binds K A.fd_is_amid ["word", "mark"] []
  F_row_fault : Fun K "row_fault" "row_fault" s_row_fault A.f_row_fault A.fd_row_fault
  m_row_fault : mg "row_fault" = some (.ref A.f_row_fault)
  b_row_fault : Binds K A.fd_row_fault ["word", "mark", "owed"] []
  F_mark_after : Fun K "mark_after" "mark_after" s_mark_after A.f_mark_after A.fd_mark_after
  m_mark_after : mg "mark_after" = some (.ref A.f_mark_after)
  b_mark_after : Binds K A.fd_mark_after ["word", "mark"] []

  exO : ∀ u ∈ F3, PySem.W.exmOne K (.ref (cX A u)) (.ref A.cO) = some true
  exX : ∀ u ∈ F3, ∀ v ∈ F3, PySem.W.exmOne K (.ref (cX A u)) (.ref (cX A v)) = some (decide (u = v))
  kiX : ∀ u ∈ F3, ∀ v ∈ F3, PySem.W.kitOne K (.ref (cX A u)) (.ref (cX A v)) = some (decide (u = v))
  kiV : ∀ u ∈ F3, PySem.W.kitOne K (.ref (cX A u)) (.type "ValueError") = some true
  isX : ∀ u ∈ F3, ExIs K (cX A u)
  nsX : ∀ u ∈ F3, PySem.W.subIn K (.ref (cX A u)) (.type "StopIteration") = some false
  F_source : Fun K "_law_source" "_law_source" s_source A.f_source A.fd_source
  m_source : mg "_law_source" = some (.ref A.f_source)
  b_source : Binds K A.fd_source ["_law_script", "_law_place"] []
  F_draw : Fun K "_law_draw" "_law_draw" s_draw A.f_draw A.fd_draw
  m_draw : mg "_law_draw" = some (.ref A.f_draw)
  b_draw : Binds K A.fd_draw ["_law_source_here", "_law_many"] []
  F_same : Fun K "_law_same" "_law_same" s_same A.f_same A.fd_same
  m_same : mg "_law_same" = some (.ref A.f_same)
  b_same : Binds K A.fd_same ["_law_actual", "_law_due"] []
  F_some : Fun K "_law_some" "_law_some" s_some A.f_some A.fd_some
  m_some : mg "_law_some" = some (.ref A.f_some)
  b_some : Binds K A.fd_some ["_law_line", "_law_most"] []
  F_refused : Fun K "_law_refused" "_law_refused" s_refused A.f_refused A.fd_refused
  m_refused : mg "_law_refused" = some (.ref A.f_refused)
  b_refused : Binds K A.fd_refused ["_law_line"] []
  F_holds : Fun K "_law_holds" "_law_holds" s_holds A.f_holds A.fd_holds
  m_holds : mg "_law_holds" = some (.ref A.f_holds)
  b_holds : Binds K A.fd_holds ["_law_source_here"] []
  F_law : Fun K "law" "law" s_law A.f_law A.fd_law
  m_law : mg "law" = some (.ref A.f_law)
  b_law : Binds K A.fd_law ["_law_script"] []
  z_len : mg "len" = none
  z_abs : mg "abs" = none
  z_int : mg "int" = none
  z_range : mg "range" = none
  z_min : mg "min" = none
  z_max : mg "max" = none
  z_isinstance : mg "isinstance" = none
  z_zip : mg "zip" = none
  z_all : mg "all" = none
  z_tuple : mg "tuple" = none
  z_list : mg "list" = none
  z_bool : mg "bool" = none
  z_str : mg "str" = none
  z_ValueError : mg "ValueError" = none
/-! promises of the marks and of a line -/
def isOut (m : Str) : Bool := decide (m = "out") || decide (m = "both")
def isIn (m : Str) : Bool := decide (m = "in") || decide (m = "both")
def markOf (a b : Bool) : Str := if a && b then "both" else if a then "out" else if b then "in" else "whole"
def amid (w m : Str) : Bool := if decide (w = "ask") || decide (w = "begin") then isOut m else if w = "finish" then !isOut m else if decide (w = "read") || decide (w = "head") then isIn m else if w = "body" then !isIn m else false
def fault (w m : Str) (n : Int) : Option Str := if w ∉ LW then none else if m = "closed" then some "closed" else if amid w m then some "amid" else if (decide (w = "read") || decide (w = "head")) && decide (n < 1) then some "starved" else none
def after (w m : Str) : Str := if decide (m = "closed") || decide (w = "close") then "closed" else if w = "begin" then markOf true (isIn m) else if w = "finish" then markOf false (isIn m) else if w = "head" then markOf (isOut m) true else if decide (w = "body") || decide (w = "drain") then markOf (isOut m) false else m
def optS : Option Str → V
  | none => .non
  | some u => .str u
def spMk (g : Str → Bool) : Sp := fun vs H Q _ => ∃ m, vs = [.str m] ∧ ∀ H', Same H H' → Q (.bl (g m)) H'
def spMarkOf : Sp := fun vs H Q _ => ∃ a b, vs = [.bl a, .bl b] ∧ ∀ H', Same H H' → Q (.str (markOf a b)) H'
def spAmid : Sp := fun vs H Q _ => ∃ w m, vs = [.str w, .str m] ∧ ∀ H', Same H H' → Q (.bl (amid w m)) H'
def spFault : Sp := fun vs H Q _ => ∃ w m n, vs = [.str w, .str m, .int n] ∧ ∀ H', Same H H' → Q (optS (fault w m n)) H'
def spAfter : Sp := fun vs H Q _ => ∃ w m, vs = [.str w, .str m] ∧ ∀ H', Same H H' → Q (.str (after w m)) H'
def lineF (n c : V) (m : Str) (q : Addr) (sd : V) (lt : Bool) : List (Str × V) := [("number", n), ("cause", c), ("state", .str m), ("queue", .ref q), ("sending", sd), ("is_lent", .bl lt)]
/-- the line at x: number, cause, mark, its queue's list, what is owed, what is being sent, lent -/
def LineAt (A : Ad) (H : Hp) (x : Addr) (n c : V) (m : Str) (q : Addr) (ts : List V) (sd : V) (lt : Bool) : Prop := ∃ dx, H x = some (.ins A.c_Line dx (lineF n c m q sd lt)) ∧ H q = some (.lst ts)
def But2 (x q : Addr) (H H' : Hp) : Prop := ∀ b o, b ≠ x → b ≠ q → H b = some o → H' b = some o
/-- the error of that fault goes out -/
def Rai (H : Hp) (E : XK) (cls : Addr) (f : Str) (v : V) : Prop := ∀ d H', H d = none → Same H H' → H' d = some (.xd [(f, v)]) → E (.ref cls) (some d) H'
def RaiF (A : Ad) (H : Hp) (E : XK) (u : Str) (n : V) (m : Str) : Prop := if u = "closed" then Rai H E A.cCl "number" n else if u = "amid" then Rai H E A.cAm "half" (.str m) else Rai H E A.cSt "number" n
def spNeed (A : Ad) : Sp := fun vs H Q E => ∃ (x : Addr) (w : Str) (k : Int) (n c : V) (m : Str) (q : Addr) (ts : List V) (sd : V) (lt : Bool), vs = [.ref x, .str w, .int k] ∧ LineAt A H x n c m q ts sd lt ∧ (fault w m k = none → ∀ H', Same H H' → Q .non H') ∧ ∀ u, fault w m k = some u → RaiF A H E u n m

end K33
end
section
set_option Elab.async false
set_option autoImplicit false
set_option linter.all false
set_option maxRecDepth 100000
set_option maxHeartbeats 4000000
namespace K33
open PySem PySem.Spec PyProof.Rows L2 PySem.OxE LawC GenW
theorem isOut_orV {m : Str} : (decide (m = "out") || decide (m = "both")) = isOut m := rfl
section
variable {P : Program} {w : World} {K : PySem.W.Frag} {mg : Str → Option Value} {base : Heap} {A0 : Ad}
theorem ok_is_out (T : Txt P K mg A0) : FnOk P w K mg base CX0 1 A0.f_is_out A0.fd_is_out ["mark"] (spMk isOut) := by
  refine T.F_is_out.ok sc_is_out (fun vs H Q E h => ?_) (fun cdv A outer s H vs Q E hr h => ?_)
  · obtain ⟨m, rfl, _⟩ := h
    rfl
  · obtain ⟨m, rfl, k⟩ := h
    refine ⟨_, (pss_one (ps_ret (pe_or (pe_cmpR op_eq (pv 0) pe_str (nomark _)) (pe_one (pe_cmpR op_eq (pv 0) pe_str (nomark _)))))), ?_⟩
    exact Evl.s_ret (v := .bl (isOut m)) (Evl.ev_orV (Evl.ev_is (Evl.ev_op (Evl.ev_var rfl) Evl.ev_c (Evl.rv_eq rfl)) (by simp)) fun _ => Evl.ev_is (Evl.ev_op (Evl.ev_var rfl) Evl.ev_c (Evl.rv_eq rfl)) (by simp)) fun H1 e1 => k H1 e1
theorem ok_is_in (T : Txt P K mg A0) : FnOk P w K mg base CX0 1 A0.f_is_in A0.fd_is_in ["mark"] (spMk isIn) := by
  refine T.F_is_in.ok sc_is_in (fun vs H Q E h => ?_) (fun cdv A outer s H vs Q E hr h => ?_)
  · obtain ⟨m, rfl, _⟩ := h
    rfl
  · obtain ⟨m, rfl, k⟩ := h
    refine ⟨_, (pss_one (ps_ret (pe_or (pe_cmpR op_eq (pv 0) pe_str (nomark _)) (pe_one (pe_cmpR op_eq (pv 0) pe_str (nomark _)))))), ?_⟩
    exact Evl.s_ret (v := .bl (isIn m)) (Evl.ev_orV (Evl.ev_is (Evl.ev_op (Evl.ev_var rfl) Evl.ev_c (Evl.rv_eq rfl)) (by simp)) fun _ => Evl.ev_is (Evl.ev_op (Evl.ev_var rfl) Evl.ev_c (Evl.rv_eq rfl)) (by simp)) fun H1 e1 => k H1 e1
theorem ok_mark_of (T : Txt P K mg A0) : FnOk P w K mg base CX0 1 A0.f_mark_of A0.fd_mark_of ["sending", "reading"] spMarkOf := by
  refine T.F_mark_of.ok sc_mark_of (fun vs H Q E h => ?_) (fun cdv A outer s H vs Q E hr h => ?_)
  · obtain ⟨a, b, rfl, _⟩ := h
    rfl
  · obtain ⟨a, b, rfl, k⟩ := h
    refine ⟨_, (pss_cons (ps_if (PW.pt (pw_and (pt_val (pv 0)) (pw_and1 (pt_val (pv 1)))))
 (pss_one (ps_ret pe_str))
 pss_nil)
 (pss_cons (ps_if (pt_val (pv 0))
 (pss_one (ps_ret pe_str))
 pss_nil)
 (pss_one (ps_ret (pe_ifExp (pt_val (pv 1)) pe_str pe_str))))), ?_⟩
    refine Evl.q_when (b := a && b) (Evl.et_and (Evl.et_B (Evl.ev_var rfl)) fun _ => Evl.et_B (Evl.ev_var rfl)) (fun h H1 e1 => ?_) (fun h H1 e1 => ?_)
    · exact Evl.s_ret Evl.ev_c fun H2 e2 => by
        have := k H2 (Same.trans e1 e2)
        rw [show markOf a b = "both" from if_pos h] at this
        exact this
    · refine Evl.q_when (b := a) (Evl.et_B (Evl.ev_var rfl)) (fun h1 H2 e2 => ?_) (fun h1 H2 e2 => ?_)
      · exact Evl.s_ret Evl.ev_c fun H3 e3 => by
          have := k H3 (Same.trans (Same.trans e1 e2) e3)
          rw [show markOf a b = "out" by unfold markOf; rw [if_neg (by simp [h]), if_pos h1]] at this
          exact this
      · refine Evl.s_ret (v := .str (if b = true then ("in" : Str) else ("whole" : Str))) (Evl.ev_if (b := b) (Evl.et_B (Evl.ev_var rfl)) (fun h2 => by rw [if_pos h2]; exact Evl.ev_c) (fun h2 => by rw [if_neg (by simp [h2])]; exact Evl.ev_c)) fun H3 e3 => ?_
        have := k H3 (Same.trans (Same.trans e1 e2) e3)
        rw [show markOf a b = (if b = true then ("in" : Str) else ("whole" : Str)) by unfold markOf; rw [if_neg (by simp [h]), if_neg (by simp [h1])]] at this
        exact this
theorem sv_mk {g : Str → Bool} {m : Str} {H : Hp} : Evl.SpV (spMk g) [.str m] H (.bl (g m)) := fun H1 e1 Q q E => ⟨m, rfl, fun H2 e2 => q H2 e2⟩
theorem ok_is_amid (T : Txt P K mg A0) : FnOk P w K mg base CX0 2 A0.f_is_amid A0.fd_is_amid ["word", "mark"] spAmid := by
  have G_is_out : FnOk P w K mg base CX0 1 A0.f_is_out A0.fd_is_out ["mark"] (spMk isOut) := ok_is_out T
  have G_is_in : FnOk P w K mg base CX0 1 A0.f_is_in A0.fd_is_in ["mark"] (spMk isIn) := ok_is_in T
  refine T.F_is_amid.ok sc_is_amid (fun vs H Q E h => ?_) (fun cdv A outer s H vs Q E hr h => ?_)
  · obtain ⟨w, m, rfl, _⟩ := h
    rfl
  · obtain ⟨wd, m, rfl, k⟩ := h
    refine ⟨_, (pss_cons (ps_if (PW.pt (pw_or (pt_cmpR op_eq (pv 0) pe_str (nomark _)) (pw_or1 (pt_cmpR op_eq (pv 0) pe_str (nomark _)))))
 (pss_one (ps_ret (pe_call G_is_out (hr.mono (by decide)) rfl T.m_is_out T.F_is_out.kp T.b_is_out .nil pass0 (pa_cons (pv 1) pa_nil))))
 pss_nil)
 (pss_cons (ps_if (pt_cmpR op_eq (pv 0) pe_str (nomark _))
 (pss_one (ps_ret (pe_not (pe_call G_is_out (hr.mono (by decide)) rfl T.m_is_out T.F_is_out.kp T.b_is_out .nil pass0 (pa_cons (pv 1) pa_nil)))))
 pss_nil)
 (pss_cons (ps_if (PW.pt (pw_or (pt_cmpR op_eq (pv 0) pe_str (nomark _)) (pw_or1 (pt_cmpR op_eq (pv 0) pe_str (nomark _)))))
 (pss_one (ps_ret (pe_call G_is_in (hr.mono (by decide)) rfl T.m_is_in T.F_is_in.kp T.b_is_in .nil pass0 (pa_cons (pv 1) pa_nil))))
 pss_nil)
 (pss_cons (ps_if (pt_cmpR op_eq (pv 0) pe_str (nomark _))
 (pss_one (ps_ret (pe_not (pe_call G_is_in (hr.mono (by decide)) rfl T.m_is_in T.F_is_in.kp T.b_is_in .nil pass0 (pa_cons (pv 1) pa_nil)))))
 pss_nil)
 (pss_one (ps_ret pe_bl)))))), ?_⟩
    have eo : ∀ H1, Evl.Ev (tCall (spMk isOut) [] E0 (tCons (tVar 1) tNil)) [some (.str wd), some (.str m)] H1 (.bl (isOut m)) := fun H1 => Evl.ev_call (vs := [.str m]) (Evl.ea_cons (Evl.ev_var rfl) Evl.ea_nil) sv_mk
    have ei : ∀ H1, Evl.Ev (tCall (spMk isIn) [] E0 (tCons (tVar 1) tNil)) [some (.str wd), some (.str m)] H1 (.bl (isIn m)) := fun H1 => Evl.ev_call (vs := [.str m]) (Evl.ea_cons (Evl.ev_var rfl) Evl.ea_nil) sv_mk
    refine Evl.q_when (b := decide (wd = "ask") || decide (wd = "begin")) (Evl.et_or (Evl.et_test (Evl.ev_is (Evl.ev_op (Evl.ev_var rfl) Evl.ev_c (Evl.rv_eq rfl)) (by simp))) fun _ => Evl.et_test (Evl.ev_is (Evl.ev_op (Evl.ev_var rfl) Evl.ev_c (Evl.rv_eq rfl)) (by simp))) (fun h H1 e1 => ?_) (fun h H1 e1 => ?_)
    · exact Evl.s_ret (eo H1) fun H2 e2 => by
        have := k H2 (Same.trans e1 e2)
        rw [show amid wd m = isOut m from if_pos h] at this
        exact this
    · refine Evl.q_when (b := decide (wd = "finish")) (Evl.et_test (Evl.ev_is (Evl.ev_op (Evl.ev_var rfl) Evl.ev_c (Evl.rv_eq rfl)) (by simp))) (fun h1 H2 e2 => ?_) (fun h1 H2 e2 => ?_)
      · refine Evl.s_ret (Evl.ev_notV (eo H2)) fun H3 e3 => ?_
        have := k H3 (Same.trans (Same.trans e1 e2) e3)
        rw [show amid wd m = !isOut m by unfold amid; rw [if_neg (by simp [h]), if_pos (of_decide_eq_true h1)]] at this
        exact this
      · refine Evl.q_when (b := decide (wd = "read") || decide (wd = "head")) (Evl.et_or (Evl.et_test (Evl.ev_is (Evl.ev_op (Evl.ev_var rfl) Evl.ev_c (Evl.rv_eq rfl)) (by simp))) fun _ => Evl.et_test (Evl.ev_is (Evl.ev_op (Evl.ev_var rfl) Evl.ev_c (Evl.rv_eq rfl)) (by simp))) (fun h2 H3 e3 => ?_) (fun h2 H3 e3 => ?_)
        · exact Evl.s_ret (ei H3) fun H4 e4 => by
            have := k H4 (Same.trans (Same.trans (Same.trans e1 e2) e3) e4)
            rw [show amid wd m = isIn m by unfold amid; rw [if_neg (by simp [h]), if_neg (of_decide_eq_false h1), if_pos h2]] at this
            exact this
        · refine Evl.q_when (b := decide (wd = "body")) (Evl.et_test (Evl.ev_is (Evl.ev_op (Evl.ev_var rfl) Evl.ev_c (Evl.rv_eq rfl)) (by simp))) (fun h3 H4 e4 => ?_) (fun h3 H4 e4 => ?_)
          · refine Evl.s_ret (Evl.ev_notV (ei H4)) fun H5 e5 => ?_
            have := k H5 (Same.trans (Same.trans (Same.trans (Same.trans e1 e2) e3) e4) e5)
            rw [show amid wd m = !isIn m by unfold amid; rw [if_neg (by simp [h]), if_neg (of_decide_eq_false h1), if_neg (by simp [h2]), if_pos (of_decide_eq_true h3)]] at this
            exact this
          · refine Evl.s_ret Evl.ev_c fun H5 e5 => ?_
            have := k H5 (Same.trans (Same.trans (Same.trans (Same.trans e1 e2) e3) e4) e5)
            rw [show amid wd m = false by unfold amid; rw [if_neg (by simp [h]), if_neg (of_decide_eq_false h1), if_neg (by simp [h2]), if_neg (of_decide_eq_false h3)]] at this
            exact this
theorem ok_row_fault (T : Txt P K mg A0) : FnOk P w K mg base CX0 3 A0.f_row_fault A0.fd_row_fault ["word", "mark", "owed"] spFault := by
  have G_is_amid : FnOk P w K mg base CX0 2 A0.f_is_amid A0.fd_is_amid ["word", "mark"] spAmid := ok_is_amid T
  refine T.F_row_fault.ok sc_row_fault (fun vs H Q E h => ?_) (fun cdv A outer s H vs Q E hr h => ?_)
  · obtain ⟨w, m, n, rfl, _⟩ := h
    rfl
  · obtain ⟨wd, m, n, rfl, k⟩ := h
    refine ⟨_, (pss_cons (ps_if (pt_cmpR op_notIn_seq (pv 0) (pe_glob (v := .ref _) rfl T.m_LW rfl) (by first | rfl | with_unfolding_all rfl))
 (pss_one (ps_ret pe_non))
 pss_nil)
 (pss_cons (ps_if (pt_cmpR op_eq (pv 1) pe_str (nomark _))
 (pss_one (ps_ret pe_str))
 pss_nil)
 (pss_cons (ps_if (pt_val (pe_call G_is_amid (hr.mono (by decide)) rfl T.m_is_amid T.F_is_amid.kp T.b_is_amid .nil pass0 (pa_cons (pv 0) (pa_cons (pv 1) pa_nil))))
 (pss_one (ps_ret pe_str))
 pss_nil)
 (pss_cons (ps_if (PW.pt (pw_and (PW.pt (pw_or (pt_cmpR op_eq (pv 0) pe_str (nomark _)) (pw_or1 (pt_cmpR op_eq (pv 0) pe_str (nomark _))))) (pw_and1 (pt_cmpR op_lt (pv 2) pe_int (nomark _)))))
 (pss_one (ps_ret pe_str))
 pss_nil)
 (pss_one (ps_ret pe_non)))))), ?_⟩
    refine Evl.q_when (b := !decide (wd ∈ LW)) (Evl.et_test (Evl.ev_is (Evl.ev_op (Evl.ev_var (v := .str wd) rfl) Evl.ev_c (Evl.rv_niT (T.q_LW _) rfl flat_strs)) (by rw [inV_str]))) (fun h H1 e1 => ?_) (fun h H1 e1 => ?_)
    · refine Evl.s_ret Evl.ev_c fun H2 e2 => ?_
      have := k H2 (Same.trans e1 e2)
      rw [show fault wd m n = none from if_pos (by simpa using h)] at this
      exact this
    · have hw : ¬ wd ∉ LW := by simpa using h
      refine Evl.q_when (b := decide (m = "closed")) (Evl.et_test (Evl.ev_is (Evl.ev_op (Evl.ev_var rfl) Evl.ev_c (Evl.rv_eq rfl)) (by simp))) (fun h1 H2 e2 => ?_) (fun h1 H2 e2 => ?_)
      · refine Evl.s_ret Evl.ev_c fun H3 e3 => ?_
        have := k H3 (Same.trans (Same.trans e1 e2) e3)
        rw [show fault wd m n = some ("closed" : Str) by unfold fault; rw [if_neg hw, if_pos (of_decide_eq_true h1)]] at this
        exact this
      · refine Evl.q_when (b := amid wd m) (Evl.et_B (Evl.ev_call (vs := [.str wd, .str m]) (Evl.ea_cons (Evl.ev_var rfl) (Evl.ea_cons (Evl.ev_var rfl) Evl.ea_nil)) fun H5 e5 Q q E => ⟨wd, m, rfl, fun H6 e6 => q H6 e6⟩)) (fun h2 H3 e3 => ?_) (fun h2 H3 e3 => ?_)
        · refine Evl.s_ret Evl.ev_c fun H4 e4 => ?_
          have := k H4 (Same.trans (Same.trans (Same.trans e1 e2) e3) e4)
          rw [show fault wd m n = some ("amid" : Str) by unfold fault; rw [if_neg hw, if_neg (of_decide_eq_false h1), if_pos h2]] at this
          exact this
        · refine Evl.q_when (b := (decide (wd = "read") || decide (wd = "head")) && decide (n < 1)) (Evl.et_and (Evl.et_or (Evl.et_test (Evl.ev_is (Evl.ev_op (Evl.ev_var rfl) Evl.ev_c (Evl.rv_eq rfl)) (by simp))) fun _ => Evl.et_test (Evl.ev_is (Evl.ev_op (Evl.ev_var rfl) Evl.ev_c (Evl.rv_eq rfl)) (by simp))) fun _ => Evl.et_test (Evl.ev_op (Evl.ev_var rfl) Evl.ev_c Evl.rv_I0)) (fun h3 H4 e4 => ?_) (fun h3 H4 e4 => ?_)
          · refine Evl.s_ret Evl.ev_c fun H5 e5 => ?_
            have := k H5 (Same.trans (Same.trans (Same.trans (Same.trans e1 e2) e3) e4) e5)
            rw [show fault wd m n = some ("starved" : Str) by unfold fault; rw [if_neg hw, if_neg (of_decide_eq_false h1), if_neg (by simp [h2]), if_pos h3]] at this
            exact this
          · refine Evl.s_ret Evl.ev_c fun H5 e5 => ?_
            have := k H5 (Same.trans (Same.trans (Same.trans (Same.trans e1 e2) e3) e4) e5)
            rw [show fault wd m n = none by unfold fault; rw [if_neg hw, if_neg (of_decide_eq_false h1), if_neg (by simp [h2]), if_neg (by simp [h3])]] at this
            exact this
theorem ok_mark_after (T : Txt P K mg A0) : FnOk P w K mg base CX0 2 A0.f_mark_after A0.fd_mark_after ["word", "mark"] spAfter := by
  have G_is_out : FnOk P w K mg base CX0 1 A0.f_is_out A0.fd_is_out ["mark"] (spMk isOut) := ok_is_out T
  have G_is_in : FnOk P w K mg base CX0 1 A0.f_is_in A0.fd_is_in ["mark"] (spMk isIn) := ok_is_in T
  have G_mark_of : FnOk P w K mg base CX0 1 A0.f_mark_of A0.fd_mark_of ["sending", "reading"] spMarkOf := ok_mark_of T
  refine T.F_mark_after.ok sc_mark_after (fun vs H Q E h => ?_) (fun cdv A outer s H vs Q E hr h => ?_)
  · obtain ⟨w, m, rfl, _⟩ := h
    rfl
  · obtain ⟨wd, m, rfl, k⟩ := h
    refine ⟨_, (pss_cons (ps_if (PW.pt (pw_or (pt_cmpR op_eq (pv 1) pe_str (nomark _)) (pw_or1 (pt_cmpR op_eq (pv 0) pe_str (nomark _)))))
 (pss_one (ps_ret pe_str))
 pss_nil)
 (pss_cons (ps_if (pt_cmpR op_eq (pv 0) pe_str (nomark _))
 (pss_one (ps_ret (pe_call G_mark_of (hr.mono (by decide)) rfl T.m_mark_of T.F_mark_of.kp T.b_mark_of .nil pass0 (pa_cons pe_bl (pa_cons (pe_call G_is_in (hr.mono (by decide)) rfl T.m_is_in T.F_is_in.kp T.b_is_in .nil pass0 (pa_cons (pv 1) pa_nil)) pa_nil)))))
 pss_nil)
 (pss_cons (ps_if (pt_cmpR op_eq (pv 0) pe_str (nomark _))
 (pss_one (ps_ret (pe_call G_mark_of (hr.mono (by decide)) rfl T.m_mark_of T.F_mark_of.kp T.b_mark_of .nil pass0 (pa_cons pe_bl (pa_cons (pe_call G_is_in (hr.mono (by decide)) rfl T.m_is_in T.F_is_in.kp T.b_is_in .nil pass0 (pa_cons (pv 1) pa_nil)) pa_nil)))))
 pss_nil)
 (pss_cons (ps_if (pt_cmpR op_eq (pv 0) pe_str (nomark _))
 (pss_one (ps_ret (pe_call G_mark_of (hr.mono (by decide)) rfl T.m_mark_of T.F_mark_of.kp T.b_mark_of .nil pass0 (pa_cons (pe_call G_is_out (hr.mono (by decide)) rfl T.m_is_out T.F_is_out.kp T.b_is_out .nil pass0 (pa_cons (pv 1) pa_nil)) (pa_cons pe_bl pa_nil)))))
 pss_nil)
 (pss_cons (ps_if (PW.pt (pw_or (pt_cmpR op_eq (pv 0) pe_str (nomark _)) (pw_or1 (pt_cmpR op_eq (pv 0) pe_str (nomark _)))))
 (pss_one (ps_ret (pe_call G_mark_of (hr.mono (by decide)) rfl T.m_mark_of T.F_mark_of.kp T.b_mark_of .nil pass0 (pa_cons (pe_call G_is_out (hr.mono (by decide)) rfl T.m_is_out T.F_is_out.kp T.b_is_out .nil pass0 (pa_cons (pv 1) pa_nil)) (pa_cons pe_bl pa_nil)))))
 pss_nil)
 (pss_one (ps_ret (pv 1)))))))), ?_⟩
    have eo : ∀ H1, Evl.Ev (tCall (spMk isOut) [] E0 (tCons (tVar 1) tNil)) [some (.str wd), some (.str m)] H1 (.bl (isOut m)) := fun H1 => Evl.ev_call (vs := [.str m]) (Evl.ea_cons (Evl.ev_var rfl) Evl.ea_nil) sv_mk
    have ei : ∀ H1, Evl.Ev (tCall (spMk isIn) [] E0 (tCons (tVar 1) tNil)) [some (.str wd), some (.str m)] H1 (.bl (isIn m)) := fun H1 => Evl.ev_call (vs := [.str m]) (Evl.ea_cons (Evl.ev_var rfl) Evl.ea_nil) sv_mk
    have em : ∀ {ta tb : TE} {H1 : Hp} (a b : Bool), (∀ H2, Evl.Ev ta [some (.str wd), some (.str m)] H2 (.bl a)) → (∀ H2, Evl.Ev tb [some (.str wd), some (.str m)] H2 (.bl b)) → Evl.Ev (tCall spMarkOf [] E0 (tCons ta (tCons tb tNil))) [some (.str wd), some (.str m)] H1 (.str (markOf a b)) := fun a b ha hb =>
      Evl.ev_call (vs := [.bl a, .bl b]) (Evl.ea_cons (ha _) (Evl.ea_cons (hb _) Evl.ea_nil)) fun H5 e5 Q q E => ⟨a, b, rfl, fun H6 e6 => q H6 e6⟩
    have ew : ∀ (u : Str) H1, Evl.EvT (tTest (tOp _ (tVar 0) (tC (.str u)))) [some (.str wd), some (.str m)] H1 (decide (wd = u)) := fun u H1 => Evl.et_test (Evl.ev_is (Evl.ev_op (Evl.ev_var rfl) Evl.ev_c (Evl.rv_eq rfl)) (by simp))
    refine Evl.q_when (b := decide (m = "closed") || decide (wd = "close")) (Evl.et_or (Evl.et_test (Evl.ev_is (Evl.ev_op (Evl.ev_var rfl) Evl.ev_c (Evl.rv_eq rfl)) (by simp))) fun _ => ew _ _) (fun h H1 e1 => ?_) (fun h H1 e1 => ?_)
    · refine Evl.s_ret Evl.ev_c fun H2 e2 => ?_
      have := k H2 (Same.trans e1 e2)
      rw [show after wd m = "closed" from if_pos h] at this
      exact this
    · have h' : ¬ (decide (m = "closed") || decide (wd = "close")) = true := by simp [h]
      refine Evl.q_when (b := decide (wd = "begin")) (ew _ _) (fun h1 H2 e2 => ?_) (fun h1 H2 e2 => ?_)
      · refine Evl.s_ret (em true (isIn m) (fun _ => Evl.ev_c) ei) fun H3 e3 => ?_
        have := k H3 (Same.trans (Same.trans e1 e2) e3)
        rw [show after wd m = markOf true (isIn m) by unfold after; rw [if_neg h', if_pos (of_decide_eq_true h1)]] at this
        exact this
      · refine Evl.q_when (b := decide (wd = "finish")) (ew _ _) (fun h2 H3 e3 => ?_) (fun h2 H3 e3 => ?_)
        · refine Evl.s_ret (em false (isIn m) (fun _ => Evl.ev_c) ei) fun H4 e4 => ?_
          have := k H4 (Same.trans (Same.trans (Same.trans e1 e2) e3) e4)
          rw [show after wd m = markOf false (isIn m) by unfold after; rw [if_neg h', if_neg (of_decide_eq_false h1), if_pos (of_decide_eq_true h2)]] at this
          exact this
        · refine Evl.q_when (b := decide (wd = "head")) (ew _ _) (fun h3 H4 e4 => ?_) (fun h3 H4 e4 => ?_)
          · refine Evl.s_ret (em (isOut m) true eo (fun _ => Evl.ev_c)) fun H5 e5 => ?_
            have := k H5 (Same.trans (Same.trans (Same.trans (Same.trans e1 e2) e3) e4) e5)
            rw [show after wd m = markOf (isOut m) true by unfold after; rw [if_neg h', if_neg (of_decide_eq_false h1), if_neg (of_decide_eq_false h2), if_pos (of_decide_eq_true h3)]] at this
            exact this
          · refine Evl.q_when (b := decide (wd = "body") || decide (wd = "drain")) (Evl.et_or (ew _ _) fun _ => ew _ _) (fun h4 H5 e5 => ?_) (fun h4 H5 e5 => ?_)
            · refine Evl.s_ret (em (isOut m) false eo (fun _ => Evl.ev_c)) fun H6 e6 => ?_
              have := k H6 (Same.trans (Same.trans (Same.trans (Same.trans (Same.trans e1 e2) e3) e4) e5) e6)
              rw [show after wd m = markOf (isOut m) false by unfold after; rw [if_neg h', if_neg (of_decide_eq_false h1), if_neg (of_decide_eq_false h2), if_neg (of_decide_eq_false h3), if_pos h4]] at this
              exact this
            · refine Evl.s_ret (Evl.ev_var rfl) fun H6 e6 => ?_
              have := k H6 (Same.trans (Same.trans (Same.trans (Same.trans (Same.trans e1 e2) e3) e4) e5) e6)
              rw [show after wd m = m by unfold after; rw [if_neg h', if_neg (of_decide_eq_false h1), if_neg (of_decide_eq_false h2), if_neg (of_decide_eq_false h3), if_neg (by simp [h4])]] at this
              exact this
end

end K33
end
section
set_option Elab.async false
set_option autoImplicit false
set_option linter.all false
set_option maxRecDepth 100000
set_option maxHeartbeats 4000000
namespace K33
open PySem PySem.Spec PyProof.Rows L2 PySem.OxE LawC GenW
theorem Rai.mono {H H1 : Hp} {E : XK} {cls : Addr} {f : Str} {v : V} (s : Same H H1) (h : Rai H E cls f v) : Rai H1 E cls f v := fun d H2 hd e h2 => h d H2 (Evl.fresh_back s hd) (Same.trans s e) h2
theorem RaiF.mono {A : Ad} {H H1 : Hp} {E : XK} {u : Str} {n : V} {m : Str} (s : Same H H1) (h : RaiF A H E u n m) : RaiF A H1 E u n m := by
  unfold RaiF at h ⊢
  split
  · next h1 => rw [if_pos h1] at h; exact h.mono s
  · next h1 =>
    rw [if_neg h1] at h
    split
    · next h2 => rw [if_pos h2] at h; exact h.mono s
    · next h2 => rw [if_neg h2] at h; exact h.mono s
theorem LineAt.same {A : Ad} {H H1 : Hp} {x : Addr} {n c : V} {m : Str} {q : Addr} {ts : List V} {sd : V} {lt : Bool} (l : LineAt A H x n c m q ts sd lt) (s : Same H H1) : LineAt A H1 x n c m q ts sd lt := by
  obtain ⟨dx, h1, h2⟩ := l
  exact ⟨dx, s _ _ h1, s _ _ h2⟩
theorem LineAt.ne {A : Ad} {H : Hp} {x : Addr} {n c : V} {m : Str} {q : Addr} {ts : List V} {sd : V} {lt : Bool} (l : LineAt A H x n c m q ts sd lt) : x ≠ q := by
  obtain ⟨dx, h1, h2⟩ := l
  exact ne_of h1 h2 nofun
theorem But2.of {x q : Addr} {H H1 : Hp} (s : Same H H1) : But2 x q H H1 := fun b o _ _ h => s b o h
theorem But2.trans {x q : Addr} {H H1 H2 : Hp} (a : But2 x q H H1) (b : But2 x q H1 H2) : But2 x q H H2 := fun c o h1 h2 e => b c o h1 h2 (a c o h1 h2 e)
theorem But2.l {x q : Addr} {H : Hp} {o : HO} : But2 x q H (upd H x o) := fun b u h _ e => by rw [upd_ne h]; exact e
theorem But2.r {x q : Addr} {H : Hp} {o : HO} : But2 x q H (upd H q o) := fun b u _ h e => by rw [upd_ne h]; exact e
theorem fault_cases {w m u : Str} {k : Int} (h : fault w m k = some u) : u = "closed" ∨ u = "amid" ∨ u = "starved" := by
  unfold fault at h
  split at h
  · cases h
  · split at h
    · cases h; exact .inl rfl
    · split at h
      · cases h; exact .inr (.inl rfl)
      · split at h
        · cases h; exact .inr (.inr rfl)
        · cases h
def spLInit (A : Ad) : Sp := fun vs H Q _ => ∃ (x dx : Addr) (n : V), vs = [.ref x, n] ∧ H x = some (.ins A.c_Line dx []) ∧ ∀ q H', H q = none → But x H H' → LineAt A H' x n .non "whole" q [] (.str "") false → Q .non H'
/-- asked, without a change -/
def spLook (A : Ad) (g : V → V → Str → List V → V → Bool → V) : Sp := fun vs H Q _ => ∃ (x : Addr) (n c : V) (m : Str) (q : Addr) (ts : List V) (sd : V) (lt : Bool), vs = [.ref x] ∧ LineAt A H x n c m q ts sd lt ∧ ∀ H', Same H H' → Q (g n c m ts sd lt) H'
def spHas (A : Ad) : Sp := fun vs H Q _ => ∃ (x : Addr) (t : Str) (us : List Str) (n c : V) (m : Str) (q : Addr) (sd : V) (lt : Bool), vs = [.ref x, .str t] ∧ LineAt A H x n c m q (us.map V.str) sd lt ∧ ∀ H', Same H H' → Q (.bl (decide (t ∈ us))) H'
/-- a row of a line: word, arguments behind self, what it needs, what it does -/
def spRow (A : Ad) (w : Str) (need : List V → Int) (ok : Hp → Addr → List V → V → V → Str → Addr → List V → V → Bool → VK → Prop) : Sp := fun vs H Q E => ∃ (x : Addr) (as : List V) (n c : V) (m : Str) (q : Addr) (ts : List V) (sd : V) (lt : Bool), vs = .ref x :: as ∧ LineAt A H x n c m q ts sd lt ∧
  (fault w m (need ts) = none → ok H x as n c m q ts sd lt Q) ∧ ∀ u, fault w m (need ts) = some u → RaiF A H E u n m
def okAsk (A : Ad) : Hp → Addr → List V → V → V → Str → Addr → List V → V → Bool → VK → Prop := fun H x as n c m q ts sd lt Q => ts.length + as.length ≤ sizeLine ∧ ∀ H', But q H H' → LineAt A H' x n c m q (ts ++ as) sd lt → Q .non H'
def okBegin (A : Ad) : Hp → Addr → List V → V → V → Str → Addr → List V → V → Bool → VK → Prop := fun H x as n c m q ts sd lt Q => ∃ t, as = [t] ∧ ∀ H', But2 x q H H' → LineAt A H' x n c (after "begin" m) q ts t lt → Q .non H'
def okFinish (A : Ad) : Hp → Addr → List V → V → V → Str → Addr → List V → V → Bool → VK → Prop := fun H x as n c m q ts sd lt Q => as = [] ∧ ts.length < sizeLine ∧ ∀ H', But2 x q H H' → LineAt A H' x n c (after "finish" m) q (ts ++ [sd]) sd lt → Q .non H'
def okRead (A : Ad) : Hp → Addr → List V → V → V → Str → Addr → List V → V → Bool → VK → Prop := fun H x as n c m q ts sd lt Q => as = [] ∧ ∃ t r, ts = t :: r ∧ ∀ H', But2 x q H H' → LineAt A H' x n c m q r sd lt → Q t H'
def okHead (A : Ad) : Hp → Addr → List V → V → V → Str → Addr → List V → V → Bool → VK → Prop := fun H x as n c m q ts sd lt Q => as = [] ∧ ∃ t r, ts = t :: r ∧ ∀ H', But2 x q H H' → LineAt A H' x n c (after "head" m) q ts sd lt → Q t H'
def okBody (A : Ad) : Hp → Addr → List V → V → V → Str → Addr → List V → V → Bool → VK → Prop := fun H x as n c m q ts sd lt Q => as = [] ∧ ∃ t r, ts = t :: r ∧ ∀ H', But2 x q H H' → LineAt A H' x n c (after "body" m) q r sd lt → Q t H'
def nLen (ts : List V) : Int := ts.length
def nZero (_ : List V) : Int := 0
def spDrain (A : Ad) : Sp := fun vs H Q _ => ∃ (x : Addr) (n c : V) (m : Str) (q : Addr) (ts : List V) (sd : V) (lt : Bool), vs = [.ref x] ∧ LineAt A H x n c m q ts sd lt ∧
  ∀ q' r H', H q' = none → H r = none → r ≠ q' → But x H H' → LineAt A H' x n c (after "drain" m) q' [] sd lt → H' r = some (.lst ts) → Q (.ref r) H'
def spClose (A : Ad) : Sp := fun vs H Q _ => ∃ (x : Addr) (cs n c : V) (m : Str) (q : Addr) (ts : List V) (sd : V) (lt : Bool), vs = [.ref x, cs] ∧ LineAt A H x n c m q ts sd lt ∧
  (m = "closed" → ∀ H', Same H H' → Q .non H') ∧ (m ≠ "closed" → ∀ q' H', H q' = none → But x H H' → LineAt A H' x n cs "closed" q' [] sd lt → Q .non H')
def spTags (A : Ad) : Sp := fun vs H Q _ => ∃ (x : Addr) (n c : V) (m : Str) (q : Addr) (ts : List V) (sd : V) (lt : Bool), vs = [.ref x] ∧ LineAt A H x n c m q ts sd lt ∧ ∀ r H', H r = none → Same H H' → H' r = some (.lst ts) → Q (.ref r) H'
section
variable {P : Program} {w : World} {K : PySem.W.Frag} {mg : Str → Option Value} {base : Heap} {A0 : Ad}
theorem ok_need (T : Txt P K mg A0) : FnOk P w K mg base (CX P w) 4 A0.f_Line_need A0.fd_Line_need ["self", "word", "owed"] (spNeed A0) := by
  have G_row_fault : FnOk P w K mg base CX0 3 A0.f_row_fault A0.fd_row_fault ["word", "mark", "owed"] spFault := ok_row_fault T
  refine T.F_Line_need.okX sc_Line_need (fun vs H Q E h => ?_) (fun cdv A outer s H vs Q E hr h => ?_)
  · obtain ⟨x, wd, k, n, c, m, q, ts, sd, lt, rfl, _⟩ := h
    rfl
  · obtain ⟨x, wd, k, n, c, m, q, ts, sd, lt, rfl, hl, k1, k2⟩ := h
    refine ⟨_, (pss_cons (ps_set (i := 3) sc_Line_need.nd rfl (Or.inl rfl) (pe_call G_row_fault (hr.mono (by decide)) rfl T.m_row_fault T.F_row_fault.kp T.b_row_fault .nil pass0 (pa_cons (pv 1) (pa_cons (pe_fld (pv 0) rfl) (pa_cons (pv 2) pa_nil)))))
 (pss_cons (ps_if (pt_cmpR op_eq (pv 3) pe_str (nomark _))
 (pss_one (ps_raiseOx rfl T.x_Closed hr (takes_of rfl rfl rfl rfl) rfl (pa_cons (pe_fld (pv 0) rfl) pa_nil)))
 pss_nil)
 (pss_cons (ps_if (pt_cmpR op_eq (pv 3) pe_str (nomark _))
 (pss_one (ps_raiseOx rfl T.x_Amid hr (takes_of rfl rfl rfl rfl) rfl (pa_cons (pe_fld (pv 0) rfl) pa_nil)))
 pss_nil)
 (pss_one (ps_if (pt_cmpR op_eq (pv 3) pe_str (nomark _))
 (pss_one (ps_raiseOx rfl T.x_Starved hr (takes_of rfl rfl rfl rfl) rfl (pa_cons (pe_fld (pv 0) rfl) pa_nil)))
 pss_nil))))), ?_⟩
    obtain ⟨dx, hx, hq⟩ := id hl
    refine ⟨_, rfl, _, rfl, x, _, _, _, _, rfl, hx, T.cl, T.n_state, (by rfl), _, rfl, wd, m, k, rfl, fun H1 e1 => ?_⟩
    have hx1 := e1 _ _ hx
    cases hf : fault wd m k with
    | none =>
      refine Evl.q_when (b := false) (Evl.et_test (Evl.ev_is (Evl.ev_op (Evl.ev_var rfl) Evl.ev_c (Evl.rv_eq rfl)) (by simp [hf, optS]))) (fun h => nomatch h) fun _ H2 e2 => ?_
      refine Evl.q_when (b := false) (Evl.et_test (Evl.ev_is (Evl.ev_op (Evl.ev_var rfl) Evl.ev_c (Evl.rv_eq rfl)) (by simp [hf, optS]))) (fun h => nomatch h) fun _ H3 e3 => ?_
      refine Evl.s_when (b := false) (Evl.et_test (Evl.ev_is (Evl.ev_op (Evl.ev_var rfl) Evl.ev_c (Evl.rv_eq rfl)) (by simp [hf, optS]))) (fun h => nomatch h) fun _ H4 e4 => ?_
      exact k1 hf H4 (Same.trans (Same.trans (Same.trans e1 e2) e3) e4)
    | some u =>
      have k2 := k2 u hf
      have rz : ∀ (cls : Addr) (f : Str) (v : V) (H2 : Hp), Rai H E cls f v → Same H H2 → ∀ d, H2 d = none → E (.ref cls) (some d) (upd H2 d (.xd [(f, v)])) := fun cls f v H2 r e d hd => r d _ (Evl.fresh_back e hd) (Same.trans e (Same.new hd)) upd_same
      rcases fault_cases hf with rfl | rfl | rfl
      · refine Evl.q_when (b := true) (Evl.et_test (Evl.ev_is (Evl.ev_op (Evl.ev_var rfl) Evl.ev_c (Evl.rv_eq rfl)) (by simp [hf, optS]))) (fun _ H2 e2 => ?_) (fun h => nomatch h)
        have e3 := Same.trans e1 e2
        exact ⟨_, rfl, x, _, _, _, _, rfl, e3 _ _ hx, T.cl, T.n_number, rfl, rfl, fun d hd => rz _ _ _ _ (by unfold RaiF at k2; rw [if_pos rfl] at k2; exact k2) e3 d hd⟩
      · refine Evl.q_when (b := false) (Evl.et_test (Evl.ev_is (Evl.ev_op (Evl.ev_var rfl) Evl.ev_c (Evl.rv_eq rfl)) (by first | rfl | decide +kernel))) (fun h => nomatch h) fun _ H2 e2 => ?_
        refine Evl.q_when (b := true) (Evl.et_test (Evl.ev_is (Evl.ev_op (Evl.ev_var rfl) Evl.ev_c (Evl.rv_eq rfl)) (by simp [hf, optS]))) (fun _ H3 e3 => ?_) (fun h => nomatch h)
        have e4 := Same.trans (Same.trans e1 e2) e3
        exact ⟨_, rfl, x, _, _, _, _, rfl, e4 _ _ hx, T.cl, T.n_state, rfl, rfl, fun d hd => rz _ _ _ _ (by unfold RaiF at k2; rw [if_neg (by decide +kernel), if_pos rfl] at k2; exact k2) e4 d hd⟩
      · refine Evl.q_when (b := false) (Evl.et_test (Evl.ev_is (Evl.ev_op (Evl.ev_var rfl) Evl.ev_c (Evl.rv_eq rfl)) (by first | rfl | decide +kernel))) (fun h => nomatch h) fun _ H2 e2 => ?_
        refine Evl.q_when (b := false) (Evl.et_test (Evl.ev_is (Evl.ev_op (Evl.ev_var rfl) Evl.ev_c (Evl.rv_eq rfl)) (by first | rfl | decide +kernel))) (fun h => nomatch h) fun _ H3 e3 => ?_
        refine Evl.s_when (b := true) (Evl.et_test (Evl.ev_is (Evl.ev_op (Evl.ev_var rfl) Evl.ev_c (Evl.rv_eq rfl)) (by simp [hf, optS]))) (fun _ H4 e4 => ?_) (fun h => nomatch h)
        have e5 := Same.trans (Same.trans (Same.trans e1 e2) e3) e4
        exact ⟨_, rfl, x, _, _, _, _, rfl, e5 _ _ hx, T.cl, T.n_number, rfl, rfl, fun d hd => rz _ _ _ _ (by unfold RaiF at k2; rw [if_neg (by decide +kernel), if_neg (by decide +kernel)] at k2; exact k2) e5 d hd⟩
theorem ok_Line_init (T : Txt P K mg A0) : FnOk P w K mg base CX0 1 A0.f_Line_init A0.fd_Line_init ["self", "number"] (spLInit A0) := by
  refine T.F_Line_init.ok sc_Line_init (fun vs H Q E h => ?_) (fun cdv A outer s H vs Q E hr h => ?_)
  · obtain ⟨x, dx, n, rfl, _⟩ := h
    rfl
  · obtain ⟨x, dx, n, rfl, hx, k⟩ := h
    refine ⟨_, (pss_cons (ps_fld (pv 0) (pv 1) rfl)
 (pss_cons (ps_fld (pv 0) pe_non rfl)
 (pss_cons (ps_fld (pv 0) pe_str rfl)
 (pss_cons (ps_fld (pv 0) (pe_lst pa_nil) rfl)
 (pss_cons (ps_fld (pv 0) pe_str rfl)
 (pss_one (ps_fld (pv 0) pe_bl rfl))))))), ?_⟩
    refine ⟨_, rfl, _, rfl, x, _, _, _, rfl, hx, T.cl, T.n_number, (by show (0 : Nat) < 1000; decide), ?_⟩
    refine ⟨_, rfl, x, _, _, _, rfl, upd_same, T.cl, T.n_cause, (by show (1 : Nat) < 1000; decide), ?_⟩
    refine ⟨_, rfl, x, _, _, _, rfl, upd_same, T.cl, T.n_state, (by show (2 : Nat) < 1000; decide), ?_⟩
    refine ⟨(by show 0 ≤ sizeLine; decide), fun q hq => ⟨_, rfl, x, A0.c_Line, dx, [("number", n), ("cause", .non), ("state", .str "whole")], rfl, ?_, T.cl, T.n_queue, (by show (3 : Nat) < 1000; decide), ?_⟩⟩
    · have hxq : x ≠ q := ne_of_none (upd_same (a := x)) hq
      rw [upd_ne hxq, upd_same]
      rfl
    · have hxq : x ≠ q := ne_of_none (upd_same (a := x)) hq
      have hqH : H q = none := by
        rw [upd_ne (Ne.symm hxq), upd_ne (Ne.symm hxq), upd_ne (Ne.symm hxq)] at hq
        exact hq
      refine ⟨_, rfl, x, _, _, _, rfl, upd_same, T.cl, T.n_sending, (by show (4 : Nat) < 1000; decide), ?_⟩
      refine ⟨_, rfl, x, _, _, _, rfl, upd_same, T.cl, T.n_is_lent, (by show (5 : Nat) < 1000; decide), ?_⟩
      refine k q _ hqH ?_ ⟨dx, upd_same, ?_⟩
      · exact But.trans (But.trans (But.trans (But.trans (But.trans (But.trans But.upd But.upd) But.upd) (fun b o _ h => Same.new hq b o h)) But.upd) But.upd) But.upd
      · rw [upd_ne (Ne.symm hxq), upd_ne (Ne.symm hxq), upd_ne (Ne.symm hxq), upd_same]
theorem ok_Line_len (T : Txt P K mg A0) : FnOk P w K mg base CX0 1 A0.f_Line_len A0.fd_Line_len ["self"] (spLook A0 fun _ _ _ ts _ _ => .int ts.length) := by
  refine T.F_Line_len.ok sc_Line_len (fun vs H Q E h => ?_) (fun cdv A outer s H vs Q E hr h => ?_)
  · obtain ⟨x, n, c, m, q, ts, sd, lt, rfl, _⟩ := h
    rfl
  · obtain ⟨x, n, c, m, q, ts, sd, lt, rfl, ⟨dx, hx, hq⟩, k⟩ := h
    refine ⟨_, (pss_one (ps_ret (pe_callB call_len (by rfl) T.z_len PySem.boot_len (pa_cons (pe_fld (pv 0) rfl) pa_nil)))), ?_⟩
    exact Evl.s_ret (ev_lenL (ev_fld (Evl.ev_var rfl) hx T.cl T.n_queue (v := .ref q) (by rfl)) (SqL.of hq)) fun H1 e1 => k H1 e1
theorem ok_Line_owed (T : Txt P K mg A0) : FnOk P w K mg base CX0 1 A0.f_Line_owed A0.fd_Line_owed ["self"] (spLook A0 fun _ _ _ ts _ _ => .int ts.length) := by
  refine T.F_Line_owed.ok sc_Line_owed (fun vs H Q E h => ?_) (fun cdv A outer s H vs Q E hr h => ?_)
  · obtain ⟨x, n, c, m, q, ts, sd, lt, rfl, _⟩ := h
    rfl
  · obtain ⟨x, n, c, m, q, ts, sd, lt, rfl, ⟨dx, hx, hq⟩, k⟩ := h
    refine ⟨_, (pss_one (ps_ret (pe_callB call_len (by rfl) T.z_len PySem.boot_len (pa_cons (pe_fld (pv 0) rfl) pa_nil)))), ?_⟩
    exact Evl.s_ret (ev_lenL (ev_fld (Evl.ev_var rfl) hx T.cl T.n_queue (v := .ref q) (by rfl)) (SqL.of hq)) fun H1 e1 => k H1 e1
theorem ok_Line_mark (T : Txt P K mg A0) : FnOk P w K mg base CX0 1 A0.f_Line_mark A0.fd_Line_mark ["self"] (spLook A0 fun _ _ m _ _ _ => .str m) := by
  refine T.F_Line_mark.ok sc_Line_mark (fun vs H Q E h => ?_) (fun cdv A outer s H vs Q E hr h => ?_)
  · obtain ⟨x, n, c, m, q, ts, sd, lt, rfl, _⟩ := h
    rfl
  · obtain ⟨x, n, c, m, q, ts, sd, lt, rfl, ⟨dx, hx, hq⟩, k⟩ := h
    refine ⟨_, (pss_one (ps_ret (pe_fld (pv 0) rfl))), ?_⟩
    exact Evl.s_ret (ev_fld (Evl.ev_var rfl) hx T.cl T.n_state (v := .str m) (by rfl)) fun H1 e1 => k H1 e1
theorem ok_Line_is_clean (T : Txt P K mg A0) : FnOk P w K mg base CX0 1 A0.f_Line_is_clean A0.fd_Line_is_clean ["self"] (spLook A0 fun _ _ m ts _ _ => .bl (decide (m = "whole") && decide (ts.length = 0))) := by
  refine T.F_Line_is_clean.ok sc_Line_is_clean (fun vs H Q E h => ?_) (fun cdv A outer s H vs Q E hr h => ?_)
  · obtain ⟨x, n, c, m, q, ts, sd, lt, rfl, _⟩ := h
    rfl
  · obtain ⟨x, n, c, m, q, ts, sd, lt, rfl, ⟨dx, hx, hq⟩, k⟩ := h
    refine ⟨_, (pss_one (ps_ret (pe_and (pe_cmpR op_eq (pe_fld (pv 0) rfl) pe_str (nomark _)) (pe_one (pe_cmpR op_eq (pe_callB call_len (by rfl) T.z_len PySem.boot_len (pa_cons (pe_fld (pv 0) rfl) pa_nil)) pe_int (nomark _)))))), ?_⟩
    exact Evl.s_ret (Evl.ev_andV (Evl.ev_is (Evl.ev_op (ev_fld (Evl.ev_var rfl) hx T.cl T.n_state (v := .str m) (by rfl)) Evl.ev_c (Evl.rv_eq rfl)) (by simp)) fun _ => Evl.ev_is (Evl.ev_op (ev_lenL (ev_fld (Evl.ev_var rfl) hx T.cl T.n_queue (v := .ref q) (by rfl)) (SqL.of hq)) Evl.ev_c (Evl.rv_eq rfl)) (by simp)) fun H1 e1 => k H1 e1
theorem ok_Line_contains (T : Txt P K mg A0) : FnOk P w K mg base CX0 1 A0.f_Line_contains A0.fd_Line_contains ["self", "tag"] (spHas A0) := by
  refine T.F_Line_contains.ok sc_Line_contains (fun vs H Q E h => ?_) (fun cdv A outer s H vs Q E hr h => ?_)
  · obtain ⟨x, t, us, n, c, m, q, sd, lt, rfl, _⟩ := h
    rfl
  · obtain ⟨x, t, us, n, c, m, q, sd, lt, rfl, ⟨dx, hx, hq⟩, k⟩ := h
    refine ⟨_, (pss_one (ps_ret (pe_cmpR op_in_seq (pv 1) (pe_fld (pv 0) rfl) (by first | rfl | with_unfolding_all rfl)))), ?_⟩
    exact Evl.s_ret (Evl.ev_is (Evl.ev_op (Evl.ev_var (v := .str t) rfl) (ev_fld (Evl.ev_var rfl) hx T.cl T.n_queue (v := .ref q) (by rfl)) (Evl.rv_isL (SqL.of hq) rfl flat_strs)) (by rw [inV_str])) fun H1 e1 => k H1 e1
theorem ok_Line_begin (T : Txt P K mg A0) : FnOk P w K mg base (CX P w) 5 A0.f_Line_begin A0.fd_Line_begin ["self", "tag"] (fun vs H Q E => vs.length = 2 ∧ spRow A0 "begin" nZero (okBegin A0) vs H Q E) := by
  have G_Line_need : FnOk P w K mg base (CX P w) 4 A0.f_Line_need A0.fd_Line_need ["self", "word", "owed"] (spNeed A0) := ok_need T
  have G_mark_after : FnOk P w K mg base CX0 2 A0.f_mark_after A0.fd_mark_after ["word", "mark"] spAfter := ok_mark_after T
  refine T.F_Line_begin.okX sc_Line_begin (fun vs H Q E h => h.1) (fun cdv A outer s H vs Q E hr h => ?_)
  · obtain ⟨hl, x, as, n, c, m, q, ts, sd, lt, rfl, hl2, k1, k2⟩ := h
    match as, hl with
    | [t], _ =>
    refine ⟨_, (pss_cons (ps_expr (pe_methX (pv 0) T.cl T.M_Line_need G_Line_need (hr.mono (by decide)) T.b_Line_need (passAt (takes_of rfl rfl rfl rfl)) (pa_cons pe_str (pa_cons pe_int pa_nil))))
 (pss_cons (ps_fld (pv 0) (pe_call G_mark_after (hr.mono (by decide)) rfl T.m_mark_after T.F_mark_after.kp T.b_mark_after .nil pass0 (pa_cons pe_str (pa_cons (pe_fld (pv 0) rfl) pa_nil))) rfl)
 (pss_one (ps_fld (pv 0) (pv 1) rfl)))), ?_⟩
    obtain ⟨dx, hx, hq⟩ := id hl2
    refine ⟨_, rfl, x, _, _, rfl, hx, (by rfl), x, "begin", 0, n, c, m, q, ts, sd, lt, rfl, hl2, fun hf H1 e1 => ?_, fun u hu => k2 u hu⟩
    obtain ⟨t', et, k1⟩ := k1 hf
    cases et
    have hx1 := e1 _ _ hx
    refine ⟨_, rfl, x, _, _, _, _, rfl, hx1, T.cl, T.n_state, (by rfl), "begin", m, rfl, fun H2 e2 => ?_⟩
    refine ⟨_, rfl, x, _, _, _, rfl, e2 _ _ hx1, T.cl, T.n_state, (by show (6 : Nat) < 1000; decide), ?_⟩
    refine ⟨_, rfl, _, rfl, x, _, _, _, rfl, upd_same, T.cl, T.n_sending, (by show (6 : Nat) < 1000; decide), ?_⟩
    have hne := hl2.ne
    exact k1 _ (But2.trans (But2.trans (But2.of (Same.trans e1 e2)) But2.l) But2.l) ⟨dx, upd_same, by rw [upd_ne (Ne.symm hne), upd_ne (Ne.symm hne)]; exact e2 _ _ (e1 _ _ hq)⟩
theorem ok_Line_finish (T : Txt P K mg A0) : FnOk P w K mg base (CX P w) 5 A0.f_Line_finish A0.fd_Line_finish ["self"] (fun vs H Q E => vs.length = 1 ∧ spRow A0 "finish" nZero (okFinish A0) vs H Q E) := by
  have G_Line_need : FnOk P w K mg base (CX P w) 4 A0.f_Line_need A0.fd_Line_need ["self", "word", "owed"] (spNeed A0) := ok_need T
  have G_mark_after : FnOk P w K mg base CX0 2 A0.f_mark_after A0.fd_mark_after ["word", "mark"] spAfter := ok_mark_after T
  refine T.F_Line_finish.okX sc_Line_finish (fun vs H Q E h => h.1) (fun cdv A outer s H vs Q E hr h => ?_)
  · obtain ⟨hl, x, as, n, c, m, q, ts, sd, lt, rfl, hl2, k1, k2⟩ := h
    match as, hl with
    | [], _ =>
    refine ⟨_, (pss_cons (ps_expr (pe_methX (pv 0) T.cl T.M_Line_need G_Line_need (hr.mono (by decide)) T.b_Line_need (passAt (takes_of rfl rfl rfl rfl)) (pa_cons pe_str (pa_cons pe_int pa_nil))))
 (pss_cons (ps_fld (pv 0) (pe_call G_mark_after (hr.mono (by decide)) rfl T.m_mark_after T.F_mark_after.kp T.b_mark_after .nil pass0 (pa_cons pe_str (pa_cons (pe_fld (pv 0) rfl) pa_nil))) rfl)
 (pss_one (ps_expr (pe_bm PySem.F.plainAttrs_list PySem.F.slot_list_append PySem.F.type_list_append mt_append (pe_fld (pv 0) rfl) (pa_cons (pe_fld (pv 0) rfl) pa_nil)))))), ?_⟩
    obtain ⟨dx, hx, hq⟩ := id hl2
    refine ⟨_, rfl, x, _, _, rfl, hx, (by rfl), x, "finish", 0, n, c, m, q, ts, sd, lt, rfl, hl2, fun hf H1 e1 => ?_, fun u hu => k2 u hu⟩
    obtain ⟨_, hz, k1⟩ := k1 hf
    have hx1 := e1 _ _ hx
    have hne := hl2.ne
    refine ⟨_, rfl, x, _, _, _, _, rfl, hx1, T.cl, T.n_state, (by rfl), "finish", m, rfl, fun H2 e2 => ?_⟩
    refine ⟨_, rfl, x, _, _, _, rfl, e2 _ _ hx1, T.cl, T.n_state, (by show (6 : Nat) < 1000; decide), ?_⟩
    have hq2 := e2 _ _ (e1 _ _ hq)
    have hq3 : upd H2 x (.ins A0.c_Line dx (lineF n c (after "finish" m) q sd lt)) q = some (.lst ts) := by rw [upd_ne (Ne.symm hne)]; exact hq2
    refine ⟨_, rfl, x, _, _, _, _, rfl, upd_same, T.cl, T.n_queue, (by rfl), (by exact .inl ⟨rfl, _, SqL.of hq3⟩), _, rfl, x, _, _, _, _, rfl, upd_same, T.cl, T.n_sending, (by rfl), q, ts, sd, rfl, rfl, ?_, hz, ?_⟩
    · exact hq3
    · exact k1 _ (But2.trans (But2.trans (But2.of (Same.trans e1 e2)) But2.l) But2.r) ⟨dx, by rw [upd_ne hne]; exact upd_same, upd_same⟩
theorem ok_Line_read (T : Txt P K mg A0) : FnOk P w K mg base (CX P w) 5 A0.f_Line_read A0.fd_Line_read ["self"] (fun vs H Q E => vs.length = 1 ∧ spRow A0 "read" nLen (okRead A0) vs H Q E) := by
  have G_Line_need : FnOk P w K mg base (CX P w) 4 A0.f_Line_need A0.fd_Line_need ["self", "word", "owed"] (spNeed A0) := ok_need T
  refine T.F_Line_read.okX sc_Line_read (fun vs H Q E h => h.1) (fun cdv A outer s H vs Q E hr h => ?_)
  · obtain ⟨hl, x, as, n, c, m, q, ts, sd, lt, rfl, hl2, k1, k2⟩ := h
    match as, hl with
    | [], _ =>
    refine ⟨_, (pss_cons (ps_expr (pe_methX (pv 0) T.cl T.M_Line_need G_Line_need (hr.mono (by decide)) T.b_Line_need (passAt (takes_of rfl rfl rfl rfl)) (pa_cons pe_str (pa_cons (pe_callB call_len (by rfl) T.z_len PySem.boot_len (pa_cons (pe_fld (pv 0) rfl) pa_nil)) pa_nil))))
 (pss_one (ps_ret (pe_bm PySem.F.plainAttrs_list PySem.F.slot_list_pop PySem.F.type_list_pop mt_popAt (pe_fld (pv 0) rfl) (pa_cons pe_int pa_nil))))), ?_⟩
    obtain ⟨dx, hx, hq⟩ := id hl2
    refine ⟨_, rfl, x, _, _, rfl, hx, (by rfl), _, rfl, x, _, _, _, _, rfl, hx, T.cl, T.n_queue, (by rfl), _, _, rfl, (by exact .inl ⟨_, SqL.of hq, rfl⟩), x, "read", ts.length, n, c, m, q, ts, sd, lt, rfl, hl2, fun hf H1 e1 => ?_, fun u hu => k2 u hu⟩
    obtain ⟨_, t, r, rfl, k3⟩ := k1 hf
    have s1 := e1
    have hne := hl2.ne
    refine ⟨_, rfl, x, _, _, _, _, rfl, s1 _ _ hx, T.cl, T.n_queue, (by rfl), (by exact .inl ⟨rfl, _, SqL.of (s1 _ _ hq)⟩), q, _, 0, 0, t, rfl, rfl, s1 _ _ hq, by decide, by decide, (by simp [seqIndex?]), rfl, ?_⟩
    exact k3 _ (But2.trans (But2.of s1) But2.r) ⟨dx, by rw [upd_ne hne]; exact s1 _ _ hx, upd_same⟩
theorem ok_Line_head (T : Txt P K mg A0) : FnOk P w K mg base (CX P w) 5 A0.f_Line_head A0.fd_Line_head ["self"] (fun vs H Q E => vs.length = 1 ∧ spRow A0 "head" nLen (okHead A0) vs H Q E) := by
  have G_Line_need : FnOk P w K mg base (CX P w) 4 A0.f_Line_need A0.fd_Line_need ["self", "word", "owed"] (spNeed A0) := ok_need T
  have G_mark_after : FnOk P w K mg base CX0 2 A0.f_mark_after A0.fd_mark_after ["word", "mark"] spAfter := ok_mark_after T
  refine T.F_Line_head.okX sc_Line_head (fun vs H Q E h => h.1) (fun cdv A outer s H vs Q E hr h => ?_)
  · obtain ⟨hl, x, as, n, c, m, q, ts, sd, lt, rfl, hl2, k1, k2⟩ := h
    match as, hl with
    | [], _ =>
    refine ⟨_, (pss_cons (ps_expr (pe_methX (pv 0) T.cl T.M_Line_need G_Line_need (hr.mono (by decide)) T.b_Line_need (passAt (takes_of rfl rfl rfl rfl)) (pa_cons pe_str (pa_cons (pe_callB call_len (by rfl) T.z_len PySem.boot_len (pa_cons (pe_fld (pv 0) rfl) pa_nil)) pa_nil))))
 (pss_cons (ps_fld (pv 0) (pe_call G_mark_after (hr.mono (by decide)) rfl T.m_mark_after T.F_mark_after.kp T.b_mark_after .nil pass0 (pa_cons pe_str (pa_cons (pe_fld (pv 0) rfl) pa_nil))) rfl)
 (pss_one (ps_ret (pe_ix ix_list (pe_fld (pv 0) rfl) pe_int (fun _ _ => rfl)))))), ?_⟩
    obtain ⟨dx, hx, hq⟩ := id hl2
    refine ⟨_, rfl, x, _, _, rfl, hx, (by rfl), _, rfl, x, _, _, _, _, rfl, hx, T.cl, T.n_queue, (by rfl), _, _, rfl, (by exact .inl ⟨_, SqL.of hq, rfl⟩), x, "head", ts.length, n, c, m, q, ts, sd, lt, rfl, hl2, fun hf H1 e1 => ?_, fun u hu => k2 u hu⟩
    obtain ⟨_, t, r, rfl, k3⟩ := k1 hf
    have s1 := e1
    have hne := hl2.ne
    refine ⟨_, rfl, x, _, _, _, _, rfl, s1 _ _ hx, T.cl, T.n_state, (by rfl), "head", m, rfl, fun H2 e2 => ?_⟩
    have s2 := Same.trans s1 e2
    refine ⟨_, rfl, x, _, _, _, rfl, s2 _ _ hx, T.cl, T.n_state, (by show (6 : Nat) < 1000; decide), ?_⟩
    have hq3 : upd H2 x (.ins A0.c_Line dx (lineF n c (after "head" m) q sd lt)) q = some (.lst (t :: r)) := by rw [upd_ne (Ne.symm hne)]; exact s2 _ _ hq
    refine Evl.s_ret (Evl.ev_op (ev_fld (Evl.ev_var rfl) upd_same T.cl T.n_queue (v := .ref q) (by rfl)) Evl.ev_c (Evl.rv_ixL (v := t) (SqL.of hq3) (at_of (j := 0) rfl (by rfl)))) fun H4 e4 => ?_
    exact k3 _ (But2.trans (But2.trans (But2.of s2) But2.l) (But2.of e4)) ⟨dx, e4 _ _ upd_same, e4 _ _ hq3⟩
theorem ok_Line_body (T : Txt P K mg A0) : FnOk P w K mg base (CX P w) 5 A0.f_Line_body A0.fd_Line_body ["self"] (fun vs H Q E => vs.length = 1 ∧ spRow A0 "body" nLen (okBody A0) vs H Q E) := by
  have G_Line_need : FnOk P w K mg base (CX P w) 4 A0.f_Line_need A0.fd_Line_need ["self", "word", "owed"] (spNeed A0) := ok_need T
  have G_mark_after : FnOk P w K mg base CX0 2 A0.f_mark_after A0.fd_mark_after ["word", "mark"] spAfter := ok_mark_after T
  refine T.F_Line_body.okX sc_Line_body (fun vs H Q E h => h.1) (fun cdv A outer s H vs Q E hr h => ?_)
  · obtain ⟨hl, x, as, n, c, m, q, ts, sd, lt, rfl, hl2, k1, k2⟩ := h
    match as, hl with
    | [], _ =>
    refine ⟨_, (pss_cons (ps_expr (pe_methX (pv 0) T.cl T.M_Line_need G_Line_need (hr.mono (by decide)) T.b_Line_need (passAt (takes_of rfl rfl rfl rfl)) (pa_cons pe_str (pa_cons (pe_callB call_len (by rfl) T.z_len PySem.boot_len (pa_cons (pe_fld (pv 0) rfl) pa_nil)) pa_nil))))
 (pss_cons (ps_fld (pv 0) (pe_call G_mark_after (hr.mono (by decide)) rfl T.m_mark_after T.F_mark_after.kp T.b_mark_after .nil pass0 (pa_cons pe_str (pa_cons (pe_fld (pv 0) rfl) pa_nil))) rfl)
 (pss_one (ps_ret (pe_bm PySem.F.plainAttrs_list PySem.F.slot_list_pop PySem.F.type_list_pop mt_popAt (pe_fld (pv 0) rfl) (pa_cons pe_int pa_nil)))))), ?_⟩
    obtain ⟨dx, hx, hq⟩ := id hl2
    refine ⟨_, rfl, x, _, _, rfl, hx, (by rfl), _, rfl, x, _, _, _, _, rfl, hx, T.cl, T.n_queue, (by rfl), _, _, rfl, (by exact .inl ⟨_, SqL.of hq, rfl⟩), x, "body", ts.length, n, c, m, q, ts, sd, lt, rfl, hl2, fun hf H1 e1 => ?_, fun u hu => k2 u hu⟩
    obtain ⟨_, t, r, rfl, k3⟩ := k1 hf
    have s1 := e1
    have hne := hl2.ne
    refine ⟨_, rfl, x, _, _, _, _, rfl, s1 _ _ hx, T.cl, T.n_state, (by rfl), "body", m, rfl, fun H2 e2 => ?_⟩
    have s2 := Same.trans s1 e2
    refine ⟨_, rfl, x, _, _, _, rfl, s2 _ _ hx, T.cl, T.n_state, (by show (6 : Nat) < 1000; decide), ?_⟩
    have hq3 : upd H2 x (.ins A0.c_Line dx (lineF n c (after "body" m) q sd lt)) q = some (.lst (t :: r)) := by rw [upd_ne (Ne.symm hne)]; exact s2 _ _ hq
    refine ⟨_, rfl, x, _, _, _, _, rfl, upd_same, T.cl, T.n_queue, (by rfl), (by exact .inl ⟨rfl, _, SqL.of hq3⟩), q, _, 0, 0, t, rfl, rfl, hq3, by decide, by decide, (by simp [seqIndex?]), rfl, ?_⟩
    exact k3 _ (But2.trans (But2.trans (But2.of s2) But2.l) But2.r) ⟨dx, by rw [upd_ne hne]; exact upd_same, upd_same⟩
end

end K33
end
section
set_option Elab.async false
set_option autoImplicit false
set_option linter.all false
set_option maxRecDepth 100000
set_option maxHeartbeats 4000000
namespace K33
open PySem PySem.Spec PyProof.Rows L2 PySem.OxE LawC GenW
section
variable {P : Program} {w : World} {K : PySem.W.Frag} {mg : Str → Option Value} {base : Heap} {A0 : Ad}
theorem ok_Line_ask (T : Txt P K mg A0) : FnR P w K mg base (CX P w) 5 A0.f_Line_ask (fun vs H Q E => vs.length ≤ sizeLine ∧ spRow A0 "ask" nZero (okAsk A0) vs H Q E) := by
  have G_Line_need : FnOk P w K mg base (CX P w) 4 A0.f_Line_need A0.fd_Line_need ["self", "word", "owed"] (spNeed A0) := ok_need T
  refine FnR.imp (Fun.star (k := 4) (pv := "tags") (ps := ["self"]) (sp := fun vs H Q E => ∃ (x p : Addr) (as : List V) (n c : V) (m : Str) (q : Addr) (ts : List V) (sd : V) (lt : Bool), vs = [.ref x, .ref p] ∧ H p = some (.tup as) ∧ LineAt A0 H x n c m q ts sd lt ∧ (fault "ask" m 0 = none → okAsk A0 H x as n c m q ts sd lt Q) ∧ ∀ u, fault "ask" m 0 = some u → RaiF A0 H E u n m) T.F_Line_ask sc_Line_ask (fun kV doc pm an cdv ct => StX.bind_star1 (B := fun us => bindArgs _ ⟨us, []⟩) (fun a => rfl) (fun a r rs => rfl)) (fun cdv A outer s H vs Q E hr h => ?_)) (fun vs H Q E h => ?_)
  · obtain ⟨x, p, as, n, c, m, q, ts, sd, lt, rfl, hp, hl2, k1, k2⟩ := h
    refine ⟨_, (pss_cons (ps_expr (pe_methX (pv 0) T.cl T.M_Line_need G_Line_need (hr.mono (by decide)) T.b_Line_need (passAt (takes_of rfl rfl rfl rfl)) (pa_cons pe_str (pa_cons pe_int pa_nil))))
 (pss_one (ps_expr (pe_bm PySem.F.plainAttrs_list PySem.F.slot_list_extend PySem.F.type_list_extend mt_extendT (pe_fld (pv 0) rfl) (pa_cons (pv 1) pa_nil))))), ?_⟩
    obtain ⟨dx, hx, hq⟩ := id hl2
    refine ⟨_, rfl, x, _, _, rfl, hx, (by rfl), x, "ask", 0, n, c, m, q, ts, sd, lt, rfl, hl2, fun hf H1 e1 => ?_, fun u hu => k2 u hu⟩
    obtain ⟨hz, k3⟩ := k1 hf
    have hne := hl2.ne
    have hq1 := e1 _ _ hq
    refine ⟨_, rfl, x, _, _, _, _, rfl, e1 _ _ hx, T.cl, T.n_queue, (by rfl), (by exact .inl ⟨rfl, _, SqL.of hq1⟩), _, rfl, q, p, ts, as, rfl, rfl, hq1, e1 _ _ hp, hz, ?_⟩
    exact k3 _ (But.trans (fun b o _ h => e1 b o h) But.upd) ⟨dx, by rw [upd_ne hne]; exact e1 _ _ hx, upd_same⟩
  · obtain ⟨hv, x, as, n, c, m, q, ts, sd, lt, rfl, hl, k1, k2⟩ := h
    refine ⟨[.ref x], as, rfl, rfl, Nat.le_trans (Nat.le_succ _) hv, fun p hp => ⟨x, p, as, n, c, m, q, ts, sd, lt, rfl, upd_same, hl.same (Same.new hp), fun hf => ?_, fun u hu => (k2 u hu).mono (Same.new hp)⟩⟩
    obtain ⟨hz, k3⟩ := k1 hf
    exact ⟨hz, fun H' b l => k3 H' (But.trans (fun b o _ h => Same.new hp b o h) b) l⟩
theorem ok_Line_tags (T : Txt P K mg A0) : FnOk P w K mg base CX0 1 A0.f_Line_tags A0.fd_Line_tags ["self"] (spTags A0) := by
  refine T.F_Line_tags.ok sc_Line_tags (fun vs H Q E h => ?_) (fun cdv A outer s H vs Q E hr h => ?_)
  · obtain ⟨x, n, c, m, q, ts, sd, lt, rfl, _⟩ := h
    rfl
  · obtain ⟨x, n, c, m, q, ts, sd, lt, rfl, ⟨dx, hx, hq⟩, k⟩ := h
    refine ⟨_, (pss_one (ps_ret (pe_callTy call_list_of (by rfl) T.z_list (by decide +kernel) (pa_cons (pe_fld (pv 0) rfl) pa_nil)))), ?_⟩
    refine ⟨_, rfl, x, _, _, _, _, rfl, hx, T.cl, T.n_queue, (by rfl), q, ts, rfl, .inl (SqL.of hq), fun r hr => k r _ hr (Same.new hr) upd_same⟩
theorem ok_Line_close (T : Txt P K mg A0) : FnOk P w K mg base CX0 1 A0.f_Line_close A0.fd_Line_close ["self", "cause"] (spClose A0) := by
  refine T.F_Line_close.ok sc_Line_close (fun vs H Q E h => ?_) (fun cdv A outer s H vs Q E hr h => ?_)
  · obtain ⟨x, cs, n, c, m, q, ts, sd, lt, rfl, _⟩ := h
    rfl
  · obtain ⟨x, cs, n, c, m, q, ts, sd, lt, rfl, ⟨dx, hx, hq⟩, k1, k2⟩ := h
    refine ⟨_, (pss_one (ps_if (pt_cmpR op_ne (pe_fld (pv 0) rfl) pe_str (nomark _))
 (pss_cons (ps_fld (pv 0) pe_str rfl)
 (pss_cons (ps_fld (pv 0) (pv 1) rfl)
 (pss_one (ps_fld (pv 0) (pe_lst pa_nil) rfl))))
 pss_nil)), ?_⟩
    refine Evl.s_when (b := !decide (m = "closed")) (Evl.et_test (Evl.ev_is (Evl.ev_op (ev_fld (Evl.ev_var rfl) hx T.cl T.n_state (v := .str m) (by rfl)) Evl.ev_c (Evl.rv_ne rfl)) (by simp))) (fun h H1 e1 => ?_) (fun h H1 e1 => ?_)
    · have hm : m ≠ "closed" := by simpa using h
      have hx1 := e1 _ _ hx
      refine ⟨_, rfl, x, _, _, _, rfl, hx1, T.cl, T.n_state, (by show (6 : Nat) < 1000; decide), ?_⟩
      refine ⟨_, rfl, _, rfl, x, _, _, _, rfl, upd_same, T.cl, T.n_cause, (by show (6 : Nat) < 1000; decide), ?_⟩
      refine ⟨(by show 0 ≤ sizeLine; decide), fun q' hq' => ⟨_, rfl, x, A0.c_Line, dx, lineF n cs "closed" q sd lt, rfl, ?_, T.cl, T.n_queue, (by show (6 : Nat) < 1000; decide), ?_⟩⟩
      · have hxq : x ≠ q' := ne_of_none (upd_same (a := x)) hq'
        rw [upd_ne hxq, upd_same]
        rfl
      · have hxq : x ≠ q' := ne_of_none (upd_same (a := x)) hq'
        have hqH : H1 q' = none := by
          rw [upd_ne (Ne.symm hxq), upd_ne (Ne.symm hxq)] at hq'
          exact hq'
        refine k2 hm q' _ (Evl.fresh_back e1 hqH) ?_ ⟨dx, upd_same, ?_⟩
        · exact But.trans (But.trans (But.trans (But.trans (fun b o _ h => e1 b o h) But.upd) But.upd) (fun b o _ h => Same.new hq' b o h)) But.upd
        · rw [upd_ne (Ne.symm hxq), upd_same]
    · exact k1 (by simpa using h) H1 e1
theorem ok_Line_drain (T : Txt P K mg A0) : FnOk P w K mg base CX0 3 A0.f_Line_drain A0.fd_Line_drain ["self"] (spDrain A0) := by
  have G_mark_after : FnOk P w K mg base CX0 2 A0.f_mark_after A0.fd_mark_after ["word", "mark"] spAfter := ok_mark_after T
  refine T.F_Line_drain.ok sc_Line_drain (fun vs H Q E h => ?_) (fun cdv A outer s H vs Q E hr h => ?_)
  · obtain ⟨x, n, c, m, q, ts, sd, lt, rfl, _⟩ := h
    rfl
  · obtain ⟨x, n, c, m, q, ts, sd, lt, rfl, ⟨dx, hx, hq⟩, k⟩ := h
    refine ⟨_, (pss_cons (ps_set (i := 1) sc_Line_drain.nd rfl (Or.inl rfl) (pe_callTy call_list_of (by rfl) T.z_list (by decide +kernel) (pa_cons (pe_fld (pv 0) rfl) pa_nil)))
 (pss_cons (ps_fld (pv 0) (pe_call G_mark_after (hr.mono (by decide)) rfl T.m_mark_after T.F_mark_after.kp T.b_mark_after .nil pass0 (pa_cons pe_str (pa_cons (pe_fld (pv 0) rfl) pa_nil))) rfl)
 (pss_cons (ps_fld (pv 0) (pe_lst pa_nil) rfl)
 (pss_one (ps_ret (pv 1)))))), ?_⟩
    refine ⟨_, rfl, x, _, _, _, _, rfl, hx, T.cl, T.n_queue, (by rfl), q, ts, rfl, .inl (SqL.of hq), fun r hr => ?_⟩
    have s1 := Same.new (o := .lst ts) hr
    have hx1 := s1 _ _ hx
    refine ⟨_, rfl, x, _, _, _, _, rfl, hx1, T.cl, T.n_state, (by rfl), "drain", m, rfl, fun H2 e2 => ?_⟩
    have hx2 := e2 _ _ hx1
    have hr2 := e2 _ _ (upd_same (H := H) (a := r) (o := .lst ts))
    have hxr : x ≠ r := ne_of_none hx hr
    refine ⟨_, rfl, x, _, _, _, rfl, hx2, T.cl, T.n_state, (by show (6 : Nat) < 1000; decide), ?_⟩
    refine ⟨(by show 0 ≤ sizeLine; decide), fun q' hq' => ⟨_, rfl, x, A0.c_Line, dx, lineF n c (after "drain" m) q sd lt, rfl, ?_, T.cl, T.n_queue, (by show (6 : Nat) < 1000; decide), ?_⟩⟩
    · have hxq : x ≠ q' := ne_of_none (upd_same (a := x)) hq'
      rw [upd_ne hxq, upd_same]
      rfl
    · have hxq : x ≠ q' := ne_of_none (upd_same (a := x)) hq'
      have hqH : H2 q' = none := by
        rw [upd_ne (Ne.symm hxq)] at hq'
        exact hq'
      have hrq : r ≠ q' := ne_of_none hr2 hqH
      refine ⟨_, rfl, k q' r _ (Evl.fresh_back s1 (Evl.fresh_back e2 hqH)) hr hrq ?_ ⟨dx, upd_same, ?_⟩ ?_⟩
      · exact But.trans (But.trans (But.trans (fun b o _ h => e2 _ _ (s1 b o h)) But.upd) (fun b o _ h => Same.new hq' b o h)) But.upd
      · rw [upd_ne (Ne.symm hxq), upd_same]
      · rw [upd_ne (Ne.symm hxr), upd_ne hrq, upd_ne (Ne.symm hxr)]; exact hr2
end

end K33
end
section
set_option Elab.async false
set_option autoImplicit false
set_option linter.all false
set_option maxRecDepth 100000
set_option maxHeartbeats 2000000
/-! a comprehension whose iterator may raise; the consumer's own steps -/
namespace L2
open PySem PySem.Spec PyProof.Rows GenW
section
variable {X : Cx} {pins pn : List (Addr × Obj)} {σ : L2.St} {sv s s' : Shared} {Hv H H' : Hp} {L x a C : Addr} {h' : Heap} {t' : Nat} {o : HO}
theorem CS.gens (c : CS X pins σ sv Hv L x pn H s) (e : s'.heap = s.heap) (eo : s'.os = s.os) (hb : AllBare s'.gens) : CS X pins σ sv Hv L x pn H s' :=
  ⟨c.inv0, c.below, eo.trans c.os, hb, by rw [e]; exact c.un, by rw [e]; exact c.hok, by rw [e]; exact c.fr, c.free, by rw [e]; exact c.pin⟩
theorem CS.grown (c : CS X pins σ sv Hv L x pn H s) (k : ∀ b u, s.heap.get? b = some u → h'.get? b = some u) : CS X pins σ sv Hv L x pn H { s with heap := h', toks := t' } :=
  ⟨c.inv0, c.below, c.os, c.bare, c.un.trans (Un.kept k), c.hok.kept k, by obtain ⟨m, hn, hx⟩ := c.fr; exact ⟨m, hn.keeps k, hx⟩, c.free, fun p hp => ⟨k _ _ (c.pin p hp).1, (c.pin p hp).2⟩⟩
theorem CS.laid (c : CS X pins σ sv Hv L x pn H s) (k : ∀ b u, s.heap.get? b = some u → h'.get? b = some u) (hp : s.heap.objs.size ≤ a) (new : ObjOk X.prog X.w (upd H a o) h' a o) : CS X pins σ sv Hv L x pn (upd H a o) { s with heap := h', toks := t' } := by
  have lt : ∀ b u, s.heap.get? b = some u → b ≠ a := fun b u e => Nat.ne_of_lt (Nat.lt_of_lt_of_le (Heap.lt_size e) hp)
  obtain ⟨m, hn, hx⟩ := c.fr
  refine ⟨c.inv0, c.below, c.os, c.bare, c.un.trans (Un.laid k hp (c.hok.fresh hp)), c.hok.laid k hp new, ⟨m, hn.keeps k, hx⟩, ?_, fun p hm => ?_⟩
  · rw [upd_ne (Nat.ne_of_lt (Nat.lt_of_lt_of_le hn.lt hp))]
    exact c.free
  · obtain ⟨p1, p2, p3⟩ := c.pin p hm
    exact ⟨k _ _ p1, by rw [upd_ne (lt _ _ p1)]; exact p2, p3⟩
/-- a tracked list is written -/
theorem CS.write {l : Addr} (c : CS X pins σ sv Hv L x pn H s) (mu : Mut (H l)) (k : ∀ b u, b ≠ l → s.heap.get? b = some u → h'.get? b = some u) (he : ∃ u, h'.get? l = some u) (new : ObjOk X.prog X.w (upd H l o) h' l o) : CS X pins σ sv Hv L x pn (upd H l o) { s with heap := h', toks := t' } := by
  have ne : ∀ b, H b = none → b ≠ l := fun b n z => by rw [← z, n] at mu; exact mu
  obtain ⟨m, hn, hx⟩ := c.fr
  refine ⟨c.inv0, c.below, c.os, c.bare, c.un.trans (Un.write mu (.inl rfl) k he), c.hok.write mu (.inl rfl) k he new, ⟨m, hn.at fun u e => k _ u (ne _ c.free) e, hx⟩, ?_, fun p hm => ?_⟩
  · rw [upd_ne (ne _ c.free)]; exact c.free
  · obtain ⟨p1, p2, p3⟩ := c.pin p hm
    exact ⟨k _ _ (ne _ p2) p1, by rw [upd_ne (ne _ p2)]; exact p2, p3⟩
theorem CS.pinned {p : Addr × Obj} (c : CS X pins σ sv Hv L x pn H s) (h : s.heap.get? p.1 = some p.2 ∧ H p.1 = none ∧ p.1 ≠ L ∧ p.1 ∉ frs X.stack ∧ ∀ v, p.2.data ≠ .cell v) : CS X pins σ sv Hv L x (p :: pn) H s :=
  ⟨c.inv0, c.below, c.os, c.bare, c.un, c.hok, c.fr, c.free, fun p' hp => by
    rcases List.mem_cons.mp hp with rfl | hp
    · exact h
    · exact c.pin p' hp⟩
theorem CS.unpin {pn' : List (Addr × Obj)} (c : CS X pins σ sv Hv L x pn H s) (h : ∀ p ∈ pn', p ∈ pn) : CS X pins σ sv Hv L x pn' H s :=
  ⟨c.inv0, c.below, c.os, c.bare, c.un, c.hok, c.fr, c.free, fun p hp => c.pin p (h p hp)⟩
/-- a young object that is not tracked has turned -/
theorem CS.turned (c : CS X pins σ sv Hv L x pn H s) (k : ∀ b u, b ≠ C → s.heap.get? b = some u → h'.get? b = some u) (hC : sv.heap.objs.size ≤ C) (hn : H C = none) (hL : C ≠ L) (hp : ∀ p ∈ pn, p.1 ≠ C) : CS X pins σ sv Hv L x pn H { s with heap := h', toks := t' } := by
  have ol : ∀ b u, sv.heap.get? b = some u → b ≠ C := fun b u e => Nat.ne_of_lt (Nat.lt_of_lt_of_le (Heap.lt_size e) hC)
  have tr : ∀ b u, H b = some u → b ≠ C := fun b u e => ne_of_none e hn
  obtain ⟨m, hm, hx⟩ := c.fr
  refine ⟨c.inv0, c.below, c.os, c.bare, ⟨fun b u e n hb hx => k b u (ol b u e) (c.un.keep b u e n hb hx), fun b u e n hb hx => ?_, fun b u e n hx => c.un.free b u e n hx, fun b u e hx => ?_, c.un.tups, c.un.frzs, c.un.tbls⟩, fun b u e => ?_,
    ⟨m, hm.at fun u e => k _ u (Ne.symm hL) e, hx⟩, c.free, fun p hm => ⟨k _ _ (hp p hm) (c.pin p hm).1, (c.pin p hm).2⟩⟩
  · obtain ⟨sl, q⟩ := c.un.slot b u e n hb hx
    exact ⟨sl, k b _ (ol b u e) q⟩
  · obtain ⟨u', q⟩ := c.un.there b u e hx
    exact ⟨u', k b _ (ol b u e) q⟩
  · refine (c.hok b u e).stay (fun c' v hc y => k c' v ?_ y) (fun _ y => y) fun _ _ y => y
    rcases hc with y | y
    · rw [y]; exact tr b u e
    · exact tr c' _ y
end

/-! ### an exception leaves a comprehension -/
section
variable {X : Cx} {pins : List (Addr × Obj)} {σ : L2.St} {H H' : Hp} {s s' : Shared} {B : Heap} {W : WX} {E : XK} {a : Addr} {cls : Value} {d : Option Addr}
/-- noted by our frame: it is in our air -/
theorem XE.of_held (I : Inv X pins σ H s) (hh : HandSPX.HeldZ B X.stack a (Zc cls d) X.env.locals s'.heap) (hok : HOk X.prog X.w H' B) (ub : UB (frs X.stack) H H' s.heap B s'.heap) (na : H' a = none) (os : s'.os = s.os) (ag : AllBare s'.gens) (hW : W cls d σ H') : XE X W (.ref a) s' := by
  obtain ⟨G, g1, g2⟩ := restrict s'.heap fun b => (B.get? b).isSome || decide (b ∈ frs X.stack)
  have st : B.StaysIn s'.heap := hh.1
  have inB : ∀ b u, B.get? b = some u → G.get? b = some u := fun b u e => by
    rw [g1 b (by simp [e])]; exact st b u e
  have inF : ∀ b, b ∈ frs X.stack → G.get? b = s'.heap.get? b := fun b hb => g1 b (by simp [hb])
  have og : ∀ b u, G.get? b = some u → s'.heap.get? b = some u ∧ ((B.get? b).isSome = true ∨ b ∈ frs X.stack) := fun b u e => by
    cases q : ((B.get? b).isSome || decide (b ∈ frs X.stack)) with
    | false => rw [g2 b q] at e; cases e
    | true => exact ⟨(g1 b q).symm.trans e, by simpa [Bool.or_eq_true] using q⟩
  refine ⟨a, B, { s with heap := G, gens := s'.gens, drawn := s'.drawn, toks := s'.toks }, pins, σ, H', cls, d, rfl, ?_, fun b u e hb => ?_, Heap.UpToSlots.of_keeps fun b u e => (og b u e).1, .inr (.inr hh), na, os, ag, hW⟩
  · refine I.call (ch := []) ⟨fun b u e n hb _ => inB b u (ub.keep b u e n hb), fun b u e n hb _ => ?_, fun b u e n _ => ub.free b u e n, fun b u e _ => ?_, ub.tups, ub.frzs, ub.tbls⟩ (hok.kept inB) ag (fun _ z => nomatch z)
    · obtain ⟨sl, q⟩ := ub.slot b u e hb
      exact ⟨sl, (inF b hb).trans q⟩
    · by_cases hb : b ∈ frs X.stack
      · obtain ⟨sl, q⟩ := ub.slot b u e hb
        exact ⟨_, (inF b hb).trans q⟩
      · obtain ⟨u', q⟩ := ub.there b u e hb
        exact ⟨u', inB b u' q⟩
  · obtain ⟨e', h⟩ := og b u e
    rcases h with h | h
    · obtain ⟨u', q⟩ := Option.isSome_iff_exists.mp h
      have z := st b u' q
      rw [e'] at z; cases z
      exact q
    · exact absurd h hb
end
section
variable {M : Model} {A : Around} {E : Value → Shared → Prop} {s : Shared} {env : Env}
/-- what a comprehension does with its block's end, exceptions too -/
def compPostE (M : Model) (A : Around) (E : Value → Shared → Prop) (Q : Value → Shared → Prop) (acc : Value) (ce : Env) (r : Result) (s' : Shared) : Prop :=
  ∃ m, s'.heap.Ns ce.locals m ∧ ∀ h', Heap.SameBut ce.locals s'.heap h' → match r with
    | .ok _ => Q acc { s' with heap := h' }
    | .error x => wpAny M A (PySem.passOn "comprehension.variables-let-go" x ce : Sem Value) (fun _ _ => False) E { s' with heap := h' }
theorem comp_raises {e : Expr} {scope : Scope} {pos : Pos} {newAcc first : Sem Value} {g : Comprehension} {gs : List Comprehension} {cl : List (Str × Addr)} {Q : Value → Shared → Prop}
    (hcl : clausesOf e = g :: gs) (hs : ∀ x, foldedSetIterable g.iter env x = pure x) (hclos : closureFor scope env = pure cl) (hkind : scope.kind = .function) (hnames : ∀ x ∈ scope.names, x.2 = .local → scope.names.lookup x.1 = some .local)
    (h : wpAny M A first (fun x s1 => wpAny M A (pyIter x) (fun it s2 => wpAny M A newAcc (fun acc s3 => wpAny M A (newFunctionEnv scope env.globals cl [] env.qual none .none (some env))
      (fun ce s4 => codeAny M A (.compStart e 0 it acc { ce with scope := relabel scope env }) (compPostE M A E Q acc { ce with scope := relabel scope env }) s4) E s3) E s2) E s1) E s) :
    wpAny M A (comprehension e scope env pos newAcc false first none) Q E s := by
  unfold comprehension
  rw [hclos, hcl]
  refine wpAny_bind (wpAny_mono h (fun x s1 h1 => wpAny_bind (wpAny_standAt (wpAny_bind (wpAny_of_eq (hs x) (wpAny_bind (wpAny_holding (wpAny_mono h1 (fun it s2 h2 => ?_) fun _ _ z => z))))))) fun _ _ z => z)
  refine wpAny_standIf (wpAny_bind (wpAny_mono h2 (fun acc s3 h3 => wpAny_bind (wpAny_pure (wpAny_bind (wpAny_mono h3 (fun ce s4 h4 => ?_) fun _ _ z => z)))) fun _ _ z => z))
  dsimp only
  have hv : ∀ x ∈ (scope.names.filter fun x => (x.2 == .local || x.2 == .cell) && x.1 != (".0" : Str)).reverse, x.2 = .local → Env.kindOf { ce with scope := relabel scope env } x.1 = some .local :=
    fun x hx hl => lookup_relabel_local (hnames x (List.mem_filter.mp (List.mem_reverse.mp hx)).1 hl)
  refine wpAny_holding (wpAny_bind (wpAny_attempt (wpAny_holding (wpAny_run (codeAny_mono h4 fun r s' hr => ?_)))))
  obtain ⟨m, hn, hr⟩ := hr
  cases r with
  | ok f => exact wpAny_bind (wpAny_holding (wpAny_comp_letGo (cenv := { ce with scope := relabel scope env }) hkind _ s' m hv hn fun h' m' _ hs' => wpAny_pure (hr h' hs')))
  | error x => exact wpAny_bind (wpAny_holding (wpAny_comp_letGo (cenv := { ce with scope := relabel scope env }) hkind _ s' m hv hn fun h' m' _ hs' => wpAny_mono (hr h' hs') (fun _ _ f => f.elim) fun _ _ y => y))
end

theorem funFrames_at {base h h' : Heap} : ∀ {l : List Env}, h.FunFrames base l → (∀ b ∈ frs l, ∀ o, h.get? b = some o → h'.get? b = some o) → h'.FunFrames base l
  | [], _, _ => trivial
  | env :: l, x, k => by
    obtain ⟨hk, ⟨L, o, hf, hb, ho, hd⟩, hr⟩ := x
    exact ⟨hk, ⟨L, o, hf, hb, k L (List.mem_filterMap.mpr ⟨env, List.mem_cons_self, hf⟩) o ho, hd⟩, funFrames_at hr fun b hb => by
      obtain ⟨e, he, q⟩ := List.mem_filterMap.mp hb
      exact k b (List.mem_filterMap.mpr ⟨e, List.mem_cons_of_mem _ he, q⟩)⟩
section
variable {X : Cx} {pins : List (Addr × Obj)} {σ : L2.St} {H : Hp} {sc s1 : Shared} {W : WX} {E : XK} {e acc : Value} {C : Addr} {m : Str → Option Value} {ce : Env} {Qf : Value → Shared → Prop}
/-- an exception of the iterator goes through the comprehension's block -/
theorem comp_exc (I : Inv X pins σ H sc) (hs : X.stack = X.env :: X.outer) (hf : X.env.frame = some X.env.locals) (tk : Takes X W) (hW : ∀ cls d H', E cls d H' → W cls d σ H')
    (cx : CX X.prog X.w X.stack H sc (fun cls d H' => E cls d H' ∧ H' C = none) e s1) (hC : sc.heap.objs.size ≤ C) (hn : s1.heap.Ns C m) (hce : ce.frame = X.env.frame) (hcl : ce.locals = C) :
    notedBy (model X.prog X.w) X.A ce (fun e s' => compPostE (model X.prog X.w) X.A X.xe Qf acc ce (.error e) s') e s1 := by
  obtain ⟨a, B, H', cls, d, rfl, fl, hok, ub, na, os, ag, hE, hHC⟩ := cx
  have hfr : X.A.frames = some (X.env :: X.outer) := by rw [I.ok.frames, hs]
  have noF : C ∉ frs X.stack := fun hm => by
    obtain ⟨_, o, ho, _⟩ := I.stack.mem hm
    exact absurd (Nat.lt_of_lt_of_le (Heap.lt_size ho) hC) (Nat.lt_irrefl _)
  -- the ground without the block's variables
  obtain ⟨B', b1, b2⟩ : ∃ B' : Heap, (∀ b o, b ≠ C → B.get? b = some o → B'.get? b = some o) ∧ (∀ b o, B'.get? b = some o → B.get? b = some o ∧ b ≠ C) := by
    obtain ⟨G, g1, g2⟩ := restrict B fun b => decide (b ≠ C)
    refine ⟨G, fun b o hb ho => (g1 b (by simp [hb])).trans ho, fun b o ho => ?_⟩
    by_cases hb : b = C
    · rw [g2 b (by simp [hb])] at ho; cases ho
    · exact ⟨(g1 b (by simp [hb])).symm.trans ho, hb⟩
  have bn : ∀ b, B.get? b = none → B'.get? b = none := fun b n => by
    cases q : B'.get? b with
    | none => rfl
    | some o => rw [(b2 b o q).1] at n; cases n
  have fl' : HandSPX.FlyingZ B' (X.env :: X.outer) a (Zc cls d) s1.heap := by
    rw [hs] at fl
    obtain ⟨f1, f2, f3, oe, vs, T, oT, ts, q1, q2, q3, q4, q5, q6⟩ := fl
    exact ⟨fun b o e => f1 b o (b2 b o e).1, bn _ f2, funFrames_none f3 fun b hb => bn b (f3.mem hb).1, oe, vs, T, oT, ts, q1, q2, q3, q4, bn _ q5, q6⟩
  have hok' : HOk X.prog X.w H' B' := fun b o q => (hok b o q).stay (fun c u hc r => b1 c u (fun z => by
    rcases hc with hc | hc
    · rw [← hc, z, hHC] at q; cases q
    · rw [z, hHC] at hc; cases hc) r) (fun _ r => r) fun _ _ r => r
  have old : ∀ b o, sc.heap.get? b = some o → b ≠ C := fun b o e => Nat.ne_of_lt (Nat.lt_of_lt_of_le (Heap.lt_size e) hC)
  have hnote : noteFrame (.ref a) ce = noteFrame (.ref a) X.env := by unfold noteFrame PySem.frameOf; rw [hce]
  unfold notedBy
  rw [hnote]
  refine HandSPX.looks_onZ Zc.steady hfr hf fl' fun h2 hh2 up2 => ?_
  obtain ⟨oC, es, ep, hoC, hdC, hkC, hmC⟩ := hn
  obtain ⟨sl2, hC2⟩ := up2 C oC hoC fun vs q => by rw [hdC] at q; cases q
  refine ⟨m, ?_, fun h3 sb => ?_⟩
  · rw [hcl]; exact ⟨_, es, ep, hC2, hdC, hkC, hmC⟩
  rw [hcl] at sb
  have notC : ∀ b o vs, h2.get? b = some o → o.data = .fields vs → b ≠ C := fun b o vs e q z => by
    rw [z, hC2] at e
    cases e
    rw [show ({ oC with slots := sl2 } : Obj).data = oC.data from rfl, hdC] at q
    cases q
  obtain ⟨k1, k2, k3, oe, vs, T, oT, ts, q1, q2, q3, q4, q5, q6, q7, q8, q9⟩ := hh2
  have e1 : h3.get? a = some oe := (sb.2 a (notC a oe vs q1 q3)).trans q1
  have hh3 : HandSPX.HeldZ B' (X.env :: X.outer) a (Zc cls d) X.env.locals h3 :=
    ⟨fun b o e => (sb.2 b (b2 b o e).2).trans (k1 b o e), k2, funFrames_at k3 fun b hb o e => (sb.2 b (fun z => noF (by rw [hs, ← z]; exact hb))).trans e, oe, vs, T, oT, ts, e1, q2, q3, q4, q5, q6, (sb.2 T (notC T oT ts q7 q8)).trans q7, q8, q9⟩
  show wpAny _ _ (PySem.passOn _ (.ref a) ce) _ _ _
  unfold PySem.passOn
  refine wpAny_bind (wpAny_field e1 q3 q4 ?_)
  rw [if_neg (show ¬ ((Value.ref T == Value.none) = true) from by simp)]
  rw [hce, hf]
  have fin : ∀ h4, HandSPX.HeldZ B' (X.env :: X.outer) a (Zc cls d) X.env.locals h4 → h3.UpToSlots h4 → X.xe (.ref a) { s1 with heap := h4 } := fun h4 hh4 up4 => by
    refine tk _ _ (XE.of_held (B := B') (cls := cls) (d := d) I (by rw [hs]; exact hh4) hok' ⟨fun b o e n hb => b1 b o (old b o e) (ub.keep b o e n hb), fun b o e hb => ?_, ub.free, fun b o e hb => ?_, ub.tups, ub.frzs, ub.tbls⟩ na os ag (hW _ _ _ hE))
    · obtain ⟨_, o', e', hnf⟩ := I.stack.mem hb
      rw [e] at e'; cases e'
      obtain ⟨sl, r1⟩ := ub.slot b o e hb
      obtain ⟨sl2, r2⟩ := up2 b _ r1 hnf
      have r3 := (sb.2 b (old b o e)).trans r2
      obtain ⟨sl4, r4⟩ := up4 b _ r3 hnf
      exact ⟨sl4, r4⟩
    · obtain ⟨o', r⟩ := ub.there b o e hb
      exact ⟨o', b1 b o' (old b o e) r⟩
  first
    | exact wpAny_bind (wpAny_pure (wpAny_bind (HandSPX.setFlight_onZ hh3 fun h4 hh4 up4 => wpAny_throw (fin h4 hh4 up4))))
    | exact wpAny_bind (HandSPX.setFlight_onZ hh3 fun h4 hh4 up4 => wpAny_throw (fin h4 hh4 up4))
end
end L2
end
section
set_option Elab.async false
set_option autoImplicit false
set_option linter.all false
set_option maxRecDepth 100000
set_option maxHeartbeats 4000000
namespace K33
open PySem PySem.Spec PyProof.Rows L2 PySem.OxE LawC GenW
section
abbrev aBody : List Stmt := defBody s_Line_answers
def wTest : Stmt → Expr
  | .While t _ _ _ => t
  | _ => .Name "" ⟨0, 0, 0, 0⟩
def wBody : Stmt → List Stmt
  | .While _ b _ _ => b
  | _ => []
def wYield : Stmt → Expr
  | .Expr (.Yield (some e) _) _ => e
  | _ => .Name "" ⟨0, 0, 0, 0⟩
theorem fault_read {m : Str} {k : Int} (hm : isIn m = false) (hc : m ≠ "closed") (hk : 0 < k) : fault "read" m k = none := by
  have hr : ("read" : Str) ∈ LW := by decide
  unfold fault
  rw [if_neg (fun q => q hr), if_neg hc]
  have ha : amid "read" m = false := by
    unfold amid
    rw [if_neg (by decide), if_neg (by decide), if_pos (by decide)]
    exact hm
  rw [ha, if_neg Bool.false_ne_true, if_neg]
  simp
  omega
abbrev aEnv (L f : Addr) (cd : Value) : Env := envOfC "Line.answers" (defScope s_Line_answers) L f cd
variable {X : Cx} {A0 : Ad} {A : Around} {L x f q : Addr} {cd : Value} {n c : V} {m : Str} {sd : V} {lt : Bool}
def AY (Wk : List V → Shared → Prop) (Yl : V → List V → Shared → Prop) : Protocol := fun n _ v s1 kap => ∃ t ts, ts.length = n ∧ RelV t v ∧ Yl t ts s1 ∧ ∀ s2, Wk ts s2 → kap (.send .none) s2
def AR (Fin : Shared → Prop) (Er : Value → Shared → Prop) : GenEnd := fun _ _ r s1 => ((r = .ok (.ret .none) ∨ r = .ok .next) ∧ Fin s1) ∨ ∃ e, r = .error e ∧ Er e s1
/-- what the consumer keeps at a wake, ts owed; whatever the generator leaves then is what it wants -/
def AKeep (A0 : Ad) (X : Cx) (L x q : Addr) (n c : V) (m : Str) (sd : V) (lt : Bool) (Yl : V → List V → Shared → Prop) (Fin : Shared → Prop) (ts : List V) (s : Shared) : Prop :=
  ∃ pins σ sv Hv pn H, CS X pins σ sv Hv L x pn H s ∧ LineAt A0 H x n c m q ts sd lt ∧ ∀ H' s', CS X pins σ sv Hv L x pn H' s' → But2 x q H H' →
    (∀ t ts', ts = t :: ts' → LineAt A0 H' x n c m q ts' sd lt → Yl t ts' s') ∧ (ts = [] → LineAt A0 H' x n c m q [] sd lt → Fin s')
theorem ans_loop (T : Txt X.prog X.K X.mg A0) {Wk : List V → Shared → Prop} {Yl : V → List V → Shared → Prop} {Fin : Shared → Prop} {Er : Value → Shared → Prop} {kk : Result → Sem PySem.Fin} {p : Pos}
    (hA : A.frames = some X.stack) (hr : Room 6 A) (hm : isIn m = false) (hc : m ≠ "closed") (hW : ∀ ts s, Wk ts s → AKeep A0 X L x q n c m sd lt Yl Fin ts s)
    (hk : ∀ n s₀ s, Fin s → Seg (model X.prog X.w) A (AR Fin Er) (AY Wk Yl) n s₀ (.func aBody (aEnv L f cd)) (kk (.ok .next)) [] s) :
    ∀ (k : Nat) (ts : List V) (s₀ s : Shared), ts.length = k → Wk ts s → Seg (model X.prog X.w) A (AR Fin Er) (AY Wk Yl) k s₀ (.whileLoop (wTest (aBody.getD 1 (.Pass ⟨0, 0, 0, 0⟩))) (wBody (aBody.getD 1 (.Pass ⟨0, 0, 0, 0⟩))) [] (aEnv L f cd))
      ((model X.prog X.w).den (.whileLoop (wTest (aBody.getD 1 (.Pass ⟨0, 0, 0, 0⟩))) (wBody (aBody.getD 1 (.Pass ⟨0, 0, 0, 0⟩))) [] (aEnv L f cd))) [.ret kk none false [] (.func aBody (aEnv L f cd)) p []] s := by
  have hov : A.over (.whileLoop (wTest (aBody.getD 1 (.Pass ⟨0, 0, 0, 0⟩))) (wBody (aBody.getD 1 (.Pass ⟨0, 0, 0, 0⟩))) [] (aEnv L f cd)) [.ret kk none false [] (.func aBody (aEnv L f cd)) p []] = A.deeper (aEnv L f cd) := (over_loop rfl rfl).trans over_func
  intro k
  induction k with
  | zero =>
    intro ts s₀ s hl hw
    obtain rfl : ts = [] := List.length_eq_zero_iff.mp hl
    obtain ⟨pins, σ, sv, Hv, pn, H, cs, hL, hn⟩ := hW _ _ hw
    have I := cs.start (A := A) (xe := fun _ _ => False) (f := f) (cd := cd) (qual := "Line.answers") hA hr.hd sc_Line_answers rfl
    refine seg_whileLoop ?_
    rw [hov]
    have pt : PT (wakeX X (aEnv L f cd) ["self"] sv Hv pn A fun _ _ => False) (wTest (aBody.getD 1 (.Pass ⟨0, 0, 0, 0⟩))) _ := pt_cmpR op_gt (pe_callB call_len (by rfl) T.z_len PySem.boot_len (pa_cons (pe_fld (pv 0) rfl) pa_nil)) pe_int (nomark _)
    obtain ⟨dx, hx, hq⟩ := id hL
    refine wpAny_mono (pt.run [] s _ H (fun b H1 => b = false ∧ H1 = H) I ⟨_, rfl, x, _, _, _, _, rfl, hx, T.cl, T.n_queue, (by rfl), _, _, rfl, (by exact .inl ⟨_, SqL.of hq, rfl⟩), _, _, rfl, rfl, _, rfl, rfl, rfl⟩) (fun b s1 hb => ?_) fun _ _ z => z.elim
    obtain ⟨H1, I1, rfl, rfl⟩ := hb
    rw [if_neg Bool.false_ne_true]
    refine seg_execs_nil ?_
    exact seg_leaf (.ok .next) (hk 0 s₀ s1 ((hn _ s1 (cs.stop sc_Line_answers rfl I1) (fun b o _ _ e => e)).2 rfl hL))
  | succ k ih =>
    intro ts s₀ s hl hw
    obtain ⟨t, ts', rfl⟩ : ∃ t ts', ts = t :: ts' := by
      cases ts with
      | nil => simp at hl
      | cons t ts' => exact ⟨t, ts', rfl⟩
    obtain ⟨pins, σ, sv, Hv, pn, H, cs, hL, hn⟩ := hW _ _ hw
    have I := cs.start (A := A) (xe := fun _ _ => False) (f := f) (cd := cd) (qual := "Line.answers") hA hr.hd sc_Line_answers rfl
    refine seg_whileLoop ?_
    rw [hov]
    have pt : PT (wakeX X (aEnv L f cd) ["self"] sv Hv pn A fun _ _ => False) (wTest (aBody.getD 1 (.Pass ⟨0, 0, 0, 0⟩))) _ := pt_cmpR op_gt (pe_callB call_len (by rfl) T.z_len PySem.boot_len (pa_cons (pe_fld (pv 0) rfl) pa_nil)) pe_int (nomark _)
    obtain ⟨dx, hx, hq⟩ := id hL
    refine wpAny_mono (pt.run [] s _ H (fun b H1 => b = true ∧ H1 = H) I ⟨_, rfl, x, _, _, _, _, rfl, hx, T.cl, T.n_queue, (by rfl), _, _, rfl, (by exact .inl ⟨_, SqL.of hq, rfl⟩), _, _, rfl, rfl, _, rfl, by simp, rfl⟩) (fun b s1 hb => ?_) fun _ _ z => z.elim
    obtain ⟨H1, I1, rfl, rfl⟩ := hb
    rw [if_pos rfl]
    have G_Line_read : FnOk X.prog X.w X.K X.mg X.base (CX X.prog X.w) 5 A0.f_Line_read A0.fd_Line_read ["self"] (fun vs H Q E => vs.length = 1 ∧ spRow A0 "read" nLen (okRead A0) vs H Q E) := ok_Line_read T
    refine seg_execs_cons (seg_Expr_Yield (by rfl) (by rfl) (by rfl) ?_)
    rw [hov]
    have pe : PE (wakeX X (aEnv L f cd) ["self"] sv Hv pn A fun _ _ => False) (wYield ((wBody (aBody.getD 1 (.Pass ⟨0, 0, 0, 0⟩))).getD 0 (.Pass ⟨0, 0, 0, 0⟩))) _ := pe_methX0 (X := wakeX X (aEnv L f cd) ["self"] sv Hv pn A fun _ _ => False) (E := fun _ _ _ _ => False) (pv 0) T.cl T.M_Line_read G_Line_read (hr.deeper _) T.b_Line_read (fun σ pins H s e s' _ h => by obtain ⟨_, _, _, _, _, _, _, _, _, _, _, _, z⟩ := h; exact z)
    refine wpAny_mono (pe.run [] s1 [some (.ref x)] H1 (fun v H2 => v = t ∧ But2 x q H1 H2 ∧ LineAt A0 H2 x n c m q ts' sd lt) I1 ?_) (fun v s2 h2 => ?_) fun _ _ z => z.elim
    · refine ⟨_, rfl, x, _, _, rfl, hx, (by rfl), rfl, x, [], n, c, m, q, t :: ts', sd, lt, rfl, hL, fun _ => ⟨rfl, t, ts', rfl, fun H2 b2 l2 => ⟨rfl, b2, l2⟩⟩, fun u hu => ?_⟩
      rw [fault_read hm hc (by unfold nLen; simp)] at hu
      cases hu
    · obtain ⟨v', H2, I2, rv, rfl, b2, l2⟩ := h2
      intro kap hkap
      refine ⟨v', ts', by simpa using hl, rv, (hn _ s2 (cs.stop sc_Line_answers rfl I2) b2).1 _ _ rfl l2, fun s3 hw3 => hkap .none s3 ?_⟩
      exact seg_execs_nil (seg_again rfl (ih ts' s3 s3 (by simpa using hl) hw3))
theorem read_ok {m : Str} (h : fault "read" m 1 = none) : isIn m = false ∧ m ≠ "closed" := by
  have hr : ("read" : Str) ∈ LW := by decide
  unfold fault at h
  rw [if_neg (fun q => q hr)] at h
  by_cases hc : m = "closed"
  · rw [if_pos hc] at h; cases h
  · rw [if_neg hc] at h
    refine ⟨?_, hc⟩
    cases hi : isIn m with
    | false => rfl
    | true =>
      have ha : amid "read" m = true := by
        unfold amid
        rw [if_neg (by decide), if_neg (by decide), if_pos (by decide)]
        exact hi
      rw [ha, if_pos rfl] at h; cases h
/-- the first wake -/
theorem ans_fresh (T : Txt X.prog X.K X.mg A0) {Wk : List V → Shared → Prop} {Yl : V → List V → Shared → Prop} {Fin : Shared → Prop} {Er : Value → Shared → Prop} {E : XK} {pins pn : List (Addr × Obj)} {σ : L2.St} {sv s s₀ : Shared} {Hv H : Hp} {ts : List V}
    (hA : A.frames = some X.stack) (hr : Room 6 A) (cs : CS X pins σ sv Hv L x pn H s) (hL : LineAt A0 H x n c m q ts sd lt) (hW : ∀ ts s, Wk ts s → AKeep A0 X L x q n c m sd lt Yl Fin ts s)
    (hgo : fault "read" m 1 = none → ∀ H' s', CS X pins σ sv Hv L x pn H' s' → Same H H' → Wk ts s') (hno : ∀ u, fault "read" m 1 = some u → RaiF A0 H E u n m)
    (hEr : ∀ e s', CX X.prog X.w X.stack Hv sv (fun cls d H' => E cls d H' ∧ ∀ p ∈ pn, H' p.1 = none) e s' → (∀ p ∈ pn, s'.heap.get? p.1 = some p.2) → Er e s') :
    Seg (model X.prog X.w) A (AR Fin Er) (AY Wk Yl) ts.length s₀ (.func aBody (aEnv L f cd)) ((model X.prog X.w).den (.func aBody (aEnv L f cd))) [] s := by
  have G_Line_need : FnOk X.prog X.w X.K X.mg X.base (CX X.prog X.w) 4 A0.f_Line_need A0.fd_Line_need ["self", "word", "owed"] (spNeed A0) := ok_need T
  obtain ⟨xe, hxe⟩ : ∃ xe : Value → Shared → Prop, xe = fun e s' => wpAny (model X.prog X.w) (A.deeper (aEnv L f cd)) (leaving (aEnv L f cd) e) (fun _ s'' => CX X.prog X.w X.stack Hv sv (fun cls d H' => E cls d H' ∧ ∀ p ∈ pn, H' p.1 = none) e s'' ∧ ∀ p ∈ pn, s''.heap.get? p.1 = some p.2) (fun _ _ => False) s' := ⟨_, rfl⟩
  have tk : Takes (wakeX X (aEnv L f cd) ["self"] sv Hv pn A xe) (fun cls d _ H' => E cls d H') := fun u s' y => by
    show xe u s'
    rw [hxe]
    exact XE.leaveG (X := wakeX X (aEnv L f cd) ["self"] sv Hv pn A xe) (W := fun cls d _ H' => E cls d H' ∧ ∀ p ∈ pn, H' p.1 = none) (E := fun cls d H' => E cls d H' ∧ ∀ p ∈ pn, H' p.1 = none) rfl rfl rfl (fun _ _ _ _ h => h) (XE.strong y)
  have I := cs.start (A := A) (xe := xe) (f := f) (cd := cd) (qual := "Line.answers") hA hr.hd sc_Line_answers rfl
  refine seg_func (seg_execs_cons (seg_wrap ?_))
  rw [over_func]
  have ps : PS (wakeX X (aEnv L f cd) ["self"] sv Hv pn A xe) (aBody.getD 0 (.Pass ⟨0, 0, 0, 0⟩)) _ := ps_expr (pe_methX (pv 0) T.cl T.M_Line_need G_Line_need ((hr.mono (by decide : 5 ≤ 6)).deeper _) T.b_Line_need (passAt tk) (pa_cons pe_str (pa_cons pe_int pa_nil)))
  obtain ⟨dx, hx, hq⟩ := id hL
  refine wpAny_mono (ps.run [] s _ H { nx := fun σ' H' => σ' = [some (.ref x)] ∧ fault "read" m 1 = none ∧ Same H H', rt := fun _ _ => False } I ?_) (fun fl s1 hs => ?_) (fun e s1 he => ?_)
  · exact ⟨_, rfl, x, _, _, rfl, hx, (by rfl), x, "read", 1, n, c, m, q, ts, sd, lt, rfl, hL, fun hf H1 e1 => ⟨rfl, hf, e1⟩, fun u hu => hno u hu⟩
  · cases fl with
    | next =>
      obtain ⟨σ', H1, I1, rfl, hf, s1H⟩ := hs
      obtain ⟨hm, hc⟩ := read_ok hf
      refine seg_execs_cons (seg_While fun p => ?_)
      refine ans_loop T hA hr hm hc hW (fun n s₀ s' hF => ?_) ts.length ts _ s1 rfl (hgo hf _ _ (cs.stop sc_Line_answers rfl I1) s1H)
      exact seg_execs_nil (env := aEnv L f cd) (seg_end (.ok (.ret .none)) (.inl ⟨.inl rfl, hF⟩))
    | brk => obtain ⟨_, _, _, z⟩ := hs; exact z.elim
    | cont => obtain ⟨_, _, _, z⟩ := hs; exact z.elim
    | ret u => obtain ⟨_, _, _, _, _, z⟩ := hs; exact z.elim
  · refine seg_wrap ?_
    rw [over_func]
    have he : xe e s1 := he
    rw [hxe] at he
    exact wpAny_mono he (fun _ s'' z => seg_end (.error e) (.inr ⟨e, rfl, hEr _ _ z.1 z.2⟩)) fun _ _ z => z.elim
end

end K33
end
section
set_option Elab.async false
set_option autoImplicit false
set_option linter.all false
set_option maxRecDepth 100000
set_option maxHeartbeats 4000000
namespace K33
open PySem PySem.Spec PyProof.Rows L2 PySem.OxE LawC GenW
section
variable {P : Program} {w : World} {K : PySem.W.Frag} {mg : Str → Option Value} {base : Heap} {A0 : Ad}
theorem b_init1 (T : Txt P K mg A0) : Binds K A0.fd_Line_init ["self", "number"] [] := by
  obtain ⟨ds, hv, hb⟩ := T.F_Line_init.binds1 (ps := ["self", "number"]) 2 1 (by simp) rfl (fun T kV doc pm an cdv ct us its l1 l2 => match us, its, l1, l2 with | [a, b], [c], _, _ => ⟨_, rfl, rfl⟩)
  cases hv
  exact hb
theorem b_init0 (T : Txt P K mg A0) : ∃ ds, Vals [.int 0] ds ∧ Binds K A0.fd_Line_init ["self", "number"] ds :=
  T.F_Line_init.binds1 (ps := ["self", "number"]) 1 0 (by simp) rfl (fun T kV doc pm an cdv ct us its l1 l2 => match us, its, l1, l2 with | [a], [c], _, _ => ⟨_, rfl, rfl⟩)
theorem b_close1 (T : Txt P K mg A0) : Binds K A0.fd_Line_close ["self", "cause"] [] := by
  obtain ⟨ds, hv, hb⟩ := T.F_Line_close.binds1 (ps := ["self", "cause"]) 2 1 (by simp) rfl (fun T kV doc pm an cdv ct us its l1 l2 => match us, its, l1, l2 with | [a, b], [c], _, _ => ⟨_, rfl, rfl⟩)
  cases hv
  exact hb
theorem b_close0 (T : Txt P K mg A0) : ∃ ds, Vals [.non] ds ∧ Binds K A0.fd_Line_close ["self", "cause"] ds :=
  T.F_Line_close.binds1 (ps := ["self", "cause"]) 1 0 (by simp) rfl (fun T kV doc pm an cdv ct us its l1 l2 => match us, its, l1, l2 with | [a], [c], _, _ => ⟨_, rfl, rfl⟩)
end

end K33
end
section
set_option Elab.async false
set_option autoImplicit false
set_option linter.all false
set_option maxRecDepth 100000
set_option maxHeartbeats 2000000
/-! len(o) by the class's own __len__ -/
namespace L2
open PySem PySem.Spec PyProof.Rows
section
variable {X : Cx} {CX : CXT} {k : Nat} {f C : Addr} {fd : FuncData} {ps : List Str} {sp : Sp} {E : XK}
def rLenOwn (C : Addr) (sp : Sp) (E : XK) : List V → Hp → VK → Prop := fun xs H Q => ∃ a dx fs, xs = [.ref a] ∧ H a = some (.ins C dx fs) ∧ sp [.ref a] H (fun v H1 => ∃ n : Int, v = .int n ∧ 0 ≤ n ∧ n < 2 ^ 63 ∧ Q (.int n) H1) E
theorem call_lenOwn (S : Spc X.K C "__len__" f) (F : FnOk X.prog X.w X.K X.mg X.base CX k f fd ps sp) (hr : Room (k + 1) X.A) (hb : Binds X.K fd ps []) (hx : Passes CX X E) : CallR X (.builtin "len") (rLenOwn C sp E) := by
  intro pins s σ H xs us Q I r h
  obtain ⟨a, dx, fs, rfl, ea, q⟩ := h
  obtain rfl := Vals.ref1 r
  obtain ⟨mA, J, _⟩ := ins_get I.hok ea
  obtain ⟨od, J, _⟩ := J.look
  obtain ⟨m, hF⟩ := I.fr
  refine PySem.W.len_K hF I.ok.mod.kin J S.find S.isf (wpAny_mono (run_own (us := [.ref a]) (vs := [.ref a]) F ⟨hr.in1, rfl⟩ hb (fun pins H s e s' => hx pins σ H s e s') I (.cons (show RelV (V.ref a) (Value.ref a) from rfl) .nil) q) (fun v s4 ⟨z, H4, I4, rz, n, ez, h0, h1, q4⟩ => ?_) fun _ _ z => z)
  subst ez
  obtain ⟨t, rfl⟩ := rz
  exact ⟨⟨h0, h1⟩, .int n, H4, I4.tok _, ⟨_, rfl⟩, q4⟩
end
end L2
end
section
set_option Elab.async false
set_option autoImplicit false
set_option linter.all false
set_option maxRecDepth 100000
set_option maxHeartbeats 2000000
/-! readings: _law_same of data, properties, own len and in, dict fields -/
namespace LawC
open PySem PySem.Spec PyProof.Rows L2 PySem.OxE
theorem dpA_strs {K : PySem.W.Frag} {H : Hp} : ∀ us : List Str, DpAll K H (us.map V.str) (us.map PyData.str)
  | [] => .nil
  | u :: us => .cons (.str u) (dpA_strs us)
theorem dp_strs {K : PySem.W.Frag} {H : Hp} {a : Addr} {us : List Str} (h : H a = some (.lst (us.map V.str))) : Dp K H (.ref a) (.list (us.map PyData.str)) := .lst (SqL.of h) (dpA_strs us)
theorem depA_strs : ∀ us : List Str, depAll (us.map PyData.str) = 0
  | [] => rfl
  | u :: us => by
    rw [List.map_cons]
    unfold depAll
    rw [depA_strs us]
    rfl
theorem okA_strs : ∀ us : List Str, okDAll (us.map PyData.str) = true
  | [] => rfl
  | u :: us => by
    rw [List.map_cons]
    unfold okDAll
    rw [okA_strs us]
    rfl
theorem dep_strs (us : List Str) : dep (.list (us.map PyData.str)) ≤ 1 := by
  unfold dep
  rw [depA_strs]
  exact Nat.le_refl 1
theorem ok_strs {us : List Str} (h : us.length ≤ 1000) : okD (.list (us.map PyData.str)) = true := by
  unfold okD
  rw [okA_strs, List.length_map, decide_eq_true h]
  rfl
theorem SrcAt.new {H : Hp} {p l : Addr} {t : Int} {o : HO} (s : SrcAt H p t) (hl : H l = none) : SrcAt (upd H l o) p t := by
  obtain ⟨⟨d, m, h, r⟩, t0⟩ := s
  exact ⟨⟨d, m, Same.new hl _ _ h, r⟩, t0⟩
theorem SrcAt.ne {H : Hp} {p l : Addr} {t : Int} (s : SrcAt H p t) (hl : H l = none) : p ≠ l := by
  obtain ⟨⟨d, m, h, r⟩, t0⟩ := s
  exact ne_of_none h hl
theorem SrcAt.same {H H' : Hp} {p : Addr} {t : Int} (s : SrcAt H p t) (e : Same H H') : SrcAt H' p t := by
  obtain ⟨⟨d, m, h, r⟩, t0⟩ := s
  exact ⟨⟨d, m, e _ _ h, r⟩, t0⟩
theorem SrcAt.lst {H : Hp} {p : Addr} {t : Int} (s : SrcAt H p t) : ∃ xs, H p = some (.lst xs) := by
  obtain ⟨⟨d, m, h, _⟩, _⟩ := s
  exact ⟨_, h⟩
theorem _root_.L2.But.ofSame {p : Addr} {H H' : Hp} (e : Same H H') : But p H H' := fun b o _ h => e b o h
theorem _root_.L2.But.fresh {p d : Addr} {H H1 : Hp} {t : Int} (b : But p H H1) (hd : H1 d = none) (s : SrcAt H1 p t) : H d = none := by
  cases h : H d with
  | none => rfl
  | some o =>
    have := b d o (fun q => by rw [q] at hd; obtain ⟨xs, hx⟩ := SrcAt.lst s; rw [hx] at hd; cases hd) h
    rw [hd] at this
    cases this
def layS (u : Str) : Prop := (PyData.str u).canLay0 = true
theorem lay_strs : ∀ {us : List Str}, (∀ u ∈ us, layS u) → PyData.canLayAll0 (us.map PyData.str) = true
  | [], _ => by simp only [List.map_nil, PyData.canLayAll0]
  | u :: us, h => by
    have h1 : (PyData.str u).canLay0 = true := h u (by simp)
    rw [List.map_cons]
    unfold PyData.canLayAll0
    rw [h1, lay_strs (us := us) (fun v hv => h v (by simp [hv]))]
    rfl
theorem depthA_strs : ∀ us : List Str, PyData.depthAll (us.map PyData.str) = 0
  | [] => by simp only [List.map_nil, PyData.depthAll]
  | u :: us => by
    rw [List.map_cons]
    unfold PyData.depthAll
    rw [depthA_strs us]
    unfold PyData.depth
    rfl
theorem sh_strs {us : List Str} (h : ∀ u ∈ us, layS u) : SeqAt.shaped (.list (us.map PyData.str)) = true := by
  unfold SeqAt.shaped
  rw [show PyData.canLay0 (.list (us.map PyData.str)) = true from by unfold PyData.canLay0; exact lay_strs h]
  unfold PyData.depth
  rw [depthA_strs]
  rfl
theorem eqv_nil {us : List Str} : PyData.eqv (.list (us.map PyData.str)) (.list []) = decide (us.length = 0) := by
  cases us <;> rfl
section
variable {K : PySem.W.Frag} {σ : L2.St} {H : Hp} {te tb : TE}
theorem ev_eqDE {ta : TE} {v : V} {d e : PyData} {b : Bool} (ha : Evl.Ev ta σ H v) (hb : EvD K tb σ H e) (dv : Dp K H v d) (sx : SeqAt.shaped d = true) (sy : SeqAt.shaped e = true) (h : PyData.eqv d e = b) : Evl.Ev (tOp (rEqD K) ta tb) σ H (.bl b) := fun H1 e1 Q q =>
  ha H1 e1 _ fun H2 e2 => hb H2 (e1.trans e2) _ fun u H3 e3 du => ⟨d, e, (dv.mono ((e1.trans e2).trans e3)), du, sx, sy, by rw [h]; exact q H3 (e2.trans e3)⟩
theorem ev_neDE {ta : TE} {v : V} {d e : PyData} {b : Bool} (ha : Evl.Ev ta σ H v) (hb : EvD K tb σ H e) (dv : Dp K H v d) (sx : SeqAt.shaped d = true) (sy : SeqAt.shaped e = true) (h : PyData.eqv d e = b) : Evl.Ev (tOp (rNeD K) ta tb) σ H (.bl (!b)) := fun H1 e1 Q q =>
  ha H1 e1 _ fun H2 e2 => hb H2 (e1.trans e2) _ fun u H3 e3 du => ⟨d, e, (dv.mono ((e1.trans e2).trans e3)), du, sx, sy, by rw [h]; exact q H3 (e2.trans e3)⟩
/-- a list of texts != [] -/
theorem ev_neNil {i : Nat} {a : Addr} {us : List Str} (h : σ[i]? = some (some (.ref a))) (ha : H a = some (.lst (us.map V.str))) (hl : ∀ u ∈ us, layS u) : Evl.Ev (tOp (rNeD K) (tVar i) (tLst tNil)) σ H (.bl (!decide (us.length = 0))) :=
  ev_neDE (e := .list []) (Evl.ev_var h) (evd_lst evds_nil (by simp)) (dp_strs ha) (sh_strs hl) rfl eqv_nil
/-- a list of texts == [] -/
theorem ev_eqNil {i : Nat} {a : Addr} {us : List Str} (h : σ[i]? = some (some (.ref a))) (ha : H a = some (.lst (us.map V.str))) (hl : ∀ u ∈ us, layS u) : Evl.Ev (tOp (rEqD K) (tVar i) (tLst tNil)) σ H (.bl (decide (us.length = 0))) :=
  ev_eqDE (e := .list []) (Evl.ev_var h) (evd_lst evds_nil (by simp)) (dp_strs ha) (sh_strs hl) rfl eqv_nil
end
section
variable {K : PySem.W.Frag} {σ : L2.St} {H : Hp} {ta tb te : TE}
theorem ev_same {n : Nat} {d : PyData} (ha : EvD K ta σ H d) (hb : EvD K tb σ H d) (hd : dep d ≤ n := by exact Nat.zero_le _) (ho : okD d = true := by rfl) : Evl.Ev (tCall (spSame K n) [] E0 (tCons ta (tCons tb tNil))) σ H (.bl true) := fun H1 e1 Q q =>
  ha H1 e1 _ fun v H2 e2 hv => hb H2 (e1.trans e2) _ fun u H3 e3 hu => ⟨v, u, d, rfl, hv.mono e3, hu, hd, ho, fun H4 e4 => q H4 ((e2.trans e3).trans e4)⟩
/-- not _law_same(..): false -/
theorem et_nsame {n : Nat} {d : PyData} (ha : EvD K ta σ H d) (hb : EvD K tb σ H d) (hd : dep d ≤ n := by exact Nat.zero_le _) (ho : okD d = true := by rfl) : Evl.EvT (tNot (tB (tCall (spSame K n) [] E0 (tCons ta (tCons tb tNil))))) σ H false :=
  Evl.et_is (Evl.et_not (a := true) (Evl.et_B (ev_same ha hb hd ho))) rfl
theorem ev_prop {C x dx : Addr} {fs : List (Str × V)} {sp : Sp} {E : XK} {v : V} (h : Evl.Ev te σ H (.ref x)) (hx : H x = some (.ins C dx fs)) (hs : Evl.SpV sp [.ref x] H v) : Evl.Ev (tProp C sp [] E te) σ H v := fun H1 e1 Q q =>
  h H1 e1 _ fun H2 e2 => ⟨x, dx, fs, rfl, e2 _ _ (e1 _ _ hx), hs H2 (e1.trans e2) Q (fun H3 e3 => q H3 (e2.trans e3)) E⟩
theorem ev_lenOwn {C x dx : Addr} {fs : List (Str × V)} {sp : Sp} {E : XK} {n : Nat} (h : Evl.Ev te σ H (.ref x)) (hx : H x = some (.ins C dx fs)) (hn : (n : Int) < 2 ^ 63) (hs : Evl.SpV sp [.ref x] H (.int n)) : Evl.Ev (tCB (rLenOwn C sp E) (tCons te tNil)) σ H (.int n) := fun H1 e1 Q q =>
  h H1 e1 _ fun H2 e2 => ⟨x, dx, fs, rfl, e2 _ _ (e1 _ _ hx), hs H2 (e1.trans e2) _ (fun H3 e3 => ⟨n, rfl, Int.natCast_nonneg n, hn, q H3 (e2.trans e3)⟩) E⟩
theorem rv_inOwn {C x dx : Addr} {fs : List (Str × V)} {sp : Sp} {E : XK} {z : V} {b : Bool} (hx : H x = some (.ins C dx fs)) (hs : Evl.SpV sp [.ref x, z] H (.bl b)) : Evl.RV (rInOwn C sp E false) z (.ref x) H (.bl b) := fun H1 e1 Q q =>
  ⟨x, dx, fs, rfl, e1 _ _ hx, hs H1 e1 _ (fun H2 e2 => ⟨b, rfl, q H2 e2⟩) E⟩
theorem ev_dfld {a : Addr} {kvs : List (Key × V)} {u : Str} {v : V} (h : Evl.Ev te σ H (.ref a)) (hd : H a = some (.dK kvs)) (l : valV kvs (.inr u) = some v) : Evl.Ev (tDGet te (tC (.str u))) σ H v := fun H1 e1 Q q =>
  h H1 e1 _ fun H2 e2 => ⟨a, v, rfl, by rw [← l]; exact DGet.k (k := .inr u) (e2 _ _ (e1 _ _ hd)), q H2 e2⟩
theorem evd_L {us : List Str} (h : Evl.EvL te σ H (us.map V.str)) : EvD K te σ H (.list (us.map PyData.str)) := fun H1 e1 Q q => h H1 e1 _ fun p H2 _ e2 h2 => q (.ref p) H2 e2 (dp_strs h2)
theorem el_meth0 {C x dx : Addr} {fs : List (Str × V)} {m : Str} {sp : Sp} {E : XK} {xs : List V} (h : Evl.Ev te σ H (.ref x)) (hx : H x = some (.ins C dx fs)) (l : fs.lookup m = none) (hs : Evl.SpL sp [.ref x] H xs) : Evl.EvL (tMeth C m sp [] E te tNil) σ H xs := fun H1 e1 Q q =>
  h H1 e1 _ fun H2 e2 => ⟨x, dx, fs, rfl, e2 _ _ (e1 _ _ hx), l, hs H2 (e1.trans e2) _ (fun p H3 hp e3 h3 => q p H3 (Evl.fresh_back e2 hp) (e2.trans e3) h3) E⟩
end
end LawC
end
section
set_option Elab.async false
set_option autoImplicit false
set_option linter.all false
set_option maxRecDepth 100000
set_option maxHeartbeats 4000000
namespace K33
open PySem PySem.Spec PyProof.Rows L2 PySem.OxE LawC GenW
section
variable {P : Program} {w : World} {K : PySem.W.Frag} {mg : Str → Option Value} {base : Heap} {A0 : Ad}
local macro_rules | `(tactic| walk_at "sz") => `(tactic| first | decide | (simp only [List.length_cons, List.length_nil, List.length_append]; omega) | (simp; done))
local macro_rules | `(tactic| walk_at "pow") => `(tactic| exact ⟨by decide, by decide, by first | decide | omega⟩)
local macro_rules | `(tactic| walk_at "mul") => `(tactic| first | exact .inl ⟨by decide, by decide⟩ | exact .inr ⟨by decide, by decide⟩ | exact .inl ⟨by omega, by omega⟩ | exact .inr ⟨by omega, by omega⟩)
local macro_rules | `(tactic| walk_at "pos") => `(tactic| first | (show (0 : Int) < _; decide) | (show (0 : Int) < _; omega))
local macro_rules | `(tactic| walk_at "fdiv") => `(tactic| exact wide_div (b := 100) (by first | decide | omega) (by first | decide | omega) (by decide) (by walk_at "sz"))
theorem ok_source (T : Txt P K mg A0) : FnOk P w K mg base CX0 1 A0.f_source A0.fd_source ["_law_script", "_law_place"] (spSource K) := by
  refine T.F_source.ok sc_source (fun vs H Q E h => ?_) (fun cdv A outer s H vs Q E hr h => ?_)
  · obtain ⟨a, ns, pl, rfl, _⟩ := h
    rfl
  · obtain ⟨a, ns, pl, rfl, hS, hp0, hp1, k⟩ := h
    refine ⟨_, (pss_cons (ps_set (i := 2) sc_source.nd rfl (Or.inl rfl) (pe_ifExp (pt_cmpR op_lt (pv 1) (pe_callB call_len (by rfl) T.z_len PySem.boot_len (pa_cons (pv 0) pa_nil)) (nomark _)) (pe_callTy call_int1 (by rfl) T.z_int (by decide +kernel) (pa_cons (pe_ix ix_list (pv 0) (pv 1) (fun _ _ => rfl)) pa_nil)) pe_int))
 (pss_cons (ps_set (i := 3) sc_source.nd rfl (Or.inl rfl) (pe_ifExp (pt_cmpR op_ge (pe_callB call_abs (by rfl) T.z_abs (by decide +kernel) (pa_cons (pv 2) pa_nil)) (pe_op op_pow pe_int pe_int) (nomark _)) (pe_callB call_abs (by rfl) T.z_abs (by decide +kernel) (pa_cons (pv 2) pa_nil)) pe_int))
 (pss_one (ps_ret (pe_lst (pa_cons (pv 3) (pa_cons (pe_op op_add (pe_op op_add (pe_op op_mod (pe_callTy call_int1 (by rfl) T.z_int (by decide +kernel) (pa_cons (pv 2) pa_nil)) pe_int) (pe_op op_mul pe_int (pv 1))) pe_int) (pa_cons pe_int pa_nil)))))))), ?_⟩
    have rest : ∀ (cell : Int) (D : Int), 0 ≤ D → ∀ p, H p = none → Q (.ref p) (upd H p (.lst [.int D, .int (cell % 2147483579 + 9176 * pl + 41), .int 0])) := fun cell D hD p hp => by
      have e0 := rem0 (a := cell) (n := 2147483579) (by decide)
      have e1 := rem1 (a := cell) (n := 2147483579) (by decide)
      exact k p _ hp (Same.new hp) ⟨⟨_, _, upd_same, hD, by omega, by unfold SM; omega⟩, Int.le_refl _⟩
    refine ⟨_, rfl, _, rfl, _, _, rfl, .inl ⟨_, hS, rfl⟩, _, _, rfl, rfl, _, rfl, ?_⟩
    rw [List.length_map]
    refine ite2 (fun c43 => ?_) (fun c43 => ?_)
    · have hlt : pl.toNat < ns.length := by have := of_decide_eq_true c43; omega
      refine ⟨_, rfl, _, rfl, _, _, _, .int ns[pl.toNat], rfl, rfl, hS, at_of (j := pl.toNat) (by omega) (by simp [hlt]), ?_⟩
      refine .inl ⟨_, rfl, ?_⟩
      refine ⟨_, rfl, _, rfl, _, _, rfl, rfl, (by walk_at "pow"), _, _, rfl, rfl, _, rfl, ?_⟩
      refine ite2 (fun c36 => ?_) (fun c36 => ?_)
      · refine ⟨_, rfl, _, rfl, ?_⟩
        refine ⟨_, rfl, _, rfl, ?_⟩
        refine .inl ⟨_, rfl, ?_⟩
        refine ⟨_, _, rfl, rfl, (by walk_at "pos"), _, rfl, _, _, rfl, rfl, (by walk_at "mul"), _, _, rfl, rfl, _, _, rfl, rfl, (by show 3 ≤ sizeLine; decide), fun p11 hp11 => ?_⟩
        exact rest _ _ (by split <;> omega) p11 hp11
      · refine ⟨_, rfl, _, rfl, ?_⟩
        refine .inl ⟨_, rfl, ?_⟩
        refine ⟨_, _, rfl, rfl, (by walk_at "pos"), _, rfl, _, _, rfl, rfl, (by walk_at "mul"), _, _, rfl, rfl, _, _, rfl, rfl, (by show 3 ≤ sizeLine; decide), fun p11 hp11 => ?_⟩
        exact rest _ _ (by decide) p11 hp11
    · refine ⟨_, rfl, _, rfl, _, _, rfl, rfl, (by walk_at "pow"), _, _, rfl, rfl, _, rfl, ?_⟩
      refine ite2 (fun c36 => ?_) (fun c36 => ?_)
      · refine ⟨_, rfl, _, rfl, ?_⟩
        refine ⟨_, rfl, _, rfl, ?_⟩
        refine .inl ⟨_, rfl, ?_⟩
        refine ⟨_, _, rfl, rfl, (by walk_at "pos"), _, rfl, _, _, rfl, rfl, (by walk_at "mul"), _, _, rfl, rfl, _, _, rfl, rfl, (by show 3 ≤ sizeLine; decide), fun p11 hp11 => ?_⟩
        exact rest _ _ (by decide) p11 hp11
      · refine ⟨_, rfl, _, rfl, ?_⟩
        refine .inl ⟨_, rfl, ?_⟩
        refine ⟨_, _, rfl, rfl, (by walk_at "pos"), _, rfl, _, _, rfl, rfl, (by walk_at "mul"), _, _, rfl, rfl, _, _, rfl, rfl, (by show 3 ≤ sizeLine; decide), fun p11 hp11 => ?_⟩
        exact rest _ _ (by decide) p11 hp11
theorem ok_draw (T : Txt P K mg A0) : FnOk P w K mg base CX0 1 A0.f_draw A0.fd_draw ["_law_source_here", "_law_many"] spDraw := by
  refine T.F_draw.ok sc_draw (fun vs H Q E h => ?_) (fun cdv A outer s H vs Q E hr h => ?_)
  · obtain ⟨p, t, n, rfl, _⟩ := h
    rfl
  · obtain ⟨p, t, n, rfl, ⟨⟨d, m, hp, hd, hm0, hm1⟩, ht0⟩, ht1, hn0, hn1, k⟩ := h
    unfold SM at hm1
    refine ⟨_, (pss_cons (ps_if (pt_cmpR op_gt (pe_ix ix_list (pv 0) pe_int (fun _ _ => rfl)) pe_int (nomark _))
 (pss_cons (ps_set (i := 2) sc_draw.nd rfl (Or.inl rfl) (pe_op op_mod (pe_callTy call_int1 (by rfl) T.z_int (by decide +kernel) (pa_cons (pe_ix ix_list (pv 0) pe_int (fun _ _ => rfl)) pa_nil)) (pv 1)))
 (pss_cons (ps_asg (pe_op op_fdivW (pe_ix ix_list (pv 0) pe_int (fun _ _ => rfl)) (pv 1)) (pg_sub (pv 0) pe_int set_list))
 (pss_one (ps_ret (pv 2)))))
 pss_nil)
 (pss_cons (ps_set (i := 3) sc_draw.nd rfl (Or.inl rfl) (pe_op op_add (pe_ix ix_list (pv 0) pe_int (fun _ _ => rfl)) pe_int))
 (pss_cons (ps_asg (pv 3) (pg_sub (pv 0) pe_int set_list))
 (pss_cons (ps_set (i := 4) sc_draw.nd rfl (Or.inl rfl) (pe_op op_mod (pe_callTy call_int1 (by rfl) T.z_int (by decide +kernel) (pa_cons (pe_op op_add (pe_op op_add (pe_op op_mul (pe_ix ix_list (pv 0) pe_int (fun _ _ => rfl)) pe_int) (pe_op op_mul (pe_op op_mul pe_int (pv 3)) (pv 3))) pe_int) pa_nil)) pe_int))
 (pss_cons (ps_asg (pv 4) (pg_sub (pv 0) pe_int set_list))
 (pss_one (ps_ret (pe_op op_mod (pe_op op_mod (pe_callTy call_int1 (by rfl) T.z_int (by decide +kernel) (pa_cons (pe_op op_add (pe_op op_pow (pe_op op_fdivW (pv 4) pe_int) pe_int) (pe_op op_fdivW (pv 4) pe_int)) pa_nil)) pe_int) (pv 1))))))))), ?_⟩
    refine ⟨_, rfl, _, _, _, .int d, rfl, rfl, (SqL.of hp), (by rfl), _, _, rfl, rfl, _, rfl, ?_⟩
    refine ite2 (fun c7 => ?_) (fun c7 => ?_)
    · refine ⟨_, rfl, _, _, _, .int d, rfl, rfl, (SqL.of hp), (by rfl), ?_⟩
      refine .inl ⟨_, rfl, ?_⟩
      refine ⟨_, rfl, _, _, rfl, rfl, (by walk_at "pos"), ?_⟩
      refine ⟨_, rfl, _, _, _, .int d, rfl, rfl, (SqL.of hp), (by rfl), _, rfl, _, _, rfl, rfl, (by walk_at "fdiv"), _, rfl, _, _, _, _, rfl, rfl, hp, (by rfl), ?_⟩
      refine ⟨_, rfl, ?_⟩
      exact k _ t _ (rem0 hn0) (rem1 hn0) (Int.le_refl _) (by omega) But.upd ⟨⟨_, _, upd_same, div0 hn0 hd, hm0, by unfold SM; omega⟩, ht0⟩
    · refine ⟨_, rfl, _, _, _, .int t, rfl, rfl, (SqL.of hp), (by rfl), _, _, rfl, rfl, ?_⟩
      refine ⟨_, rfl, _, rfl, _, _, _, _, rfl, rfl, hp, (by rfl), ?_⟩
      have hp' : upd H p (.lst ([V.int d, .int m, .int t].set 2 (.int (t + 1)))) p = some (srcV d m (t + 1)) := upd_same
      refine ⟨_, rfl, _, _, _, .int m, rfl, rfl, (SqL.of hp'), (by rfl), _, _, rfl, rfl, (by walk_at "mul"), _, rfl, _, _, rfl, rfl, (by walk_at "mul"), _, rfl, _, _, rfl, rfl, (by walk_at "mul"), _, _, rfl, rfl, _, _, rfl, rfl, ?_⟩
      refine .inl ⟨_, rfl, ?_⟩
      refine ⟨_, _, rfl, rfl, (by walk_at "pos"), ?_⟩
      have e0 := rem0 (a := m * 40692 + 12211 * (t + 1) * (t + 1) + 77) (n := 2147483399) (by decide)
      have e1 := rem1 (a := m * 40692 + 12211 * (t + 1) * (t + 1) + 77) (n := 2147483399) (by decide)
      generalize (m * 40692 + 12211 * (t + 1) * (t + 1) + 77) % 2147483399 = y at e0 e1
      refine ⟨_, rfl, _, rfl, _, _, _, _, rfl, rfl, hp', (by rfl), ?_⟩
      refine ⟨_, rfl, _, _, rfl, rfl, (by walk_at "fdiv"), _, _, rfl, rfl, (by walk_at "pow"), _, rfl, _, _, rfl, rfl, (by walk_at "fdiv"), _, _, rfl, rfl, ?_⟩
      refine .inl ⟨_, rfl, ?_⟩
      refine ⟨_, _, rfl, rfl, (by walk_at "pos"), _, rfl, _, _, rfl, rfl, (by walk_at "pos"), ?_⟩
      exact k _ (t + 1) _ (rem0 hn0) (rem1 hn0) (by omega) (Int.le_refl _) (But.trans But.upd But.upd) ⟨⟨_, _, upd_same, hd, by omega, by unfold SM; omega⟩, by omega⟩
/-- nothing is promised -/
def spNo : Sp := fun _ _ _ _ => False
def lowSame (K : PySem.W.Frag) : Nat → Sp
  | 0 => spNo
  | n + 1 => spSame K n
theorem ok_same (T : Txt P K mg A0) : ∀ n : Nat, FnOk P w K mg base CX0 (n + 1) A0.f_same A0.fd_same ["_law_actual", "_law_due"] (spSame K n) := by
  have main : ∀ n : Nat, FnOk P w K mg base CX0 n A0.f_same A0.fd_same ["_law_actual", "_law_due"] (lowSame K n) → FnOk P w K mg base CX0 (n + 1) A0.f_same A0.fd_same ["_law_actual", "_law_due"] (spSame K n) := fun n Gs => by
    refine T.F_same.ok sc_same (fun vs H Q E h => ?_) (fun cdv A outer s H vs Q E hr h => ?_)
    · obtain ⟨x, y, d, rfl, _⟩ := h
      rfl
    · obtain ⟨x, y, d, rfl, dx, dy, hn, hok, k⟩ := h
      refine ⟨_, (pss_cons (ps_if (PW.pt (pw_or (pt_cmpR op_isN (pv 1) pe_non (nomark _)) (pw_or1 (pt_val (pe_callB call_isi (by rfl) T.z_isinstance (by decide +kernel) (pa_cons (pv 1) (pa_cons (pe_bltn (v := .ty "bool") (by rfl) T.z_bool (by decide +kernel) rfl) pa_nil)))))))
 (pss_one (ps_ret (pe_ifExp (pt_cmpR op_isN (pv 1) pe_non (nomark _)) (pe_cmpR op_isN (pv 0) pe_non (nomark _)) (pe_and (pe_callB call_isi (by rfl) T.z_isinstance (by decide +kernel) (pa_cons (pv 0) (pa_cons (pe_bltn (v := .ty "bool") (by rfl) T.z_bool (by decide +kernel) rfl) pa_nil))) (pe_one (pe_cmpR op_eq (pv 0) (pv 1) (nomark _)))))))
 pss_nil)
 (pss_cons (ps_if (pt_cmpR op_ne (pe_callB call_isi (by rfl) T.z_isinstance (by decide +kernel) (pa_cons (pv 1) (pa_cons (pe_bltn (v := .ty "tuple") (by rfl) T.z_tuple (by decide +kernel) rfl) pa_nil))) (pe_callB call_isi (by rfl) T.z_isinstance (by decide +kernel) (pa_cons (pv 0) (pa_cons (pe_bltn (v := .ty "tuple") (by rfl) T.z_tuple (by decide +kernel) rfl) pa_nil))) (nomark _))
 (pss_one (ps_ret pe_bl))
 pss_nil)
 (pss_cons (ps_if (pt_cmpR op_ne (pe_callB call_isi (by rfl) T.z_isinstance (by decide +kernel) (pa_cons (pv 1) (pa_cons (pe_bltn (v := .ty "list") (by rfl) T.z_list (by decide +kernel) rfl) pa_nil))) (pe_callB call_isi (by rfl) T.z_isinstance (by decide +kernel) (pa_cons (pv 0) (pa_cons (pe_bltn (v := .ty "list") (by rfl) T.z_list (by decide +kernel) rfl) pa_nil))) (nomark _))
 (pss_one (ps_ret pe_bl))
 pss_nil)
 (pss_cons (ps_if (pt_val (pe_callB call_isiT (by rfl) T.z_isinstance (by decide +kernel) (pa_cons (pv 1) (pa_cons (pe_tup (pa_cons (pe_bltn (v := .ty "tuple") (by rfl) T.z_tuple (by decide +kernel) rfl) (pa_cons (pe_bltn (v := .ty "list") (by rfl) T.z_list (by decide +kernel) rfl) pa_nil))) pa_nil))))
 (pss_one (ps_ret (pe_and (pe_cmpR op_eq (pe_callB call_len (by rfl) T.z_len PySem.boot_len (pa_cons (pv 0) pa_nil)) (pe_callB call_len (by rfl) T.z_len PySem.boot_len (pa_cons (pv 1) pa_nil)) (nomark _)) (pe_one (pe_callB (cr_all rfl) (by rfl) T.z_all (by decide +kernel) (pa_cons (pe_lc (own := [("_law_one", 2), ("_law_two", 3)]) (g := gTup _ 2 (gCons (gName 2) (gCons (gName 3) gNil))) (tt := tYes) (by rfl) sc_same.nd (RZ.pi_zipA rfl T.z_zip (pa_cons (pv 0) (pa_cons (pv 1) pa_nil))) (blkOk_by (N := ["_law_actual", "_law_due", "_law_one", "_law_two"]) (sc := defScope s_same) (by decide +kernel)) (fun _ _ _ _ _ => (pg_tup rfl (pgs_cons (pg_name (i := 2) sc_same.nd rfl (Or.inl rfl)) (pgs_cons (pg_name (i := 3) sc_same.nd rfl (Or.inl rfl)) pgs_nil)))) (fun _ _ _ _ _ => pts_nil) (fun _ _ _ _ _ => (pe_call Gs hr rfl T.m_same T.F_same.kp T.b_same .nil pass0 (pa_cons (pv 2) (pa_cons (pv 3) pa_nil))))) pa_nil))))))
 pss_nil)
 (pss_cons (ps_if (pt_val (pe_callB call_isi (by rfl) T.z_isinstance (by decide +kernel) (pa_cons (pv 1) (pa_cons (pe_bltn (v := .ty "int") (by rfl) T.z_int (by decide +kernel) rfl) pa_nil))))
 (pss_one (ps_ret (pe_and (pe_callB call_isi (by rfl) T.z_isinstance (by decide +kernel) (pa_cons (pv 0) (pa_cons (pe_bltn (v := .ty "int") (by rfl) T.z_int (by decide +kernel) rfl) pa_nil))) (pe_and (pe_not (pe_callB call_isi (by rfl) T.z_isinstance (by decide +kernel) (pa_cons (pv 0) (pa_cons (pe_bltn (v := .ty "bool") (by rfl) T.z_bool (by decide +kernel) rfl) pa_nil)))) (pe_one (pe_cmpR op_eq (pv 0) (pv 1) (nomark _)))))))
 pss_nil)
 (pss_one (ps_ret (pe_and (pe_callB call_isi (by rfl) T.z_isinstance (by decide +kernel) (pa_cons (pv 0) (pa_cons (pe_bltn (v := .ty "str") (by rfl) T.z_str (by decide +kernel) rfl) pa_nil))) (pe_one (pe_cmpR op_eq (pv 0) (pv 1) (nomark _))))))))))), ?_⟩
      cases dx
      · -- None
        cases dy
        refine Evl.q_when (b := true) (Evl.et_or (a := true) (b := true) (Evl.et_test (Evl.ev_is (ev_isN (v := .non) (Evl.ev_var rfl)) (by rfl))) fun h => nomatch h) (fun _ H1 e1 => ?_) (fun h => nomatch h)
        exact Evl.s_ret (v := .bl true) (Evl.ev_if (b := true) (Evl.et_test (Evl.ev_is (ev_isN (v := .non) (Evl.ev_var rfl)) (by rfl))) (fun _ => Evl.ev_is (ev_isN (v := .non) (Evl.ev_var rfl)) (by rfl)) fun h => nomatch h) fun H2 e2 => k H2 (Same.trans e1 e2)
      · -- bool
        cases dy
        rename_i b
        refine Evl.q_when (b := true) (Evl.et_or (a := false) (b := true) (Evl.et_test (Evl.ev_is (ev_isN (v := .bl b) (Evl.ev_var rfl)) (by rfl))) fun _ => Evl.et_B (ev_isi (b := true) (Evl.ev_var rfl) (.bl b) (show kitB "bool" "bool" = some true by decide +kernel))) (fun _ H1 e1 => ?_) (fun h => nomatch h)
        exact Evl.s_ret (v := .bl true) (Evl.ev_if (b := false) (Evl.et_test (Evl.ev_is (ev_isN (v := .bl b) (Evl.ev_var rfl)) (by rfl))) (fun h => nomatch h) fun _ => Evl.ev_andV (a := true) (b := true) (ev_isi (b := true) (Evl.ev_var rfl) (.bl b) (show kitB "bool" "bool" = some true by decide +kernel)) fun _ => Evl.ev_is (Evl.ev_op (Evl.ev_var (v := .bl b) rfl) (Evl.ev_var (v := .bl b) rfl) (Evl.rv_eq rfl)) (by simp)) fun H2 e2 => k H2 (Same.trans e1 e2)
      · -- int
        rename_i i
        have dx : Dp K H (.int i) (.int i) := .int i
        cases dy
        have dy := dx
        refine Evl.q_when (b := false) (Evl.et_or (a := false) (b := false) (Evl.et_test (Evl.ev_is (ev_isN (v := .int _) (Evl.ev_var rfl)) (by rfl))) fun _ => Evl.et_B (ev_isi (b := false) (Evl.ev_var rfl) dy (show kitB "int" "bool" = some false by decide +kernel))) (fun h => nomatch h) fun _ H1 e1 => ?_
        refine Evl.q_when (b := false) (Evl.et_test (Evl.ev_is (Evl.ev_op (ev_isi (b := false) (Evl.ev_var rfl) (dy.mono e1) (show kitB "int" "tuple" = some false by decide +kernel)) (ev_isi (b := false) (Evl.ev_var rfl) (dx.mono e1) (show kitB "int" "tuple" = some false by decide +kernel)) (Evl.rv_ne rfl)) (by decide))) (fun h => nomatch h) fun _ H2 e2 => ?_
        have e2 := Same.trans e1 e2
        refine Evl.q_when (b := false) (Evl.et_test (Evl.ev_is (Evl.ev_op (ev_isi (b := false) (Evl.ev_var rfl) (dy.mono e2) (show kitB "int" "list" = some false by decide +kernel)) (ev_isi (b := false) (Evl.ev_var rfl) (dx.mono e2) (show kitB "int" "list" = some false by decide +kernel)) (Evl.rv_ne rfl)) (by decide))) (fun h => nomatch h) fun _ H3 e3 => ?_
        have e3 := Same.trans e2 e3
        refine Evl.q_when (b := false) (Evl.et_B (ev_isiT (Evl.ev_var rfl) (dy.mono e3) (kitA_int (K := K)))) (fun h => nomatch h) fun _ H4 e4 => ?_
        have e4 := Same.trans e3 e4
        refine Evl.q_when (b := true) (Evl.et_B (ev_isi (b := true) (Evl.ev_var rfl) (dy.mono e4) (show kitB "int" "int" = some true by decide +kernel))) (fun _ H5 e5 => ?_) (fun h => nomatch h)
        have e5 := Same.trans e4 e5
        exact Evl.s_ret (v := .bl true) (Evl.ev_andV (a := true) (b := true) (ev_isi (b := true) (Evl.ev_var rfl) (dx.mono e5) (show kitB "int" "int" = some true by decide +kernel)) fun _ => Evl.ev_andV (a := true) (b := true) (Evl.ev_is (Evl.ev_notV (a := false) (ev_isi (b := false) (Evl.ev_var rfl) (dx.mono e5) (show kitB "int" "bool" = some false by decide +kernel))) (by rfl)) fun _ => Evl.ev_is (Evl.ev_op (Evl.ev_var (v := .int i) rfl) (Evl.ev_var (v := .int i) rfl) (Evl.rv_eq rfl)) (by simp)) fun H2 e2 => k H2 (Same.trans e5 e2)
      · -- str
        rename_i i
        have dx : Dp K H (.str i) (.str i) := .str i
        cases dy
        have dy := dx
        refine Evl.q_when (b := false) (Evl.et_or (a := false) (b := false) (Evl.et_test (Evl.ev_is (ev_isN (v := .str _) (Evl.ev_var rfl)) (by rfl))) fun _ => Evl.et_B (ev_isi (b := false) (Evl.ev_var rfl) dy (show kitB "str" "bool" = some false by decide +kernel))) (fun h => nomatch h) fun _ H1 e1 => ?_
        refine Evl.q_when (b := false) (Evl.et_test (Evl.ev_is (Evl.ev_op (ev_isi (b := false) (Evl.ev_var rfl) (dy.mono e1) (show kitB "str" "tuple" = some false by decide +kernel)) (ev_isi (b := false) (Evl.ev_var rfl) (dx.mono e1) (show kitB "str" "tuple" = some false by decide +kernel)) (Evl.rv_ne rfl)) (by decide))) (fun h => nomatch h) fun _ H2 e2 => ?_
        have e2 := Same.trans e1 e2
        refine Evl.q_when (b := false) (Evl.et_test (Evl.ev_is (Evl.ev_op (ev_isi (b := false) (Evl.ev_var rfl) (dy.mono e2) (show kitB "str" "list" = some false by decide +kernel)) (ev_isi (b := false) (Evl.ev_var rfl) (dx.mono e2) (show kitB "str" "list" = some false by decide +kernel)) (Evl.rv_ne rfl)) (by decide))) (fun h => nomatch h) fun _ H3 e3 => ?_
        have e3 := Same.trans e2 e3
        refine Evl.q_when (b := false) (Evl.et_B (ev_isiT (Evl.ev_var rfl) (dy.mono e3) (kitA_str (K := K)))) (fun h => nomatch h) fun _ H4 e4 => ?_
        have e4 := Same.trans e3 e4
        refine Evl.q_when (b := false) (Evl.et_B (ev_isi (b := false) (Evl.ev_var rfl) (dy.mono e4) (show kitB "str" "int" = some false by decide +kernel))) (fun h => nomatch h) fun _ H5 e5 => ?_
        have e5 := Same.trans e4 e5
        exact Evl.s_ret (v := .bl true) (Evl.ev_andV (a := true) (b := true) (ev_isi (b := true) (Evl.ev_var rfl) (dx.mono e5) (show kitB "str" "str" = some true by decide +kernel)) fun _ => Evl.ev_is (Evl.ev_op (Evl.ev_var (v := .str i) rfl) (Evl.ev_var (v := .str i) rfl) (Evl.rv_eq rfl)) (by simp)) fun H2 e2 => k H2 (Same.trans e5 e2)
      · -- list
        rename_i xa xs ds hx ax
        obtain ⟨yr, rfl⟩ : ∃ a, y = .ref a := by cases dy; exact ⟨_, rfl⟩
        have dx := Dp.lst (K := K) (H := H) hx ax
        refine Evl.q_when (b := false) (Evl.et_or (a := false) (b := false) (Evl.et_test (Evl.ev_is (ev_isN (v := .ref _) (Evl.ev_var rfl)) (by rfl))) fun _ => Evl.et_B (ev_isi (b := false) (Evl.ev_var rfl) dy (show kitB "list" "bool" = some false by decide +kernel))) (fun h => nomatch h) fun _ H1 e1 => ?_
        refine Evl.q_when (b := false) (Evl.et_test (Evl.ev_is (Evl.ev_op (ev_isi (b := false) (Evl.ev_var rfl) (dy.mono e1) (show kitB "list" "tuple" = some false by decide +kernel)) (ev_isi (b := false) (Evl.ev_var rfl) (dx.mono e1) (show kitB "list" "tuple" = some false by decide +kernel)) (Evl.rv_ne rfl)) (by decide))) (fun h => nomatch h) fun _ H2 e2 => ?_
        have e2 := Same.trans e1 e2
        refine Evl.q_when (b := false) (Evl.et_test (Evl.ev_is (Evl.ev_op (ev_isi (b := true) (Evl.ev_var rfl) (dy.mono e2) (show kitB "list" "list" = some true by decide +kernel)) (ev_isi (b := true) (Evl.ev_var rfl) (dx.mono e2) (show kitB "list" "list" = some true by decide +kernel)) (Evl.rv_ne rfl)) (by decide))) (fun h => nomatch h) fun _ H3 e3 => ?_
        have e3 := Same.trans e2 e3
        refine Evl.q_when (b := true) (Evl.et_B (ev_isiT (Evl.ev_var rfl) (dy.mono e3) (kitA_lst (K := K)))) (fun _ H4 e4 => ?_) (fun h => nomatch h)
        have e4 := Same.trans e3 e4
        cases dy with
        | lst hy ay =>
          rename_i ya ys
          have hlen : xs.length = ys.length := DpAll.same_length ax ay
          have hx4 := Evl.ex_l e4 hx
          have hy4 := Evl.ex_l e4 hy
          have ez : decide (V.int (xs.length : Int) = V.int (ys.length : Int)) = true := decide_eq_true (by rw [hlen])
          refine ⟨_, rfl, _, _, rfl, .inl ⟨_, hx4, rfl⟩, _, rfl, _, _, rfl, .inl ⟨_, hy4, rfl⟩, rfl, _, rfl, ?_⟩
          rw [ez]
          refine ⟨_, rfl, _, rfl, _, _, _, _, rfl, .inl ⟨hx4, hy4, fun D hD => ?_⟩⟩
          have hnn : depAll ds + 1 ≤ n := by unfold dep at hn; exact hn
          cases n with
          | zero => omega
          | succ n =>
            refine zip_turns (K := K) (n := n) (walk_zip (by omega)) (fun H' e => ⟨Evl.ex_l e hx4, Evl.ex_l e hy4⟩) hD (ax.mono e4) (ay.mono e4) (by omega) (okD_lst hok ax) (fun T x y H' k hT hk => ⟨T, _, rfl, SqT.of hT, rfl, x, _, rfl, y, _, rfl, rfl, hk⟩) (fun _ _ => rfl) (fun _ _ => rfl) (fun _ _ => rfl) fun H' e hD' => ?_
            refine ⟨D, List.replicate xs.length true, rfl, SqL.of (by rw [List.map_replicate]; exact hD'), ?_⟩
            rw [List.all_replicate]
            have et : (if xs.length = 0 then true else id true) = true := by split <;> rfl
            exact k _ (Same.trans (Same.trans e4 e) (Same.refl _)) |> cast (by simp)
      · -- tuple
        rename_i xa xs ds hx ax
        obtain ⟨yr, rfl⟩ : ∃ a, y = .ref a := by cases dy; exact ⟨_, rfl⟩
        have dx := Dp.tup (K := K) (H := H) hx ax
        refine Evl.q_when (b := false) (Evl.et_or (a := false) (b := false) (Evl.et_test (Evl.ev_is (ev_isN (v := .ref _) (Evl.ev_var rfl)) (by rfl))) fun _ => Evl.et_B (ev_isi (b := false) (Evl.ev_var rfl) dy (show kitB "tuple" "bool" = some false by decide +kernel))) (fun h => nomatch h) fun _ H1 e1 => ?_
        refine Evl.q_when (b := false) (Evl.et_test (Evl.ev_is (Evl.ev_op (ev_isi (b := true) (Evl.ev_var rfl) (dy.mono e1) (show kitB "tuple" "tuple" = some true by decide +kernel)) (ev_isi (b := true) (Evl.ev_var rfl) (dx.mono e1) (show kitB "tuple" "tuple" = some true by decide +kernel)) (Evl.rv_ne rfl)) (by decide))) (fun h => nomatch h) fun _ H2 e2 => ?_
        have e2 := Same.trans e1 e2
        refine Evl.q_when (b := false) (Evl.et_test (Evl.ev_is (Evl.ev_op (ev_isi (b := false) (Evl.ev_var rfl) (dy.mono e2) (show kitB "tuple" "list" = some false by decide +kernel)) (ev_isi (b := false) (Evl.ev_var rfl) (dx.mono e2) (show kitB "tuple" "list" = some false by decide +kernel)) (Evl.rv_ne rfl)) (by decide))) (fun h => nomatch h) fun _ H3 e3 => ?_
        have e3 := Same.trans e2 e3
        refine Evl.q_when (b := true) (Evl.et_B (ev_isiT (Evl.ev_var rfl) (dy.mono e3) (kitA_tup (K := K)))) (fun _ H4 e4 => ?_) (fun h => nomatch h)
        have e4 := Same.trans e3 e4
        cases dy with
        | tup hy ay =>
          rename_i ya ys
          have hlen : xs.length = ys.length := DpAll.same_length ax ay
          have hx4 := Evl.ex_t e4 hx
          have hy4 := Evl.ex_t e4 hy
          have ez : decide (V.int (xs.length : Int) = V.int (ys.length : Int)) = true := decide_eq_true (by rw [hlen])
          refine ⟨_, rfl, _, _, rfl, .inr ⟨_, hx4, rfl⟩, _, rfl, _, _, rfl, .inr ⟨_, hy4, rfl⟩, rfl, _, rfl, ?_⟩
          rw [ez]
          refine ⟨_, rfl, _, rfl, _, _, _, _, rfl, .inr ⟨hx4, hy4, fun D hD => ?_⟩⟩
          have hnn : depAll ds + 1 ≤ n := by unfold dep at hn; exact hn
          cases n with
          | zero => omega
          | succ n =>
            refine zip_turns (K := K) (n := n) (walk_zipT hlen) (fun H' e => ⟨Evl.ex_t e hx4, Evl.ex_t e hy4⟩) hD (ax.mono e4) (ay.mono e4) (by omega) (okD_tup hok ax) (fun T x y H' k hT hk => ⟨T, _, rfl, SqT.of hT, rfl, x, _, rfl, y, _, rfl, rfl, hk⟩) (fun _ _ => rfl) (fun _ _ => rfl) (fun _ _ => rfl) fun H' e hD' => ?_
            refine ⟨D, List.replicate xs.length true, rfl, SqL.of (by rw [List.map_replicate]; exact hD'), ?_⟩
            rw [List.all_replicate]
            have et : (if xs.length = 0 then true else id true) = true := by split <;> rfl
            exact k _ (Same.trans (Same.trans e4 e) (Same.refl _)) |> cast (by simp)
  intro n
  induction n with
  | zero => exact main 0 ⟨fun _ _ _ _ h => h.elim, fun _ _ _ _ _ _ _ _ _ _ _ _ _ h => h.elim⟩
  | succ n ih => exact main (n + 1) ih

end
end K33
end
section
set_option Elab.async false
set_option autoImplicit false
set_option linter.all false
set_option maxRecDepth 100000
set_option maxHeartbeats 2000000
/-! a for over a generator: the loop's name is stored in the consumer's own frame -/
namespace L2
open PySem PySem.Spec PyProof.Rows GenW
section
variable {X : Cx} {pins pn : List (Addr × Obj)} {σ : L2.St} {sv s : Shared} {Hv H : Hp} {L x : Addr} {h' : Heap} {t' i : Nat} {y : Str} {v : V} {u : Value} {m : Str → Option Value} {oL : Obj}
/-- the state with the frame's object as it is now -/
def frNow (X : Cx) (sv : Shared) (o : Obj) : Shared := { sv with heap := sv.heap.update X.env.locals fun _ => o }
theorem Inv.frNow (I : Inv X pins σ Hv sv) (hN : X.N.Nodup) (hi : X.N[i]? = some y) (hk : X.env.scope.names.lookup y = some .local) (r : RelV v u) (nf : oL.isFreed = false) {es : Array DictEntry} {ep : _} (hd : oL.data = .dict es ep) (hks : StrKeys es) (hm : ∀ z, nsFind es z = if z = y then some u else m z)
    (hl : ∀ (j : Nat) (z : Str) (v' : V), X.N[j]? = some z → σ[j]? = some (some v') → X.env.scope.names.lookup z = some .local → ∃ u', RelV v' u' ∧ m z = some u') : Inv X pins (σ.set i (some v)) Hv (L2.frNow X sv oL) := by
  have sb : Heap.SameBut X.env.locals sv.heap (L2.frNow X sv oL).heap := Heap.SameBut.update ..
  obtain ⟨m0, hn0, hl0⟩ := I.loc
  obtain ⟨o0, es0, ep0, ho0, hd0, _⟩ := id hn0
  have getL : (L2.frNow X sv oL).heap.get? X.env.locals = some oL := Heap.get?_update_self (fun _ => oL) ho0 nf
  have hiσ : i < σ.length := by rw [I.len]; exact (List.getElem?_eq_some_iff.mp hi).1
  have young : ∀ b o, X.s_0.heap.get? b = some o → b ≠ X.env.locals := fun b o e => Nat.ne_of_lt (Nat.lt_of_lt_of_le (Heap.lt_size e) I.ok.above)
  have cells : ∀ {z c w}, X.env.cells.lookup z = some c → sv.heap.IsCell c w → (L2.frNow X sv oL).heap.IsCell c w := fun {z c w} e hc => by
    obtain ⟨o, ho, hdc⟩ := hc
    refine ⟨o, (sb.2 c fun q => ?_).trans ho, hdc⟩
    rw [q, ho0] at ho
    cases ho
    rw [hd0] at hdc
    cases hdc
  refine ⟨I.ok, I.os, I.bare, ⟨fun b o e n hb hx => (sb.2 b (young b o e)).trans (I.base.keep b o e n hb hx), fun b o e n hb hx => ?_, I.base.free, fun b o e hx => ?_, I.base.tups, I.base.frzs, I.base.tbls⟩, ⟨_, ⟨oL, es, ep, getL, hd, hks, hm⟩, fun j z v' e1 e2 e3 => ?_⟩, fun z c e => ?_, I.free, I.freeC, fun p hp => ?_, fun b o e => ?_, by simpa using I.len⟩
  · obtain ⟨sl, e1⟩ := I.base.slot b o e n hb hx
    exact ⟨sl, (sb.2 b (young b o e)).trans e1⟩
  · obtain ⟨o', e1⟩ := I.base.there b o e hx
    exact ⟨o', (sb.2 b (young b o e)).trans e1⟩
  · by_cases hj : j = i
    · subst hj
      rw [hi] at e1; cases e1
      rw [List.getElem?_set_self hiσ] at e2
      cases e2
      exact ⟨u, r, .inl ⟨hk, by simp⟩⟩
    · rw [List.getElem?_set_ne (Ne.symm hj)] at e2
      have zy : z ≠ y := fun e => hj (nodup_ix hN e1 (e ▸ hi))
      obtain ⟨u0, r0, q⟩ := hl0 j z v' e1 e2 e3
      rcases q with ⟨k, _⟩ | ⟨k, c, e, hc⟩
      · obtain ⟨u', r', hm'⟩ := hl j z v' e1 e2 k
        exact ⟨u', r', .inl ⟨k, (if_neg zy).trans hm'⟩⟩
      · exact ⟨u0, r0, .inr ⟨k, c, e, cells e hc⟩⟩
  · obtain ⟨w, hc⟩ := I.cell z c e
    exact ⟨w, cells e hc⟩
  · obtain ⟨p1, p2, p3, p4⟩ := I.pin p hp
    exact ⟨(sb.2 _ p3).trans p1, p2, p3, p4⟩
  · refine (I.hok b o e).stay (fun c w hc q => (sb.2 c ?_).trans q) (fun _ q => q) fun _ _ q => q
    rintro rfl
    rcases hc with hc | hc
    · rw [← hc, I.free] at e; cases e
    · rw [I.free] at hc; cases hc
/-- the loop's name is stored -/
theorem CS.stored (c : CS X pins σ sv Hv L x pn H s) (hN : X.N.Nodup) (hi : X.N[i]? = some y) (hk : X.env.scope.names.lookup y = some .local) (hst : X.env.locals ∈ frs X.stack) (hL : X.env.locals < sv.heap.objs.size) (r : RelV v u)
    (hn' : h'.Ns X.env.locals fun z => if z = y then some u else m z) (hn : s.heap.Ns X.env.locals m) (sb : Heap.SameBut X.env.locals s.heap h') :
    ∃ o, CS X pins (σ.set i (some v)) (frNow X sv o) Hv L x pn H { s with heap := h', toks := t' } := by
  obtain ⟨oL, es, ep, hoL, hd, hks, hm⟩ := id hn'
  obtain ⟨m1, hn1, hl1⟩ := c.inv.loc
  have hmm : ∀ z, m z = m1 z := fun z => hn.agree hn1 z
  have I2 : Inv X pins (σ.set i (some v)) Hv (frNow X sv oL) := c.inv0.frNow hN hi hk r (Obj.isFreed_of_dict hd) hd hks hm fun j z v' e1 e2 e3 => by
    obtain ⟨u', r', q⟩ := hl1 j z v' e1 e2 (.inl e3)
    rcases q with ⟨_, q⟩ | ⟨k, _⟩
    · exact ⟨u', r', (hmm z).trans q⟩
    · rcases k with k | k <;> (rw [show X.env.scope.names.lookup z = _ from k] at e3; cases e3)
  have sv1 : Heap.SameBut X.env.locals sv.heap (frNow X sv oL).heap := Heap.SameBut.update ..
  have svs : (frNow X sv oL).heap.objs.size = sv.heap.objs.size := by
    have := sv1.1
    first
      | exact this
      | exact this.symm
      | simp [frNow, Heap.update]
  have ne : ∀ b, b < sv.heap.objs.size → b ≠ X.env.locals → ∀ o, (frNow X sv oL).heap.get? b = some o → sv.heap.get? b = some o := fun b _ hb o e => (sv1.2 b hb).symm.trans e
  have nL : L ≠ X.env.locals := fun z => by have := c.below; rw [z] at this; exact absurd (Nat.lt_of_lt_of_le hL this) (Nat.lt_irrefl _)
  have tr : ∀ b w, H b = some w → b ≠ X.env.locals := fun b w e z => by rw [z, c.inv.free] at e; cases e
  obtain ⟨mm, hfr, hfx⟩ := c.fr
  refine ⟨oL, I2, by rw [svs]; exact c.below, c.os, c.bare, ⟨fun b o e n hb hx => ?_, fun b o e n hb hx => ?_, fun b o e n hx => ?_, fun b o e hx => ?_, c.un.tups, c.un.frzs, c.un.tbls⟩, fun b w e => ?_, ⟨mm, hfr.at fun o e => (sb.2 L nL).trans e, hfx⟩, c.free, fun p hp => ?_⟩
  · have hbl : b ≠ X.env.locals := fun z => hb (by rw [z]; exact hst)
    exact (sb.2 b hbl).trans (c.un.keep b o ((sv1.2 b hbl).symm.trans e) n hb hx)
  · by_cases hbl : b = X.env.locals
    · subst hbl
      obtain ⟨m0, hn0, _⟩ := c.inv0.loc
      obtain ⟨o0, _, _, ho0, _⟩ := hn0
      rw [show (frNow X sv oL).heap.get? X.env.locals = some oL from Heap.get?_update_self (fun _ => oL) ho0 (Obj.isFreed_of_dict hd)] at e
      cases e
      exact ⟨oL.slots, hoL⟩
    · obtain ⟨sl, q⟩ := c.un.slot b o ((sv1.2 b hbl).symm.trans e) n hb hx
      exact ⟨sl, (sb.2 b hbl).trans q⟩
  · by_cases hbl : b = X.env.locals
    · rw [hbl]; exact c.inv.free
    · exact c.un.free b o ((sv1.2 b hbl).symm.trans e) n hx
  · by_cases hbl : b = X.env.locals
    · rw [hbl]; exact ⟨oL, hoL⟩
    · obtain ⟨o', q⟩ := c.un.there b o ((sv1.2 b hbl).symm.trans e) hx
      exact ⟨o', (sb.2 b hbl).trans q⟩
  · refine (c.hok b w e).stay (fun c' w' hc q => (sb.2 c' ?_).trans q) (fun _ q => q) fun _ _ q => q
    rcases hc with hc | hc
    · rw [hc]; exact tr b w e
    · exact tr c' _ hc
  · obtain ⟨p1, p2, p3, p4, p5⟩ := c.pin p hp
    exact ⟨(sb.2 _ fun z => p4 (by rw [z]; exact hst)).trans p1, p2, p3, p4, p5⟩
end
end L2
end
section
set_option Elab.async false
set_option autoImplicit false
set_option linter.all false
set_option maxRecDepth 100000
set_option maxHeartbeats 4000000
namespace K33
open PySem PySem.Spec PyProof.Rows L2 PySem.OxE LawC GenW
section
theorem cX_closed {A : Ad} : cX A "closed" = A.cCl := if_pos rfl
theorem cX_amid {A : Ad} : cX A "amid" = A.cAm := (if_neg (by decide)).trans (if_pos rfl)
theorem cX_starved {A : Ad} : cX A "starved" = A.cSt := (if_neg (by decide)).trans (if_neg (by decide))
/-- of one of the three classes -/
def E3 (A : Ad) (E : XK) : XK := fun cls d H' => (∃ u ∈ F3, cls = .ref (cX A u)) ∧ E cls d H'
theorem raiF_E3 {A : Ad} {H : Hp} {E : XK} {u : Str} {n : V} {m : Str} (h : RaiF A H E u n m) : RaiF A H (E3 A E) u n m := by
  unfold RaiF at h ⊢
  by_cases h1 : u = "closed"
  · rw [if_pos h1] at h ⊢
    exact fun d H' a b c => ⟨⟨"closed", by decide, by rw [cX_closed]⟩, h d H' a b c⟩
  · rw [if_neg h1] at h ⊢
    by_cases h2 : u = "amid"
    · rw [if_pos h2] at h ⊢
      exact fun d H' a b c => ⟨⟨"amid", by decide, by rw [cX_amid]⟩, h d H' a b c⟩
    · rw [if_neg h2] at h ⊢
      exact fun d H' a b c => ⟨⟨"starved", by decide, by rw [cX_starved]⟩, h d H' a b c⟩
variable {X : Cx} {A0 : Ad}
/-- behind the generator's error: the written part stands -/
theorem kin_cx {pins : List (Addr × Obj)} {σ : L2.St} {H : Hp} {s s' : Shared} {E : XK} {e : Value} (I : Inv X pins σ H s) (c : CX X.prog X.w X.stack H s E e s') : X.K.In s'.heap := by
  obtain ⟨a, B, H', cls, d, _, fl, _, ub, _⟩ := c
  refine I.ok.mod.kin.keeps fun b o eb => fl.1 b o (ub.keep b o (I.bs b o eb).1 (I.bs b o eb).2 fun hm => ?_)
  have := (I.stack.mem hm).1
  rw [eb] at this; cases this
theorem gens_cx {P : Program} {w : World} {outer : List Env} {H : Hp} {s s' s2 : Shared} {E : XK} {e : Value} (c : CX P w outer H s E e s') (h1 : s2.heap = s'.heap) (h2 : s2.os = s'.os) (h3 : AllBare s2.gens) : CX P w outer H s E e s2 := by
  obtain ⟨a, B, H', cls, d, z1, fl, z2, ub, z3, z4, z5, z6⟩ := c
  exact ⟨a, B, H', cls, d, z1, by rw [h1]; exact fl, z2, by rw [h1]; exact ub, z3, h2.trans z4, h3, z6⟩
theorem noStop_E3 (T : Txt X.prog X.K X.mg A0) {E : XK} : NoStop X.K (E3 A0 E) := fun cls d H h => by
  obtain ⟨⟨u, hu, rfl⟩, _⟩ := h
  exact T.nsX u hu
theorem raiF_same {A : Ad} {H H1 : Hp} {E : XK} {u : Str} {n : V} {m : Str} (h : RaiF A H E u n m) (s : Same H H1) : RaiF A H1 E u n m := h.mono s
end

section
def fBody : Stmt → List Stmt
  | .For _ _ b _ _ => b
  | _ => []
abbrev sX (P : Program) (w : World) (K : PySem.W.Frag) (mg : Str → Option Value) (base : Heap) (f : Addr) (cdv : Value) (A : Around) (outer : List Env) (s : Shared) (H : Hp) (E : XK) : Cx :=
  cxOf (CX P w) P w K mg base ["_law_line", "_law_most", "_law_got", "_law_tag"] "_law_some" (defScope s_some) f cdv A outer s H E
variable {P : Program} {w : World} {K : PySem.W.Frag} {mg : Str → Option Value} {base : Heap} {A0 : Ad} {f : Addr} {cdv : Value} {A : Around} {outer : List Env} {s0 s : Shared} {H0 H : Hp} {E : XK}
theorem look_loc {env : Env} {h : Heap} {m : Str → Option Value} {y : Str} {u : Value} (k : env.kindOf y = some .local) (q : Look env h m y u) : m y = some u := by
  rcases q with ⟨_, q⟩ | ⟨q, _⟩
  · exact q
  · rcases q with q | q <;> (rw [k] at q; cases q)
theorem some_body (T : Txt P K mg A0) {pins : List (Addr × Obj)} {x l : Addr} {most : Int} {t : V} {done : List V} (hA : (sX P w K mg base f cdv A outer s0 H0 E).calm = true)
    (I : Inv (sX P w K mg base f cdv A outer s0 H0 E) pins [some (.ref x), some (.int most), some (.ref l), some t] H s) (hl : H l = some (.lst done)) (hz : done.length < 1000) :
    wpAny (model P w) (sX P w K mg base f cdv A outer s0 H0 E).A (execs (fBody ((defBody s_some).getD 1 (.Pass ⟨0, 0, 0, 0⟩))) (sX P w K mg base f cdv A outer s0 H0 E).env)
      (fun fl s' => ∃ h' tk its nn v, s' = { s with heap := h', toks := tk } ∧ Heap.SameBut l s.heap h' ∧ h'.get? l = some { cls := .type "list", data := .seq (its ++ [v]).toArray nn } ∧ Vals (done ++ [t]) (its ++ [v]) ∧ fl = if (done.length : Int) + 1 = most then .brk else .next)
      (sX P w K mg base f cdv A outer s0 H0 E).xe s := by
  obtain ⟨m, hn, hlk⟩ := id I.loc
  obtain ⟨ug, rg, qg⟩ := hlk 2 "_law_got" (.ref l) rfl rfl (.inl rfl)
  obtain rfl : ug = Value.ref l := rg
  have qg := look_loc rfl qg
  obtain ⟨um, rm, qm⟩ := hlk 1 "_law_most" (.int most) rfl rfl (.inl rfl)
  obtain ⟨tm, rfl⟩ := rm
  have qm := look_loc rfl qm
  obtain ⟨ut, rt, qt⟩ := hlk 3 "_law_tag" t rfl rfl (.inl rfl)
  have qt := look_loc rfl qt
  obtain ⟨hz0, its, nn, ri, eL⟩ := I.hok l _ hl
  have hlen := ri.length
  have hle : done.length < sizeLine := Nat.lt_of_lt_of_le hz (by decide)
  refine wpAny_execs_cons (wpAny_Expr_any ?_ I.quiet (by rfl))
  refine wpAny_Call_method_late (by rfl) (by rfl) (by rfl) rfl (wpAny_Name (wpAny_loadName_local I.ok.kind rfl hn qg ?_) (by decide))
  obtain ⟨h1, h2⟩ := tyV_is (T := "list") (x := .ref l) (v := .ref l) I rfl (.inl ⟨rfl, _, SqL.of hl⟩)
  refine ⟨"list", "list.append", PySem.F.plainAttrs_list, PySem.F.slot_list_append, PySem.F.type_list_append, h1, h2, ?_⟩
  refine Calls.callWith_builtin (by rfl) (Calls.evalArgs_plain ?_)
  refine Calls.spliced_cons (wpAny_Name (wpAny_loadName_local I.ok.kind rfl hn qt ?_) (by decide))
  refine Calls.spliced_nil ?_
  refine append_at (its := its.toArray) (n := nn) (hsz := by rw [List.size_toArray, ← hlen]; exact Nat.le_of_lt hle) eL fun h' sb ho' => ?_
  have hLl : l ≠ (sX P w K mg base f cdv A outer s0 H0 E).env.locals := fun z => by
    have := I.free
    rw [← z, hl] at this
    cases this
  have hn' : h'.Ns (sX P w K mg base f cdv A outer s0 H0 E).env.locals m := hn.sameBut sb (Ne.symm hLl)
  have ho2 : h'.get? l = some { cls := .type "list", data := .seq (its ++ [ut]).toArray (nn + 1) } := by rw [ho']; simp
  have rA : Vals (done ++ [t]) (its ++ [ut]) := ri.append (.cons rt .nil)
  have I' : Inv (sX P w K mg base f cdv A outer s0 H0 E) pins [some (.ref x), some (.int most), some (.ref l), some t] (upd H l (.lst (done ++ [t]))) { s with heap := h' } :=
    I.write (t' := s.toks) (by rw [hl]; trivial) (.inl rfl) (fun b u hb q => (sb.2 b hb).trans q) ⟨_, ho'⟩ ⟨by rw [List.length_append]; exact hle, its ++ [ut], nn + 1, rA, ho2⟩
  have pl : ({ s with heap := h' } : Shared).heap.IsList l (its ++ [ut]).toArray := ⟨_, ho2, rfl, nn + 1, rfl⟩
  refine wpAny_execs_cons (wpAny_If (wpAny_isTrue_Compare1 ?_ (by rfl)))
  refine wpAny_Call_Name_kw (ld_blt I' rfl T.z_len PySem.boot_len ?_)
  refine PyProof.Rows.callWith_builtin1 (Calls.spliced_cons (wpAny_Name (wpAny_loadName_local I.ok.kind rfl hn' qg ?_) (by decide)))
  refine Calls.spliced_nil ?_
  have h63 := line63
  have hs : sizeLine = 16777216 := sizeLine_eq
  refine Calls.call_len_list pl (by simp only [List.size_toArray, List.length_append, List.length_singleton]; omega) ?_
  refine wpAny_Name (wpAny_loadName_local I.ok.kind rfl hn' qm ?_) (by decide)
  refine PyProof.Rows.eq_int ?_
  refine wpAny_truthy_bool ?_
  have hsz : (((its ++ [ut]).toArray.size : Nat) : Int) = (done.length : Int) + 1 := by
    simp only [List.size_toArray, List.length_append, List.length_singleton]; omega
  rw [hsz]
  by_cases hb : (done.length : Int) + 1 = most
  · rw [if_pos (beq_iff_eq.mpr hb)]
    exact wpAny_execs_cons (wpAny_Break ⟨h', _, its, nn + 1, ut, rfl, sb, ho2, rA, (if_pos hb).symm⟩)
  · rw [if_neg (fun q => hb (beq_iff_eq.mp q))]
    exact wpAny_execs_nil (wpAny_execs_nil ⟨h', _, its, nn + 1, ut, rfl, sb, ho2, rA, (if_neg hb).symm⟩)

/-- how many are read: up to most, where it is met -/
def cutN (most : Int) (k : Nat) : Nat := if 1 ≤ most ∧ most ≤ k then most.toNat else k
def But3 (x q l : Addr) (H H' : Hp) : Prop := ∀ b o, b ≠ x → b ≠ q → b ≠ l → H b = some o → H' b = some o
def tSome (A : Ad) (E : XK) : TS := fun D σ H => ∃ (x : Addr) (most : Int) (l : Addr) (n c : V) (m : Str) (q : Addr) (ts : List V) (sd : V) (lt : Bool) (y : Option V), σ = [some (.ref x), some (.int most), some (.ref l), y] ∧ LineAt A H x n c m q ts sd lt ∧ H l = some (.lst []) ∧ l ≠ q ∧ ts.length ≤ 900 ∧
  (fault "read" m 1 = none → ∀ y H2, But3 x q l H H2 → LineAt A H2 x n c m q (ts.drop (cutN most ts.length)) sd lt → H2 l = some (.lst (ts.take (cutN most ts.length))) → D.nx [some (.ref x), some (.int most), some (.ref l), y] H2) ∧ ∀ u, fault "read" m 1 = some u → RaiF A H E u n m
theorem ps_some (T : Txt P K mg A0) (hr : Room 7 (sX P w K mg base f cdv A outer s0 H0 E).A) : PS (sX P w K mg base f cdv A outer s0 H0 E) ((defBody s_some).getD 1 (.Pass ⟨0, 0, 0, 0⟩)) (tSome A0 E) := by
  refine ⟨fun pins s9 σ H D I0 h => ?_⟩
  obtain ⟨x, most, l, n, c, m, q, ts, sd, lt, y0, rfl, hl, hll, hlq, hz, k1, k2⟩ := h
  have tk : Takes (sX P w K mg base f cdv A outer s0 H0 E) (fun cls d _ H => E cls d H) := takes_of rfl rfl rfl rfl
  have hp : PassesOwn (model P w) (sX P w K mg base f cdv A outer s0 H0 E).A (sX P w K mg base f cdv A outer s0 H0 E).env (sX P w K mg base f cdv A outer s0 H0 E).xe := passes_of rfl
  obtain ⟨dx, hx, hq⟩ := id hl
  have xl : x ≠ l := ne_of hx hll nofun
  refine wpAny_For (PySem.W.methodCall_KW (pl := _) (thn ((pv (X := sX P w K mg base f cdv A outer s0 H0 E) 0).run pins s9 _ H (fun v H' => v = .ref x ∧ H' = H) I0 ⟨_, rfl, rfl, rfl⟩) fun u sc hu => ?_) (by rfl)) (fun _ => rfl)
  obtain ⟨v, H9, Isc, rv, rfl, rfl⟩ := hu
  obtain rfl : u = Value.ref x := rv
  refine getmeth_ok Isc hx T.cl T.M_Line_answers (by rfl) ?_
  refine PySem.W.callWith_K0 (first := [.ref x]) Isc.kIn T.M_Line_answers.kp ?_
  have hdp := hr.dp
  refine wpAny_mono (gen_call (E := (sX P w K mg base f cdv A outer s0 H0 E).xe) Isc rfl T.F_Line_answers sc_Line_answers T.b_Line_answers rfl (by omega)) (fun u s1 hu => ?_) (fun _ _ z => z)
  obtain ⟨cd, a, g, go, rfl, G⟩ := hu
  obtain ⟨nm, qn, hgd⟩ := G.dat
  have gen : ∀ {h : Heap}, h.get? a = some go → h.IsGen a g := fun {h} e => ⟨go, nm, qn, e, G.cls, hgd, G.slo⟩
  refine wpAny_pyIter_gen (gen G.obj) ?_
  have C1 := G.cs
  have gens1 := G.gen
  -- what is kept, turn by turn
  obtain ⟨W0, hW0⟩ : ∃ W0 : List V → List V → Shared → Prop, W0 = fun done ts' s => ∃ y sv H', CS (sX P w K mg base f cdv A outer s0 H0 E) pins [some (.ref x), some (.int most), some (.ref l), y] sv H9 sc.heap.objs.size x [(a, go)] H' s ∧ LineAt A0 H' x n c m q ts' sd lt ∧ H' l = some (.lst done) ∧ But3 x q l H9 H' := ⟨_, rfl⟩
  obtain ⟨Wk, hWk⟩ : ∃ Wk : List V → Shared → Prop, Wk = fun ts' s => fault "read" m 1 = none ∧ ∃ done : List V, done ++ ts' = ts ∧ (most ≤ 0 ∨ (done.length : Int) < most) ∧ W0 done ts' s := ⟨_, rfl⟩
  obtain ⟨Yl, hYl⟩ : ∃ Yl : V → List V → Shared → Prop, Yl = fun t ts' s => fault "read" m 1 = none ∧ ∃ done : List V, done ++ t :: ts' = ts ∧ (most ≤ 0 ∨ (done.length : Int) < most) ∧ W0 done ts' s := ⟨_, rfl⟩
  obtain ⟨Fin, hFin⟩ : ∃ Fin : Shared → Prop, Fin = fun s => fault "read" m 1 = none ∧ (most ≤ 0 ∨ (ts.length : Int) < most) ∧ W0 ts [] s := ⟨_, rfl⟩
  obtain ⟨Er, hEr⟩ : ∃ Er : Value → Shared → Prop, Er = fun e s => CX P w (sX P w K mg base f cdv A outer s0 H0 E).stack H9 sc (E3 A0 E) e s ∧ s.heap.get? a = some go := ⟨_, rfl⟩
  have keep : ∀ ts s, Wk ts s → AKeep A0 (sX P w K mg base f cdv A outer s0 H0 E) sc.heap.objs.size x q n c m sd lt Yl Fin ts s := fun ts' s' hw => by
    rw [hWk] at hw
    obtain ⟨hf0, done, hdn, hmo, hw⟩ := hw
    rw [hW0] at hw
    obtain ⟨y, sv, H', cs, hl', hD', hb⟩ := hw
    refine ⟨pins, _, sv, H9, _, H', cs, hl', fun H2 s2 cs2 b2 => ?_⟩
    have hD2 : H2 l = some (.lst done) := b2 l _ (Ne.symm xl) hlq hD'
    have b3 : But3 x q l H9 H2 := fun b o h1 h2 h3 e => b2 b o h1 h2 (hb b o h1 h2 h3 e)
    refine ⟨fun t ts2 e l2 => ?_, fun e l2 => ?_⟩
    · rw [hYl, hW0]
      exact ⟨hf0, done, by rw [← e]; exact hdn, hmo, y, sv, H2, cs2, l2, hD2, b3⟩
    · subst e
      rw [List.append_nil] at hdn
      subst hdn
      rw [hFin, hW0]
      exact ⟨hf0, hmo, y, sv, H2, cs2, l2, hD2, b3⟩
  have hA1 : (sX P w K mg base f cdv A outer s0 H0 E).A.in1.frames = some (sX P w K mg base f cdv A outer s0 H0 E).stack := Isc.ok.frames
  have hh : (sX P w K mg base f cdv A outer s0 H0 E).A.handled = none := hr.hd
  have b0 : But3 x q l H9 H9 := fun _ _ _ _ _ e => e
  have W01 : W0 [] ts s1 := by rw [hW0]; exact ⟨_, sc, H9, C1, hl, hll, b0⟩
  have wake0 : ∀ s, s.heap = s1.heap → s.os = s1.os → AllBare s.gens → (most ≤ 0 ∨ (0 : Int) < most) → (GenState.fresh (.func aBody (aEnv sc.heap.objs.size A0.f_Line_answers cd))).Goes (model P w) (sX P w K mg base f cdv A outer s0 H0 E).A.in1 (AR Fin Er) (AY Wk Yl) ts.length (.send .none) s := fun s e1 e2 e3 hm0 => by
    refine ⟨rfl, ans_fresh (X := sX P w K mg base f cdv A outer s0 H0 E) T hA1 hr.in1 (C1.gens e1 e2 e3) hl keep (fun hf0 H' s' cs' sm => ?_) (fun u hu => raiF_E3 (k2 u hu)) fun e s' cx hp' => ?_⟩
    · rw [hWk, hW0]
      exact ⟨hf0, [], rfl, hm0, _, sc, H', cs', hl.same sm, sm _ _ hll, fun b o _ _ _ e => sm b o e⟩
    · rw [hEr]
      obtain ⟨aa, B, H', cls, d, z1, fl, z2, ub, z3, z4, z5, z6, z7⟩ := cx
      exact ⟨⟨aa, B, H', cls, d, z1, fl, z2, ub, z3, z4, z5, z6⟩, hp' (a, go) List.mem_cons_self⟩
  have hm0 : most ≤ 0 ∨ (0 : Int) < most := by omega
  have hst : (sX P w K mg base f cdv A outer s0 H0 E).env.locals ∈ frs (sX P w K mg base f cdv A outer s0 H0 E).stack := List.mem_filterMap.mpr ⟨_, List.mem_cons_self, rfl⟩
  refine codeAny_forLoop_any (fun k s => ∃ done ts' gs, k = ts'.length ∧ W0 done ts' s ∧ s.gens[g]? = some gs ∧ gs.Goes (model P w) (sX P w K mg base f cdv A outer s0 H0 E).A.in1 (AR Fin Er) (AY Wk Yl) ts'.length (.send .none) (s.setGen g .running)) ?_ ts.length
    ⟨[], ts, _, rfl, W01, gens1, wake0 _ rfl rfl (allBare_setGen C1.bare rfl) hm0⟩
  rintro k st ⟨done, ts', gs, rfl, hw, hgs, hgo⟩
  rw [hW0] at hw
  obtain ⟨y, sv, H', cs, hl', hD', hb⟩ := hw
  have hgst : g < st.gens.size := (Array.getElem?_eq_some_iff.mp hgs).1
  refine wpAny_passesOwn hp (wpAny_gsz (n := g + 1) hgst (next_genG (n := ts'.length) (F := fun _ _ s => Fin s) (Er := Er) (Y := AY Wk Yl) hh cs.inv.nolimit (by omega) (gen (cs.pin (a, go) List.mem_cons_self).1) hgs hgo (fun v s1 gs' hb1 hv => ?_) (fun s1 hF h' hk => ?_) fun e s1 he => ?_))
  · intro hsz
    obtain ⟨t, ts2, hts2, rt, hyl, hgo2⟩ := hv
    rw [hYl, hW0] at hyl
    obtain ⟨hf0, done2, hdn2, hmo2, y2, sv2, H2, cs2, hl2, hD2, hb2⟩ := hyl
    have bare2 : AllBare (s1.setGen g gs').gens := allBare_setGen cs2.bare hb1
    have c1 := cs2.gens (s' := s1.setGen g gs') rfl rfl bare2
    obtain ⟨mm, hns, _⟩ := c1.inv.loc
    refine wpAny_pure ?_
    refine wpAny_assign_Name (wpAny_storeName_local (m := mm) rfl hns fun h5 hn5 sb5 => ?_)
    obtain ⟨oF, c2⟩ := c1.stored (t' := (s1.setGen g gs').toks + 1) (i := 3) (y := "_law_tag") (v := t) sc_some.nd rfl rfl hst c1.inv0.lt rt hn5 hns sb5
    have hdl : done2.length + 1 + ts2.length = ts.length := by rw [← hdn2]; simp; omega
    refine wpAny_passesOwn hp (wpAny_mono (some_body T rfl c2.inv hD2 (by omega)) (fun fl s6 hs6 => ?_) fun _ _ z => z)
    obtain ⟨h6, tk6, its, nn, vv, rfl, sb6, ho6, rA, rfl⟩ := hs6
    have hle : done2.length < sizeLine := Nat.lt_of_lt_of_le (show done2.length < 1000 by omega) (by decide)
    have c3 := c2.write (l := l) (o := .lst (done2 ++ [t])) (h' := h6) (t' := tk6) (by rw [hD2]; trivial) (fun b u hbD e => (sb6.2 b hbD).trans e) ⟨_, ho6⟩ ⟨by rw [List.length_append]; exact hle, its ++ [vv], nn, rA, ho6⟩
    have hl6 : LineAt A0 (upd H2 l (.lst (done2 ++ [t]))) x n c m q ts2 sd lt := by
      obtain ⟨dx2, g1, g2⟩ := hl2
      exact ⟨dx2, by rw [upd_ne xl]; exact g1, by rw [upd_ne (Ne.symm hlq)]; exact g2⟩
    have hb6 : But3 x q l H9 (upd H2 l (.lst (done2 ++ [t]))) := fun b ob h1 h2 h3 e => by
      rw [upd_ne h3]
      exact hb2 b ob h1 h2 h3 e
    have etk : ts.take (done2.length + 1) = done2 ++ [t] := by rw [← hdn2, show done2 ++ t :: ts2 = (done2 ++ [t]) ++ ts2 by simp]; exact List.take_left' (by simp)
    have edr : ts.drop (done2.length + 1) = ts2 := by rw [← hdn2, show done2 ++ t :: ts2 = (done2 ++ [t]) ++ ts2 by simp]; exact List.drop_left' (by simp)
    by_cases hbm : (done2.length : Int) + 1 = most
    · rw [if_pos hbm]
      have ecut : cutN most ts.length = done2.length + 1 := by
        unfold cutN
        rw [if_pos (by omega)]
        omega
      refine ⟨_, _, c3.inv, k1 hf0 (some t) _ hb6 ?_ ?_⟩
      · rw [ecut, edr]; exact hl6
      · rw [ecut, etk]; exact upd_same
    · rw [if_neg hbm]
      have hmo6 : most ≤ 0 ∨ (((done2 ++ [t]).length : Nat) : Int) < most := by
        simp only [List.length_append, List.length_singleton]
        omega
      have w6 : ∀ s, s.heap = h6 → s.os = s1.os → AllBare s.gens → W0 (done2 ++ [t]) ts2 s := fun s e1 e2 e3 => by
        rw [hW0]
        exact ⟨_, _, _, c3.gens e1 e2 e3, hl6, upd_same, hb6⟩
      have k6 := hgo2 (Shared.setGen { s1.setGen g gs' with heap := h6, toks := tk6 } g .running) (by
        rw [hWk]
        exact ⟨hf0, done2 ++ [t], by rw [List.append_assoc]; exact hdn2, hmo6, w6 _ rfl rfl (allBare_setGen bare2 rfl)⟩)
      have hsz1 : g < s1.gens.size := by
        have q : (s1.setGen g gs').gens.size = s1.gens.size := setGen_size _ _ _
        have hsz' : g + 1 ≤ (s1.setGen g gs').gens.size := hsz
        omega
      cases ts' with
      | nil => exact k6.elim
      | cons t0 tr =>
        have e2 : ts2.length = tr.length := hts2
        refine ⟨ts2.length, by rw [e2]; exact Nat.lt_succ_self _, done2 ++ [t], ts2, gs', rfl, w6 _ rfl rfl bare2, setGen_at hsz1, ?_⟩
        rw [e2]
        exact k6
  · intro hsz
    rw [hFin, hW0] at hF
    obtain ⟨hf0, hmo2, y2, sv2, H2, cs2, hl2, hD2, hb2⟩ := hF
    have I2 := ((cs2.gens (s' := s1.setGen g .finished) rfl rfl (allBare_setGen cs2.bare rfl)).grown (t' := s1.toks) hk).inv
    have ecut : cutN most ts.length = ts.length := by
      unfold cutN
      split
      · omega
      · rfl
    refine wpAny_execs_nil ⟨_, _, I2, k1 hf0 y2 H2 hb2 ?_ ?_⟩
    · rw [ecut, List.drop_length]; exact hl2
    · rw [ecut, List.take_length]; exact hD2
  · rw [hEr] at he
    obtain ⟨cx, hgoo⟩ := he
    have bare1 : AllBare s1.gens := by
      obtain ⟨aa, B, H', cls, d, z1, fl, z2, ub, z3, z4, z5, z6⟩ := cx
      exact z5
    refine ⟨gen hgoo, notStop_of (noStop_E3 (X := sX P w K mg base f cdv A outer s0 H0 E) T) (kin_cx Isc cx) cx, fun hsz => ?_⟩
    exact passes_call tk (E := E3 A0 E) (fun _ _ _ _ h => h.2) pins _ H9 sc e _ Isc (gens_cx cx rfl rfl (allBare_setGen bare1 rfl))
end

end K33
end
section
set_option Elab.async false
set_option autoImplicit false
set_option linter.all false
set_option maxRecDepth 100000
set_option maxHeartbeats 4000000
namespace K33
open PySem PySem.Spec PyProof.Rows L2 PySem.OxE LawC
def spSome (A : Ad) : Sp := fun vs H Q E => ∃ (x : Addr) (most : Int) (n c : V) (m : Str) (q : Addr) (us : List Str) (sd : V) (lt : Bool), vs = [.ref x, .int most] ∧ LineAt A H x n c m q (us.map V.str) sd lt ∧ us.length ≤ 900 ∧
  (fault "read" m 1 = none → ∀ p H', H p = none → But2 x q H H' → LineAt A H' x n c m q ((us.drop (cutN most us.length)).map V.str) sd lt → H' p = some (.lst ((us.take (cutN most us.length)).map V.str)) → Q (.ref p) H') ∧ ∀ u, fault "read" m 1 = some u → RaiF A H E u n m
def fieldV (u : Str) (n : V) (m : Str) : V := if u = "amid" then .str m else n
def fN (u : Str) : Str := if u = "amid" then "half" else "number"
theorem raiF_of {A : Ad} {H : Hp} {E : XK} {u : Str} {n : V} {m : Str} (hu : u ∈ F3) (h : ∀ d H', H d = none → Same H H' → H' d = some (.xd [(fN u, fieldV u n m)]) → E (.ref (cX A u)) (some d) H') : RaiF A H E u n m := by
  unfold F3 at hu
  simp only [List.mem_cons, List.not_mem_nil, or_false] at hu
  rcases hu with rfl | rfl | rfl
  · unfold RaiF; rw [if_pos rfl]; exact h
  · unfold RaiF; rw [if_neg (by decide), if_pos rfl]; exact h
  · unfold RaiF; rw [if_neg (by decide), if_neg (by decide)]; exact h
def spRefused (A : Ad) : Sp := fun vs H Q _ => ∃ (x : Addr) (n c : V) (m : Str) (q : Addr) (us : List Str) (sd : V) (lt : Bool), vs = [.ref x] ∧ LineAt A H x n c m q (us.map V.str) sd lt ∧ us.length ≤ 900 ∧
  (fault "read" m 1 = none → ∀ p r H', H p = none → H r = none → But2 x q H H' → LineAt A H' x n c m q [] sd lt → H' p = some (.tup [.str "told", .ref r]) → H' r = some (.lst (us.map V.str)) → Q (.ref p) H') ∧
  ∀ u, fault "read" m 1 = some u → ∀ p H', Same H H' → H' p = some (.tup [.str u, fieldV u n m]) → Q (.ref p) H'
theorem But2.fresh {x q p : Addr} {H H1 : Hp} (b : But2 x q H H1) (hp : H1 p = none) (hx : H1 x ≠ none) (hq : H1 q ≠ none) : H p = none := by
  cases e : H p with
  | none => rfl
  | some o =>
    by_cases h1 : p = x
    · rw [h1] at hp; exact absurd hp hx
    · by_cases h2 : p = q
      · rw [h2] at hp; exact absurd hp hq
      · rw [b p o h1 h2 e] at hp; cases hp
theorem read1 {m u : Str} (h : fault "read" m 1 = some u) : u = "closed" ∨ u = "amid" := by
  have hr : ("read" : Str) ∈ LW := by decide
  unfold fault at h
  rw [if_neg (fun q => q hr)] at h
  by_cases hc : m = "closed"
  · rw [if_pos hc] at h; cases h; exact .inl rfl
  · rw [if_neg hc] at h
    cases ha : amid "read" m with
    | true => rw [ha, if_pos rfl] at h; cases h; exact .inr rfl
    | false => rw [ha, if_neg Bool.false_ne_true, if_neg (by decide)] at h; cases h
section
variable {P : Program} {w : World} {K : PySem.W.Frag} {mg : Str → Option Value} {base : Heap} {A0 : Ad}
theorem ok_some (T : Txt P K mg A0) : FnOk P w K mg base (CX P w) 8 A0.f_some A0.fd_some ["_law_line", "_law_most"] (spSome A0) := by
  refine T.F_some.okX sc_some (fun vs H Q E h => ?_) (fun cdv A outer s H vs Q E hr h => ?_)
  · obtain ⟨x, most, n, c, m, q, us, sd, lt, rfl, _⟩ := h
    rfl
  · obtain ⟨x, most, n, c, m, q, us, sd, lt, rfl, hl, hz, k1, k2⟩ := h
    refine ⟨_, (pss_cons (ps_set (i := 2) sc_some.nd rfl (Or.inl rfl) (pe_lst pa_nil)) (pss_cons (ps_some T hr) (pss_one (ps_ret (pv 2))))), ?_⟩
    obtain ⟨dx, hx, hq⟩ := id hl
    refine ⟨(by show 0 ≤ sizeLine; decide), fun l hll => ?_⟩
    have s1 := Same.new (o := .lst []) hll
    refine ⟨x, most, l, n, c, m, q, us.map V.str, sd, lt, _, rfl, hl.same s1, upd_same, Ne.symm (ne_of_none hq hll), by rw [List.length_map]; exact hz, fun hf y H2 b3 l2 h2 => ?_, fun u hu => (k2 u hu).mono s1⟩
    rw [List.length_map, ← List.map_drop] at l2
    rw [List.length_map, ← List.map_take] at h2
    exact ⟨_, rfl, k1 hf l H2 hll (fun b o h1 h3 e => b3 b o h1 h3 (ne_of_none e hll) (s1 b o e)) l2 h2⟩
theorem ok_refused (T : Txt P K mg A0) : FnOk P w K mg base CX0 9 A0.f_refused A0.fd_refused ["_law_line"] (spRefused A0) := by
  have G_some : FnOk P w K mg base (CX P w) 8 A0.f_some A0.fd_some ["_law_line", "_law_most"] (spSome A0) := ok_some T
  refine T.F_refused.ok sc_refused (fun vs H Q E h => ?_) (fun cdv A outer s H vs Q E hr h => ?_)
  · obtain ⟨x, n, c, m, q, us, sd, lt, rfl, _⟩ := h
    rfl
  · obtain ⟨x, n, c, m, q, us, sd, lt, rfl, hl, hz, k1, k2⟩ := h
    refine ⟨_, (pss_cons (ps_set (i := 1) sc_refused.nd rfl (Or.inl rfl) pe_non)
 (Evl.pss_cut (ps_try_nm sc_refused.nd rfl rfl takes0 (fun W pn xe tk po =>
 (pss_one (ps_set (i := 1) sc_refused.nd rfl (Or.inl rfl) (pe_tup (pa_cons pe_str (pa_cons (pe_callS G_some (hr.mono (by decide)) rfl T.m_some T.F_some.kp T.b_some (passAt tk) (pa_cons (pv 0) (pa_cons (pe_un un_neg pe_int) pa_nil))) pa_nil))))))
 (.named (i := 2) rfl rfl ⟨rfl, by decide, .inl T.x_Closed.gC⟩ (fun a oe cls d pn hz hf =>
 (pss_one (ps_set (i := 1) sc_refused.nd rfl (Or.inl rfl) (pe_tup (pa_cons pe_str (pa_cons (pe_byOx hz hf (pv 2)) pa_nil))))))
 (.named (i := 2) rfl rfl ⟨rfl, by decide, .inl T.x_Amid.gC⟩ (fun a oe cls d pn hz hf =>
 (pss_one (ps_set (i := 1) sc_refused.nd rfl (Or.inl rfl) (pe_tup (pa_cons pe_str (pa_cons (pe_byOx hz hf (pv 2)) pa_nil))))))
 .nil)))
 (pss_one (ps_ret (pv 1))))), ?_⟩
    obtain ⟨dx, hx, hq⟩ := id hl
    have ecut : cutN (-1) us.length = us.length := by unfold cutN; rw [if_neg (by omega)]
    refine Evl.q_asg (v := .non) Evl.ev_c fun H9 e9 => ?_
    have hl9 := hl.same e9
    refine Evl.q_cut (M := fun σ' H' => ∃ p, σ' = [some (.ref x), some (.ref p), none] ∧ ((fault "read" m 1 = none ∧ ∃ r, H p = none ∧ H r = none ∧ But2 x q H H' ∧ LineAt A0 H' x n c m q [] sd lt ∧ H' p = some (.tup [.str "told", .ref r]) ∧ H' r = some (.lst (us.map V.str))) ∨ ∃ u, fault "read" m 1 = some u ∧ Same H H' ∧ H' p = some (.tup [.str u, fieldV u n m]))) ?_ ?_
    · refine ⟨_, rfl, _, rfl, x, -1, n, c, m, q, us, sd, lt, rfl, hl9, hz, fun hf r H1 hr1 b1 l1 h1 => ?_, fun u hu => ?_⟩
      · rw [ecut, List.drop_length] at l1
        rw [ecut, List.take_length] at h1
        refine ⟨(by show 2 ≤ sizeLine; decide), fun p hp => ⟨p, rfl, .inl ⟨hf, r, ?_, Evl.fresh_back e9 hr1, But2.trans (But2.of e9) (b1.trans (But2.of (Same.new hp))), l1.same (Same.new hp), upd_same, Same.new hp _ _ h1⟩⟩⟩
        refine But2.fresh (But2.trans (But2.of e9) b1) hp ?_ ?_
        · obtain ⟨dx1, g1, _⟩ := l1; rw [g1]; nofun
        · obtain ⟨dx1, _, g2⟩ := l1; rw [g2]; nofun
      · rcases read1 hu with rfl | rfl
        · have exx : ∀ v ∈ F3, PySem.W.exmOne K (.ref (cX A0 "closed")) (.ref (cX A0 v)) = some (decide ("closed" = v)) := T.exX "closed" (by decide)
          refine raiF_of (by decide) fun d H3 hd s3 hxd => ?_
          exact ⟨true, exx "closed" (by decide), fun _ a ha => ⟨_, rfl, rfl, _, _, _, _, rfl, rfl, hxd, (T.isX "closed" (by decide)).rd, T.x_Closed.noN "number" (by simp), rfl, (by show 2 ≤ sizeLine; decide), fun p hp => ⟨p, rfl, .inr ⟨_, hu, Same.trans e9 (Same.trans s3 (Same.new hp)), upd_same⟩⟩⟩, fun h => nomatch h⟩
        · have exx : ∀ v ∈ F3, PySem.W.exmOne K (.ref (cX A0 "amid")) (.ref (cX A0 v)) = some (decide ("amid" = v)) := T.exX "amid" (by decide)
          refine raiF_of (by decide) fun d H3 hd s3 hxd => ?_
          exact ⟨false, exx "closed" (by decide), (fun h => nomatch h), fun _ => ⟨true, exx "amid" (by decide), fun _ a ha => ⟨_, rfl, rfl, _, _, _, _, rfl, rfl, hxd, (T.isX "amid" (by decide)).rd, T.x_Amid.noN "half" (by simp), rfl, (by show 2 ≤ sizeLine; decide), fun p hp => ⟨p, rfl, .inr ⟨_, hu, Same.trans e9 (Same.trans s3 (Same.new hp)), upd_same⟩⟩⟩, fun h => nomatch h⟩⟩
    · rintro σ1 H1 ⟨p, rfl, h1⟩
      refine ⟨_, rfl, ?_⟩
      rcases h1 with ⟨hf, r, h1, h2, h3, h4, h5, h6⟩ | ⟨u, hu, s1, h1⟩
      · exact k1 hf p r H1 h1 h2 h3 h4 h5 h6
      · exact k2 u hu p H1 s1 h1
end
end K33
end
section
set_option Elab.async false
set_option autoImplicit false
set_option linter.all false
set_option maxRecDepth 100000
set_option maxHeartbeats 4000000
namespace K33
open PySem PySem.Spec PyProof.Rows L2 PySem.OxE LawC
theorem q_orF {σ : L2.St} {H : Hp} {t u : TT} {tb tz : TS} {D : Ends} (h : Evl.EvT t σ H false) (k : ∀ H1, Evl.Ex H H1 → tSeq (tIfS u tb tNext) tz D σ H1) : tSeq (tIfS (tOr t u) tb tNext) tz D σ H :=
  h H (Evl.Ex.refl H) _ fun H1 e1 => k H1 e1
theorem cut_take {us : List Str} {k : Nat} (h : k ≤ us.length) : cutV (us.map V.str) none (some (k : Int)) = (us.take k).map V.str := by
  unfold cutV
  rw [HT.sIx_none, HT.sIx_nat, List.drop_zero, List.length_map, Nat.min_eq_left h, Nat.sub_zero, List.map_take]
theorem cut_drop {us : List Str} {k : Nat} (h : k ≤ us.length) : cutV (us.map V.str) (some (k : Int)) none = (us.drop k).map V.str := by
  unfold cutV
  rw [HT.sIx_none, HT.sIx_nat, List.length_map, Nat.min_eq_left h, List.map_drop, List.take_of_length_le (by rw [List.length_drop, List.length_map]; exact Nat.le_refl _)]
theorem tag_len {i : Nat} (h : i < 61) : ("t" : Str).length + ((toString (i : Int) : Str)).length ≤ 1000 := by
  have : ((List.range 61).all fun i => decide (("t" : Str).length + ((toString (i : Int) : Str)).length ≤ 1000)) = true := by decide +kernel
  exact of_decide_eq_true (List.all_eq_true.mp this i (List.mem_range.mpr h))
theorem But2.ofBut {x q : Addr} {H H' : Hp} (h : But q H H') : But2 x q H H' := fun b o _ hq e => h b o hq e
def tagS (s : Str) (c : Int) : Str := s ++ (toString c : Str)
/-- the law's line and queue, all of them new since H0 -/
structure HSt (A : Ad) (H0 : Hp) (p x q qa : Addr) (n c : V) (m : Str) (sd : V) (us : List Str) (t : Int) (H : Hp) : Prop where
  src : SrcAt H p t
  but : But p H0 H
  line : LineAt A H x n c m q (us.map V.str) sd false
  que : H qa = some (.lst (us.map V.str))
  nx : H0 x = none
  nq : H0 q = none
  na : H0 qa = none
  ne : qa ≠ q
section
variable {A : Ad} {H0 H H1 : Hp} {p x q qa : Addr} {n c : V} {m : Str} {sd : V} {us : List Str} {t t1 : Int}
theorem HSt.same (h : HSt A H0 p x q qa n c m sd us t H) (s : Same H H1) : HSt A H0 p x q qa n c m sd us t H1 :=
  ⟨h.src.same s, But.trans h.but (But.ofSame s), h.line.same s, s _ _ h.que, h.nx, h.nq, h.na, h.ne⟩
theorem HSt.px (h : HSt A H0 p x q qa n c m sd us t H) (hp : H0 p ≠ none) : p ≠ x ∧ p ≠ q ∧ p ≠ qa := ⟨fun e => hp (by rw [e]; exact h.nx), fun e => hp (by rw [e]; exact h.nq), fun e => hp (by rw [e]; exact h.na)⟩
theorem HSt.qx (h : HSt A H0 p x q qa n c m sd us t H) : qa ≠ x := by
  obtain ⟨dx, l, _⟩ := h.line
  exact (ne_of l h.que nofun).symm
/-- behind a draw -/
theorem HSt.draw (h : HSt A H0 p x q qa n c m sd us t H) (hp : H0 p ≠ none) (b : But p H H1) (s : SrcAt H1 p t1) : HSt A H0 p x q qa n c m sd us t1 H1 := by
  obtain ⟨p1, p2, p3⟩ := h.px hp
  obtain ⟨dx, l1, l2⟩ := h.line
  exact ⟨s, But.trans h.but b, ⟨dx, b _ _ (Ne.symm p1) l1, b _ _ (Ne.symm p2) l2⟩, b _ _ (Ne.symm p3) h.que, h.nx, h.nq, h.na, h.ne⟩
/-- the line did something -/
theorem HSt.did {m' : Str} {sd' : V} {us' : List Str} (h : HSt A H0 p x q qa n c m sd us t H) (hp : H0 p ≠ none) (b : But2 x q H H1) (l : LineAt A H1 x n c m' q (us'.map V.str) sd' false) : SrcAt H1 p t ∧ But p H0 H1 ∧ H1 qa = some (.lst (us.map V.str)) := by
  obtain ⟨p1, p2, p3⟩ := h.px hp
  refine ⟨?_, fun z o hz e => ?_, b _ _ h.qx h.ne h.que⟩
  · obtain ⟨⟨d, mm, h1, r⟩, t0⟩ := h.src
    exact ⟨⟨d, mm, b _ _ p1 p2 h1, r⟩, t0⟩
  · exact b _ _ (ne_of_none e h.nx) (ne_of_none e h.nq) (h.but z o hz e)
end
theorem sv_look {A0 : Ad} {g : V → V → Str → List V → V → Bool → V} {H : Hp} {x : Addr} {n c : V} {m : Str} {q : Addr} {ts : List V} {sd : V} {lt : Bool} (l : LineAt A0 H x n c m q ts sd lt) : Evl.SpV (spLook A0 g) [.ref x] H (g n c m ts sd lt) := fun H1 e1 Q k E => ⟨x, n, c, m, q, ts, sd, lt, rfl, l.same e1, fun H2 e2 => k H2 e2⟩
def spHolds : Sp := fun vs H Q _ => ∃ (p : Addr) (t : Int), vs = [.ref p] ∧ SrcAt H p t ∧ 0 ≤ t ∧ t < 1000 ∧ ∀ t' H', t ≤ t' → t' ≤ t + 30 → But p H H' → SrcAt H' p t' → Q (.bl true) H'
/-- behind the turns -/
def LInv (A : Ad) (H0 : Hp) (p x q : Addr) (t : Int) (i : Nat) (σ : L2.St) (H : Hp) : Prop := ∃ (qa : Addr) (us : List Str) (k : Nat) (b : Bool) (t' : Int) (sd : V) (y5 y6 y7 y8 : Option V), σ = [some (.ref p), some (.ref x), some (.ref qa), some (.int k), some (.bl b), y5, y6, y7, y8] ∧ HSt A H0 p x q qa (.int 3) .non "whole" sd us t' H ∧
  k ≤ 37 + 3 * i ∧ (i = 0 → k = 0) ∧ us.length + (if b then 1 else 0) ≤ k + 1 ∧ t ≤ t' ∧ t' ≤ t + 2 + 2 * i ∧ (0 < i → b = false)
section
variable {P : Program} {w : World} {K : PySem.W.Frag} {mg : Str → Option Value} {base : Heap} {A0 : Ad}
theorem ok_holds (T : Txt P K mg A0) : FnOk P w K mg base CX0 9 A0.f_holds A0.fd_holds ["_law_source_here"] spHolds := by
  have G_draw : FnOk P w K mg base CX0 1 A0.f_draw A0.fd_draw ["_law_source_here", "_law_many"] spDraw := ok_draw T
  have G_same : FnOk P w K mg base CX0 2 A0.f_same A0.fd_same ["_law_actual", "_law_due"] (spSame K 1) := ok_same T 1
  have G_some : FnOk P w K mg base (CX P w) 8 A0.f_some A0.fd_some ["_law_line", "_law_most"] (spSome A0) := ok_some T
  have G_Line_init : FnOk P w K mg base CX0 1 A0.f_Line_init A0.fd_Line_init ["self", "number"] (spLInit A0) := ok_Line_init T
  have G_Line_ask : FnR P w K mg base (CX P w) 5 A0.f_Line_ask (fun vs H Q E => vs.length ≤ sizeLine ∧ spRow A0 "ask" nZero (okAsk A0) vs H Q E) := ok_Line_ask T
  have G_Line_begin : FnOk P w K mg base (CX P w) 5 A0.f_Line_begin A0.fd_Line_begin ["self", "tag"] (fun vs H Q E => vs.length = 2 ∧ spRow A0 "begin" nZero (okBegin A0) vs H Q E) := ok_Line_begin T
  have G_Line_finish : FnOk P w K mg base (CX P w) 5 A0.f_Line_finish A0.fd_Line_finish ["self"] (fun vs H Q E => vs.length = 1 ∧ spRow A0 "finish" nZero (okFinish A0) vs H Q E) := ok_Line_finish T
  have G_Line_tags : FnOk P w K mg base CX0 1 A0.f_Line_tags A0.fd_Line_tags ["self"] (spTags A0) := ok_Line_tags T
  have G_Line_owed : FnOk P w K mg base CX0 1 A0.f_Line_owed A0.fd_Line_owed ["self"] (spLook A0 fun _ _ _ ts _ _ => .int ts.length) := ok_Line_owed T
  have G_Line_mark : FnOk P w K mg base CX0 1 A0.f_Line_mark A0.fd_Line_mark ["self"] (spLook A0 fun _ _ m _ _ _ => .str m) := ok_Line_mark T
  have G_Line_is_clean : FnOk P w K mg base CX0 1 A0.f_Line_is_clean A0.fd_Line_is_clean ["self"] (spLook A0 fun _ _ m ts _ _ => .bl (decide (m = "whole") && decide (ts.length = 0))) := ok_Line_is_clean T
  refine T.F_holds.ok sc_holds (fun vs H Q E h => ?_) (fun cdv A outer s H vs Q E hr h => ?_)
  · obtain ⟨p, t, rfl, _⟩ := h
    rfl
  · obtain ⟨p, t, rfl, hs, h0, ht, k⟩ := h
    refine ⟨_, (pss_cons (ps_par3 (i := 1) (j := 2) (l := 3) (by rfl) sc_holds.nd rfl rfl rfl (by decide) (by decide) (by decide) rfl rfl rfl (pa_cons (pe_make T.Mk_Line G_Line_init (hr.mono (by decide)) rfl T.m_Line (b_init1 T) .nil pass0 (pa_cons pe_int pa_nil)) (pa_cons (pe_lst pa_nil) (pa_cons pe_int pa_nil))) (by rfl))
 (Evl.pss_cut (ps_set (i := 4) sc_holds.nd rfl (Or.inl rfl) (pe_cmpR op_eq (pe_call G_draw (hr.mono (by decide)) rfl T.m_draw T.F_draw.kp T.b_draw .nil pass0 (pa_cons (pv 0) (pa_cons pe_int pa_nil))) pe_int (nomark _)))
 (Evl.pss_cut (ps_for PassesOwn.never rfl (pi_range1 rfl T.z_range (pa_cons (pe_op op_add pe_int (pe_call G_draw (hr.mono (by decide)) rfl T.m_draw T.F_draw.kp T.b_draw .nil pass0 (pa_cons (pv 0) (pa_cons pe_int pa_nil)))) pa_nil)) (pg_name (i := 5) sc_holds.nd rfl (Or.inl rfl))
 (Evl.pss_cut (ps_for PassesOwn.never rfl (pi_range1 rfl T.z_range (pa_cons (pe_ifExp (pt_cmpR op_eq (pv 5) pe_int (nomark _)) (pe_call G_draw (hr.mono (by decide)) rfl T.m_draw T.F_draw.kp T.b_draw .nil pass0 (pa_cons (pv 0) (pa_cons pe_int pa_nil))) (pe_call G_draw (hr.mono (by decide)) rfl T.m_draw T.F_draw.kp T.b_draw .nil pass0 (pa_cons (pv 0) (pa_cons pe_int pa_nil)))) pa_nil)) (pg_name (i := 6) sc_holds.nd rfl (Or.inl rfl))
 (pss_cons (ps_expr (pe_methRX (pv 1) T.cl T.M_Line_ask G_Line_ask (hr.mono (by decide)) (pass_at passL) (pa_cons (pe_op op_add_str pe_str (pe_callTy call_str_int (by rfl) T.z_str (by decide +kernel) (pa_cons (pv 3) pa_nil))) pa_nil)))
 (pss_cons (ps_expr (pe_bm PySem.F.plainAttrs_list PySem.F.slot_list_append PySem.F.type_list_append mt_append (pv 2) (pa_cons (pe_op op_add_str pe_str (pe_callTy call_str_int (by rfl) T.z_str (by decide +kernel) (pa_cons (pv 3) pa_nil))) pa_nil)))
 (pss_one (ps_set (i := 3) sc_holds.nd rfl (Or.inl rfl) (pe_op op_add (pv 3) pe_int))))))
 (Evl.pss_cut (ps_if (PW.pt (pw_and (pt_val (pv 4)) (pw_and1 (pt_cmpR op_eq (pv 5) pe_int (nomark _)))))
 (pss_one (ps_expr (pe_methX (pv 1) T.cl T.M_Line_begin G_Line_begin (hr.mono (by decide)) T.b_Line_begin (pass_at passL) (pa_cons pe_str pa_nil))))
 pss_nil)
 (Evl.pss_cut (ps_set (i := 7) sc_holds.nd rfl (Or.inl rfl) (pe_op op_sub (pe_call G_draw (hr.mono (by decide)) rfl T.m_draw T.F_draw.kp T.b_draw .nil pass0 (pa_cons (pv 0) (pa_cons (pe_op op_add (pe_callB call_len (by rfl) T.z_len PySem.boot_len (pa_cons (pv 2) pa_nil)) pe_int) pa_nil))) pe_int))
 (Evl.pss_cut (ps_set (i := 7) sc_holds.nd rfl (Or.inl rfl) (pe_ifExp (pt_cmpR op_eq (pv 7) pe_int (nomark _)) (pe_un un_neg pe_int) (pv 7)))
 (Evl.pss_cut (ps_set (i := 8) sc_holds.nd rfl (Or.inl rfl) (pe_ifExp (pt_cmpR op_lt (pv 7) pe_int (nomark _)) (pv 2) (pe_slice sl_list (pv 2) po_none (po_some (pv 7)))))
 (pss_cons (ps_if (pt_not (pt_val (pe_call G_same (hr.mono (by decide)) rfl T.m_same T.F_same.kp T.b_same .nil pass0 (pa_cons (pe_call G_some (hr.mono (by decide)) rfl T.m_some T.F_some.kp T.b_some .nil passL (pa_cons (pv 1) (pa_cons (pv 7) pa_nil))) (pa_cons (pv 8) pa_nil)))))
 (pss_one (ps_ret pe_bl))
 pss_nil)
 (pss_cons (ps_set (i := 2) sc_holds.nd rfl (Or.inl rfl) (pe_slice sl_list (pv 2) (po_some (pe_callB call_len (by rfl) T.z_len PySem.boot_len (pa_cons (pv 8) pa_nil))) po_none))
 (pss_cons (ps_if (PW.pt (pw_or (pt_not (pt_val (pe_call G_same (hr.mono (by decide)) rfl T.m_same T.F_same.kp T.b_same .nil pass0 (pa_cons (pe_meth0 (pv 1) T.cl T.M_Line_tags G_Line_tags (hr.mono (by decide)) T.b_Line_tags .nil pass0) (pa_cons (pv 2) pa_nil))))) (pw_or1 (pt_not (pt_val (pe_call G_same (hr.mono (by decide)) rfl T.m_same T.F_same.kp T.b_same .nil pass0 (pa_cons (pe_prop (pv 1) T.cl T.P_owed G_Line_owed (hr.mono (by decide)) T.b_Line_owed .nil pass0 rfl) (pa_cons (pe_callB call_len (by rfl) T.z_len PySem.boot_len (pa_cons (pv 2) pa_nil)) pa_nil))))))))
 (pss_one (ps_ret pe_bl))
 pss_nil)
 (pss_one (ps_if (pt_val (pv 4))
 (pss_cons (ps_expr (pe_methX0 (pv 1) T.cl T.M_Line_finish G_Line_finish (hr.mono (by decide)) T.b_Line_finish (pass_at passL)))
 (pss_cons (ps_set (i := 2) sc_holds.nd rfl (Or.inl rfl) (pe_op op_cat (pv 2) (pe_lst (pa_cons pe_str pa_nil))))
 (pss_one (ps_set (i := 4) sc_holds.nd rfl (Or.inl rfl) pe_bl))))
 pss_nil)))))))))))
 (pss_cons (ps_if (PW.pt (pw_or (pt_not (pt_val (pe_call G_same (hr.mono (by decide)) rfl T.m_same T.F_same.kp T.b_same .nil pass0 (pa_cons (pe_call G_some (hr.mono (by decide)) rfl T.m_some T.F_some.kp T.b_some .nil passL (pa_cons (pv 1) (pa_cons (pe_un un_neg pe_int) pa_nil))) (pa_cons (pv 2) pa_nil))))) (pw_or1 (pt_not (pt_val (pe_call G_same (hr.mono (by decide)) rfl T.m_same T.F_same.kp T.b_same .nil pass0 (pa_cons (pe_call G_some (hr.mono (by decide)) rfl T.m_some T.F_some.kp T.b_some .nil passL (pa_cons (pv 1) (pa_cons (pe_un un_neg pe_int) pa_nil))) (pa_cons (pe_lst pa_nil) pa_nil))))))))
 (pss_one (ps_ret pe_bl))
 pss_nil)
 (pss_one (ps_ret (pe_and (pe_call G_same (hr.mono (by decide)) rfl T.m_same T.F_same.kp T.b_same .nil pass0 (pa_cons (pe_prop (pv 1) T.cl T.P_clean G_Line_is_clean (hr.mono (by decide)) T.b_Line_is_clean .nil pass0 rfl) (pa_cons pe_bl pa_nil))) (pe_one (pe_call G_same (hr.mono (by decide)) rfl T.m_same T.F_same.kp T.b_same .nil pass0 (pa_cons (pe_prop (pv 1) T.cl T.P_mark G_Line_mark (hr.mono (by decide)) T.b_Line_mark .nil pass0 rfl) (pa_cons pe_str pa_nil))))))))))), ?_⟩
    have hpn : H p ≠ none := by obtain ⟨xs, hx⟩ := hs.lst; rw [hx]; nofun
    -- the line, its queue
    refine fun x dx hx hdx hne => ⟨x, dx, .int 3, rfl, upd_same, fun q H1 hq b1 l1 => ⟨rfl, (by show 0 ≤ sizeLine; decide), fun qa hqa => ⟨_, _, _, rfl, ?_⟩⟩⟩
    have sH : Same H H1 := fun b o h => b1 b o (ne_of_none h hx) (by rw [upd_ne (ne_of_none h hx), upd_ne (ne_of_none h hdx)]; exact h)
    have hqx : x ≠ q := ne_of_none upd_same hq
    rw [upd_ne (Ne.symm hqx)] at hq
    have hqd : dx ≠ q := ne_of_none upd_same hq
    rw [upd_ne (Ne.symm hqd)] at hq
    have S0 : HSt A0 H p x q qa (.int 3) .non "whole" (.str "") [] t (upd H1 qa (.lst [])) := by
      obtain ⟨dx2, lx, lq⟩ := id l1
      exact ⟨(hs.same sH).new hqa, But.ofSame (Same.trans sH (Same.new hqa)), l1.same (Same.new hqa), upd_same, hx, hq, Evl.fresh_back sH hqa, Ne.symm (ne_of_none lq hqa)⟩
    generalize upd H1 qa (.lst []) = H2 at S0
    dsimp only
    -- is one begun?
    refine Evl.q_cut (M := fun σ' H' => ∃ (b : Bool) (t1 : Int), σ' = [some (.ref p), some (.ref x), some (.ref qa), some (.int 0), some (.bl b), none, none, none, none] ∧ HSt A0 H p x q qa (.int 3) .non "whole" (.str "") [] t1 H' ∧ t ≤ t1 ∧ t1 ≤ t + 1) ?_ ?_
    · exact ⟨_, rfl, p, t, 3, rfl, S0.src, by omega, by decide, by decide, fun j t2 H3 j0 j1 g1 g2 b2 s2 => ⟨rfl, _, t2, rfl, S0.draw hpn b2 s2, g1, g2⟩⟩
    rintro σ3 H3 ⟨bg, t1, rfl, S1, g1, g2⟩
    -- the turns
    refine Evl.q_cut (M := fun σ' H' => ∃ i, i ≤ 5 ∧ LInv A0 H p x q t i σ' H') ?_ ?_
    · refine ⟨_, rfl, p, t1, 4, rfl, S1.src, by omega, by decide, by decide, fun j t2 H4 j0 j1 g3 g4 b2 s2 => ⟨_, _, rfl, rfl, ?_⟩⟩
      have S2 := S1.draw hpn b2 s2
      refine ⟨_, rfl, by omega, by omega, for_range (lo := 0) (fun i σ' H' => LInv A0 H p x q t i σ' H') ⟨qa, [], 0, bg, t2, _, _, _, _, _, rfl, S2, by omega, fun _ => rfl, by cases bg <;> decide, by omega, by omega, fun h => absurd h (Nat.lt_irrefl _)⟩ ?_ ?_⟩
      · rintro i σ' H' hi ⟨qa, us, k, b, t', sd, y5, y6, y7, y8, rfl, S, hk, hk0, hus, g5, g6, hb⟩
        have hi5 : i < 5 := by omega
        have hul : us.length ≤ 60 := by cases b <;> simp at hus <;> omega
        -- more asks
        refine Evl.q_cut (M := fun σ' H' => ∃ (us' : List Str) (k' : Nat) (t2 : Int) (y6 : Option V), σ' = [some (.ref p), some (.ref x), some (.ref qa), some (.int k'), some (.bl b), some (.int (0 + i)), y6, y7, y8] ∧ HSt A0 H p x q qa (.int 3) .non "whole" sd us' t2 H' ∧ k' ≤ 40 + 3 * i ∧ us'.length + (if b then 1 else 0) ≤ k' + 1 ∧ t' ≤ t2 ∧ t2 ≤ t' + 1) ?_ ?_
        · refine ⟨_, rfl, rfl, _, rfl, ?_⟩
          refine ite2 (fun c7 => ?_) (fun c7 => ?_)
          refine ⟨_, rfl, p, t', 41, rfl, S.src, by omega, by decide, by decide, fun jj t3 H3 j0 j1 g7 g8 b3 s3 => ?_⟩
          have hjj : k + jj.toNat ≤ 40 + 3 * i := by
            have e0 : i = 0 := by
              have := of_decide_eq_true c7
              injection this
              omega
            have := hk0 e0
            omega
          rotate_left 1
          refine ⟨_, rfl, p, t', 4, rfl, S.src, by omega, by decide, by decide, fun jj t3 H3 j0 j1 g7 g8 b3 s3 => ?_⟩
          have hjj : k + jj.toNat ≤ 40 + 3 * i := by omega
          all_goals
            have S3 := S.draw hpn b3 s3
            refine ⟨_, rfl, by omega, by omega, for_range (lo := 0) (fun j σ' H' => ∃ (us' : List Str) (y6 : Option V), σ' = [some (.ref p), some (.ref x), some (.ref qa), some (.int ((k + j : Nat) : Int)), some (.bl b), some (.int (0 + i)), y6, y7, y8] ∧ HSt A0 H p x q qa (.int 3) .non "whole" sd us' t3 H' ∧ us'.length + (if b then 1 else 0) ≤ k + j + 1) ⟨us, y6, rfl, S3, by omega⟩ ?_ ?_⟩
            · rintro j σ4 H4 hj ⟨us', y6', rfl, S4, hl4⟩
              have hkj : k + j < 61 := by omega
              have hul' : us'.length ≤ 62 := by cases b <;> simp at hl4 <;> omega
              obtain ⟨dx4, lx4, lq4⟩ := id S4.line
              refine ⟨_, rfl, x, dx4, _, rfl, lx4, (by rfl), _, rfl, _, rfl, Nat.lt_of_le_of_lt (Nat.log2_le_self _) (by omega), _, _, rfl, rfl, Nat.le_trans (tag_len hkj) (by decide), (by show 2 ≤ sizeLine; decide), x, [.str (tagS "t" ((k + j : Nat) : Int))], .int 3, .non, "whole", q, us'.map V.str, sd, false, rfl, S4.line, fun _ => ⟨by rw [List.length_map]; exact Nat.le_trans (show us'.length + 1 ≤ 1000 by omega) (by decide), fun H5 b5 l5 => ?_⟩, fun u hu => by cases hu⟩
              rw [show us'.map V.str ++ [V.str (tagS "t" ((k + j : Nat) : Int))] = (us' ++ [tagS "t" ((k + j : Nat) : Int)]).map V.str by simp] at l5
              obtain ⟨s5, B5, q5⟩ := S4.did hpn (But2.ofBut b5) l5
              refine ⟨_, rfl, (by exact .inl ⟨rfl, _, SqL.of q5⟩), _, rfl, _, rfl, Nat.lt_of_le_of_lt (Nat.log2_le_self _) (by omega), _, _, rfl, rfl, Nat.le_trans (tag_len hkj) (by decide), qa, _, _, rfl, rfl, q5, by rw [List.length_map]; exact Nat.lt_of_le_of_lt hul' (by decide), ?_⟩
              refine ⟨_, rfl, _, _, rfl, rfl, us' ++ [tagS "t" ((k + j : Nat) : Int)], some (.int (0 + (j : Int))), ?_, ?_, by simp; omega⟩
              · have e9 : ((k + (j + 1) : Nat) : Int) = ((k + j : Nat) : Int) + 1 := by omega
                rw [e9]
                rfl
              · obtain ⟨p1, p2, p3⟩ := S4.px hpn
                exact ⟨by obtain ⟨⟨d, mm, h1, r⟩, t0⟩ := s5; exact ⟨⟨d, mm, by rw [upd_ne p3]; exact h1, r⟩, t0⟩, fun z o hz e => by rw [upd_ne (ne_of_none e S4.na)]; exact B5 z o hz e, by
                  obtain ⟨dx5, lx5, lq5⟩ := l5
                  exact ⟨dx5, by rw [upd_ne (Ne.symm S4.qx)]; exact lx5, by rw [upd_ne (Ne.symm S4.ne)]; exact lq5⟩, by rw [upd_same]; simp [tagS], S4.nx, S4.nq, S4.na, S4.ne⟩
            · rintro σ4 H4 ⟨us', y6', rfl, S4, hl4⟩
              exact ⟨us', _, t3, _, rfl, S4, by omega, by omega, by omega, by omega⟩
        rintro σ6 H6 ⟨us, k, t2, y6, rfl, S6, hk, hus, g7, g8⟩
        have hul : us.length ≤ 60 := by cases b <;> simp at hus <;> omega
        -- perhaps one is begun
        refine Evl.q_cut (M := fun σ' H' => ∃ sd', σ' = [some (.ref p), some (.ref x), some (.ref qa), some (.int k), some (.bl b), some (.int (0 + i)), y6, y7, y8] ∧ HSt A0 H p x q qa (.int 3) .non (if b then "out" else "whole") sd' us t2 H' ∧ (b = true → sd' = .str "late")) ?_ ?_
        · cases b with
          | false => exact Evl.s_when (b := false) (Evl.et_and (a := false) (b := false) (Evl.et_B (Evl.ev_var rfl)) (fun h => nomatch h)) (fun h => nomatch h) fun _ H7 e7 => ⟨_, rfl, S6.same e7, fun h => nomatch h⟩
          | true =>
            have e0 : i = 0 := by
              cases i with
              | zero => rfl
              | succ i => exact absurd (hb (Nat.succ_pos _)) (by simp)
            subst e0
            refine Evl.s_when (b := true) (Evl.et_and (a := true) (b := true) (Evl.et_B (Evl.ev_var rfl)) fun _ => Evl.et_test (Evl.ev_is (Evl.ev_op (Evl.ev_var rfl) Evl.ev_c (Evl.rv_eq rfl)) (by rfl))) (fun _ H7 e7 => ?_) (fun h => nomatch h)
            have S7 := S6.same e7
            obtain ⟨dx7, lx7, lq7⟩ := id S7.line
            refine ⟨_, rfl, x, dx7, _, rfl, lx7, (by rfl), rfl, x, [.str "late"], .int 3, .non, "whole", q, us.map V.str, sd, false, rfl, S7.line, fun _ => ⟨_, rfl, fun H8 b8 l8 => ?_⟩, fun u hu => by cases hu⟩
            rw [show after "begin" "whole" = ("out" : Str) by decide] at l8
            obtain ⟨s8, B8, q8⟩ := S7.did hpn b8 l8
            exact ⟨_, rfl, ⟨s8, B8, l8, q8, S7.nx, S7.nq, S7.na, S7.ne⟩, fun _ => rfl⟩
        rintro σ7 H7 ⟨sd, rfl, S7, hsd⟩
        generalize hm : (if b then ("out" : Str) else "whole") = m at S7
        have hmf : fault "read" m 1 = none := by subst hm; cases b <;> decide
        -- how many are read
        refine Evl.q_cut (M := fun σ' H' => ∃ (mo t3 : Int), σ' = [some (.ref p), some (.ref x), some (.ref qa), some (.int k), some (.bl b), some (.int (0 + i)), y6, some (.int mo), y8] ∧ HSt A0 H p x q qa (.int 3) .non m sd us t3 H' ∧ -1 ≤ mo ∧ mo ≤ us.length ∧ t2 ≤ t3 ∧ t3 ≤ t2 + 1) ?_ ?_
        · refine ⟨_, rfl, _, rfl, _, _, rfl, (by exact .inl ⟨_, SqL.of S7.que, rfl⟩), _, _, rfl, rfl, p, t2, ((us.map V.str).length : Int) + 2, rfl, S7.src, by omega, by omega, by rw [List.length_map]; exact Nat.lt_of_le_of_lt (show _ ≤ 100 by omega) (by decide), fun jj t3 H8 j0 j1 g9 g10 b8 s8 => ⟨_, _, rfl, rfl, jj - 1, t3, rfl, S7.draw hpn b8 s8, by omega, by rw [List.length_map] at j1; omega, g9, g10⟩⟩
        rintro σ8 H8 ⟨mo, t3, rfl, S8, m0, m1, g9, g10⟩
        refine Evl.q_cut (M := fun σ' H' => ∃ mo : Int, σ' = [some (.ref p), some (.ref x), some (.ref qa), some (.int k), some (.bl b), some (.int (0 + i)), y6, some (.int mo), y8] ∧ HSt A0 H p x q qa (.int 3) .non m sd us t3 H' ∧ (mo = -1 ∨ 1 ≤ mo ∧ mo ≤ us.length)) ?_ ?_
        · refine ⟨_, rfl, rfl, _, rfl, ?_⟩
          refine ite2 (fun c7 => ?_) (fun c7 => ?_)
          · exact ⟨_, rfl, -1, rfl, S8, .inl rfl⟩
          · refine ⟨_, rfl, mo, rfl, S8, ?_⟩
            have hne : mo ≠ 0 := fun e => c7 (by subst e; rfl)
            omega
        rintro σ9 H9 ⟨mo, rfl, S9, hmo⟩
        obtain ⟨kk, hkk⟩ : ∃ kk, kk = cutN mo us.length := ⟨_, rfl⟩
        have hkl : kk ≤ us.length := by rw [hkk]; unfold cutN; split <;> omega
        refine Evl.q_cut (M := fun σ' H' => ∃ da, σ' = [some (.ref p), some (.ref x), some (.ref qa), some (.int k), some (.bl b), some (.int (0 + i)), y6, some (.int mo), some (.ref da)] ∧ HSt A0 H p x q qa (.int 3) .non m sd us t3 H' ∧ H' da = some (.lst ((us.take kk).map V.str)) ∧ da ≠ q) ?_ ?_
        · refine ⟨_, rfl, _, _, rfl, rfl, _, rfl, ?_⟩
          refine ite2 (fun c7 => ?_) (fun c7 => ?_)
          · have hmn : mo < 0 := of_decide_eq_true c7
            have : kk = us.length := by rw [hkk]; unfold cutN; rw [if_neg (by omega)]
            exact ⟨_, rfl, qa, rfl, S9, by rw [this, List.take_length]; exact S9.que, S9.ne⟩
          · have hmn : ¬ mo < 0 := fun e => c7 (decide_eq_true e)
            have e1 : mo = (kk : Int) := by rw [hkk]; unfold cutN; rw [if_pos (by omega)]; omega
            refine ⟨_, rfl, _, rfl, _, rfl, qa, _, rfl, SqL.of S9.que, fun da hda => ⟨da, rfl, S9.same (Same.new hda), ?_, ?_⟩⟩
            · rw [e1, cut_take hkl]; exact upd_same
            · obtain ⟨dx9, lx9, lq9⟩ := S9.line
              exact (ne_of_none lq9 hda).symm
        rintro σ10 H10 ⟨da, rfl, S10, hda, hdq⟩
        obtain ⟨dx10, lx10, lq10⟩ := id S10.line
        have hdx : da ≠ x := (ne_of lx10 hda nofun).symm
        refine ⟨_, rfl, _, rfl, x, mo, .int 3, .non, m, q, us, sd, false, rfl, S10.line, by omega, fun _ r H11 hr11 b11 l11 h11 => ⟨_, rfl, .ref r, .ref da, .list ((us.take kk).map PyData.str), rfl, dp_strs (by rw [hkk]; exact h11), dp_strs (b11 _ _ hdx hdq hda), dep_strs _, ok_strs (by rw [List.length_take]; omega), fun H12 e12 => ⟨true, rfl, ?_⟩⟩, fun u hu => by rw [hmf] at hu; cases hu⟩
        dsimp only
        rw [if_neg (show ¬ (!true) = true by decide)]
        rw [← hkk] at l11
        obtain ⟨s11, B11, q11⟩ := S10.did hpn b11 l11
        have lx12 := l11.same e12
        refine ⟨_, rfl, _, rfl, _, _, rfl, (by exact .inl ⟨_, SqL.of (e12 _ _ (b11 _ _ hdx hdq hda)), rfl⟩), _, rfl, qa, _, rfl, SqL.of (e12 _ _ q11), fun qb hqb => ?_⟩
        have elen : (((us.take kk).map V.str).length : Int) = (kk : Int) := by rw [List.length_map, List.length_take, Nat.min_eq_left hkl]
        rw [elen, cut_drop hkl]
        obtain ⟨dx12, lxx12, lqq12⟩ := id lx12
        have hH12qb : H12 qb = none := hqb
        have S13 : HSt A0 H p x q qb (.int 3) .non m sd (us.drop kk) t3 (upd H12 qb (.lst ((us.drop kk).map V.str))) :=
          ⟨(s11.same e12).new hqb, But.trans (But.trans B11 (But.ofSame e12)) (But.ofSame (Same.new hqb)), lx12.same (Same.new hqb), upd_same, S10.nx, S10.nq, But.fresh (But.trans B11 (But.ofSame e12)) hqb (s11.same e12), (ne_of_none lqq12 hqb).symm⟩
        generalize upd H12 qb (.lst ((us.drop kk).map V.str)) = H13 at S13
        obtain ⟨dx13, lx13, lq13⟩ := id S13.line
        have hul2 : (us.drop kk).length ≤ 60 := by rw [List.length_drop]; omega
        refine Evl.q_when (b := false) (Evl.et_or (a := false) (b := false) (et_nsame (d := .list ((us.drop kk).map PyData.str)) (evd_L (el_meth0 (Evl.ev_var rfl) lx13 (by rfl) (fun H2 e2 Q q2 E => ⟨x, _, _, m, q, _, sd, false, rfl, S13.line.same e2, fun p H3 hp e3 h3 => q2 p H3 hp e3 h3⟩))) (evd_var rfl (dp_strs S13.que)) (dep_strs _) (ok_strs (by omega))) fun _ => et_nsame (evd_of (ev_prop (Evl.ev_var rfl) lx13 (sv_look S13.line)) (.int _)) (evd_of (ev_lenL (Evl.ev_var rfl) (SqL.of S13.que)) (.int _))) (fun h => nomatch h) fun _ H14 e14 => ?_
        have S14 := S13.same e14
        obtain ⟨dx14, lx14, lq14⟩ := id S14.line
        have hlen2 : (us.drop kk).length ≤ us.length := by rw [List.length_drop]; omega
        cases b with
        | false =>
          refine Evl.s_when (b := false) (Evl.et_B (Evl.ev_var rfl)) (fun h => nomatch h) fun _ H15 e15 => ?_
          have em : m = "whole" := hm.symm
          subst em
          exact ⟨qb, us.drop kk, k, false, t3, sd, _, _, _, _, rfl, S14.same e15, by omega, by omega, by simp at hus ⊢; omega, by omega, by omega, fun _ => rfl⟩
        | true =>
          refine Evl.s_when (b := true) (Evl.et_B (Evl.ev_var rfl)) (fun _ H15 e15 => ?_) (fun h => nomatch h)
          have S15 := S14.same e15
          obtain ⟨dx15, lx15, lq15⟩ := id S15.line
          have em : m = "out" := hm.symm
          have esd := hsd rfl
          subst em esd
          refine ⟨_, rfl, x, dx15, _, rfl, lx15, (by rfl), rfl, x, [], .int 3, .non, "out", q, (us.drop kk).map V.str, _, false, rfl, S15.line, fun _ => ⟨rfl, by rw [List.length_map]; exact Nat.lt_of_le_of_lt (show _ ≤ 60 by omega) (by decide), fun H16 b16 l16 => ?_⟩, fun u hu => by cases hu⟩
          rw [show after "finish" "out" = ("whole" : Str) by decide, show (us.drop kk).map V.str ++ [V.str "late"] = (us.drop kk ++ [("late" : Str)]).map V.str by simp] at l16
          obtain ⟨s16, B16, q16⟩ := S15.did hpn b16 l16
          refine ⟨_, rfl, (by show 1 ≤ sizeLine; decide), fun ll hll => ⟨qb, ll, _, _, rfl, rfl, Same.new hll _ _ q16, upd_same, by rw [List.length_map]; exact Nat.le_trans (show _ + 1 ≤ 100 by omega) (by decide), fun qc hqc => ?_⟩⟩
          have s17 := Same.trans (Same.new hll) (Same.new (o := .lst ((us.drop kk).map V.str ++ [.str "late"])) hqc)
          refine ⟨qc, us.drop kk ++ [("late" : Str)], k, false, t3, _, _, _, _, _, rfl, ⟨s16.same s17, But.trans B16 (But.ofSame s17), l16.same s17, by rw [upd_same]; simp, S15.nx, S15.nq, ?_, ?_⟩, by omega, by omega, by simp at hus ⊢; omega, by omega, by omega, fun _ => rfl⟩
          · exact But.fresh (But.trans B16 (But.ofSame (Same.new hll))) hqc (s16.same (Same.new hll))
          · obtain ⟨dx16, lx16, lq16⟩ := l16
            exact (ne_of_none (Same.new hll _ _ lq16) hqc).symm
      · rintro σ' H' hL
        exact ⟨_, by omega, hL⟩
    rintro σ5 H5 ⟨i, hi, qa, us, kc, b, t', sd, y5, y6, y7, y8, rfl, S5, hk, _, hus, g5, g6, _⟩
    have hul : us.length ≤ 60 := by cases b <;> simp at hus <;> omega
    have hcut : cutN (-1) us.length = us.length := by unfold cutN; rw [if_neg (by omega)]
    obtain ⟨dx5, lx5, lq5⟩ := id S5.line
    refine ⟨_, rfl, _, rfl, x, -1, .int 3, .non, "whole", q, us, sd, false, rfl, S5.line, by omega, fun _ r H6 hr6 b6 l6 h6 => ⟨_, rfl, .ref r, .ref qa, .list (us.map PyData.str), rfl, dp_strs (by rw [hcut, List.take_length] at h6; exact h6), dp_strs (b6 _ _ S5.qx S5.ne S5.que), dep_strs us, ok_strs (by omega), fun H7 e7 => ⟨true, rfl, ?_⟩⟩, fun u hu => by cases hu⟩
    rw [hcut, List.drop_length] at l6
    obtain ⟨s6, B6, q6⟩ := S5.did (us' := []) hpn b6 l6
    have l7 := l6.same e7
    obtain ⟨dx7, lx7, lq7⟩ := id l7
    refine ⟨_, rfl, _, rfl, x, -1, .int 3, .non, "whole", q, [], sd, false, rfl, l7, by decide, fun _ r2 H8 hr8 b8 l8 h8 => ⟨(by show 0 ≤ sizeLine; decide), fun l0 hl0 => ⟨.ref r2, .ref l0, .list (([] : List Str).map PyData.str), rfl, dp_strs (us := []) (Same.new hl0 _ _ h8), dp_strs (us := []) upd_same, dep_strs [], by rfl, fun H9 e9 => ⟨true, rfl, ?_⟩⟩⟩, fun u hu => by cases hu⟩
    dsimp only
    rw [if_neg (show ¬ (!true) = true by decide)]
    have s8 : SrcAt H8 p t' := by
      obtain ⟨p1, p2, p3⟩ := S5.px hpn
      obtain ⟨⟨d, mm, h1, r⟩, t0⟩ := s6.same e7
      exact ⟨⟨d, mm, b8 _ _ p1 p2 h1, r⟩, t0⟩
    have B8 : But p H H8 := fun z o hz e => b8 _ _ (ne_of_none e S5.nx) (ne_of_none e S5.nq) (e7 _ _ (B6 z o hz e))
    have s9 := Same.trans (Same.new (o := .lst []) hl0) e9
    have l9 := l8.same s9
    obtain ⟨dx9, lx9, lq9⟩ := id l9
    refine Evl.s_ret (v := .bl true) (Evl.ev_andV (a := true) (b := true) (ev_same (d := .bool true) (evd_of (ev_prop (Evl.ev_var rfl) lx9 (sv_look l9)) (.bl _)) (evd_of Evl.ev_c (.bl _))) fun _ => ev_same (d := .str "whole") (evd_of (ev_prop (Evl.ev_var rfl) lx9 (sv_look l9)) (.str _)) (evd_of Evl.ev_c (.str _))) fun H10 e10 => ?_
    have sZ := Same.trans s9 e10
    exact k t' H10 (by omega) (by omega) (But.trans B8 (But.ofSame sZ)) (s8.same sZ)
end
end K33
end
section
set_option Elab.async false
set_option autoImplicit false
set_option linter.all false
set_option maxRecDepth 100000
set_option maxHeartbeats 4000000
namespace K33
open PySem PySem.Spec PyProof.Rows L2 PySem.OxE LawC
def spLaw (K : PySem.W.Frag) : Sp := fun vs H Q _ => ∃ (a : Addr) (ns : List Int), vs = [.ref a] ∧ SqL K H a (ns.map V.int) ∧ ns.length ≤ 63 ∧ ∀ H', Q (.bl true) H'
/-- two lines, new since H0 -/
structure TSt (A : Ad) (H0 : Hp) (p : Addr) (t : Int) (xh qh : Addr) (mh : Str) (uh : List Str) (sh : V) (xs qs : Addr) (ns cs : V) (ms : Str) (us : List Str) (ss : V) (H : Hp) : Prop where
  src : SrcAt H p t
  but : But p H0 H
  half : LineAt A H xh (.int 0) .non mh qh (uh.map V.str) sh false
  shut : LineAt A H xs ns cs ms qs (us.map V.str) ss false
  nxh : H0 xh = none
  nqh : H0 qh = none
  nxs : H0 xs = none
  nqs : H0 qs = none
  xx : xh ≠ xs
  qq : qh ≠ qs
section
variable {A : Ad} {H0 H H1 : Hp} {p xh qh xs qs : Addr} {t t1 : Int} {mh ms mh' ms' : Str} {uh us uh' us' : List Str} {sh ss ns cs sh' ss' cs' : V}
theorem TSt.same (h : TSt A H0 p t xh qh mh uh sh xs qs ns cs ms us ss H) (s : Same H H1) : TSt A H0 p t xh qh mh uh sh xs qs ns cs ms us ss H1 :=
  ⟨h.src.same s, But.trans h.but (But.ofSame s), h.half.same s, h.shut.same s, h.nxh, h.nqh, h.nxs, h.nqs, h.xx, h.qq⟩
theorem TSt.cross (h : TSt A H0 p t xh qh mh uh sh xs qs ns cs ms us ss H) : xh ≠ qs ∧ xs ≠ qh := by
  obtain ⟨d1, a1, a2⟩ := h.half
  obtain ⟨d2, b1, b2⟩ := h.shut
  exact ⟨ne_of a1 b2 nofun, ne_of b1 a2 nofun⟩
theorem src_but {x q : Addr} (s : SrcAt H p t) (b : But2 x q H H1) (h1 : p ≠ x) (h2 : p ≠ q) : SrcAt H1 p t := by
  obtain ⟨⟨d, mm, e, r⟩, t0⟩ := s
  exact ⟨⟨d, mm, b _ _ h1 h2 e, r⟩, t0⟩
theorem TSt.half' (h : TSt A H0 p t xh qh mh uh sh xs qs ns cs ms us ss H) (hp : H0 p ≠ none) (b : But2 xh qh H H1) (l : LineAt A H1 xh (.int 0) .non mh' qh (uh'.map V.str) sh' false) : TSt A H0 p t xh qh mh' uh' sh' xs qs ns cs ms us ss H1 := by
  obtain ⟨c1, c2⟩ := h.cross
  obtain ⟨d2, b1, b2⟩ := h.shut
  refine ⟨src_but h.src b (fun e => hp (by rw [e]; exact h.nxh)) (fun e => hp (by rw [e]; exact h.nqh)), fun z o hz e => b _ _ (ne_of_none e h.nxh) (ne_of_none e h.nqh) (h.but z o hz e), l, ⟨d2, b _ _ (Ne.symm h.xx) c2 b1, b _ _ (Ne.symm c1) (Ne.symm h.qq) b2⟩, h.nxh, h.nqh, h.nxs, h.nqs, h.xx, h.qq⟩
theorem TSt.shut' (h : TSt A H0 p t xh qh mh uh sh xs qs ns cs ms us ss H) (hp : H0 p ≠ none) (b : But2 xs qs H H1) (l : LineAt A H1 xs ns cs' ms' qs (us'.map V.str) ss' false) : TSt A H0 p t xh qh mh uh sh xs qs ns cs' ms' us' ss' H1 := by
  obtain ⟨c1, c2⟩ := h.cross
  obtain ⟨d1, a1, a2⟩ := h.half
  refine ⟨src_but h.src b (fun e => hp (by rw [e]; exact h.nxs)) (fun e => hp (by rw [e]; exact h.nqs)), fun z o hz e => b _ _ (ne_of_none e h.nxs) (ne_of_none e h.nqs) (h.but z o hz e), ⟨d1, b _ _ h.xx c1 a1, b _ _ (Ne.symm c2) h.qq a2⟩, l, h.nxh, h.nqh, h.nxs, h.nqs, h.xx, h.qq⟩
end
/-- the shut line is closed: a new queue -/
theorem TSt.close {A : Ad} {H0 H H1 : Hp} {p xh qh xs qs q2 : Addr} {t : Int} {mh ms : Str} {uh us : List Str} {sh ss ns cs cs' : V} (h : TSt A H0 p t xh qh mh uh sh xs qs ns cs ms us ss H) (hp : H0 p ≠ none) (b : But xs H H1) (l : LineAt A H1 xs ns cs' "closed" q2 (([] : List Str).map V.str) ss false) (hq : H q2 = none) : TSt A H0 p t xh qh mh uh sh xs q2 ns cs' "closed" [] ss H1 := by
  obtain ⟨c1, c2⟩ := h.cross
  obtain ⟨d1, a1, a2⟩ := h.half
  have px : p ≠ xs := fun e => hp (by rw [e]; exact h.nxs)
  refine ⟨?_, fun z o hz e => b _ _ (ne_of_none e h.nxs) (h.but z o hz e), ⟨d1, b _ _ h.xx a1, b _ _ (Ne.symm c2) a2⟩, l, h.nxh, h.nqh, h.nxs, But.fresh h.but hq h.src, h.xx, ne_of_none a2 hq⟩
  obtain ⟨⟨d, mm, e, r⟩, t0⟩ := h.src
  exact ⟨⟨d, mm, b _ _ px e, r⟩, t0⟩
theorem TSt.upd {A : Ad} {H0 H : Hp} {p xh qh xs qs D : Addr} {o : HO} {t : Int} {mh ms : Str} {uh us : List Str} {sh ss ns cs : V} (h : TSt A H0 p t xh qh mh uh sh xs qs ns cs ms us ss H) (hp : H0 p ≠ none) (hn : H0 D = none) (h1 : D ≠ xh) (h2 : D ≠ qh) (h3 : D ≠ xs) (h4 : D ≠ qs) : TSt A H0 p t xh qh mh uh sh xs qs ns cs ms us ss (upd H D o) := by
  obtain ⟨d1, a1, a2⟩ := h.half
  obtain ⟨d2, b1, b2⟩ := h.shut
  refine ⟨?_, fun z u hz e => by rw [upd_ne (ne_of_none e hn)]; exact h.but z u hz e, ⟨d1, by rw [upd_ne (Ne.symm h1)]; exact a1, by rw [upd_ne (Ne.symm h2)]; exact a2⟩, ⟨d2, by rw [upd_ne (Ne.symm h3)]; exact b1, by rw [upd_ne (Ne.symm h4)]; exact b2⟩, h.nxh, h.nqh, h.nxs, h.nqs, h.xx, h.qq⟩
  obtain ⟨⟨d, mm, e, r⟩, t0⟩ := h.src
  exact ⟨⟨d, mm, by rw [upd_ne (fun z => hp (by rw [z]; exact hn))]; exact e, r⟩, t0⟩
theorem tag_lenS {i : Nat} (s : Str) (hs : s.length = 1) (h : i < 61) : s.length + ((toString (i : Int) : Str)).length ≤ 1000 := by
  have := tag_len h
  rw [hs]
  exact this
def tagsN (s : Str) (n : Nat) : List Str := (List.range n).map fun (i : Nat) => tagS s (i : Int)
theorem tagsN_cons (s : Str) (n : Nat) : tagsN s (n + 1) = tagS s 0 :: (List.range n).map fun (i : Nat) => tagS s ((1 + i : Int)) := by
  unfold tagsN
  rw [List.range_succ_eq_map, List.map_cons, List.map_map]
  refine congrArg _ (List.map_congr_left fun i _ => ?_)
  show tagS s ((i + 1 : Nat) : Int) = _
  rw [show ((i + 1 : Nat) : Int) = 1 + (i : Int) by omega]
theorem tagsN_len (s : Str) (n : Nat) : (tagsN s n).length = n := by
  unfold tagsN
  rw [List.length_map, List.length_range]
theorem tagsN_succ (s : Str) (n : Nat) : tagsN s (n + 1) = tagsN s n ++ [tagS s (n : Int)] := by
  unfold tagsN
  rw [List.range_succ, List.map_append]
  rfl
section
variable {P : Program} {w : World} {K : PySem.W.Frag} {mg : Str → Option Value} {base : Heap} {A0 : Ad}
theorem evd_refused {σ : L2.St} {H : Hp} {i : Nat} {x : Addr} {n c : V} {m : Str} {q : Addr} {us : List Str} {sd : V} {lt : Bool} {u : Str} {dd : PyData} (h : σ[i]? = some (some (.ref x))) (l : LineAt A0 H x n c m q (us.map V.str) sd lt) (hz : us.length ≤ 900) (hf : fault "read" m 1 = some u) (hd : ∀ H', Dp K H' (fieldV u n m) dd) {E : XK} :
    EvD K (tCall (spRefused A0) [] E (tCons (tVar i) tNil)) σ H (.tuple [.str u, dd]) := fun H1 e1 Q k => ⟨_, h, x, n, c, m, q, us, sd, lt, rfl, l.same e1, hz, fun hn => (by rw [hf] at hn; cases hn), fun u' hu p H2 s2 hp => k (.ref p) H2 s2 (by
      rw [hf] at hu
      cases hu
      exact .tup (SqT.of hp) (.cons (.str _) (.cons (hd H2) .nil)))⟩
theorem sv_look2 {g : V → V → Str → List V → V → Bool → V} {H : Hp} {x : Addr} {n c : V} {m : Str} {q : Addr} {ts : List V} {sd : V} {lt : Bool} (l : LineAt A0 H x n c m q ts sd lt) : Evl.SpV (spLook A0 g) [.ref x] H (g n c m ts sd lt) := sv_look l
theorem ok_law (T : Txt P K mg A0) : FnOk P w K mg base CX0 10 A0.f_law A0.fd_law ["_law_script"] (spLaw K) := by
  have G_source : FnOk P w K mg base CX0 1 A0.f_source A0.fd_source ["_law_script", "_law_place"] (spSource K) := ok_source T
  have G_draw : FnOk P w K mg base CX0 1 A0.f_draw A0.fd_draw ["_law_source_here", "_law_many"] spDraw := ok_draw T
  have G_holds : FnOk P w K mg base CX0 9 A0.f_holds A0.fd_holds ["_law_source_here"] spHolds := ok_holds T
  have G_refused : FnOk P w K mg base CX0 9 A0.f_refused A0.fd_refused ["_law_line"] (spRefused A0) := ok_refused T
  have G_same : FnOk P w K mg base CX0 3 A0.f_same A0.fd_same ["_law_actual", "_law_due"] (spSame K 2) := ok_same T 2
  have G_Line_init : FnOk P w K mg base CX0 1 A0.f_Line_init A0.fd_Line_init ["self", "number"] (spLInit A0) := ok_Line_init T
  have G_Line_ask : FnR P w K mg base (CX P w) 5 A0.f_Line_ask (fun vs H Q E => vs.length ≤ sizeLine ∧ spRow A0 "ask" nZero (okAsk A0) vs H Q E) := ok_Line_ask T
  have G_Line_begin : FnOk P w K mg base (CX P w) 5 A0.f_Line_begin A0.fd_Line_begin ["self", "tag"] (fun vs H Q E => vs.length = 2 ∧ spRow A0 "begin" nZero (okBegin A0) vs H Q E) := ok_Line_begin T
  have G_Line_head : FnOk P w K mg base (CX P w) 5 A0.f_Line_head A0.fd_Line_head ["self"] (fun vs H Q E => vs.length = 1 ∧ spRow A0 "head" nLen (okHead A0) vs H Q E) := ok_Line_head T
  have G_Line_body : FnOk P w K mg base (CX P w) 5 A0.f_Line_body A0.fd_Line_body ["self"] (fun vs H Q E => vs.length = 1 ∧ spRow A0 "body" nLen (okBody A0) vs H Q E) := ok_Line_body T
  have G_Line_owed : FnOk P w K mg base CX0 1 A0.f_Line_owed A0.fd_Line_owed ["self"] (spLook A0 fun _ _ _ ts _ _ => .int ts.length) := ok_Line_owed T
  have G_Line_close : FnOk P w K mg base CX0 1 A0.f_Line_close A0.fd_Line_close ["self", "cause"] (spClose A0) := ok_Line_close T
  obtain ⟨ds, hcv, hcb⟩ := b_close0 T
  obtain ⟨ds2, hiv, hib⟩ := b_init0 T
  refine T.F_law.ok sc_law (fun vs H Q E h => ?_) (fun cdv A outer s H vs Q E hr h => ?_)
  · obtain ⟨a, ns, rfl, _⟩ := h
    rfl
  · obtain ⟨a, ns, rfl, hS, hlen, k⟩ := h
    refine ⟨_, (pss_cons (ps_for PassesOwn.never rfl (pi_range1 rfl T.z_range (pa_cons (pe_callB (call_max2 rfl) (by rfl) T.z_max (by decide +kernel) (pa_cons pe_int (pa_cons (pe_callB (call_min2 rfl) (by rfl) T.z_min (by decide +kernel) (pa_cons pe_int (pa_cons (pe_callB call_len (by rfl) T.z_len PySem.boot_len (pa_cons (pv 0) pa_nil)) pa_nil))) pa_nil))) pa_nil)) (pg_name (i := 1) sc_law.nd rfl (Or.inl rfl))
 (pss_cons (ps_set (i := 2) sc_law.nd rfl (Or.inl rfl) (pe_call G_source (hr.mono (by decide)) rfl T.m_source T.F_source.kp T.b_source .nil pass0 (pa_cons (pv 0) (pa_cons (pv 1) pa_nil))))
 (pss_cons (ps_if (pt_not (pt_val (pe_call G_holds (hr.mono (by decide)) rfl T.m_holds T.F_holds.kp T.b_holds .nil pass0 (pa_cons (pv 2) pa_nil))))
 (pss_one (ps_ret pe_bl))
 pss_nil)
 (pss_cons (ps_par3 (i := 3) (j := 4) (l := 5) (by rfl) sc_law.nd rfl rfl rfl (by decide) (by decide) (by decide) rfl rfl rfl (pa_cons (pe_make0 T.Mk_Line G_Line_init (hr.mono (by decide)) rfl T.m_Line hib hiv pass0) (pa_cons (pe_make T.Mk_Line G_Line_init (hr.mono (by decide)) rfl T.m_Line (b_init1 T) .nil pass0 (pa_cons (pe_call G_draw (hr.mono (by decide)) rfl T.m_draw T.F_draw.kp T.b_draw .nil pass0 (pa_cons (pv 2) (pa_cons (pe_op op_pow pe_int pe_int) pa_nil))) pa_nil)) (pa_cons (pe_op op_add pe_int (pe_call G_draw (hr.mono (by decide)) rfl T.m_draw T.F_draw.kp T.b_draw .nil pass0 (pa_cons (pv 2) (pa_cons pe_int pa_nil)))) pa_nil))) (by rfl))
 (pss_cons (ps_for PassesOwn.never rfl (pi_range1 rfl T.z_range (pa_cons (pv 5) pa_nil)) (pg_name (i := 6) sc_law.nd rfl (Or.inl rfl))
 (pss_cons (ps_expr (pe_methRX (pv 3) T.cl T.M_Line_ask G_Line_ask (hr.mono (by decide)) (pass_at passL) (pa_cons (pe_op op_add_str pe_str (pe_callTy call_str_int (by rfl) T.z_str (by decide +kernel) (pa_cons (pv 6) pa_nil))) pa_nil)))
 (pss_one (ps_expr (pe_methRX (pv 4) T.cl T.M_Line_ask G_Line_ask (hr.mono (by decide)) (pass_at passL) (pa_cons (pe_op op_add_str pe_str (pe_callTy call_str_int (by rfl) T.z_str (by decide +kernel) (pa_cons (pv 6) pa_nil))) pa_nil))))))
 (pss_cons (ps_expr (pe_methX0 (pv 3) T.cl T.M_Line_head G_Line_head (hr.mono (by decide)) T.b_Line_head (pass_at passL)))
 (pss_cons (ps_if (PW.pt (pw_or (pt_not (pt_val (pe_call G_same (hr.mono (by decide)) rfl T.m_same T.F_same.kp T.b_same .nil pass0 (pa_cons (pe_call G_refused (hr.mono (by decide)) rfl T.m_refused T.F_refused.kp T.b_refused .nil pass0 (pa_cons (pv 3) pa_nil)) (pa_cons (pe_tup (pa_cons pe_str (pa_cons pe_str pa_nil))) pa_nil))))) (pw_or1 (pt_not (pt_val (pe_call G_same (hr.mono (by decide)) rfl T.m_same T.F_same.kp T.b_same .nil pass0 (pa_cons (pe_prop (pv 3) T.cl T.P_owed G_Line_owed (hr.mono (by decide)) T.b_Line_owed .nil pass0 rfl) (pa_cons (pv 5) pa_nil))))))))
 (pss_one (ps_ret pe_bl))
 pss_nil)
 (pss_cons (ps_expr (pe_methX (pv 3) T.cl T.M_Line_begin G_Line_begin (hr.mono (by decide)) T.b_Line_begin (pass_at passL) (pa_cons pe_str pa_nil)))
 (pss_cons (ps_set (i := 7) sc_law.nd rfl (Or.inl rfl) (pe_fld (pv 4) rfl))
 (pss_cons (ps_expr (pe_meth0 (pv 4) T.cl T.M_Line_close G_Line_close (hr.mono (by decide)) hcb hcv pass0))
 (pss_cons (ps_if (PW.pt (pw_or (pt_not (pt_val (pe_call G_same (hr.mono (by decide)) rfl T.m_same T.F_same.kp T.b_same .nil pass0 (pa_cons (pe_call G_refused (hr.mono (by decide)) rfl T.m_refused T.F_refused.kp T.b_refused .nil pass0 (pa_cons (pv 3) pa_nil)) (pa_cons (pe_tup (pa_cons pe_str (pa_cons pe_str pa_nil))) pa_nil))))) (pw_or1 (pt_not (pt_val (pe_call G_same (hr.mono (by decide)) rfl T.m_same T.F_same.kp T.b_same .nil pass0 (pa_cons (pe_call G_refused (hr.mono (by decide)) rfl T.m_refused T.F_refused.kp T.b_refused .nil pass0 (pa_cons (pv 4) pa_nil)) (pa_cons (pe_tup (pa_cons pe_str (pa_cons (pv 7) pa_nil))) pa_nil))))))))
 (pss_one (ps_ret pe_bl))
 pss_nil)
 (pss_cons (ps_setLc (i := 8) (own := [("_law_turn", 6)]) (g := gName 6) (tt := tYes) rfl sc_law.nd rfl rfl (sw_true rfl rfl rfl (by decide +kernel)) (pi_range2 rfl T.z_range (pa_cons pe_int (pa_cons (pv 5) pa_nil))) (blkOk_by (N := ["_law_script", "_law_place", "_law_source_here", "_law_half", "_law_shut", "_law_count", "_law_turn", "_law_number", "_law_rest"]) (sc := defScope s_law) (by decide +kernel)) (fun _ _ _ _ _ => (pg_name (i := 6) sc_law.nd rfl (Or.inl rfl))) (fun _ _ _ _ _ => pts_nil) (fun _ _ _ _ _ => (pe_op op_add_str pe_str (pe_callTy call_str_int (by rfl) T.z_str (by decide +kernel) (pa_cons (pv 6) pa_nil)))))
 (pss_one (ps_if (PW.pt (pw_or (pt_not (pt_val (pe_call G_same (hr.mono (by decide)) rfl T.m_same T.F_same.kp T.b_same .nil pass0 (pa_cons (pe_methX0 (pv 3) T.cl T.M_Line_body G_Line_body (hr.mono (by decide)) T.b_Line_body (pass_at passL)) (pa_cons pe_str pa_nil))))) (pw_or1 (pt_not (pt_val (pe_call G_same (hr.mono (by decide)) rfl T.m_same T.F_same.kp T.b_same .nil pass0 (pa_cons (pe_call G_refused (hr.mono (by decide)) rfl T.m_refused T.F_refused.kp T.b_refused .nil pass0 (pa_cons (pv 3) pa_nil)) (pa_cons (pe_tup (pa_cons pe_str (pa_cons (pv 8) pa_nil))) pa_nil))))))))
 (pss_one (ps_ret pe_bl))
 pss_nil))))))))))))))
 (pss_one (ps_ret pe_bl))), ?_⟩
    refine ⟨_, rfl, _, _, rfl, .inl ⟨_, hS, rfl⟩, _, _, rfl, _, _, rfl, _, rfl, ?_, ?_, for_range (lo := 0) (fun i σ H' => ∃ x1 x2 x3 x4 x5 x6 x7 x8 : Option V, σ = [some (.ref a), x1, x2, x3, x4, x5, x6, x7, x8] ∧ Same H H')
      ⟨_, _, _, _, _, _, _, _, rfl, Same.refl H⟩ ?_ ?_⟩
    · split <;> split <;> omega
    · split <;> split <;> omega
    · rintro i σ H' hi ⟨x1, x2, x3, x4, x5, x6, x7, x8, rfl, s0⟩
      have hi5 : i < 5 := by revert hi; split <;> split <;> omega
      refine ⟨_, rfl, _, rfl, a, ns, _, rfl, Evl.ex_l s0 hS, by omega, by omega, fun p H1 hp s1 S1 => ?_⟩
      refine ⟨_, rfl, p, 0, rfl, S1, by omega, by omega, fun t0 H2 g1 g2 b2 S2 => ⟨true, rfl, ?_⟩⟩
      dsimp only
      rw [if_neg (show ¬ (!true) = true by decide)]
      -- two lines
      have hpn : H2 p ≠ none := by obtain ⟨xs, hx⟩ := S2.lst; rw [hx]; nofun
      refine fun xh dxh h1 h2 h3 => ⟨xh, dxh, .int 0, rfl, upd_same, fun qh H3 hqh b3 l3 => ⟨rfl, _, rfl, _, _, rfl, rfl, ⟨by decide, by decide, by decide⟩, ?_⟩⟩
      have sH3 : Same H2 H3 := fun b o h => b3 b o (ne_of_none h h1) (by rw [upd_ne (ne_of_none h h1), upd_ne (ne_of_none h h2)]; exact h)
      have nqh : H2 qh = none := by
        have e1 : xh ≠ qh := ne_of_none upd_same hqh
        rw [upd_ne (Ne.symm e1)] at hqh
        have e2 : dxh ≠ qh := ne_of_none upd_same hqh
        rw [upd_ne (Ne.symm e2)] at hqh
        exact hqh
      refine ⟨p, t0, _, rfl, S2.same sH3, by omega, by decide, by decide, fun jn t1 H4 n0 n1 g3 g4 b4 S4 => ?_⟩
      refine fun xs dxs h4 h5 h6 => ⟨xs, dxs, .int jn, rfl, upd_same, fun qs H5 hqs b5 l5 => ⟨rfl, _, rfl, ?_⟩⟩
      have sH5 : Same H4 H5 := fun b o h => b5 b o (ne_of_none h h4) (by rw [upd_ne (ne_of_none h h4), upd_ne (ne_of_none h h5)]; exact h)
      have nqs : H4 qs = none := by
        have e1 : xs ≠ qs := ne_of_none upd_same hqs
        rw [upd_ne (Ne.symm e1)] at hqs
        have e2 : dxs ≠ qs := ne_of_none upd_same hqs
        rw [upd_ne (Ne.symm e2)] at hqs
        exact hqs
      refine ⟨p, t1, 5, rfl, S4.same sH5, by omega, by decide, by decide, fun jc t2 H6 c0 c1 g5 g6 b6 S6 => ⟨_, _, rfl, rfl, _, _, _, rfl, ?_⟩⟩
      have pn : ∀ z, H2 z = none → p ≠ z := fun z e h => hpn (by rw [h]; exact e)
      have B4 : But p H2 H4 := But.trans (But.ofSame sH3) b4
      have nxs2 : H2 xs = none := But.fresh B4 h4 S4
      have nqs2 : H2 qs = none := But.fresh B4 nqs S4
      have T6 : TSt A0 H2 p t2 xh qh "whole" [] (.str "") xs qs (.int jn) .non "whole" [] (.str "") H6 := by
        obtain ⟨d3, a1, a2⟩ := l3
        obtain ⟨d5, c1, c2⟩ := l5
        have a1' := b4 _ _ (Ne.symm (pn _ h1)) a1
        have a2' := b4 _ _ (Ne.symm (pn _ nqh)) a2
        exact ⟨S6, But.trans (But.trans B4 (But.ofSame sH5)) b6, ⟨d3, b6 _ _ (Ne.symm (pn _ h1)) (sH5 _ _ a1'), b6 _ _ (Ne.symm (pn _ nqh)) (sH5 _ _ a2')⟩, ⟨d5, b6 _ _ (Ne.symm (pn _ nxs2)) c1, b6 _ _ (Ne.symm (pn _ nqs2)) c2⟩, h1, nqh, nxs2, nqs2, ne_of_none a1' h4, ne_of_none a2' nqs⟩
      dsimp only
      clear b6 S6 b5 l5 b4 S4 b3 l3
      obtain ⟨kn, hkn⟩ : ∃ kn : Nat, (1 : Int) + jc = kn ∧ 1 ≤ kn ∧ kn ≤ 5 := ⟨(1 + jc).toNat, by omega, by omega, by omega⟩
      obtain ⟨hkn, k1, k5⟩ := hkn
      rw [hkn]
      -- asks on both
      refine ⟨_, rfl, _, rfl, by omega, by omega, for_range (lo := 0) (fun j σ' H' => ∃ y6 : Option V, σ' = [some (.ref a), some (.int (0 + i)), some (.ref p), some (.ref xh), some (.ref xs), some (.int kn), y6, x7, x8] ∧ TSt A0 H2 p t2 xh qh "whole" (tagsN "h" j) (.str "") xs qs (.int jn) .non "whole" (tagsN "s" j) (.str "") H') ⟨_, rfl, T6⟩ ?_ ?_⟩
      · rintro j σ4 H7 hj ⟨y6, rfl, Th⟩
        have hj5 : j < 5 := by omega
        obtain ⟨dxh7, lxh7, lqh7⟩ := id Th.half
        have ej : (0 : Int) + (j : Int) = (j : Int) := by omega
        have lg : ((0 : Int) + (j : Int)).natAbs.log2 < 1920 := by rw [ej]; exact Nat.lt_of_le_of_lt (Nat.log2_le_self _) (by omega)
        have ln : ∀ s : Str, s.length = 1 → s.length + ((toString ((0 : Int) + (j : Int)) : Str)).length ≤ sizeLine := fun s hs => by rw [ej]; exact Nat.le_trans (tag_lenS s hs (by omega)) (by decide)
        refine ⟨_, rfl, xh, dxh7, _, rfl, lxh7, (by rfl), _, rfl, _, rfl, lg, _, _, rfl, rfl, ln _ (by decide), (by show 2 ≤ sizeLine; decide), xh, [.str (tagS "h" (0 + (j : Int)))], .int 0, .non, "whole", qh, (tagsN "h" j).map V.str, _, false, rfl, Th.half, fun _ => ⟨by rw [List.length_map, tagsN_len]; exact Nat.le_trans (show j + 1 ≤ 100 by omega) (by decide), fun H8 b8 l8 => ?_⟩, fun u hu => by cases hu⟩
        rw [ej, show (tagsN "h" j).map V.str ++ [V.str (tagS "h" (j : Int))] = (tagsN "h" (j + 1)).map V.str by rw [tagsN_succ]; simp] at l8
        have T8 := Th.half' hpn (But2.ofBut b8) l8
        obtain ⟨dxs8, lxs8, lqs8⟩ := id T8.shut
        refine ⟨_, rfl, xs, dxs8, _, rfl, lxs8, (by rfl), _, rfl, _, rfl, lg, _, _, rfl, rfl, ln _ (by decide), (by show 2 ≤ sizeLine; decide), xs, [.str (tagS "s" (0 + (j : Int)))], .int jn, .non, "whole", qs, (tagsN "s" j).map V.str, _, false, rfl, T8.shut, fun _ => ⟨by rw [List.length_map, tagsN_len]; exact Nat.le_trans (show j + 1 ≤ 100 by omega) (by decide), fun H9 b9 l9 => ?_⟩, fun u hu => by cases hu⟩
        rw [ej, show (tagsN "s" j).map V.str ++ [V.str (tagS "s" (j : Int))] = (tagsN "s" (j + 1)).map V.str by rw [tagsN_succ]; simp] at l9
        exact ⟨_, rfl, T8.shut' hpn (But2.ofBut b9) l9⟩
      · rintro σ4 H7 ⟨y6, rfl, Th⟩
        have ekn : ((kn : Int) - 0).toNat = kn := by omega
        have Th : TSt A0 H2 p t2 xh qh "whole" (tagsN "h" kn) (.str "") xs qs (.int jn) .non "whole" (tagsN "s" kn) (.str "") H7 := by
          first
            | exact Th
            | (rw [ekn] at Th; exact Th)
        obtain ⟨n', rfl⟩ : ∃ n', kn = n' + 1 := ⟨kn - 1, by omega⟩
        have htg : tagsN "h" (n' + 1) = tagS "h" 0 :: (List.range n').map fun (i : Nat) => tagS "h" ((1 + i : Int)) := tagsN_cons _ _
        -- its first half
        obtain ⟨dxh7, lxh7, lqh7⟩ := id Th.half
        refine ⟨_, rfl, xh, dxh7, _, rfl, lxh7, (by rfl), rfl, xh, [], .int 0, .non, "whole", qh, (tagsN "h" (n' + 1)).map V.str, _, false, rfl, Th.half, fun _ => ⟨rfl, V.str (tagS "h" 0), ((List.range n').map fun (i : Nat) => tagS "h" ((1 + i : Int))).map V.str, by rw [htg]; rfl, fun H8 b8 l8 => ?_⟩, fun u hu => ?_⟩
        rotate_left 1
        · exact absurd hu (by
            intro hu
            rw [show nLen ((tagsN "h" (n' + 1)).map V.str) = ((n' + 1 : Nat) : Int) by unfold nLen; rw [List.length_map, tagsN_len]] at hu
            have : fault "head" "whole" ((n' + 1 : Nat) : Int) = none := by
              unfold fault
              rw [if_neg (by decide), if_neg (by decide), if_neg (by decide), if_neg]
              simp
              omega
            rw [this] at hu
            cases hu)
        rw [show after "head" "whole" = ("in" : Str) by decide] at l8
        have T8 := Th.half' hpn b8 l8
        have hz5 : (tagsN "h" (n' + 1)).length ≤ 900 := by rw [tagsN_len]; omega
        obtain ⟨dxh8, lxh8, lqh8⟩ := id T8.half
        have f1 : fault "read" "in" 1 = some ("amid" : Str) := by decide
        have f2 : fault "read" "both" 1 = some ("amid" : Str) := by decide
        have f3 : fault "read" "closed" 1 = some ("closed" : Str) := by decide
        refine Evl.q_when (b := false) (Evl.et_or (a := false) (b := false) (et_nsame (evd_refused rfl T8.half hz5 f1 (fun _ => by rw [show fieldV "amid" (.int 0) "in" = .str "in" by decide]; exact .str _)) (evd_tup (evds_cons evd_str (evds_cons evd_str evds_nil)) (by decide)) (by decide) (by decide)) fun _ => et_nsame (evd_of (ev_prop (Evl.ev_var rfl) lxh8 (sv_look T8.half)) (.int _)) (evd_of (Evl.ev_is (Evl.ev_var rfl) (by rw [List.length_map, tagsN_len])) (.int _))) (fun h => nomatch h) fun _ H9 e9 => ?_
        have T9 := T8.same e9
        obtain ⟨dxh9, lxh9, lqh9⟩ := id T9.half
        refine ⟨_, rfl, xh, dxh9, _, rfl, lxh9, (by rfl), rfl, xh, [.str "more"], .int 0, .non, "in", qh, (tagsN "h" (n' + 1)).map V.str, _, false, rfl, T9.half, fun _ => ⟨_, rfl, fun H10 b10 l10 => ?_⟩, fun u hu => by cases hu⟩
        rw [show after "begin" "in" = ("both" : Str) by decide] at l10
        have T10 := T9.half' hpn b10 l10
        obtain ⟨dxs10, lxs10, lqs10⟩ := id T10.shut
        refine ⟨_, rfl, xs, _, _, _, _, rfl, lxs10, T.cl, T.n_number, (by rfl), ?_⟩
        refine ⟨_, rfl, xs, dxs10, _, rfl, lxs10, (by rfl), xs, .non, .int jn, .non, "whole", qs, (tagsN "s" (n' + 1)).map V.str, _, false, rfl, T10.shut, fun hc => absurd hc (by decide), fun _ q2 H11 hq2 b11 l11 => ?_⟩
        have T11 := T10.close hpn b11 l11 hq2
        obtain ⟨dxh11, lxh11, lqh11⟩ := id T11.half
        refine Evl.q_when (b := false) (Evl.et_or (a := false) (b := false) (et_nsame (evd_refused rfl T11.half hz5 f2 (fun _ => by rw [show fieldV "amid" (.int 0) "both" = .str "both" by decide]; exact .str _)) (evd_tup (evds_cons evd_str (evds_cons evd_str evds_nil)) (by decide)) (by decide) (by decide)) fun _ => et_nsame (d := .tuple [.str "closed", .int jn]) (evd_refused (us := []) rfl T11.shut (by decide) f3 (fun _ => by rw [show fieldV "closed" (.int jn) "closed" = .int jn from if_neg (by decide)]; exact .int _)) (evd_tup (evds_cons evd_str (evds_cons (evd_var rfl (.int _)) evds_nil)) (by show 2 ≤ 10000; decide)) (by show 1 ≤ 2; decide) (by rfl)) (fun h => nomatch h) fun _ H12 e12 => ?_
        have T12 := T11.same e12
        obtain ⟨dxh12, lxh12, lqh12⟩ := id T12.half
        obtain ⟨dxs12, lxs12, lqs12⟩ := id T12.shut
        -- what must be left
        refine ⟨_, rfl, _, _, rfl, ⟨by decide, by decide, by omega, by omega⟩, fun D hD => lc_range (lo := 1) (n := (((n' + 1 : Nat) : Int) - 1).toNat) (fun i H' => TSt A0 H2 p t2 xh qh "both" (tagsN "h" (n' + 1)) (.str "more") xs q2 (.int jn) .non "closed" [] (.str "") H' ∧ H' D = some (.lst (((List.range i).map fun (i : Nat) => tagS "h" ((1 + i : Int))).map V.str))) ⟨T12.same (Same.new hD), upd_same⟩ ?_ ?_⟩
        all_goals
          have nD2 : H2 D = none := But.fresh T12.but hD T12.src
          have Dxh : D ≠ xh := (ne_of_none lxh12 hD).symm
          have Dqh : D ≠ qh := (ne_of_none lqh12 hD).symm
          have Dxs : D ≠ xs := (ne_of_none lxs12 hD).symm
          have Dq2 : D ≠ q2 := (ne_of_none lqs12 hD).symm
        · rintro j H13 hj ⟨T13, hD13⟩
          have hj5 : j < 5 := by omega
          have e2 : (1 : Int) + (j : Int) = ((1 + j : Nat) : Int) := by omega
          refine ⟨rfl, _, rfl, _, rfl, by rw [e2]; exact Nat.lt_of_le_of_lt (Nat.log2_le_self _) (by omega), _, _, rfl, rfl, by rw [e2]; exact Nat.le_trans (tag_lenS "h" (by decide) (by omega)) (by decide), _, hD13, by rw [List.length_map, List.length_map, List.length_range]; exact Nat.lt_of_lt_of_le (show j < 100 by omega) (by decide), ?_, ?_⟩
          · exact T13.upd hpn nD2 Dxh Dqh Dxs Dq2
          · rw [upd_same, List.range_succ, List.map_append, List.map_append]
            rfl
        · rintro H13 ⟨T13, hD13⟩
          have en : (((n' + 1 : Nat) : Int) - 1).toNat = n' := by omega
          rw [en] at hD13
          obtain ⟨dxh13, lxh13, lqh13⟩ := id T13.half
          refine ⟨_, rfl, xh, dxh13, _, rfl, lxh13, (by rfl), rfl, xh, [], .int 0, .non, "both", qh, (tagsN "h" (n' + 1)).map V.str, _, false, rfl, T13.half, fun _ => ⟨rfl, V.str (tagS "h" 0), ((List.range n').map fun (i : Nat) => tagS "h" ((1 + i : Int))).map V.str, by rw [htg]; rfl, fun H14 b14 l14 => ?_⟩, fun u hu => ?_⟩
          rotate_left 1
          · have : fault "body" "both" (nLen ((tagsN "h" (n' + 1)).map V.str)) = none := by
              unfold fault
              rw [if_neg (by decide), if_neg (by decide), if_neg (by decide), show (decide (("body" : Str) = "read") || decide (("body" : Str) = "head")) = false by decide, Bool.false_and, if_neg Bool.false_ne_true]
            rw [this] at hu
            cases hu
          rw [show after "body" "both" = ("out" : Str) by decide] at l14
          have T14 := T13.half' hpn b14 l14
          have hD14 := b14 D _ Dxh Dqh hD13
          refine ⟨.str (tagS "h" 0), .str "h0", .str "h0", rfl, by rw [show tagS "h" 0 = ("h0" : Str) by decide]; exact .str _, .str _, Nat.zero_le _, by rfl, fun H15 e15 => ⟨true, rfl, ?_⟩⟩
          refine ⟨_, rfl, xh, .int 0, .non, "out", qh, (List.range n').map fun (i : Nat) => tagS "h" ((1 + i : Int)), _, false, rfl, T14.half.same e15, by rw [List.length_map, List.length_range]; omega, fun _ p1 r1 H16 hp1 hr1 b16 l16 hp16 hr16 => ⟨_, rfl, (by show 2 ≤ sizeLine; decide), fun tp htp => ⟨.ref p1, .ref tp, .tuple [.str "told", .list (((List.range n').map fun (i : Nat) => tagS "h" ((1 + i : Int))).map PyData.str)], rfl, ?_, ?_, ?_, ?_, fun H17 e17 => ⟨true, rfl, ?_⟩⟩⟩, fun u hu => by cases hu⟩
          · exact .tup (SqT.of (Same.new htp _ _ hp16)) (.cons (.str _) (.cons (dp_strs (Same.new htp _ _ hr16)) .nil))
          · exact .tup (SqT.of upd_same) (.cons (.str _) (.cons (dp_strs (Same.new htp _ _ (b16 D _ Dxh Dqh (e15 _ _ hD14)))) .nil))
          · have := dep_strs ((List.range n').map fun (i : Nat) => tagS "h" ((1 + i : Int)))
            show max 0 (max (dep _) 0) + 1 ≤ 2
            omega
          · have := ok_strs (us := (List.range n').map fun (i : Nat) => tagS "h" ((1 + i : Int))) (by rw [List.length_map, List.length_range]; omega)
            show (decide (2 ≤ 1000) && (true && (okD _ && true))) = true
            rw [this]
            decide
          · dsimp only
            rw [if_neg (show ¬ (!true) = true by decide)]
            refine ⟨_, _, _, _, _, _, _, _, rfl, fun b o h => ?_⟩
            have e1 := s0 b o h
            have e2 := b2 b o (ne_of_none e1 hp) (s1 b o e1)
            exact e17 _ _ (Same.new htp _ _ (b16 b o (ne_of_none e2 h1) (ne_of_none e2 nqh) (e15 _ _ (T14.but b o (ne_of_none e1 hp) e2))))
    · rintro σ H' ⟨x1, x2, x3, x4, x5, x6, x7, x8, rfl, s0⟩
      exact k H'
end
end K33
end
section
set_option Elab.async false
set_option autoImplicit false
set_option linter.all false
set_option maxRecDepth 100000
namespace K33
open PySem PySem.Spec PyProof.Rows L2 PySem.OxE
set_option maxHeartbeats 4000000 in
theorem all_mk {l : PySem.W.OpenLaw} {w : World} {K : PySem.W.Frag} {h : Heap} {mg : Str → Option Value} {fa : Addr} (X : K.In h) (G : h.Ns mainGlobals mg) (hfa : mg "law" = some (.ref fa)) {c_Am i_Am : Addr} {c_Cl i_Cl : Addr} {c_St i_St : Addr} {cO cLi : Addr} {f_Line_init D_Line_init : Addr} {od_Line_init an_Line_init odD_Line_init : Option Addr} {sl_Line_init slD_Line_init : Array (Option Value)} {oc_Line_init dc_Line_init pm_Line_init cd_Line_init ct_Line_init dv_Line_init ocD_Line_init : Value} {nD_Line_init : Nat} {f_Line_close D_Line_close : Addr} {od_Line_close an_Line_close odD_Line_close : Option Addr} {sl_Line_close slD_Line_close : Array (Option Value)} {oc_Line_close dc_Line_close pm_Line_close cd_Line_close ct_Line_close dv_Line_close ocD_Line_close : Value} {nD_Line_close : Nat} {f_Line_len : Addr} {od_Line_len an_Line_len : Option Addr} {sl_Line_len : Array (Option Value)} {oc_Line_len kV_Line_len dc_Line_len pm_Line_len cd_Line_len ct_Line_len : Value} {f_Line_contains : Addr} {od_Line_contains an_Line_contains : Option Addr} {sl_Line_contains : Array (Option Value)} {oc_Line_contains kV_Line_contains dc_Line_contains pm_Line_contains cd_Line_contains ct_Line_contains : Value} {f_Line_need : Addr} {od_Line_need an_Line_need : Option Addr} {sl_Line_need : Array (Option Value)} {oc_Line_need kV_Line_need dc_Line_need pm_Line_need cd_Line_need ct_Line_need : Value} {f_Line_begin : Addr} {od_Line_begin an_Line_begin : Option Addr} {sl_Line_begin : Array (Option Value)} {oc_Line_begin kV_Line_begin dc_Line_begin pm_Line_begin cd_Line_begin ct_Line_begin : Value} {f_Line_finish : Addr} {od_Line_finish an_Line_finish : Option Addr} {sl_Line_finish : Array (Option Value)} {oc_Line_finish kV_Line_finish dc_Line_finish pm_Line_finish cd_Line_finish ct_Line_finish : Value} {f_Line_read : Addr} {od_Line_read an_Line_read : Option Addr} {sl_Line_read : Array (Option Value)} {oc_Line_read kV_Line_read dc_Line_read pm_Line_read cd_Line_read ct_Line_read : Value} {f_Line_head : Addr} {od_Line_head an_Line_head : Option Addr} {sl_Line_head : Array (Option Value)} {oc_Line_head kV_Line_head dc_Line_head pm_Line_head cd_Line_head ct_Line_head : Value} {f_Line_body : Addr} {od_Line_body an_Line_body : Option Addr} {sl_Line_body : Array (Option Value)} {oc_Line_body kV_Line_body dc_Line_body pm_Line_body cd_Line_body ct_Line_body : Value} {f_Line_drain : Addr} {od_Line_drain an_Line_drain : Option Addr} {sl_Line_drain : Array (Option Value)} {oc_Line_drain kV_Line_drain dc_Line_drain pm_Line_drain cd_Line_drain ct_Line_drain : Value} {f_Line_tags : Addr} {od_Line_tags an_Line_tags : Option Addr} {sl_Line_tags : Array (Option Value)} {oc_Line_tags kV_Line_tags dc_Line_tags pm_Line_tags cd_Line_tags ct_Line_tags : Value} {f_Line_answers : Addr} {od_Line_answers an_Line_answers : Option Addr} {sl_Line_answers : Array (Option Value)} {oc_Line_answers kV_Line_answers dc_Line_answers pm_Line_answers cd_Line_answers ct_Line_answers : Value} {f_Line_ask : Addr} {od_Line_ask an_Line_ask : Option Addr} {sl_Line_ask : Array (Option Value)} {oc_Line_ask kV_Line_ask dc_Line_ask pm_Line_ask cd_Line_ask ct_Line_ask : Value} {p_mark : Addr} {rs_mark : List Value} {f_Line_mark : Addr} {od_Line_mark an_Line_mark : Option Addr} {sl_Line_mark : Array (Option Value)} {oc_Line_mark kV_Line_mark dc_Line_mark pm_Line_mark cd_Line_mark ct_Line_mark : Value} {p_open : Addr} {rs_open : List Value} {f_Line_is_open : Addr} {od_Line_is_open an_Line_is_open : Option Addr} {sl_Line_is_open : Array (Option Value)} {oc_Line_is_open kV_Line_is_open dc_Line_is_open pm_Line_is_open cd_Line_is_open ct_Line_is_open : Value} {p_clean : Addr} {rs_clean : List Value} {f_Line_is_clean : Addr} {od_Line_is_clean an_Line_is_clean : Option Addr} {sl_Line_is_clean : Array (Option Value)} {oc_Line_is_clean kV_Line_is_clean dc_Line_is_clean pm_Line_is_clean cd_Line_is_clean ct_Line_is_clean : Value} {p_owed : Addr} {rs_owed : List Value} {f_Line_owed : Addr} {od_Line_owed an_Line_owed : Option Addr} {sl_Line_owed : Array (Option Value)} {oc_Line_owed kV_Line_owed dc_Line_owed pm_Line_owed cd_Line_owed ct_Line_owed : Value} {f_is_out : Addr} {od_is_out an_is_out : Option Addr} {sl_is_out : Array (Option Value)} {oc_is_out kV_is_out dc_is_out pm_is_out cd_is_out ct_is_out : Value} {f_is_in : Addr} {od_is_in an_is_in : Option Addr} {sl_is_in : Array (Option Value)} {oc_is_in kV_is_in dc_is_in pm_is_in cd_is_in ct_is_in : Value} {f_mark_of : Addr} {od_mark_of an_mark_of : Option Addr} {sl_mark_of : Array (Option Value)} {oc_mark_of kV_mark_of dc_mark_of pm_mark_of cd_mark_of ct_mark_of : Value} {f_is_amid : Addr} {od_is_amid an_is_amid : Option Addr} {sl_is_amid : Array (Option Value)} {oc_is_amid kV_is_amid dc_is_amid pm_is_amid cd_is_amid ct_is_amid : Value} {f_row_fault : Addr} {od_row_fault an_row_fault : Option Addr} {sl_row_fault : Array (Option Value)} {oc_row_fault kV_row_fault dc_row_fault pm_row_fault cd_row_fault ct_row_fault : Value} {f_mark_after : Addr} {od_mark_after an_mark_after : Option Addr} {sl_mark_after : Array (Option Value)} {oc_mark_after kV_mark_after dc_mark_after pm_mark_after cd_mark_after ct_mark_after : Value} {aW : Addr} {odW : Option Addr} {itW : Array Value} {nW : Nat} {slW : Array (Option Value)} {f_source : Addr} {od_source an_source : Option Addr} {sl_source : Array (Option Value)} {oc_source kV_source dc_source pm_source cd_source ct_source : Value} {f_draw : Addr} {od_draw an_draw : Option Addr} {sl_draw : Array (Option Value)} {oc_draw kV_draw dc_draw pm_draw cd_draw ct_draw : Value} {f_same : Addr} {od_same an_same : Option Addr} {sl_same : Array (Option Value)} {oc_same kV_same dc_same pm_same cd_same ct_same : Value} {f_some : Addr} {od_some an_some : Option Addr} {sl_some : Array (Option Value)} {oc_some kV_some dc_some pm_some cd_some ct_some : Value} {f_refused : Addr} {od_refused an_refused : Option Addr} {sl_refused : Array (Option Value)} {oc_refused kV_refused dc_refused pm_refused cd_refused ct_refused : Value} {f_holds : Addr} {od_holds an_holds : Option Addr} {sl_holds : Array (Option Value)} {oc_holds kV_holds dc_holds pm_holds cd_holds ct_holds : Value} {f_law : Addr} {od_law an_law : Option Addr} {sl_law : Array (Option Value)} {oc_law kV_law dc_law pm_law cd_law ct_law : Value}
    (x_Am : ExTxt l.prog K mg "Amid" ["half"] c_Am i_Am)
    (x_Cl : ExTxt l.prog K mg "Closed" ["number"] c_Cl i_Cl)
    (x_St : ExTxt l.prog K mg "Starved" ["number"] c_St i_St)
    (aO : PySem.W.nsIn K mainGlobals "OwedError" = some (some (.ref cO)))
    (aLi : PySem.W.nsIn K mainGlobals "Line" = some (some (.ref cLi)))
    (pgLi : PySem.W.plainGet K cLi Str.empty = true)
    (hdLi : PySem.W.hasDictIn K cLi = true)
    (poLi : PySem.W.plainOver K cLi = true)
    (saLi : PySem.W.findIn K (.ref cLi) "__setattr__" = some (some (.builtin "object.__setattr__")))
    (nsLi : PySem.W.noSeq K cLi = true)
    (mkLi : PySem.W.makesIn K cLi = true)
    (kpLi : PySem.W.keepIn K (.ref cLi) = true)
    (n_number : PySem.W.findIn K (.ref cLi) "number" = some none)
    (n_cause : PySem.W.findIn K (.ref cLi) "cause" = some none)
    (n_state : PySem.W.findIn K (.ref cLi) "state" = some none)
    (n_queue : PySem.W.findIn K (.ref cLi) "queue" = some none)
    (n_sending : PySem.W.findIn K (.ref cLi) "sending" = some none)
    (n_is_lent : PySem.W.findIn K (.ref cLi) "is_lent" = some none)
    (a_Line_init : PySem.W.findIn K (.ref cLi) "__init__" = some (some (.ref f_Line_init)))
    (i_Line_init : PySem.W.isFn K (.ref f_Line_init) = true)
    (l_Line_init : K.lookup f_Line_init = some ⟨oc_Line_init, od_Line_init, .func (PySem.W.fnOf "__init__" "Line.__init__" (defArgs s_Line_init) (defBody s_Line_init) (defScope s_Line_init) (.ref D_Line_init) .none dc_Line_init pm_Line_init an_Line_init cd_Line_init ct_Line_init), sl_Line_init⟩)
    (c_Line_init : PySem.W.codeIn K cd_Line_init "Line.__init__" = true)
    (k_Line_init : PySem.W.keepIn K (.ref f_Line_init) = true)
    (lD_Line_init : K.lookup D_Line_init = some ⟨ocD_Line_init, odD_Line_init, .seq [dv_Line_init].toArray nD_Line_init, slD_Line_init⟩)
    (rD_Line_init : RelV (.int 0) dv_Line_init)
    (a_Line_close : PySem.W.findIn K (.ref cLi) "close" = some (some (.ref f_Line_close)))
    (i_Line_close : PySem.W.isFn K (.ref f_Line_close) = true)
    (l_Line_close : K.lookup f_Line_close = some ⟨oc_Line_close, od_Line_close, .func (PySem.W.fnOf "close" "Line.close" (defArgs s_Line_close) (defBody s_Line_close) (defScope s_Line_close) (.ref D_Line_close) .none dc_Line_close pm_Line_close an_Line_close cd_Line_close ct_Line_close), sl_Line_close⟩)
    (c_Line_close : PySem.W.codeIn K cd_Line_close "Line.close" = true)
    (k_Line_close : PySem.W.keepIn K (.ref f_Line_close) = true)
    (lD_Line_close : K.lookup D_Line_close = some ⟨ocD_Line_close, odD_Line_close, .seq [dv_Line_close].toArray nD_Line_close, slD_Line_close⟩)
    (rD_Line_close : RelV (.non) dv_Line_close)
    (a_Line_len : PySem.W.findIn K (.ref cLi) "__len__" = some (some (.ref f_Line_len)))
    (i_Line_len : PySem.W.isFn K (.ref f_Line_len) = true)
    (l_Line_len : K.lookup f_Line_len = some ⟨oc_Line_len, od_Line_len, .func (PySem.W.fnOf "__len__" "Line.__len__" (defArgs s_Line_len) (defBody s_Line_len) (defScope s_Line_len) .none kV_Line_len dc_Line_len pm_Line_len an_Line_len cd_Line_len ct_Line_len), sl_Line_len⟩)
    (c_Line_len : PySem.W.codeIn K cd_Line_len "Line.__len__" = true)
    (k_Line_len : PySem.W.keepIn K (.ref f_Line_len) = true)
    (n_Line_len : PySem.W.fnIn K f_Line_len = true)
    (a_Line_contains : PySem.W.findIn K (.ref cLi) "__contains__" = some (some (.ref f_Line_contains)))
    (i_Line_contains : PySem.W.isFn K (.ref f_Line_contains) = true)
    (l_Line_contains : K.lookup f_Line_contains = some ⟨oc_Line_contains, od_Line_contains, .func (PySem.W.fnOf "__contains__" "Line.__contains__" (defArgs s_Line_contains) (defBody s_Line_contains) (defScope s_Line_contains) .none kV_Line_contains dc_Line_contains pm_Line_contains an_Line_contains cd_Line_contains ct_Line_contains), sl_Line_contains⟩)
    (c_Line_contains : PySem.W.codeIn K cd_Line_contains "Line.__contains__" = true)
    (k_Line_contains : PySem.W.keepIn K (.ref f_Line_contains) = true)
    (n_Line_contains : PySem.W.fnIn K f_Line_contains = true)
    (a_Line_need : PySem.W.findIn K (.ref cLi) "need" = some (some (.ref f_Line_need)))
    (i_Line_need : PySem.W.isFn K (.ref f_Line_need) = true)
    (l_Line_need : K.lookup f_Line_need = some ⟨oc_Line_need, od_Line_need, .func (PySem.W.fnOf "need" "Line.need" (defArgs s_Line_need) (defBody s_Line_need) (defScope s_Line_need) .none kV_Line_need dc_Line_need pm_Line_need an_Line_need cd_Line_need ct_Line_need), sl_Line_need⟩)
    (c_Line_need : PySem.W.codeIn K cd_Line_need "Line.need" = true)
    (k_Line_need : PySem.W.keepIn K (.ref f_Line_need) = true)
    (a_Line_begin : PySem.W.findIn K (.ref cLi) "begin" = some (some (.ref f_Line_begin)))
    (i_Line_begin : PySem.W.isFn K (.ref f_Line_begin) = true)
    (l_Line_begin : K.lookup f_Line_begin = some ⟨oc_Line_begin, od_Line_begin, .func (PySem.W.fnOf "begin" "Line.begin" (defArgs s_Line_begin) (defBody s_Line_begin) (defScope s_Line_begin) .none kV_Line_begin dc_Line_begin pm_Line_begin an_Line_begin cd_Line_begin ct_Line_begin), sl_Line_begin⟩)
    (c_Line_begin : PySem.W.codeIn K cd_Line_begin "Line.begin" = true)
    (k_Line_begin : PySem.W.keepIn K (.ref f_Line_begin) = true)
    (a_Line_finish : PySem.W.findIn K (.ref cLi) "finish" = some (some (.ref f_Line_finish)))
    (i_Line_finish : PySem.W.isFn K (.ref f_Line_finish) = true)
    (l_Line_finish : K.lookup f_Line_finish = some ⟨oc_Line_finish, od_Line_finish, .func (PySem.W.fnOf "finish" "Line.finish" (defArgs s_Line_finish) (defBody s_Line_finish) (defScope s_Line_finish) .none kV_Line_finish dc_Line_finish pm_Line_finish an_Line_finish cd_Line_finish ct_Line_finish), sl_Line_finish⟩)
    (c_Line_finish : PySem.W.codeIn K cd_Line_finish "Line.finish" = true)
    (k_Line_finish : PySem.W.keepIn K (.ref f_Line_finish) = true)
    (a_Line_read : PySem.W.findIn K (.ref cLi) "read" = some (some (.ref f_Line_read)))
    (i_Line_read : PySem.W.isFn K (.ref f_Line_read) = true)
    (l_Line_read : K.lookup f_Line_read = some ⟨oc_Line_read, od_Line_read, .func (PySem.W.fnOf "read" "Line.read" (defArgs s_Line_read) (defBody s_Line_read) (defScope s_Line_read) .none kV_Line_read dc_Line_read pm_Line_read an_Line_read cd_Line_read ct_Line_read), sl_Line_read⟩)
    (c_Line_read : PySem.W.codeIn K cd_Line_read "Line.read" = true)
    (k_Line_read : PySem.W.keepIn K (.ref f_Line_read) = true)
    (a_Line_head : PySem.W.findIn K (.ref cLi) "head" = some (some (.ref f_Line_head)))
    (i_Line_head : PySem.W.isFn K (.ref f_Line_head) = true)
    (l_Line_head : K.lookup f_Line_head = some ⟨oc_Line_head, od_Line_head, .func (PySem.W.fnOf "head" "Line.head" (defArgs s_Line_head) (defBody s_Line_head) (defScope s_Line_head) .none kV_Line_head dc_Line_head pm_Line_head an_Line_head cd_Line_head ct_Line_head), sl_Line_head⟩)
    (c_Line_head : PySem.W.codeIn K cd_Line_head "Line.head" = true)
    (k_Line_head : PySem.W.keepIn K (.ref f_Line_head) = true)
    (a_Line_body : PySem.W.findIn K (.ref cLi) "body" = some (some (.ref f_Line_body)))
    (i_Line_body : PySem.W.isFn K (.ref f_Line_body) = true)
    (l_Line_body : K.lookup f_Line_body = some ⟨oc_Line_body, od_Line_body, .func (PySem.W.fnOf "body" "Line.body" (defArgs s_Line_body) (defBody s_Line_body) (defScope s_Line_body) .none kV_Line_body dc_Line_body pm_Line_body an_Line_body cd_Line_body ct_Line_body), sl_Line_body⟩)
    (c_Line_body : PySem.W.codeIn K cd_Line_body "Line.body" = true)
    (k_Line_body : PySem.W.keepIn K (.ref f_Line_body) = true)
    (a_Line_drain : PySem.W.findIn K (.ref cLi) "drain" = some (some (.ref f_Line_drain)))
    (i_Line_drain : PySem.W.isFn K (.ref f_Line_drain) = true)
    (l_Line_drain : K.lookup f_Line_drain = some ⟨oc_Line_drain, od_Line_drain, .func (PySem.W.fnOf "drain" "Line.drain" (defArgs s_Line_drain) (defBody s_Line_drain) (defScope s_Line_drain) .none kV_Line_drain dc_Line_drain pm_Line_drain an_Line_drain cd_Line_drain ct_Line_drain), sl_Line_drain⟩)
    (c_Line_drain : PySem.W.codeIn K cd_Line_drain "Line.drain" = true)
    (k_Line_drain : PySem.W.keepIn K (.ref f_Line_drain) = true)
    (a_Line_tags : PySem.W.findIn K (.ref cLi) "tags" = some (some (.ref f_Line_tags)))
    (i_Line_tags : PySem.W.isFn K (.ref f_Line_tags) = true)
    (l_Line_tags : K.lookup f_Line_tags = some ⟨oc_Line_tags, od_Line_tags, .func (PySem.W.fnOf "tags" "Line.tags" (defArgs s_Line_tags) (defBody s_Line_tags) (defScope s_Line_tags) .none kV_Line_tags dc_Line_tags pm_Line_tags an_Line_tags cd_Line_tags ct_Line_tags), sl_Line_tags⟩)
    (c_Line_tags : PySem.W.codeIn K cd_Line_tags "Line.tags" = true)
    (k_Line_tags : PySem.W.keepIn K (.ref f_Line_tags) = true)
    (a_Line_answers : PySem.W.findIn K (.ref cLi) "answers" = some (some (.ref f_Line_answers)))
    (i_Line_answers : PySem.W.isFn K (.ref f_Line_answers) = true)
    (l_Line_answers : K.lookup f_Line_answers = some ⟨oc_Line_answers, od_Line_answers, .func (PySem.W.fnOf "answers" "Line.answers" (defArgs s_Line_answers) (defBody s_Line_answers) (defScope s_Line_answers) .none kV_Line_answers dc_Line_answers pm_Line_answers an_Line_answers cd_Line_answers ct_Line_answers), sl_Line_answers⟩)
    (c_Line_answers : PySem.W.codeIn K cd_Line_answers "Line.answers" = true)
    (k_Line_answers : PySem.W.keepIn K (.ref f_Line_answers) = true)
    (a_Line_ask : PySem.W.findIn K (.ref cLi) "ask" = some (some (.ref f_Line_ask)))
    (i_Line_ask : PySem.W.isFn K (.ref f_Line_ask) = true)
    (l_Line_ask : K.lookup f_Line_ask = some ⟨oc_Line_ask, od_Line_ask, .func (PySem.W.fnOf "ask" "Line.ask" (defArgs s_Line_ask) (defBody s_Line_ask) (defScope s_Line_ask) .none kV_Line_ask dc_Line_ask pm_Line_ask an_Line_ask cd_Line_ask ct_Line_ask), sl_Line_ask⟩)
    (c_Line_ask : PySem.W.codeIn K cd_Line_ask "Line.ask" = true)
    (k_Line_ask : PySem.W.keepIn K (.ref f_Line_ask) = true)
    (pa_mark : PySem.W.findIn K (.ref cLi) "mark" = some (some (.ref p_mark)))
    (pg_mark : PySem.W.specialIn K (.ref p_mark) "__get__" = some (some (.builtin "property.__get__")))
    (pt_mark : PySem.W.takesIn K (.ref p_mark) = some true)
    (pr_mark : PySem.W.recIn K p_mark "property" = some (.ref f_Line_mark :: rs_mark))
    (l_Line_mark : K.lookup f_Line_mark = some ⟨oc_Line_mark, od_Line_mark, .func (PySem.W.fnOf "mark" "Line.mark" (defArgs s_Line_mark) (defBody s_Line_mark) (defScope s_Line_mark) .none kV_Line_mark dc_Line_mark pm_Line_mark an_Line_mark cd_Line_mark ct_Line_mark), sl_Line_mark⟩)
    (c_Line_mark : PySem.W.codeIn K cd_Line_mark "Line.mark" = true)
    (k_Line_mark : PySem.W.keepIn K (.ref f_Line_mark) = true)
    (pa_open : PySem.W.findIn K (.ref cLi) "is_open" = some (some (.ref p_open)))
    (pg_open : PySem.W.specialIn K (.ref p_open) "__get__" = some (some (.builtin "property.__get__")))
    (pt_open : PySem.W.takesIn K (.ref p_open) = some true)
    (pr_open : PySem.W.recIn K p_open "property" = some (.ref f_Line_is_open :: rs_open))
    (l_Line_is_open : K.lookup f_Line_is_open = some ⟨oc_Line_is_open, od_Line_is_open, .func (PySem.W.fnOf "is_open" "Line.is_open" (defArgs s_Line_is_open) (defBody s_Line_is_open) (defScope s_Line_is_open) .none kV_Line_is_open dc_Line_is_open pm_Line_is_open an_Line_is_open cd_Line_is_open ct_Line_is_open), sl_Line_is_open⟩)
    (c_Line_is_open : PySem.W.codeIn K cd_Line_is_open "Line.is_open" = true)
    (k_Line_is_open : PySem.W.keepIn K (.ref f_Line_is_open) = true)
    (pa_clean : PySem.W.findIn K (.ref cLi) "is_clean" = some (some (.ref p_clean)))
    (pg_clean : PySem.W.specialIn K (.ref p_clean) "__get__" = some (some (.builtin "property.__get__")))
    (pt_clean : PySem.W.takesIn K (.ref p_clean) = some true)
    (pr_clean : PySem.W.recIn K p_clean "property" = some (.ref f_Line_is_clean :: rs_clean))
    (l_Line_is_clean : K.lookup f_Line_is_clean = some ⟨oc_Line_is_clean, od_Line_is_clean, .func (PySem.W.fnOf "is_clean" "Line.is_clean" (defArgs s_Line_is_clean) (defBody s_Line_is_clean) (defScope s_Line_is_clean) .none kV_Line_is_clean dc_Line_is_clean pm_Line_is_clean an_Line_is_clean cd_Line_is_clean ct_Line_is_clean), sl_Line_is_clean⟩)
    (c_Line_is_clean : PySem.W.codeIn K cd_Line_is_clean "Line.is_clean" = true)
    (k_Line_is_clean : PySem.W.keepIn K (.ref f_Line_is_clean) = true)
    (pa_owed : PySem.W.findIn K (.ref cLi) "owed" = some (some (.ref p_owed)))
    (pg_owed : PySem.W.specialIn K (.ref p_owed) "__get__" = some (some (.builtin "property.__get__")))
    (pt_owed : PySem.W.takesIn K (.ref p_owed) = some true)
    (pr_owed : PySem.W.recIn K p_owed "property" = some (.ref f_Line_owed :: rs_owed))
    (l_Line_owed : K.lookup f_Line_owed = some ⟨oc_Line_owed, od_Line_owed, .func (PySem.W.fnOf "owed" "Line.owed" (defArgs s_Line_owed) (defBody s_Line_owed) (defScope s_Line_owed) .none kV_Line_owed dc_Line_owed pm_Line_owed an_Line_owed cd_Line_owed ct_Line_owed), sl_Line_owed⟩)
    (c_Line_owed : PySem.W.codeIn K cd_Line_owed "Line.owed" = true)
    (k_Line_owed : PySem.W.keepIn K (.ref f_Line_owed) = true)
    (a_is_out : PySem.W.nsIn K mainGlobals "is_out" = some (some (.ref f_is_out)))
    (l_is_out : K.lookup f_is_out = some ⟨oc_is_out, od_is_out, .func (PySem.W.fnOf "is_out" "is_out" (defArgs s_is_out) (defBody s_is_out) (defScope s_is_out) .none kV_is_out dc_is_out pm_is_out an_is_out cd_is_out ct_is_out), sl_is_out⟩)
    (c_is_out : PySem.W.codeIn K cd_is_out "is_out" = true)
    (k_is_out : PySem.W.keepIn K (.ref f_is_out) = true)
    (a_is_in : PySem.W.nsIn K mainGlobals "is_in" = some (some (.ref f_is_in)))
    (l_is_in : K.lookup f_is_in = some ⟨oc_is_in, od_is_in, .func (PySem.W.fnOf "is_in" "is_in" (defArgs s_is_in) (defBody s_is_in) (defScope s_is_in) .none kV_is_in dc_is_in pm_is_in an_is_in cd_is_in ct_is_in), sl_is_in⟩)
    (c_is_in : PySem.W.codeIn K cd_is_in "is_in" = true)
    (k_is_in : PySem.W.keepIn K (.ref f_is_in) = true)
    (a_mark_of : PySem.W.nsIn K mainGlobals "mark_of" = some (some (.ref f_mark_of)))
    (l_mark_of : K.lookup f_mark_of = some ⟨oc_mark_of, od_mark_of, .func (PySem.W.fnOf "mark_of" "mark_of" (defArgs s_mark_of) (defBody s_mark_of) (defScope s_mark_of) .none kV_mark_of dc_mark_of pm_mark_of an_mark_of cd_mark_of ct_mark_of), sl_mark_of⟩)
    (c_mark_of : PySem.W.codeIn K cd_mark_of "mark_of" = true)
    (k_mark_of : PySem.W.keepIn K (.ref f_mark_of) = true)
    (a_is_amid : PySem.W.nsIn K mainGlobals "is_amid" = some (some (.ref f_is_amid)))
    (l_is_amid : K.lookup f_is_amid = some ⟨oc_is_amid, od_is_amid, .func (PySem.W.fnOf "is_amid" "is_amid" (defArgs s_is_amid) (defBody s_is_amid) (defScope s_is_amid) .none kV_is_amid dc_is_amid pm_is_amid an_is_amid cd_is_amid ct_is_amid), sl_is_amid⟩)
    (c_is_amid : PySem.W.codeIn K cd_is_amid "is_amid" = true)
    (k_is_amid : PySem.W.keepIn K (.ref f_is_amid) = true)
    (a_row_fault : PySem.W.nsIn K mainGlobals "row_fault" = some (some (.ref f_row_fault)))
    (l_row_fault : K.lookup f_row_fault = some ⟨oc_row_fault, od_row_fault, .func (PySem.W.fnOf "row_fault" "row_fault" (defArgs s_row_fault) (defBody s_row_fault) (defScope s_row_fault) .none kV_row_fault dc_row_fault pm_row_fault an_row_fault cd_row_fault ct_row_fault), sl_row_fault⟩)
    (c_row_fault : PySem.W.codeIn K cd_row_fault "row_fault" = true)
    (k_row_fault : PySem.W.keepIn K (.ref f_row_fault) = true)
    (a_mark_after : PySem.W.nsIn K mainGlobals "mark_after" = some (some (.ref f_mark_after)))
    (l_mark_after : K.lookup f_mark_after = some ⟨oc_mark_after, od_mark_after, .func (PySem.W.fnOf "mark_after" "mark_after" (defArgs s_mark_after) (defBody s_mark_after) (defScope s_mark_after) .none kV_mark_after dc_mark_after pm_mark_after an_mark_after cd_mark_after ct_mark_after), sl_mark_after⟩)
    (c_mark_after : PySem.W.codeIn K cd_mark_after "mark_after" = true)
    (k_mark_after : PySem.W.keepIn K (.ref f_mark_after) = true)
    (mW : PySem.W.nsIn K mainGlobals "LINE_WORDS" = some (some (.ref aW)))
    (lW : K.lookup aW = some ⟨.type "tuple", odW, .seq itW nW, slW⟩)
    (zW : itW.size ≤ sizeLine)
    (vW : Vals (LW.map V.str) itW.toList)
    (chk : ([c_Cl, c_Am, c_St].all fun c => ((PySem.W.clsIn K c).isSome && (PySem.W.findIn K (.ref c) "__class__" == some (some (.builtin "object.__class__")) && (PySem.W.mroIn K c (.type "object") == some true && (PySem.W.kitOne K (.ref c) (.type "ValueError") == some true && (PySem.W.exmOne K (.ref c) (.ref cO) == some true && PySem.W.subIn K (.ref c) (.type "StopIteration") == some false)))))) = true)
    (hn : PySem.W.specialIn K (.builtin "object.__class__") "__get__" = some (some (.builtin "getset_descriptor.__get__")))
    (ht : PySem.W.takesIn K (.builtin "object.__class__") = some true)
    (kit : ((List.range 3).all fun i => (List.range 3).all fun j => PySem.W.kitOne K (.ref ([c_Cl, c_Am, c_St].getD i cO)) (.ref ([c_Cl, c_Am, c_St].getD j cO)) == some (decide (i = j)) && PySem.W.exmOne K (.ref ([c_Cl, c_Am, c_St].getD i cO)) (.ref ([c_Cl, c_Am, c_St].getD j cO)) == some (decide (i = j))) = true)
    (a_source : PySem.W.nsIn K mainGlobals "_law_source" = some (some (.ref f_source)))
    (l_source : K.lookup f_source = some ⟨oc_source, od_source, .func (PySem.W.fnOf "_law_source" "_law_source" (defArgs s_source) (defBody s_source) (defScope s_source) .none kV_source dc_source pm_source an_source cd_source ct_source), sl_source⟩)
    (c_source : PySem.W.codeIn K cd_source "_law_source" = true)
    (k_source : PySem.W.keepIn K (.ref f_source) = true)
    (a_draw : PySem.W.nsIn K mainGlobals "_law_draw" = some (some (.ref f_draw)))
    (l_draw : K.lookup f_draw = some ⟨oc_draw, od_draw, .func (PySem.W.fnOf "_law_draw" "_law_draw" (defArgs s_draw) (defBody s_draw) (defScope s_draw) .none kV_draw dc_draw pm_draw an_draw cd_draw ct_draw), sl_draw⟩)
    (c_draw : PySem.W.codeIn K cd_draw "_law_draw" = true)
    (k_draw : PySem.W.keepIn K (.ref f_draw) = true)
    (a_same : PySem.W.nsIn K mainGlobals "_law_same" = some (some (.ref f_same)))
    (l_same : K.lookup f_same = some ⟨oc_same, od_same, .func (PySem.W.fnOf "_law_same" "_law_same" (defArgs s_same) (defBody s_same) (defScope s_same) .none kV_same dc_same pm_same an_same cd_same ct_same), sl_same⟩)
    (c_same : PySem.W.codeIn K cd_same "_law_same" = true)
    (k_same : PySem.W.keepIn K (.ref f_same) = true)
    (a_some : PySem.W.nsIn K mainGlobals "_law_some" = some (some (.ref f_some)))
    (l_some : K.lookup f_some = some ⟨oc_some, od_some, .func (PySem.W.fnOf "_law_some" "_law_some" (defArgs s_some) (defBody s_some) (defScope s_some) .none kV_some dc_some pm_some an_some cd_some ct_some), sl_some⟩)
    (c_some : PySem.W.codeIn K cd_some "_law_some" = true)
    (k_some : PySem.W.keepIn K (.ref f_some) = true)
    (a_refused : PySem.W.nsIn K mainGlobals "_law_refused" = some (some (.ref f_refused)))
    (l_refused : K.lookup f_refused = some ⟨oc_refused, od_refused, .func (PySem.W.fnOf "_law_refused" "_law_refused" (defArgs s_refused) (defBody s_refused) (defScope s_refused) .none kV_refused dc_refused pm_refused an_refused cd_refused ct_refused), sl_refused⟩)
    (c_refused : PySem.W.codeIn K cd_refused "_law_refused" = true)
    (k_refused : PySem.W.keepIn K (.ref f_refused) = true)
    (a_holds : PySem.W.nsIn K mainGlobals "_law_holds" = some (some (.ref f_holds)))
    (l_holds : K.lookup f_holds = some ⟨oc_holds, od_holds, .func (PySem.W.fnOf "_law_holds" "_law_holds" (defArgs s_holds) (defBody s_holds) (defScope s_holds) .none kV_holds dc_holds pm_holds an_holds cd_holds ct_holds), sl_holds⟩)
    (c_holds : PySem.W.codeIn K cd_holds "_law_holds" = true)
    (k_holds : PySem.W.keepIn K (.ref f_holds) = true)
    (a_law : PySem.W.nsIn K mainGlobals "law" = some (some (.ref f_law)))
    (l_law : K.lookup f_law = some ⟨oc_law, od_law, .func (PySem.W.fnOf "law" "law" (defArgs s_law) (defBody s_law) (defScope s_law) .none kV_law dc_law pm_law an_law cd_law ct_law), sl_law⟩)
    (c_law : PySem.W.codeIn K cd_law "law" = true)
    (k_law : PySem.W.keepIn K (.ref f_law) = true)
    (z_len : PySem.W.nsIn K mainGlobals "len" = some none)
    (z_abs : PySem.W.nsIn K mainGlobals "abs" = some none)
    (z_int : PySem.W.nsIn K mainGlobals "int" = some none)
    (z_range : PySem.W.nsIn K mainGlobals "range" = some none)
    (z_min : PySem.W.nsIn K mainGlobals "min" = some none)
    (z_max : PySem.W.nsIn K mainGlobals "max" = some none)
    (z_isinstance : PySem.W.nsIn K mainGlobals "isinstance" = some none)
    (z_zip : PySem.W.nsIn K mainGlobals "zip" = some none)
    (z_all : PySem.W.nsIn K mainGlobals "all" = some none)
    (z_tuple : PySem.W.nsIn K mainGlobals "tuple" = some none)
    (z_list : PySem.W.nsIn K mainGlobals "list" = some none)
    (z_bool : PySem.W.nsIn K mainGlobals "bool" = some none)
    (z_str : PySem.W.nsIn K mainGlobals "str" = some none)
    (z_ValueError : PySem.W.nsIn K mainGlobals "ValueError" = some none) :
    ∃ fd : FuncData, (∀ (s : Shared) (v : Value), BindsTo s fd ⟨[v], []⟩ [("_law_script", v)]) ∧ ∀ base : Heap, K.In base → base.Ns mainGlobals mg → FnOk l.prog w K mg base CX0 10 fa fd ["_law_script"] (spLaw K) := by
  have e := hfa.symm.trans (PySem.W.mg_of X G a_law)
  cases e

  have F_Line_len := fun_mk (st := s_Line_len) l_Line_len c_Line_len k_Line_len
  have b_Line_len := F_Line_len.binds (ps := ["self"]) fun _ _ _ _ _ _ us hl => match us, hl with | [_], _ => rfl
  have F_Line_contains := fun_mk (st := s_Line_contains) l_Line_contains c_Line_contains k_Line_contains
  have b_Line_contains := F_Line_contains.binds (ps := ["self", "tag"]) fun _ _ _ _ _ _ us hl => match us, hl with | [_, _], _ => rfl
  have F_Line_need := fun_mk (st := s_Line_need) l_Line_need c_Line_need k_Line_need
  have b_Line_need := F_Line_need.binds (ps := ["self", "word", "owed"]) fun _ _ _ _ _ _ us hl => match us, hl with | [_, _, _], _ => rfl
  have F_Line_begin := fun_mk (st := s_Line_begin) l_Line_begin c_Line_begin k_Line_begin
  have b_Line_begin := F_Line_begin.binds (ps := ["self", "tag"]) fun _ _ _ _ _ _ us hl => match us, hl with | [_, _], _ => rfl
  have F_Line_finish := fun_mk (st := s_Line_finish) l_Line_finish c_Line_finish k_Line_finish
  have b_Line_finish := F_Line_finish.binds (ps := ["self"]) fun _ _ _ _ _ _ us hl => match us, hl with | [_], _ => rfl
  have F_Line_read := fun_mk (st := s_Line_read) l_Line_read c_Line_read k_Line_read
  have b_Line_read := F_Line_read.binds (ps := ["self"]) fun _ _ _ _ _ _ us hl => match us, hl with | [_], _ => rfl
  have F_Line_head := fun_mk (st := s_Line_head) l_Line_head c_Line_head k_Line_head
  have b_Line_head := F_Line_head.binds (ps := ["self"]) fun _ _ _ _ _ _ us hl => match us, hl with | [_], _ => rfl
  have F_Line_body := fun_mk (st := s_Line_body) l_Line_body c_Line_body k_Line_body
  have b_Line_body := F_Line_body.binds (ps := ["self"]) fun _ _ _ _ _ _ us hl => match us, hl with | [_], _ => rfl
  have F_Line_drain := fun_mk (st := s_Line_drain) l_Line_drain c_Line_drain k_Line_drain
  have b_Line_drain := F_Line_drain.binds (ps := ["self"]) fun _ _ _ _ _ _ us hl => match us, hl with | [_], _ => rfl
  have F_Line_tags := fun_mk (st := s_Line_tags) l_Line_tags c_Line_tags k_Line_tags
  have b_Line_tags := F_Line_tags.binds (ps := ["self"]) fun _ _ _ _ _ _ us hl => match us, hl with | [_], _ => rfl
  have F_Line_answers := fun_mk (st := s_Line_answers) l_Line_answers c_Line_answers k_Line_answers
  have b_Line_answers := F_Line_answers.binds (ps := ["self"]) fun _ _ _ _ _ _ us hl => match us, hl with | [_], _ => rfl
  have F_Line_ask := fun_mk (st := s_Line_ask) l_Line_ask c_Line_ask k_Line_ask
  have F_Line_mark := fun_mk (st := s_Line_mark) l_Line_mark c_Line_mark k_Line_mark
  have b_Line_mark := F_Line_mark.binds (ps := ["self"]) fun _ _ _ _ _ _ us hl => match us, hl with | [_], _ => rfl
  have F_Line_is_open := fun_mk (st := s_Line_is_open) l_Line_is_open c_Line_is_open k_Line_is_open
  have b_Line_is_open := F_Line_is_open.binds (ps := ["self"]) fun _ _ _ _ _ _ us hl => match us, hl with | [_], _ => rfl
  have F_Line_is_clean := fun_mk (st := s_Line_is_clean) l_Line_is_clean c_Line_is_clean k_Line_is_clean
  have b_Line_is_clean := F_Line_is_clean.binds (ps := ["self"]) fun _ _ _ _ _ _ us hl => match us, hl with | [_], _ => rfl
  have F_Line_owed := fun_mk (st := s_Line_owed) l_Line_owed c_Line_owed k_Line_owed
  have b_Line_owed := F_Line_owed.binds (ps := ["self"]) fun _ _ _ _ _ _ us hl => match us, hl with | [_], _ => rfl
  have F_is_out := fun_mk (st := s_is_out) l_is_out c_is_out k_is_out
  have b_is_out := F_is_out.binds (ps := ["mark"]) fun _ _ _ _ _ _ us hl => match us, hl with | [_], _ => rfl
  have F_is_in := fun_mk (st := s_is_in) l_is_in c_is_in k_is_in
  have b_is_in := F_is_in.binds (ps := ["mark"]) fun _ _ _ _ _ _ us hl => match us, hl with | [_], _ => rfl
  have F_mark_of := fun_mk (st := s_mark_of) l_mark_of c_mark_of k_mark_of
  have b_mark_of := F_mark_of.binds (ps := ["sending", "reading"]) fun _ _ _ _ _ _ us hl => match us, hl with | [_, _], _ => rfl
  have F_is_amid := fun_mk (st := s_is_amid) l_is_amid c_is_amid k_is_amid
  have b_is_amid := F_is_amid.binds (ps := ["word", "mark"]) fun _ _ _ _ _ _ us hl => match us, hl with | [_, _], _ => rfl
  have F_row_fault := fun_mk (st := s_row_fault) l_row_fault c_row_fault k_row_fault
  have b_row_fault := F_row_fault.binds (ps := ["word", "mark", "owed"]) fun _ _ _ _ _ _ us hl => match us, hl with | [_, _, _], _ => rfl
  have F_mark_after := fun_mk (st := s_mark_after) l_mark_after c_mark_after k_mark_after
  have b_mark_after := F_mark_after.binds (ps := ["word", "mark"]) fun _ _ _ _ _ _ us hl => match us, hl with | [_, _], _ => rfl
  have F_source := fun_mk (st := s_source) l_source c_source k_source
  have b_source := F_source.binds (ps := ["_law_script", "_law_place"]) fun _ _ _ _ _ _ us hl => match us, hl with | [_, _], _ => rfl
  have F_draw := fun_mk (st := s_draw) l_draw c_draw k_draw
  have b_draw := F_draw.binds (ps := ["_law_source_here", "_law_many"]) fun _ _ _ _ _ _ us hl => match us, hl with | [_, _], _ => rfl
  have F_same := fun_mk (st := s_same) l_same c_same k_same
  have b_same := F_same.binds (ps := ["_law_actual", "_law_due"]) fun _ _ _ _ _ _ us hl => match us, hl with | [_, _], _ => rfl
  have F_some := fun_mk (st := s_some) l_some c_some k_some
  have b_some := F_some.binds (ps := ["_law_line", "_law_most"]) fun _ _ _ _ _ _ us hl => match us, hl with | [_, _], _ => rfl
  have F_refused := fun_mk (st := s_refused) l_refused c_refused k_refused
  have b_refused := F_refused.binds (ps := ["_law_line"]) fun _ _ _ _ _ _ us hl => match us, hl with | [_], _ => rfl
  have F_holds := fun_mk (st := s_holds) l_holds c_holds k_holds
  have b_holds := F_holds.binds (ps := ["_law_source_here"]) fun _ _ _ _ _ _ us hl => match us, hl with | [_], _ => rfl
  have F_law := fun_mk (st := s_law) l_law c_law k_law
  have b_law := F_law.binds (ps := ["_law_script"]) fun _ _ _ _ _ _ us hl => match us, hl with | [_], _ => rfl
  simp only [List.all_cons, List.all_nil, Bool.and_eq_true, Bool.and_true, beq_iff_eq] at chk
  obtain ⟨⟨v0, ha0, hm0, kV0, eO0, ns0⟩, ⟨v1, ha1, hm1, kV1, eO1, ns1⟩, ⟨v2, ha2, hm2, kV2, eO2, ns2⟩⟩ := chk
  have kit' : ∀ i j, i < 3 → j < 3 → PySem.W.kitOne K (.ref ([c_Cl, c_Am, c_St].getD i cO)) (.ref ([c_Cl, c_Am, c_St].getD j cO)) = some (decide (i = j)) ∧ PySem.W.exmOne K (.ref ([c_Cl, c_Am, c_St].getD i cO)) (.ref ([c_Cl, c_Am, c_St].getD j cO)) = some (decide (i = j)) := fun i j hi hj => by
    have a := List.all_eq_true.mp kit i (List.mem_range.mpr hi)
    have b := List.all_eq_true.mp a j (List.mem_range.mpr hj)
    rw [Bool.and_eq_true] at b
    exact ⟨beq_iff_eq.mp b.1, beq_iff_eq.mp b.2⟩
  have f3 : ∀ {p : Str → Prop}, p "closed" → p "amid" → p "starved" → ∀ u ∈ F3, p u := fun {p} h1 h2 h3 u hu => by
    unfold F3 at hu
    simp only [List.mem_cons, List.not_mem_nil, or_false] at hu
    rcases hu with rfl | rfl | rfl
    · exact h1
    · exact h2
    · exact h3
  have ex : ∀ {a : Ad}, a.cCl = c_Cl → a.cAm = c_Am → a.cSt = c_St → cX a "closed" = c_Cl ∧ cX a "amid" = c_Am ∧ cX a "starved" = c_St := fun {a} h1 h2 h3 =>
    ⟨(if_pos rfl).trans h1, ((if_neg (by decide)).trans (if_pos rfl)).trans h2, ((if_neg (by decide)).trans (if_neg (by decide))).trans h3⟩
  let A9 : Ad := ⟨c_Am, i_Am, c_Cl, i_Cl, c_St, i_St, cO, cLi, aW, p_mark, p_open, p_clean, p_owed, f_is_out, PySem.W.fnOf "is_out" "is_out" (defArgs s_is_out) (defBody s_is_out) (defScope s_is_out) .none kV_is_out dc_is_out pm_is_out an_is_out cd_is_out ct_is_out, f_is_in, PySem.W.fnOf "is_in" "is_in" (defArgs s_is_in) (defBody s_is_in) (defScope s_is_in) .none kV_is_in dc_is_in pm_is_in an_is_in cd_is_in ct_is_in, f_mark_of, PySem.W.fnOf "mark_of" "mark_of" (defArgs s_mark_of) (defBody s_mark_of) (defScope s_mark_of) .none kV_mark_of dc_mark_of pm_mark_of an_mark_of cd_mark_of ct_mark_of, f_is_amid, PySem.W.fnOf "is_amid" "is_amid" (defArgs s_is_amid) (defBody s_is_amid) (defScope s_is_amid) .none kV_is_amid dc_is_amid pm_is_amid an_is_amid cd_is_amid ct_is_amid, f_row_fault, PySem.W.fnOf "row_fault" "row_fault" (defArgs s_row_fault) (defBody s_row_fault) (defScope s_row_fault) .none kV_row_fault dc_row_fault pm_row_fault an_row_fault cd_row_fault ct_row_fault, f_mark_after, PySem.W.fnOf "mark_after" "mark_after" (defArgs s_mark_after) (defBody s_mark_after) (defScope s_mark_after) .none kV_mark_after dc_mark_after pm_mark_after an_mark_after cd_mark_after ct_mark_after, f_Line_init, PySem.W.fnOf "__init__" "Line.__init__" (defArgs s_Line_init) (defBody s_Line_init) (defScope s_Line_init) (.ref D_Line_init) .none dc_Line_init pm_Line_init an_Line_init cd_Line_init ct_Line_init, f_Line_len, PySem.W.fnOf "__len__" "Line.__len__" (defArgs s_Line_len) (defBody s_Line_len) (defScope s_Line_len) .none kV_Line_len dc_Line_len pm_Line_len an_Line_len cd_Line_len ct_Line_len, f_Line_contains, PySem.W.fnOf "__contains__" "Line.__contains__" (defArgs s_Line_contains) (defBody s_Line_contains) (defScope s_Line_contains) .none kV_Line_contains dc_Line_contains pm_Line_contains an_Line_contains cd_Line_contains ct_Line_contains, f_Line_mark, PySem.W.fnOf "mark" "Line.mark" (defArgs s_Line_mark) (defBody s_Line_mark) (defScope s_Line_mark) .none kV_Line_mark dc_Line_mark pm_Line_mark an_Line_mark cd_Line_mark ct_Line_mark, f_Line_is_open, PySem.W.fnOf "is_open" "Line.is_open" (defArgs s_Line_is_open) (defBody s_Line_is_open) (defScope s_Line_is_open) .none kV_Line_is_open dc_Line_is_open pm_Line_is_open an_Line_is_open cd_Line_is_open ct_Line_is_open, f_Line_is_clean, PySem.W.fnOf "is_clean" "Line.is_clean" (defArgs s_Line_is_clean) (defBody s_Line_is_clean) (defScope s_Line_is_clean) .none kV_Line_is_clean dc_Line_is_clean pm_Line_is_clean an_Line_is_clean cd_Line_is_clean ct_Line_is_clean, f_Line_owed, PySem.W.fnOf "owed" "Line.owed" (defArgs s_Line_owed) (defBody s_Line_owed) (defScope s_Line_owed) .none kV_Line_owed dc_Line_owed pm_Line_owed an_Line_owed cd_Line_owed ct_Line_owed, f_Line_need, PySem.W.fnOf "need" "Line.need" (defArgs s_Line_need) (defBody s_Line_need) (defScope s_Line_need) .none kV_Line_need dc_Line_need pm_Line_need an_Line_need cd_Line_need ct_Line_need, f_Line_ask, PySem.W.fnOf "ask" "Line.ask" (defArgs s_Line_ask) (defBody s_Line_ask) (defScope s_Line_ask) .none kV_Line_ask dc_Line_ask pm_Line_ask an_Line_ask cd_Line_ask ct_Line_ask, f_Line_begin, PySem.W.fnOf "begin" "Line.begin" (defArgs s_Line_begin) (defBody s_Line_begin) (defScope s_Line_begin) .none kV_Line_begin dc_Line_begin pm_Line_begin an_Line_begin cd_Line_begin ct_Line_begin, f_Line_finish, PySem.W.fnOf "finish" "Line.finish" (defArgs s_Line_finish) (defBody s_Line_finish) (defScope s_Line_finish) .none kV_Line_finish dc_Line_finish pm_Line_finish an_Line_finish cd_Line_finish ct_Line_finish, f_Line_read, PySem.W.fnOf "read" "Line.read" (defArgs s_Line_read) (defBody s_Line_read) (defScope s_Line_read) .none kV_Line_read dc_Line_read pm_Line_read an_Line_read cd_Line_read ct_Line_read, f_Line_head, PySem.W.fnOf "head" "Line.head" (defArgs s_Line_head) (defBody s_Line_head) (defScope s_Line_head) .none kV_Line_head dc_Line_head pm_Line_head an_Line_head cd_Line_head ct_Line_head, f_Line_body, PySem.W.fnOf "body" "Line.body" (defArgs s_Line_body) (defBody s_Line_body) (defScope s_Line_body) .none kV_Line_body dc_Line_body pm_Line_body an_Line_body cd_Line_body ct_Line_body, f_Line_drain, PySem.W.fnOf "drain" "Line.drain" (defArgs s_Line_drain) (defBody s_Line_drain) (defScope s_Line_drain) .none kV_Line_drain dc_Line_drain pm_Line_drain an_Line_drain cd_Line_drain ct_Line_drain, f_Line_close, PySem.W.fnOf "close" "Line.close" (defArgs s_Line_close) (defBody s_Line_close) (defScope s_Line_close) (.ref D_Line_close) .none dc_Line_close pm_Line_close an_Line_close cd_Line_close ct_Line_close, f_Line_tags, PySem.W.fnOf "tags" "Line.tags" (defArgs s_Line_tags) (defBody s_Line_tags) (defScope s_Line_tags) .none kV_Line_tags dc_Line_tags pm_Line_tags an_Line_tags cd_Line_tags ct_Line_tags, f_Line_answers, PySem.W.fnOf "answers" "Line.answers" (defArgs s_Line_answers) (defBody s_Line_answers) (defScope s_Line_answers) .none kV_Line_answers dc_Line_answers pm_Line_answers an_Line_answers cd_Line_answers ct_Line_answers, f_source, PySem.W.fnOf "_law_source" "_law_source" (defArgs s_source) (defBody s_source) (defScope s_source) .none kV_source dc_source pm_source an_source cd_source ct_source, f_draw, PySem.W.fnOf "_law_draw" "_law_draw" (defArgs s_draw) (defBody s_draw) (defScope s_draw) .none kV_draw dc_draw pm_draw an_draw cd_draw ct_draw, f_same, PySem.W.fnOf "_law_same" "_law_same" (defArgs s_same) (defBody s_same) (defScope s_same) .none kV_same dc_same pm_same an_same cd_same ct_same, f_some, PySem.W.fnOf "_law_some" "_law_some" (defArgs s_some) (defBody s_some) (defScope s_some) .none kV_some dc_some pm_some an_some cd_some ct_some, f_refused, PySem.W.fnOf "_law_refused" "_law_refused" (defArgs s_refused) (defBody s_refused) (defScope s_refused) .none kV_refused dc_refused pm_refused an_refused cd_refused ct_refused, f_holds, PySem.W.fnOf "_law_holds" "_law_holds" (defArgs s_holds) (defBody s_holds) (defScope s_holds) .none kV_holds dc_holds pm_holds an_holds cd_holds ct_holds, fa, PySem.W.fnOf "law" "law" (defArgs s_law) (defBody s_law) (defScope s_law) .none kV_law dc_law pm_law an_law cd_law ct_law⟩
  have T : Txt l.prog K mg A9 := {
    x_Amid := x_Am
    x_Closed := x_Cl
    x_Starved := x_St
    mO := PySem.W.mg_of X G aO
    m_Line := PySem.W.mg_of X G aLi
    cl := ⟨pgLi, hdLi, poLi, saLi⟩
    nsq := nsLi
    Mk_Line := ⟨mkLi, a_Line_init, i_Line_init, kpLi⟩
    m_LW := PySem.W.mg_of X G mW
    q_LW := fun H => .inr ⟨_, itW, nW, lW, rfl, rfl, zW, vW⟩
    M_Line_close := ⟨a_Line_close, i_Line_close, k_Line_close⟩
    F_Line_ask := F_Line_ask
    M_Line_ask := ⟨a_Line_ask, i_Line_ask, k_Line_ask⟩
    n_number := n_number
    n_cause := n_cause
    n_state := n_state
    n_queue := n_queue
    n_sending := n_sending
    n_is_lent := n_is_lent
    F_Line_init := ⟨⟨oc_Line_init, od_Line_init, _, _, dc_Line_init, pm_Line_init, an_Line_init, cd_Line_init, ct_Line_init, sl_Line_init, rfl, l_Line_init, c_Line_init, .inr ⟨by simp, D_Line_init, _, [dv_Line_init], nD_Line_init, rfl, lD_Line_init, rfl, .cons rD_Line_init .nil⟩, .inl rfl⟩, k_Line_init⟩
    F_Line_close := ⟨⟨oc_Line_close, od_Line_close, _, _, dc_Line_close, pm_Line_close, an_Line_close, cd_Line_close, ct_Line_close, sl_Line_close, rfl, l_Line_close, c_Line_close, .inr ⟨by simp, D_Line_close, _, [dv_Line_close], nD_Line_close, rfl, lD_Line_close, rfl, .cons rD_Line_close .nil⟩, .inl rfl⟩, k_Line_close⟩
    F_Line_len := F_Line_len
    S_Line_len := ⟨a_Line_len, i_Line_len, n_Line_len⟩
    b_Line_len := b_Line_len
    F_Line_contains := F_Line_contains
    S_Line_contains := ⟨a_Line_contains, i_Line_contains, n_Line_contains⟩
    b_Line_contains := b_Line_contains
    F_Line_need := F_Line_need
    M_Line_need := ⟨a_Line_need, i_Line_need, k_Line_need⟩
    b_Line_need := b_Line_need
    F_Line_begin := F_Line_begin
    M_Line_begin := ⟨a_Line_begin, i_Line_begin, k_Line_begin⟩
    b_Line_begin := b_Line_begin
    F_Line_finish := F_Line_finish
    M_Line_finish := ⟨a_Line_finish, i_Line_finish, k_Line_finish⟩
    b_Line_finish := b_Line_finish
    F_Line_read := F_Line_read
    M_Line_read := ⟨a_Line_read, i_Line_read, k_Line_read⟩
    b_Line_read := b_Line_read
    F_Line_head := F_Line_head
    M_Line_head := ⟨a_Line_head, i_Line_head, k_Line_head⟩
    b_Line_head := b_Line_head
    F_Line_body := F_Line_body
    M_Line_body := ⟨a_Line_body, i_Line_body, k_Line_body⟩
    b_Line_body := b_Line_body
    F_Line_drain := F_Line_drain
    M_Line_drain := ⟨a_Line_drain, i_Line_drain, k_Line_drain⟩
    b_Line_drain := b_Line_drain
    F_Line_tags := F_Line_tags
    M_Line_tags := ⟨a_Line_tags, i_Line_tags, k_Line_tags⟩
    b_Line_tags := b_Line_tags
    F_Line_answers := F_Line_answers
    M_Line_answers := ⟨a_Line_answers, i_Line_answers, k_Line_answers⟩
    b_Line_answers := b_Line_answers
    P_mark := ⟨pa_mark, pg_mark, pt_mark, _, pr_mark⟩
    F_Line_mark := F_Line_mark
    b_Line_mark := b_Line_mark
    P_open := ⟨pa_open, pg_open, pt_open, _, pr_open⟩
    F_Line_is_open := F_Line_is_open
    b_Line_is_open := b_Line_is_open
    P_clean := ⟨pa_clean, pg_clean, pt_clean, _, pr_clean⟩
    F_Line_is_clean := F_Line_is_clean
    b_Line_is_clean := b_Line_is_clean
    P_owed := ⟨pa_owed, pg_owed, pt_owed, _, pr_owed⟩
    F_Line_owed := F_Line_owed
    b_Line_owed := b_Line_owed
    F_is_out := F_is_out
    m_is_out := PySem.W.mg_of X G a_is_out
    b_is_out := b_is_out
    F_is_in := F_is_in
    m_is_in := PySem.W.mg_of X G a_is_in
    b_is_in := b_is_in
    F_mark_of := F_mark_of
    m_mark_of := PySem.W.mg_of X G a_mark_of
    b_mark_of := b_mark_of
    F_is_amid := F_is_amid
    m_is_amid := PySem.W.mg_of X G a_is_amid
    b_is_amid := b_is_amid
    F_row_fault := F_row_fault
    m_row_fault := PySem.W.mg_of X G a_row_fault
    b_row_fault := b_row_fault
    F_mark_after := F_mark_after
    m_mark_after := PySem.W.mg_of X G a_mark_after
    b_mark_after := b_mark_after
    exO := by
      obtain ⟨q1, q2, q3⟩ := (ex (a := A9) rfl rfl rfl)
      exact f3 (p := fun u => PySem.W.exmOne K (.ref (cX A9 u)) (.ref cO) = some true) (by rw [q1]; exact eO0) (by rw [q2]; exact eO1) (by rw [q3]; exact eO2)
    kiV := by
      obtain ⟨q1, q2, q3⟩ := (ex (a := A9) rfl rfl rfl)
      exact f3 (p := fun u => PySem.W.kitOne K (.ref (cX A9 u)) (.type "ValueError") = some true) (by rw [q1]; exact kV0) (by rw [q2]; exact kV1) (by rw [q3]; exact kV2)
    nsX := by
      obtain ⟨q1, q2, q3⟩ := (ex (a := A9) rfl rfl rfl)
      exact f3 (p := fun u => PySem.W.subIn K (.ref (cX A9 u)) (.type "StopIteration") = some false) (by rw [q1]; exact ns0) (by rw [q2]; exact ns1) (by rw [q3]; exact ns2)
    isX := by
      obtain ⟨q1, q2, q3⟩ := (ex (a := A9) rfl rfl rfl)
      exact f3 (p := fun u => ExIs K (cX A9 u)) (by rw [q1]; exact ⟨x_Cl.rd, v0, ha0, hn, ht, hm0⟩) (by rw [q2]; exact ⟨x_Am.rd, v1, ha1, hn, ht, hm1⟩) (by rw [q3]; exact ⟨x_St.rd, v2, ha2, hn, ht, hm2⟩)
    kiX := by
      obtain ⟨q1, q2, q3⟩ := (ex (a := A9) rfl rfl rfl)
      refine f3 (p := fun u => ∀ v ∈ F3, PySem.W.kitOne K (.ref (cX A9 u)) (.ref (cX A9 v)) = some (decide (u = v))) ?_ ?_ ?_
      · exact f3 (by rw [q1]; exact (kit' 0 0 (by decide) (by decide)).1) (by rw [q1, q2]; exact (kit' 0 1 (by decide) (by decide)).1) (by rw [q1, q3]; exact (kit' 0 2 (by decide) (by decide)).1)
      · exact f3 (by rw [q1, q2]; exact (kit' 1 0 (by decide) (by decide)).1) (by rw [q2]; exact (kit' 1 1 (by decide) (by decide)).1) (by rw [q2, q3]; exact (kit' 1 2 (by decide) (by decide)).1)
      · exact f3 (by rw [q1, q3]; exact (kit' 2 0 (by decide) (by decide)).1) (by rw [q2, q3]; exact (kit' 2 1 (by decide) (by decide)).1) (by rw [q3]; exact (kit' 2 2 (by decide) (by decide)).1)
    exX := by
      obtain ⟨q1, q2, q3⟩ := (ex (a := A9) rfl rfl rfl)
      refine f3 (p := fun u => ∀ v ∈ F3, PySem.W.exmOne K (.ref (cX A9 u)) (.ref (cX A9 v)) = some (decide (u = v))) ?_ ?_ ?_
      · exact f3 (by rw [q1]; exact (kit' 0 0 (by decide) (by decide)).2) (by rw [q1, q2]; exact (kit' 0 1 (by decide) (by decide)).2) (by rw [q1, q3]; exact (kit' 0 2 (by decide) (by decide)).2)
      · exact f3 (by rw [q1, q2]; exact (kit' 1 0 (by decide) (by decide)).2) (by rw [q2]; exact (kit' 1 1 (by decide) (by decide)).2) (by rw [q2, q3]; exact (kit' 1 2 (by decide) (by decide)).2)
      · exact f3 (by rw [q1, q3]; exact (kit' 2 0 (by decide) (by decide)).2) (by rw [q2, q3]; exact (kit' 2 1 (by decide) (by decide)).2) (by rw [q3]; exact (kit' 2 2 (by decide) (by decide)).2)
    F_source := F_source
    m_source := PySem.W.mg_of X G a_source
    b_source := b_source
    F_draw := F_draw
    m_draw := PySem.W.mg_of X G a_draw
    b_draw := b_draw
    F_same := F_same
    m_same := PySem.W.mg_of X G a_same
    b_same := b_same
    F_some := F_some
    m_some := PySem.W.mg_of X G a_some
    b_some := b_some
    F_refused := F_refused
    m_refused := PySem.W.mg_of X G a_refused
    b_refused := b_refused
    F_holds := F_holds
    m_holds := PySem.W.mg_of X G a_holds
    b_holds := b_holds
    F_law := F_law
    m_law := PySem.W.mg_of X G a_law
    b_law := b_law
    z_len := PySem.W.mg_none_of X G z_len
    z_abs := PySem.W.mg_none_of X G z_abs
    z_int := PySem.W.mg_none_of X G z_int
    z_range := PySem.W.mg_none_of X G z_range
    z_min := PySem.W.mg_none_of X G z_min
    z_max := PySem.W.mg_none_of X G z_max
    z_isinstance := PySem.W.mg_none_of X G z_isinstance
    z_zip := PySem.W.mg_none_of X G z_zip
    z_all := PySem.W.mg_none_of X G z_all
    z_tuple := PySem.W.mg_none_of X G z_tuple
    z_list := PySem.W.mg_none_of X G z_list
    z_bool := PySem.W.mg_none_of X G z_bool
    z_str := PySem.W.mg_none_of X G z_str
    z_ValueError := PySem.W.mg_none_of X G z_ValueError
  }
  exact ⟨PySem.W.fnOf "law" "law" (defArgs s_law) (defBody s_law) (defScope s_law) .none kV_law dc_law pm_law an_law cd_law ct_law, fun s v => .of_eq rfl, fun base _ _ => ok_law T⟩
theorem walk {l : PySem.W.OpenLaw} {q : Program} {loose : List Str} {XP : (Str → Option Value) → Heap → Prop} {YP : World → Heap → Prop} {d : DefRec} {K : Params → PySem.W.Frag} (hn : l.most = some 63) (hdf : d.params.defaults = [])
    (hY : ∀ (w : World) (h : Heap), YP w h → (K w.params).In h)
    (F : ∀ (w : World) (mg : Str → Option Value) (fa : Addr) (h : Heap), (K w.params).In h → h.Ns mainGlobals mg → mg d.name = some (.ref fa) →
      ∃ fd : FuncData, (∀ (s : Shared) (u : Value), BindsTo s fd ⟨[u], []⟩ [("_law_script", u)]) ∧ ∀ base : Heap, (K w.params).In base → base.Ns mainGlobals mg → FnOk l.prog w (K w.params) mg base CX0 10 fa fd ["_law_script"] (spLaw (K w.params))) :
    PySem.W.WalkO q loose XP YP l.row.toRowW d [] (fun f vs => PySem.call f vs) :=
  L2.walk_of (n := 63) (k := 10) (x := "_law_script") (CX := fun _ => CX0) (sp := fun w => spLaw (K w.params)) hn (by decide) hdf ⟨rfl, by decide, by decide⟩ hY F (fun _ _ a ns hl _ hS => ⟨a, ns, rfl, hS, hl, fun _ => rfl⟩) fun _ _ _ _ _ z => z
end K33
end
set_option Elab.async false
set_option autoImplicit false
set_option linter.all false
set_option maxRecDepth 100000
open PySem PySem.W PyProof.Rows PySem.OxE
set_option maxRecDepth 100000 in
set_option maxHeartbeats 0 in
theorem PySem.Challenge.cw_owedanswers_k33_answers_one_by_one_holds : PySem.Challenge.rw_owedanswers_k33_answers_one_by_one.Holds := by
  w_on; o_law; k_head; (case hw => w_witness2)
  k_fill
  refine K33.walk (l := PySem.Challenge.rw_owedanswers_k33_answers_one_by_one) rfl rfl (fun w h Y => PySem.W.kIn_of Y) ?F
  case F =>
    intro w mg fa h KX G hmg
    refine' K33.all_mk KX G hmg ?x_Am ?x_Cl ?x_St ?aO ?aLi ?pgLi ?hdLi ?poLi ?saLi ?nsLi ?mkLi ?kpLi ?n_number ?n_cause ?n_state ?n_queue ?n_sending ?n_is_lent ?a_Line_init ?i_Line_init ?l_Line_init ?c_Line_init ?k_Line_init ?lD_Line_init ?rD_Line_init ?a_Line_close ?i_Line_close ?l_Line_close ?c_Line_close ?k_Line_close ?lD_Line_close ?rD_Line_close ?a_Line_len ?i_Line_len ?l_Line_len ?c_Line_len ?k_Line_len ?n_Line_len ?a_Line_contains ?i_Line_contains ?l_Line_contains ?c_Line_contains ?k_Line_contains ?n_Line_contains ?a_Line_need ?i_Line_need ?l_Line_need ?c_Line_need ?k_Line_need ?a_Line_begin ?i_Line_begin ?l_Line_begin ?c_Line_begin ?k_Line_begin ?a_Line_finish ?i_Line_finish ?l_Line_finish ?c_Line_finish ?k_Line_finish ?a_Line_read ?i_Line_read ?l_Line_read ?c_Line_read ?k_Line_read ?a_Line_head ?i_Line_head ?l_Line_head ?c_Line_head ?k_Line_head ?a_Line_body ?i_Line_body ?l_Line_body ?c_Line_body ?k_Line_body ?a_Line_drain ?i_Line_drain ?l_Line_drain ?c_Line_drain ?k_Line_drain ?a_Line_tags ?i_Line_tags ?l_Line_tags ?c_Line_tags ?k_Line_tags ?a_Line_answers ?i_Line_answers ?l_Line_answers ?c_Line_answers ?k_Line_answers ?a_Line_ask ?i_Line_ask ?l_Line_ask ?c_Line_ask ?k_Line_ask ?pa_mark ?pg_mark ?pt_mark ?pr_mark ?l_Line_mark ?c_Line_mark ?k_Line_mark ?pa_open ?pg_open ?pt_open ?pr_open ?l_Line_is_open ?c_Line_is_open ?k_Line_is_open ?pa_clean ?pg_clean ?pt_clean ?pr_clean ?l_Line_is_clean ?c_Line_is_clean ?k_Line_is_clean ?pa_owed ?pg_owed ?pt_owed ?pr_owed ?l_Line_owed ?c_Line_owed ?k_Line_owed ?a_is_out ?l_is_out ?c_is_out ?k_is_out ?a_is_in ?l_is_in ?c_is_in ?k_is_in ?a_mark_of ?l_mark_of ?c_mark_of ?k_mark_of ?a_is_amid ?l_is_amid ?c_is_amid ?k_is_amid ?a_row_fault ?l_row_fault ?c_row_fault ?k_row_fault ?a_mark_after ?l_mark_after ?c_mark_after ?k_mark_after ?mW ?lW ?zW ?vW ?chk ?hn ?ht ?kit ?a_source ?l_source ?c_source ?k_source ?a_draw ?l_draw ?c_draw ?k_draw ?a_same ?l_same ?c_same ?k_same ?a_some ?l_some ?c_some ?k_some ?a_refused ?l_refused ?c_refused ?k_refused ?a_holds ?l_holds ?c_holds ?k_holds ?a_law ?l_law ?c_law ?k_law ?z_len ?z_abs ?z_int ?z_range ?z_min ?z_max ?z_isinstance ?z_zip ?z_all ?z_tuple ?z_list ?z_bool ?z_str ?z_ValueError
    (case x_Am => (refine' exTxt_mk (by assumption) (by assumption) ?nmd ?aC ?lC ?iC ?lF ?lD ?lc ?hvs ?hfile ?cF ?ln ?sig ?as ?rv ?al ?sa ?ga ?gg ?nn ?tC ?kC ?exC ?veC ?slC ?tyC ?hdC ?sup ?tp ?top; (case nmd => decide); (case aC => k_is); (case lC => k_is); (case iC => k_is); (case lF => k_is); (case lD => k_is); (case lc => k_is); (case hvs => rfl); (case hfile => rfl); (case cF => k_is); (case ln => rfl); (case sig => exact sig_half); (case as => exact (Asgs.cons _ _ _ _ .nil)); (case rv => rfl); (case al => kernel_rfl); (case sa => k_is); (case ga => k_is); (case gg => k_is); (case nn => kernel_rfl); (case tC => k_is); (case kC => k_is); (case exC => k_is); (case veC => k_is); (case slC => k_is); (case tyC => k_is); (case hdC => k_is); (case sup => k_is); (case tp => k_is); (case top => rfl)))
    (case x_Cl => (refine' exTxt_mk (by assumption) (by assumption) ?nmd ?aC ?lC ?iC ?lF ?lD ?lc ?hvs ?hfile ?cF ?ln ?sig ?as ?rv ?al ?sa ?ga ?gg ?nn ?tC ?kC ?exC ?veC ?slC ?tyC ?hdC ?sup ?tp ?top; (case nmd => decide); (case aC => k_is); (case lC => k_is); (case iC => k_is); (case lF => k_is); (case lD => k_is); (case lc => k_is); (case hvs => rfl); (case hfile => rfl); (case cF => k_is); (case ln => rfl); (case sig => exact sig_number); (case as => exact (Asgs.cons _ _ _ _ .nil)); (case rv => rfl); (case al => kernel_rfl); (case sa => k_is); (case ga => k_is); (case gg => k_is); (case nn => kernel_rfl); (case tC => k_is); (case kC => k_is); (case exC => k_is); (case veC => k_is); (case slC => k_is); (case tyC => k_is); (case hdC => k_is); (case sup => k_is); (case tp => k_is); (case top => rfl)))
    (case x_St => (refine' exTxt_mk (by assumption) (by assumption) ?nmd ?aC ?lC ?iC ?lF ?lD ?lc ?hvs ?hfile ?cF ?ln ?sig ?as ?rv ?al ?sa ?ga ?gg ?nn ?tC ?kC ?exC ?veC ?slC ?tyC ?hdC ?sup ?tp ?top; (case nmd => decide); (case aC => k_is); (case lC => k_is); (case iC => k_is); (case lF => k_is); (case lD => k_is); (case lc => k_is); (case hvs => rfl); (case hfile => rfl); (case cF => k_is); (case ln => rfl); (case sig => exact sig_number); (case as => exact (Asgs.cons _ _ _ _ .nil)); (case rv => rfl); (case al => kernel_rfl); (case sa => k_is); (case ga => k_is); (case gg => k_is); (case nn => kernel_rfl); (case tC => k_is); (case kC => k_is); (case exC => k_is); (case veC => k_is); (case slC => k_is); (case tyC => k_is); (case hdC => k_is); (case sup => k_is); (case tp => k_is); (case top => rfl)))
    (case aO => k_is)
    (case aLi => k_is)
    (case pgLi => k_is)
    (case hdLi => k_is)
    (case poLi => k_is)
    (case saLi => k_is)
    (case nsLi => k_is)
    (case mkLi => k_is)
    (case kpLi => k_is)
    (case n_number => k_is)
    (case n_cause => k_is)
    (case n_state => k_is)
    (case n_queue => k_is)
    (case n_sending => k_is)
    (case n_is_lent => k_is)
    (case a_Line_init => k_is)
    (case i_Line_init => k_is)
    (case l_Line_init => k_is)
    (case c_Line_init => k_is)
    (case k_Line_init => k_is)
    (case lD_Line_init => k_is)
    (case rD_Line_init => exact ⟨_, rfl⟩)
    (case a_Line_close => k_is)
    (case i_Line_close => k_is)
    (case l_Line_close => k_is)
    (case c_Line_close => k_is)
    (case k_Line_close => k_is)
    (case lD_Line_close => k_is)
    (case rD_Line_close => rfl)
    (case a_Line_len => k_is)
    (case i_Line_len => k_is)
    (case l_Line_len => k_is)
    (case c_Line_len => k_is)
    (case k_Line_len => k_is)
    (case n_Line_len => k_is)
    (case a_Line_contains => k_is)
    (case i_Line_contains => k_is)
    (case l_Line_contains => k_is)
    (case c_Line_contains => k_is)
    (case k_Line_contains => k_is)
    (case n_Line_contains => k_is)
    (case a_Line_need => k_is)
    (case i_Line_need => k_is)
    (case l_Line_need => k_is)
    (case c_Line_need => k_is)
    (case k_Line_need => k_is)
    (case a_Line_begin => k_is)
    (case i_Line_begin => k_is)
    (case l_Line_begin => k_is)
    (case c_Line_begin => k_is)
    (case k_Line_begin => k_is)
    (case a_Line_finish => k_is)
    (case i_Line_finish => k_is)
    (case l_Line_finish => k_is)
    (case c_Line_finish => k_is)
    (case k_Line_finish => k_is)
    (case a_Line_read => k_is)
    (case i_Line_read => k_is)
    (case l_Line_read => k_is)
    (case c_Line_read => k_is)
    (case k_Line_read => k_is)
    (case a_Line_head => k_is)
    (case i_Line_head => k_is)
    (case l_Line_head => k_is)
    (case c_Line_head => k_is)
    (case k_Line_head => k_is)
    (case a_Line_body => k_is)
    (case i_Line_body => k_is)
    (case l_Line_body => k_is)
    (case c_Line_body => k_is)
    (case k_Line_body => k_is)
    (case a_Line_drain => k_is)
    (case i_Line_drain => k_is)
    (case l_Line_drain => k_is)
    (case c_Line_drain => k_is)
    (case k_Line_drain => k_is)
    (case a_Line_tags => k_is)
    (case i_Line_tags => k_is)
    (case l_Line_tags => k_is)
    (case c_Line_tags => k_is)
    (case k_Line_tags => k_is)
    (case a_Line_answers => k_is)
    (case i_Line_answers => k_is)
    (case l_Line_answers => k_is)
    (case c_Line_answers => k_is)
    (case k_Line_answers => k_is)
    (case a_Line_ask => k_is)
    (case i_Line_ask => k_is)
    (case l_Line_ask => k_is)
    (case c_Line_ask => k_is)
    (case k_Line_ask => k_is)
    (case pa_mark => k_is)
    (case pg_mark => k_is)
    (case pt_mark => k_is)
    (case pr_mark => k_is)
    (case l_Line_mark => k_is)
    (case c_Line_mark => k_is)
    (case k_Line_mark => k_is)
    (case pa_open => k_is)
    (case pg_open => k_is)
    (case pt_open => k_is)
    (case pr_open => k_is)
    (case l_Line_is_open => k_is)
    (case c_Line_is_open => k_is)
    (case k_Line_is_open => k_is)
    (case pa_clean => k_is)
    (case pg_clean => k_is)
    (case pt_clean => k_is)
    (case pr_clean => k_is)
    (case l_Line_is_clean => k_is)
    (case c_Line_is_clean => k_is)
    (case k_Line_is_clean => k_is)
    (case pa_owed => k_is)
    (case pg_owed => k_is)
    (case pt_owed => k_is)
    (case pr_owed => k_is)
    (case l_Line_owed => k_is)
    (case c_Line_owed => k_is)
    (case k_Line_owed => k_is)
    (case a_is_out => k_is)
    (case l_is_out => k_is)
    (case c_is_out => k_is)
    (case k_is_out => k_is)
    (case a_is_in => k_is)
    (case l_is_in => k_is)
    (case c_is_in => k_is)
    (case k_is_in => k_is)
    (case a_mark_of => k_is)
    (case l_mark_of => k_is)
    (case c_mark_of => k_is)
    (case k_mark_of => k_is)
    (case a_is_amid => k_is)
    (case l_is_amid => k_is)
    (case c_is_amid => k_is)
    (case k_is_amid => k_is)
    (case a_row_fault => k_is)
    (case l_row_fault => k_is)
    (case c_row_fault => k_is)
    (case k_row_fault => k_is)
    (case a_mark_after => k_is)
    (case l_mark_after => k_is)
    (case c_mark_after => k_is)
    (case k_mark_after => k_is)
    (case mW => k_is)
    (case lW => k_is)
    (case zW => decide)
    (case vW => exact .cons ⟨_, rfl⟩ (.cons ⟨_, rfl⟩ (.cons ⟨_, rfl⟩ (.cons ⟨_, rfl⟩ (.cons ⟨_, rfl⟩ (.cons ⟨_, rfl⟩ (.nil)))))))
    (case chk => kernel_rfl)
    (case hn => k_is)
    (case ht => k_is)
    (case kit => kernel_rfl)
    (case a_source => k_is)
    (case l_source => k_is)
    (case c_source => k_is)
    (case k_source => k_is)
    (case a_draw => k_is)
    (case l_draw => k_is)
    (case c_draw => k_is)
    (case k_draw => k_is)
    (case a_same => k_is)
    (case l_same => k_is)
    (case c_same => k_is)
    (case k_same => k_is)
    (case a_some => k_is)
    (case l_some => k_is)
    (case c_some => k_is)
    (case k_some => k_is)
    (case a_refused => k_is)
    (case l_refused => k_is)
    (case c_refused => k_is)
    (case k_refused => k_is)
    (case a_holds => k_is)
    (case l_holds => k_is)
    (case c_holds => k_is)
    (case k_holds => k_is)
    (case a_law => k_is)
    (case l_law => k_is)
    (case c_law => k_is)
    (case k_law => k_is)
    (case z_len => k_is)
    (case z_abs => k_is)
    (case z_int => k_is)
    (case z_range => k_is)
    (case z_min => k_is)
    (case z_max => k_is)
    (case z_isinstance => k_is)
    (case z_zip => k_is)
    (case z_all => k_is)
    (case z_tuple => k_is)
    (case z_list => k_is)
    (case z_bool => k_is)
    (case z_str => k_is)
    (case z_ValueError => k_is)

