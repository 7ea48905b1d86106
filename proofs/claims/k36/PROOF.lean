import PyProof.Rows.All
import Wide.All
import OpenK.AllK
import Wide.FinOn
import KE.KExcSuper
import HandS.ForMost
import HandS.Exc
import HandS.ExcInit
import KE.KExcIs
import HandS.Wide
import HandS.ExcValue
import HandS.Evl
import PyProof.P3Eq
import HandS.OwnEq
import HandS.ExcOwn
import KE.KOpsOwn
import HandS.TryMany
import HandS.IsInst
import HandS.Walk
import HandS.Zip
import HandS.MakeKwOnly
import HandS.WordsExc
import HandS.ClsMeth
import PySem.Challenge.RW_owedanswers_k36_doors_and_ways
section
set_option Elab.async false
set_option autoImplicit false
set_option linter.all false
set_option maxRecDepth 100000
set_option maxHeartbeats 4000000
namespace PySem
namespace OxE
open PySem.W PySem.Calls PyProof.Rows PySem.HandSPX
/-! an error class of the program: `def __init__(self, f, ..): super().__init__(text); self.f = f; ..` -/
def oxSup (txt : Str) (q0 q1 q2 q3 q4 q5 : Pos) : Stmt := .Expr (.Call (.Attribute (.Call (.Name "super" q0) [] [] q1) "__init__" q2) [.Constant (.str txt) 0 q3] [] q4) q5
inductive Asgs : List Str → List Stmt → Prop
  | nil : Asgs [] []
  | cons {f : Str} {fs : List Str} {ss : List Stmt} (r1 r2 r3 r4 : Pos) : Asgs fs ss → Asgs (f :: fs) (.Assign [.Attribute (.Name "self" r1) f r2] (.Name f r3) r4 :: ss)
/-- the arguments and the scope of such an __init__ with the fields fs -/
structure OxSig (fs : List Str) (params : Arguments) (sc : Scope) : Prop where
  kind : sc.kind = .function
  co : sc.isCoroutine = false
  gen : sc.isGenerator = false
  ncell : ∀ y ∈ sc.names, y.2 ≠ .cell
  hd : (params.posonlyargs ++ params.args).head?.map (·.arg) = some ("self" : Str)
  lself : sc.names.lookup ("self" : Str) = some NameKind.local
  lf : ∀ f ∈ fs, sc.names.lookup f = some NameKind.local
  lsup : sc.names.lookup ("super" : Str) = some NameKind.globalImplicit
  lcls : sc.names.lookup ("__class__" : Str) = some NameKind.free
  nself : ∀ f ∈ fs, f ≠ "self"
  ndbg : ∀ f ∈ fs, (f == ("__debug__" : Str)) = false
  nd : fs.Nodup
  few : 0 < fs.length ∧ fs.length ≤ 20
  bnd : ∀ (q : Str) (body : List Stmt) (doc pm cdv ct : Value) (an : Option Addr) (cc : Addr) (a : Value) (vs : List Value), vs.length = fs.length → bindArgs (ksFn "__init__" q params body sc .none .none doc pm an cdv ct cc) ⟨a :: vs, []⟩ = (pure ((("self" : Str), a) :: fs.zip vs) : Sem (List (Str × Value)))
  bndK : ∀ (q : Str) (body : List Stmt) (doc pm cdv ct : Value) (an : Option Addr) (cc : Addr) (a : Value) (vs : List Value), vs.length = fs.length → bindArgs (ksFn "__init__" q params body sc .none .none doc pm an cdv ct cc) ⟨[a], fs.zip vs⟩ = (pure ((("self" : Str), a) :: fs.zip vs) : Sem (List (Str × Value)))
  sw : ∀ (q txt : Str) (q0 q1 q2 q3 q4 : Pos) (L fI cc : Addr) (cd : Value) (n : Nat), swapsWith (.Call (.Attribute (.Call (.Name "super" q0) [] [] q1) "__init__" q2) [.Constant (.str txt) 0 q3] [] q4) none n (ksEnv q sc L fI cd cc) = pure false
/-- o.name(text), the call on the line of its name -/
theorem ev_meth (o : Expr) (name txt : Str) (apos p3 pos : Pos) (env : Env) (hl : (apos.endLine == pos.line) = true) : eval (.Call (.Attribute o name apos) [.Constant (.str txt) 0 p3] [] pos) env = (do
      let ov ← attributeBase o name env (eval o env)
      standAt apos.atName
      let (g, first) ← holding [ov] (getMethod ov name (do return (← importBound o env).getD true))
      callWith pos g first (backTo pos (starEach [.Constant (.str txt) 0 p3] env)) []) := by
  rw [arm_eval_Call]
  have hform : methodCallForm (([.Constant (.str txt) 0 p3] : List Expr).length + ([] : List Keyword).length) (backTo pos (starEach [.Constant (.str txt) 0 p3] env)) (backToKw pos (keywordEach [] env)) = true := rfl
  have hpos : methodCallPos true o env apos pos = pure pos := by unfold methodCallPos; simp [hl]
  unfold methodCall
  rw [hform]
  unfold calleeOf
  simp only [if_true, hpos, pure_bind]
  rfl
structure ExTxt (P : Program) (K : Frag) (mg : Str → Option Value) (nm : Str) (fs : List Str) (C fI : Addr) : Prop where
  gC : mg nm = some (.ref C)
  nmd : (nm == ("__debug__" : Str)) = false
  cls : ∃ (nm' q : Str) (N : Addr) (bs bm : List Value) (sn : List Str) (sub : List Value) (ab : Bool) (col : Option Bool) (dd : Option Addr) (k0 k1 k2 k3 k5 : Option Value), K.lookup C = some (excClassObj nm' q C N bs bm true sn sub ab col dd k0 k1 k2 k3 k5 "ValueError.__new__") ∧ refsVE bm = true ∧
    alongIn K "__init__" (((Value.ref C :: bm).dropWhile (· != .ref C)).drop 1) = some (some (.builtin "ValueError.__init__"))
  sa : findIn K (.ref C) "__setattr__" = some (some (.builtin "object.__setattr__"))
  ga : findIn K (.ref C) "__getattribute__" = some (some (.builtin "BaseException.__getattribute__"))
  gg : findIn K (.ref C) "__getattr__" = some none
  noN : ∀ f ∈ fs, findIn K (.ref C) f = some none
  iC : findIn K (.ref C) "__init__" = some (some (.ref fI))
  tC : typeIn K (.ref fI) = some (.type "function")
  kC : keepIn K (.ref C) = true
  exC : subIn K (.ref C) (.type "BaseException") = some true
  veC : subIn K (.ref C) (.type "ValueError") = some true
  slC : mroIn K C (.ref C) = some true
  tyC : typeIn K (.ref C) = some (.type "type")
  hdC : hasDictIn K C = true
  fn : ∃ (oc : Value) (od : Option Addr) (doc pm : Value) (an : Option Addr) (ct : Value) (osl : Array (Option Value)) (q txt : Str) (params : Arguments) (sc : Scope) (q0 q1 q2 q3 q4 q5 : Pos) (asgs : List Stmt) (cda cc : Addr) (ccl cl : Value) (cdd cld : Option Addr) (vs : Array Value) (ccs csl : Array (Option Value)) (file : Str) (tf : Tok),
    K.lookup fI = some ⟨oc, od, .func (ksFn "__init__" q params (oxSup txt q0 q1 q2 q3 q4 q5 :: asgs) sc .none .none doc pm an (.ref cda) ct cc), osl⟩ ∧ codeIn K (.ref cda) q = true ∧ (q2.endLine == q4.line) = true ∧ OxSig fs params sc ∧ Asgs fs asgs ∧
    K.lookup cda = some ⟨ccl, cdd, .fields vs, ccs⟩ ∧ vs[2]? = some (.str file tf) ∧ ((P.main.file : Str) == file) = true ∧ K.lookup cc = some ⟨cl, cld, .cell (some (.ref C)), csl⟩
  sup : mg "super" = none
  tp : nsIn K cStatics "thirdparty.any" = some none
  top : (P.main.scope.names.lookup ("super" : Str)).isSome = false
/-- what __init__ leaves of a fresh exception at x -/
structure InitEnd (h h' : Heap) (x C dx t1 : Addr) (fv : List (Str × Value)) : Prop where
  keep : ∀ b o, b ≠ x → h.get? b = some o → h'.get? b = some o
  obj : h'.get? x = some { cls := .ref C, dict := some dx, data := .fields #[.ref t1, .none, .none, .none, .bool false, .none] }
  dbig : h.objs.size ≤ dx
  dne : dx ≠ x
  ns : h'.Ns1 dx (fun y => fv.reverse.lookup y)
theorem lookup_rev_cons {fv : List (Str × Value)} {f y : Str} {v : Value} (m : Str → Option Value) (hm : ∀ z, m z = fv.lookup z) : (fun z => if z = f then some v else m z) y = ((f, v) :: fv).lookup y := by
  show (if y = f then some v else m y) = _
  by_cases h : y = f
  · subst h; simp [List.lookup]
  · have e : (y == f) = false := by simpa using h
    rw [if_neg h, hm]; simp [List.lookup, e]
theorem zip_lookup : ∀ {fs : List Str} {vs : List Value} {i : Nat} {f : Str} {v : Value}, fs.Nodup → fs[i]? = some f → vs[i]? = some v → (fs.zip vs).lookup f = some v
  | [], _, _, _, _, _, h, _ => by simp at h
  | _ :: _, [], _, _, _, _, _, h => by simp at h
  | g :: fs, u :: vs, 0, f, v, nd, h1, h2 => by
    simp at h1 h2; subst h1; subst h2; simp [List.zip_cons_cons, List.lookup]
  | g :: fs, u :: vs, i + 1, f, v, nd, h1, h2 => by
    have hm : f ∈ fs := List.mem_of_getElem? (by simpa using h1)
    have ne : (f == g) = false := by
      rw [beq_eq_false_iff_ne]; intro e; subst e; exact (List.nodup_cons.mp nd).1 hm
    rw [List.zip_cons_cons]
    simp only [List.lookup, ne]
    exact zip_lookup (i := i) (List.nodup_cons.mp nd).2 (by simpa using h1) (by simpa using h2)
theorem mem_lookup {l : List (Str × Value)} {f : Str} {v : Value} (nd : (l.map (·.1)).Nodup) (h : (f, v) ∈ l) : l.reverse.lookup f = some v := by
  have key : ∀ {l : List (Str × Value)}, (l.map (·.1)).Nodup → (f, v) ∈ l → l.lookup f = some v := by
    intro l
    induction l with
    | nil => intro _ h; cases h
    | cons p l ih =>
      obtain ⟨g, u⟩ := p
      intro nd h
      rw [List.map_cons, List.nodup_cons] at nd
      rcases List.mem_cons.mp h with e | h'
      · cases e; simp [List.lookup]
      · have ne : (f == g) = false := by
          rw [beq_eq_false_iff_ne]; intro e; subst e
          exact nd.1 (List.mem_map_of_mem (f := (·.1)) h')
        simp only [List.lookup, ne]
        exact ih nd.2 h'
  refine key ?_ (List.mem_reverse.mpr h)
  rw [List.map_reverse]
  exact (List.reverse_perm _).nodup_iff.mpr nd
section
variable {prog : Program} {w : World} {A : Around} {E : Value → Shared → Prop} {R : Result → Shared → Prop} {s : Shared} {K : Frag} {mg mb : Str → Option Value} {nm : Str} {fs : List Str} {C fI : Addr}
/-- super().__init__(text): the method-wrapper at u called -/
theorem mw_call {u e t : Addr} {rest : List Value} {Q : Value → Shared → Prop} {nm q : Str} {N : Addr} {bs bm : List Value} {hdct : Bool} {sn : List Str} {sub : List Value} {ab : Bool} {col : Option Bool} {dd : Option Addr} {k0 k1 k2 k3 k5 : Option Value}
    (hC : s.heap.get? C = some (excClassObj nm q C N bs bm hdct sn sub ab col dd k0 k1 k2 k3 k5 "ValueError.__new__")) (hu : s.heap.get? u = some (kxs_mw "ValueError.__init__" e)) (he : s.heap.get? e = some (excO C t)) (hz : rest.length ≤ sizeLine)
    (h : ∀ h' t', (∀ b o, b ≠ e → s.heap.get? b = some o → h'.get? b = some o) → h'.get? e = some (excO C t') → Q .none { s with heap := h' }) :
    wpAny (model prog w) A (call (.ref u) rest) Q E s := by
  obtain ⟨hh, g, d, tk, os⟩ := s
  refine wpAny_call (codeAny_of_tree ?_)
  show wpAny _ A.in1 (callAny (.ref u) ⟨rest, []⟩) _ _ _
  simp only [callAny]
  refine wpAny_bind (wpAny_load hu ?_)
  simp only [kxs_mw, show (Value.type "method-wrapper" == Value.type "method" || Value.type "method-wrapper" == Value.type "builtin_function_or_method" || Value.type "method-wrapper" == Value.type "method-wrapper") = true by decide, if_true]
  refine KFB.if_so (by decide) ?_
  refine wpAny_bind (check_bound_init F.excBase_ValueError.toExcCallFacts hC he rfl ?_)
  refine wpAny_bind (wpAny_pure (wpAny_pure ?_))
  refine ⟨plainId_quiet F.excBase_ValueError.init.plain _, codeAny_builtin F.excBase_ValueError.initEntry ?_⟩
  exact exc_init_tree (cls := .ref C) (t0 := t) (dv := none) (c2 := .none) (c3 := .none) (b4 := .bool false) he hz fun h' k e' _ => h h' _ k e'
theorem ldK {M : Model} {s : Shared} {name : Str} {scope : Scope} {L a : Addr} {cd : Value} {cc : Addr} {m : Str → Option Value} {x : Str} {pos : Pos} {v : Value} {Q : Value → Shared → Prop} {A : Around} {E : Value → Shared → Prop} (hn : s.heap.Ns L m) (hv : m x = some v) (h : Q v s)
    (hk : scope.kind = .function) (hl : scope.names.lookup x = some NameKind.local) (hd : (x == ("__debug__" : Str)) = false) :
    wpAny M A (eval (.Name x pos) (ksEnv name scope L a cd cc)) Q E s := wpAny_Name (wpAny_loadName_local hk hl hn hv h) hd
/-- the stores behind the first -/
theorem ox_rest {q : Str} {sc : Scope} {L fI cc x dx : Addr} {cd : Value} {m : Str → Option Value} {fv : Array Value} {Cd : ClassData} {Q : Flow → Shared → Prop} (hk : sc.kind = .function) (hls : sc.names.lookup ("self" : Str) = some NameKind.local) (hms : m "self" = some (.ref x))
    (hcl : clsIn K C = some Cd) (hmro : refsVE Cd.mro = true) (hdct : Cd.hasDict = true) (hsa : findIn K (.ref C) "__setattr__" = some (some (.builtin "object.__setattr__"))) :
    ∀ (gs : List Str) (us : List Value) (ss : List Stmt) (acc : List (Str × Value)) (s : Shared), Asgs gs ss → us.length = gs.length → K.In s.heap → K.lookup dx = none → s.heap.Ns L m → dx ≠ L → s.heap.get? x = some { cls := .ref C, dict := some dx, data := .fields fv } → dx ≠ x →
    s.heap.Ns1 dx (fun y => acc.lookup y) → acc.length + gs.length ≤ 900 → (∀ f ∈ gs, sc.names.lookup f = some NameKind.local ∧ (f == ("__debug__" : Str)) = false ∧ findIn K (.ref C) f = some none) → (∀ p ∈ gs.zip us, m p.1 = some p.2) →
    (∀ h' tk, (∀ b o, b ≠ dx → s.heap.get? b = some o → h'.get? b = some o) → h'.Ns1 dx (fun y => ((gs.zip us).reverse ++ acc).lookup y) → Q .next { s with heap := h', toks := tk }) →
    wpAny (model prog w) A (execs ss (ksEnv q sc L fI cd cc)) Q E s
  | [], us, _, acc, s, .nil, hl, X, hdK, hL, hdL, hx, hdx, hns, hz, hf, hm, hq => by
    refine wpAny_execs_nil ?_
    exact hq s.heap s.toks (fun _ _ _ e => e) (by simpa using hns)
  | g :: gs, u :: us, _, acc, s, .cons r1 r2 r3 r4 as, hl, X, hdK, hL, hdL, hx, hdx, hns, hz, hf, hm, hq => by
    obtain ⟨f1, f2, f3⟩ := hf g List.mem_cons_self
    have mg' : m g = some u := hm (g, u) (by rw [List.zip_cons_cons]; exact List.mem_cons_self)
    refine wpAny_execs_cons (plainObj_wpAny_Assign_Attribute ?_ (by rfl))
    refine ldK (v := u) hL mg' (ldK (v := .ref x) hL hms ?_ hk hls (by decide +kernel)) hk f1 f2
    have hw : Within (fun y => acc.lookup y) (acc.map (·.1)) := fun y hy => by
      have key : ∀ {l : List (Str × Value)}, l.lookup y ≠ none → y ∈ l.map (·.1) := by
        intro l
        induction l with
        | nil => intro h; exact absurd rfl h
        | cons p l ih =>
          intro h
          obtain ⟨f, z⟩ := p
          by_cases e : y = f
          · rw [e]; exact List.mem_cons_self
          · have e' : (y == f) = false := by simpa using e
            simp only [List.lookup, e'] at h
            exact List.mem_cons_of_mem _ (ih h)
      exact key hy
    obtain ⟨oD, _, _, hoD, _, _⟩ := hns.count hw
    obtain ⟨hp, gg, d, t, os⟩ := s
    refine set_plain X (ox := { cls := .ref C, dict := some dx, data := .fields fv }) (od := some oD) ⟨hx, rfl, rfl, hoD⟩ hsa ?_
    refine OEX.osa_old X hx hns hw (by rw [List.length_map]; simp at hz; omega) hcl hmro hdct f3 (fun h' tk' k hn => ?_)
    have X' : K.In h' := fun b o e => k b o (fun z => by rw [z, hdK] at e; cases e) (X b o e)
    have hL' : h'.Ns L m := by
      obtain ⟨oL, es, ep, e1, r⟩ := hL
      exact ⟨oL, es, ep, k _ _ (Ne.symm hdL) e1, r⟩
    have hn' : h'.Ns1 dx (fun y => ((g, u) :: acc).lookup y) := by
      have e : (fun y => if y = g then some u else acc.lookup y) = (fun y => ((g, u) :: acc).lookup y) := funext fun y => lookup_rev_cons (fv := acc) (f := g) (v := u) (fun z => acc.lookup z) (fun _ => rfl)
      rw [← e]; exact hn
    refine ox_rest hk hls hms hcl hmro hdct hsa gs us _ ((g, u) :: acc) ⟨h', gg, d, tk', os⟩ as (by simpa using hl) X' hdK hL' hdL (k _ _ (Ne.symm hdx) hx) hdx hn' (by simp at hz ⊢; omega) (fun f hf' => hf f (List.mem_cons_of_mem _ hf')) (fun p hp => hm p (by rw [List.zip_cons_cons]; exact List.mem_cons_of_mem _ hp)) fun h'' tk k2 hn2 => ?_
    refine hq h'' tk (fun b o hb e => k2 b o hb (k b o hb e)) ?_
    rw [List.zip_cons_cons, List.reverse_cons, List.append_assoc]
    exact hn2
  | _ :: _, [], _, _, _, _, hl, _, _, _, _, _, _, _, _, _, _, _ => by simp at hl
theorem ox_init (T : ExTxt prog K mg nm fs C fI) {x t0 : Addr} {args : Args} {us : List Value} (hlen : us.length = fs.length) (hargs : args = ⟨.ref x :: us, []⟩ ∨ args = ⟨[.ref x], fs.zip us⟩) (X : K.In s.heap) (G : s.heap.Ns mainGlobals mg) (Bn : s.heap.Ns builtinsNs mb) (hbb : ∀ x : Str, x ≠ "__name__" → mb x = bootBuiltins x) (hlim : s.heap.NoLimit) (hx : s.heap.get? x = some (excO C t0)) (hnx : K.lookup x = none) (hroom : A.depth < recursionLimit)
    (hq : ∀ h' tk dx t1, InitEnd s.heap h' x C dx t1 (fs.zip us) → R (.ok (.ret .none)) { s with heap := h', toks := tk }) :
    codeAny (model prog w) A (.call (.ref fI) args) R s := by
  obtain ⟨nm', q, N, bs, bm, sn, sub, ab, col, dd, k0, k1, k2, k3, k5, hC, hbm, hal⟩ := T.cls
  obtain ⟨oc, od, doc, pm, an, ct, osl, qq, txt, params, sc, q0, q1, q2, q3, q4, q5, asgs, cda, cc, ccl, cl, cdd, cld, vs, ccs, csl, file, tf, hfn, hcd, hline, S, hasg, hco, hvs, hfile, hcell⟩ := T.fn
  have hcl : clsIn K C = some { name := nm', bases := bs, mro := .ref C :: bm, ns := N, qualname := q, hasDict := true, slotNames := sn, subclasses := sub, abstract := ab, collection := col, hasDel := false } := by unfold clsIn; rw [hC] <;> rfl
  have hbd : bindArgs (ksFn "__init__" qq params (oxSup txt q0 q1 q2 q3 q4 q5 :: asgs) sc .none .none doc pm an (.ref cda) ct cc) args = (pure ((("self" : Str), .ref x) :: fs.zip us) : Sem (List (Str × Value))) := by
    rcases hargs with e | e
    · rw [e]; exact S.bnd _ _ _ _ _ _ _ _ _ _ hlen
    · rw [e]; exact S.bndK _ _ _ _ _ _ _ _ _ _ hlen
  obtain ⟨ar, har, har2⟩ : ∃ ar, (params.posonlyargs ++ params.args).head? = some ar ∧ ar.arg = ("self" : Str) := by
    have z := S.hd
    cases e : (params.posonlyargs ++ params.args).head? with
    | none => rw [e] at z; cases z
    | some ar => rw [e] at z; exact ⟨ar, rfl, Option.some.inj z⟩
  refine ks_codeAny_call_defAt (fd := ksFn "__init__" qq params (oxSup txt q0 q1 q2 q3 q4 q5 :: asgs) sc .none .none doc pm an (.ref cda) ct cc) (body := oxSup txt q0 q1 q2 q3 q4 q5 :: asgs) (binds := (("self" : Str), .ref x) :: fs.zip us)
    hroom (X _ _ hfn) rfl hlim (codeRec_of X hcd) rfl (BindsTo.of_eq hbd) S.ncell ?hloc (fun h₁ hns k => ?_) S.co S.gen S.kind
  case hloc =>
    intro y hy
    rcases List.mem_cons.mp hy with rfl | hy
    · exact S.lself
    · exact S.lf _ (List.of_mem_zip hy).1
  have X₁ : K.In h₁ := X.keeps k
  have hx₁ := k _ _ hx
  have hC₁ := X₁ _ _ hC
  have hxC : x ≠ C := fun z => by
    rw [z] at hx
    have e := (X _ _ hC).symm.trans hx
    cases e
  have ndk : (((("self" : Str), Value.ref x) :: fs.zip us).map (·.1)).Nodup := by
    rw [List.map_cons, List.map_fst_zip (by omega)]
    exact List.nodup_cons.mpr ⟨fun h => S.nself _ h rfl, S.nd⟩
  have mself : ((("self" : Str), Value.ref x) :: fs.zip us).reverse.lookup ("self" : Str) = some (.ref x) := mem_lookup ndk List.mem_cons_self
  have mf : ∀ p ∈ fs.zip us, ((("self" : Str), Value.ref x) :: fs.zip us).reverse.lookup p.1 = some p.2 := fun p hp => mem_lookup ndk (List.mem_cons_of_mem _ hp)
  show _root_.PySem.wpAt _ _ (.func (oxSup txt q0 q1 q2 q3 q4 q5 :: asgs) (ksEnv qq sc s.heap.objs.size fI (.ref cda) cc)) (execs (oxSup txt q0 q1 q2 q3 q4 q5 :: asgs) (ksEnv qq sc s.heap.objs.size fI (.ref cda) cc)) _ _ _
  refine ks_wpAt_execs_cons (ks_wpAt_Expr_any (ks_wpAt_MethodCall ?_ (ev_meth _ _ _ _ _ _ _ hline)) (by simp [interactive, S.kind]) (S.sw ..))
  have hIve : ∀ h2 : Heap, K.In h2 → h2.get? x = some (excO C t0) → Looks (model prog w) h2 (isInstance (.ref x) (.type "ValueError")) true := fun h2 X2 e2 =>
    (show W.InstAt h2 x (excO C t0) C none from ⟨e2, rfl, rfl, trivial⟩).type.andThen (looks_subIn X2 T.veC)
  refine ks_wpAt_super_base (env := ksEnv qq sc s.heap.objs.size fI (.ref cda) cc) S.lsup S.lcls (by decide +kernel) rfl (X₁ _ _ hfn) rfl har rfl (X₁ _ _ hco) rfl hvs hfile T.top ?_
  refine ks_loadName_global S.kind S.lsup (loadGlobal_builtin (env := ksEnv qq sc s.heap.objs.size fI (.ref cda) cc) (G.keeps k) T.sup (Bn.keeps k) ((hbb _ (by decide +kernel)).trans (by first | boot_by_name | rfl | kernel_rfl)) ⟨rfl, ?_⟩)
  refine wpAny_loadName_free S.kind S.lcls rfl ⟨_, X₁ _ _ hcell, rfl⟩ ?_
  rw [har2]
  refine wpAny_loadName_local S.kind S.lself hns mself ?_
  refine ks_wpAny_isType_cls hC₁ rfl ⟨rfl, ?_⟩
  refine ks_wpAny_call_super hC₁ rfl hx₁ rfl (fun c z => by cases z) (looks_mroIn X₁ T.slC) (fun h₂ e₂ k₂ => ?_)
  have X₂ : K.In h₂ := X₁.keeps k₂
  refine kxs_getMethod kxs_ValueError e₂ (looks_opaque X₂ T.tp) (l₀ := .ref C :: bm) (fun A Q E s k q => wpAny_bind ((looks_clsIn X₂ hcl) A _ E s k (wpAny_pure q))) rfl X₂ hal (hIve h₂ X₂ (k₂ _ _ hx₁)) hxC (by decide +kernel) ?_
  have k₃ : ∀ b o, h₂.get? b = some o → (h₂.push (kxs_mw "ValueError.__init__" x)).get? b = some o := fun b o e => Heap.get?_push_of_some _ e
  have hu : (h₂.push (kxs_mw "ValueError.__init__" x)).get? h₂.objs.size = some (kxs_mw "ValueError.__init__" x) := Heap.get?_push_at rfl rfl
  refine kxs_callWith (i := "ValueError.__init__") (x := x) (by rfl) (evalArgs_plain ?_)
  show wpAny _ _ (spliced ((false, eval (.Constant (.str txt) 0 q3) (ksEnv qq sc s.heap.objs.size fI (.ref cda) cc)) :: backTo q4 (starEach [] (ksEnv qq sc s.heap.objs.size fI (.ref cda) cc)))) _ _ _
  refine Calls.spliced_cons (Calls.Constant_str (Calls.spliced_nil ⟨hu, ?_⟩))
  refine mw_call (X₂.keeps k₃ _ _ hC) hu (k₃ _ _ (k₂ _ _ hx₁)) (by show 1 ≤ sizeLine; rw [sizeLine_eq]; decide) fun h₄ t₄ k₄ e₄ => ?_
  -- self.f = f
  have kx : ∀ b o, b ≠ x → h₁.get? b = some o → h₄.get? b = some o := fun b o hb e => k₄ b o hb (k₃ b o (k₂ b o e))
  have X₄ : K.In h₄ := fun b o e => kx b o (fun z => by rw [z, hnx] at e; cases e) (X₁ b o e)
  have ns₄ : h₄.Ns s.heap.objs.size (fun y => ((("self" : Str), Value.ref x) :: fs.zip us).reverse.lookup y) := by
    obtain ⟨oL, es, ep, hL, r⟩ := hns
    exact ⟨oL, es, ep, kx _ _ (Ne.symm (Nat.ne_of_lt (Heap.lt_size hx))) hL, r⟩
  have big : s.heap.objs.size < h₄.objs.size := by
    obtain ⟨oL, es, ep, hL, r⟩ := ns₄
    exact Heap.lt_size hL
  obtain ⟨few0, few1⟩ := S.few
  have Slf := S.lf
  have Sdb := S.ndbg
  have TnoN := T.noN
  cases hasg with
  | nil => exact absurd few0 (by simp)
  | @cons f gs ss r1 r2 r3 r4 as =>
    cases us with
    | nil => simp at hlen
    | cons u us =>
      refine wpAt_of_wpAny ?_
      refine wpAny_execs_cons (plainObj_wpAny_Assign_Attribute ?_ (by rfl))
      refine ldK (v := u) ns₄ (mf (f, u) (by rw [List.zip_cons_cons]; exact List.mem_cons_self)) (ldK (v := .ref x) ns₄ mself ?_ S.kind S.lself (by decide +kernel)) S.kind (Slf f List.mem_cons_self) (Sdb f List.mem_cons_self)
      refine set_plain X₄ (ox := excO C t₄) (od := none) ⟨e₄, rfl, rfl, trivial⟩ T.sa ?_
      refine exc_osa X₄ e₄ hcl (show refsVE (.ref C :: bm) = true from hbm) rfl (TnoN f List.mem_cons_self) (fun h₅ tk₅ dx k₅ dn dne hx₅ hn₅ => ?_)
      have X₅ : K.In h₅ := fun b o e => k₅ b o (fun z => by rw [z, hnx] at e; cases e) (X₄ b o e)
      have hdK : K.lookup dx = none := by
        cases e : K.lookup dx with
        | none => rfl
        | some o => exact absurd (Nat.lt_of_lt_of_le (Heap.lt_size (X₄ _ _ e)) dn) (Nat.lt_irrefl _)
      have ns₅ : h₅.Ns s.heap.objs.size (fun y => ((("self" : Str), Value.ref x) :: (f :: gs).zip (u :: us)).reverse.lookup y) := by
        obtain ⟨oL, es, ep, hL, r⟩ := ns₄
        exact ⟨oL, es, ep, k₅ _ _ (Ne.symm (Nat.ne_of_lt (Heap.lt_size hx))) hL, r⟩
      have hn₅' : h₅.Ns1 dx (fun y => [(f, u)].lookup y) := by
        have e : (fun y => if y = f then some u else none) = (fun y => [(f, u)].lookup y) := funext fun y => lookup_rev_cons (fv := []) (f := f) (v := u) (fun _ => none) (fun _ => rfl)
        rw [← e]; exact hn₅
      refine ox_rest (L := s.heap.objs.size) (x := x) (dx := dx) S.kind S.lself mself hcl (show refsVE (.ref C :: bm) = true from hbm) rfl T.sa gs us _ [(f, u)] _ as (by simpa using hlen) X₅ hdK ns₅ (Nat.ne_of_gt (Nat.lt_of_lt_of_le big dn)) hx₅ dne hn₅' (by simp at few1 ⊢; omega)
        (fun g hg => ⟨Slf g (List.mem_cons_of_mem _ hg), Sdb g (List.mem_cons_of_mem _ hg), TnoN g (List.mem_cons_of_mem _ hg)⟩) (fun p hp => mf p (by rw [List.zip_cons_cons]; exact List.mem_cons_of_mem _ hp)) fun h₆ tk₆ k₆ hn₆ => ?_
      refine hq h₆ tk₆ dx t₄ ⟨fun b o hb e => k₆ b o (Nat.ne_of_lt (Nat.lt_of_lt_of_le (Heap.lt_size e) (Nat.le_trans (Nat.le_of_lt big) dn))) (k₅ b o hb (kx b o hb (k b o e))), k₆ _ _ (Ne.symm dne) hx₅, Nat.le_trans (Nat.le_of_lt big) dn, dne, ?_⟩
      rw [List.zip_cons_cons, List.reverse_cons]
      exact hn₆
end
end OxE
end PySem
end
section
set_option Elab.async false
set_option autoImplicit false
set_option linter.all false
set_option maxRecDepth 100000
set_option maxHeartbeats 4000000
namespace PySem
namespace OxE
open PySem.W PySem.Calls PyProof.Rows PySem.HandSPX
section
variable {M : Model} {A : Around} {E : Value → Shared → Prop} {h : Heap} {g : Array GenState} {d : Drawn} {t : Nat} {os : OsState}
variable {nm q : Str} {C N : Addr} {bs bm bmB : List Value} {hdct : Bool} {sn : List Str} {sub : List Value} {ab : Bool} {col : Option Bool} {dd : Option Addr} {k0 k1 k2 k3 k5 : Option Value} {B newId initId : String}
theorem check_newK (F : ExcBaseFacts B newId initId bmB) (hT : ∀ X : String, bm.contains (.type X) = bmB.contains (.type X)) {kw : List (Str × Value)} {Q : Unit → Shared → Prop}
    (hC : h.get? C = some (excClassObj nm q C N bs bm hdct sn sub ab col dd k0 k1 k2 k3 k5 newId)) (hq : Q () ⟨h, g, d, t, os⟩) : wpAny M A (checkBuiltinCall newId ⟨[.ref C], kw⟩) Q E ⟨h, g, d, t, os⟩ := by
  have hcont : (Value.ref C :: bm).contains (.type B) = true := by rw [List.contains_cons, hT, F.hasB, Bool.or_true]
  have hstar := F.noStar
  simp only [checkBuiltinCall, F.newKind, F.newSplit, F.newRow]
  repeat (first | refine wpAny_loadPart_at hC ?_ | (refine wpAny_isSubtype_exc hC ?_; rw [hcont]) | refine wpAny_staticBase_exc hC ?_ | refine wpAny_madeBy_exc hC ?_ | simp only [bne_self_eq_false, Bool.false_eq_true, if_false] | wp_step)
  exact hq
end
section
variable {prog : Program} {w : World} {A : Around} {E : Value → Shared → Prop} {R : Result → Shared → Prop} {h : Heap} {g : Array GenState} {d : Drawn} {t : Nat} {os : OsState}
variable {nm q : Str} {C N : Addr} {bs bm bmB : List Value} {hdct : Bool} {sn : List Str} {sub : List Value} {ab : Bool} {col : Option Bool} {dd : Option Addr} {k0 k1 k2 k3 k5 : Option Value} {B newId initId : String}

theorem new_ownK (F : ExcBaseFacts B newId initId bmB) (hT : ∀ X : String, bm.contains (.type X) = bmB.contains (.type X)) {kw : List (Str × Value)}
    (hC : h.get? C = some (excClassObj nm q C N bs bm hdct sn sub ab col dd k0 k1 k2 k3 k5 newId))
    (hq : R (.ok (.ret (.ref (h.objs.size + 1)))) ⟨(h.push { cls := .type "tuple", data := .seq #[] }).push
      { cls := .ref C, data := .fields #[.ref h.objs.size, .none, .none, .none, .bool false, .none] }, g, d, t, os⟩) :
    codeAny (model prog w) A (.builtin newId ⟨[.ref C], kw⟩) R ⟨h, g, d, t, os⟩ := by
  have hends := F.ends
  have hcB : (Value.ref C :: bm).contains (.type B) = true := by rw [List.contains_cons, hT, F.hasB, Bool.or_true]
  have hcA : (Value.ref C :: bm).contains (.type "AttributeError") = false := by rw [List.contains_cons, hT, F.noAttr]; rfl
  have hcN : (Value.ref C :: bm).contains (.type "NameError") = false := by rw [List.contains_cons, hT, F.noName]; rfl
  refine codeAny_builtinAt F.entry ?_
  unfold Builtin.«BaseException.__new__»
  refine wpAt_bind ?_
  show wpAt _ _ _ (stack >>= _) _ _ _
  refine wpAt_bind (wpAt_stack fun p below => wpAt_of_wpAny ?_)
  wp_walk
  refine wpAt_of_wpAny ?_
  rw [F.owner]
  repeat (first | with_reducible refine wpAny_madeHere_exc F.canon hC ?_ | with_reducible refine wpAny_loadPart_at hC ?_ | (with_reducible refine wpAny_isSubtype_exc hC ?_; first | rw [hcB] | rw [hcA] | rw [hcN]) | wp_step)
  show R _ _
  rw [Heap.size_push]
  exact hq

theorem type_call_ownK (F : ExcBaseFacts B newId initId bmB) (hT : ∀ X : String, bm.contains (.type X) = bmB.contains (.type X)) {kw : List (Str × Value)} {fI : Addr} {Q : Fin → Shared → Prop}
    (hC : h.get? C = some (excClassObj nm q C N bs bm hdct sn sub ab col dd k0 k1 k2 k3 k5 newId))
    (hi : W.Looks (model prog w) h (typeLookup (.ref C) "__init__") (some (.ref fI))) (hb : ∀ self, W.Looks (model prog w) h (bindSpecial (.ref fI) self) (.ref fI, [self]))
    (hq : codeAny (model prog w) A (.call (.ref fI) ⟨[.ref (h.objs.size + 1)], kw⟩)
      (fun r s' => match r with | .ok (.ret v) => v = .none ∧ Q (.done (.ret (.ref (h.objs.size + 1)))) s' | .ok _ => False | .error e => E e s')
      ⟨(h.push (W.kdv_tup [])).push (excO C h.objs.size), g, d, t, os⟩) :
    wpAny (model prog w) A (Builtin.«type.__call__» ⟨[.ref C], kw⟩) Q E ⟨h, g, d, t, os⟩ := by
  repeat (first | with_reducible refine wpAny_loadPart_at hC ?_ | with_reducible refine wpAny_madeBy_exc hC ?_ | wp_step)
  refine codeAny_call_builtin_code (Code.quiet_builtin _ F.quiet) (check_newK F hT hC ?_)
  refine new_ownK F hT hC ?_
  show wpAny _ _ _ _ _ _
  have k : ∀ b o, h.get? b = some o → ((h.push (W.kdv_tup [])).push (excO C h.objs.size)).get? b = some o := fun b o e => Heap.get?_push_of_some _ (Heap.get?_push_of_some _ e)
  have hC₁ := k _ _ hC
  have hget : ((h.push (W.kdv_tup [])).push (excO C h.objs.size)).get? (h.objs.size + 1) = some (excO C h.objs.size) := by heap_get
  have hcC : (Value.ref C :: bm).contains (.ref C) = true := by simp
  have i1 := hi.keeps k
  have b1 := (hb (.ref (h.objs.size + 1))).keeps k
  unfold isInstance
  repeat (first | with_reducible refine wpAny_loadPart_at hget ?_ | (with_reducible refine wpAny_isSubtype_exc hC₁ ?_; rw [hcC]) | wp_step)
  show wpAny _ _ (typeLookup (.ref C) _) _ _ _
  refine i1.at ?_
  refine wpAny_holding (wpAny_bind (b1.at ?_))
  refine wpAny_bind (wpAny_call (codeAny_mono hq fun r s' z => ?_))
  rcases r with e | (v | _ | _ | _) <;> first | exact z | exact z.elim | skip
  obtain ⟨rfl, z⟩ := z
  first
    | exact wpAny_pure (wpAny_pure z)
    | (wp_walk; exact z)

theorem call_ownK (F : ExcBaseFacts B newId initId bmB) (hT : ∀ X : String, bm.contains (.type X) = bmB.contains (.type X)) {kw : List (Str × Value)} {fI : Addr}
    (hC : h.get? C = some (excClassObj nm q C N bs bm hdct sn sub ab col dd k0 k1 k2 k3 k5 newId))
    (hi : W.Looks (model prog w) h (typeLookup (.ref C) "__init__") (some (.ref fI))) (hb : ∀ self, W.Looks (model prog w) h (bindSpecial (.ref fI) self) (.ref fI, [self]))
    (hq : codeAny (model prog w) (A.under (.builtin "type.__call__" ⟨[.ref C], kw⟩)) (.call (.ref fI) ⟨[.ref (h.objs.size + 1)], kw⟩) (W.InitBack (h.objs.size + 1) R)
      ⟨(h.push (W.kdv_tup [])).push (excO C h.objs.size), g, d, t, os⟩) :
    codeAny (model prog w) A (.call (.ref C) ⟨[], kw⟩) R ⟨h, g, d, t, os⟩ := by
  have f1 := tc_lookup
  have f2 := tc_bind (.ref C)
  have hTy : (⟨h, g, d, t, os⟩ : Shared).TypeIs (.ref C) "type" := ⟨_, hC, rfl⟩
  refine codeAny_of_tree ?_
  show wpAny _ _ (callAny (.ref C) _) _ _ _
  repeat (any_goals (first | assumption | with_reducible refine wpAny_loadPart_at hC ?_ | wp_step))
  refine ⟨rfl, ?_⟩
  refine codeAny_call_builtin_at (Code.quiet_builtin _ (by decide +kernel)) entry_typeCall (wpAny_check_type_call_sub hC (type_call_ownK F hT hC hi hb ?_))
  refine codeAny_mono hq fun r s' z => ?_
  rcases r with e | (v | _ | _ | _) <;> exact z

end
end OxE
end PySem
end
section
set_option Elab.async false
set_option autoImplicit false
set_option linter.all false
set_option maxRecDepth 100000
set_option maxHeartbeats 4000000
namespace PySem
namespace OxE
open PySem.W PySem.Calls PyProof.Rows PySem.HandSPX
section
variable {prog : Program} {w : World} {A : Around} {E : Value → Shared → Prop} {R : Result → Shared → Prop} {s : Shared} {K : Frag} {mg mb : Str → Option Value} {nm : Str} {fs : List Str} {C fI : Addr}
/-- such an error, made: a new object with its own dict -/
theorem ox_made (T : ExTxt prog K mg nm fs C fI) {args : Args} {us : List Value} (hlen : us.length = fs.length) (hargs : args = ⟨us, []⟩ ∨ args = ⟨[], fs.zip us⟩) (X : K.In s.heap) (G : s.heap.Ns mainGlobals mg) (Bn : s.heap.Ns builtinsNs mb) (hbb : ∀ x : Str, x ≠ "__name__" → mb x = bootBuiltins x) (hlim : s.heap.NoLimit) (hroom : A.depth + 1 < recursionLimit)
    (hq : ∀ h' tk e d t1, (∀ b o, s.heap.get? b = some o → h'.get? b = some o) → s.heap.objs.size ≤ e → h'.get? e = some { cls := .ref C, dict := some d, data := .fields #[.ref t1, .none, .none, .none, .bool false, .none] } → s.heap.objs.size ≤ d → d ≠ e → h'.Ns1 d (fun y => (fs.zip us).reverse.lookup y) → R (.ok (.ret (.ref e))) { s with heap := h', toks := tk }) :
    codeAny (model prog w) A (.call (.ref C) args) R s := by
  obtain ⟨nm', q, N, bs, bm, sn, sub, ab, col, dd, k0, k1, k2, k3, k5, hC, hbm, hal⟩ := T.cls
  have few : us.length ≤ 20 := by
    obtain ⟨_, _, _, _, _, _, _, _, _, _, sc, _, _, _, _, _, _, _, _, _, _, _, _, _, _, _, _, _, _, _, _, _, S, _⟩ := T.fn
    rw [hlen]; exact S.few.2
  have hrest : us.length ≤ sizeLine := by rw [sizeLine_eq]; omega
  obtain ⟨hp, g, dr, tk, os⟩ := s
  -- __init__ over the fresh object
  have main : ∀ (vs : List Value) (A' : Around) (args' : Args), A'.depth < recursionLimit → (args' = ⟨.ref (hp.objs.size + 1) :: us, []⟩ ∨ args' = ⟨[.ref (hp.objs.size + 1)], fs.zip us⟩) →
      codeAny (model prog w) A' (.call (.ref fI) args') (W.InitBack (hp.objs.size + 1) R) ⟨(hp.push (kdv_tup vs)).push (excO C hp.objs.size), g, dr, tk, os⟩ := by
    intro vs A' args' hr ha
    have k : ∀ b o, hp.get? b = some o → ((hp.push (kdv_tup vs)).push (excO C hp.objs.size)).get? b = some o := fun b o e => Heap.get?_push_of_some _ (Heap.get?_push_of_some _ e)
    have hget : ((hp.push (kdv_tup vs)).push (excO C hp.objs.size)).get? (hp.objs.size + 1) = some (excO C hp.objs.size) := by heap_get
    have hnx : K.lookup (hp.objs.size + 1) = none := by
      cases e : K.lookup (hp.objs.size + 1) with
      | none => rfl
      | some o => exact absurd (Nat.lt_of_succ_lt (Heap.lt_size (show hp.get? (hp.objs.size + 1) = some o from X _ _ e))) (Nat.lt_irrefl _)
    refine ox_init (mb := mb) (s := ⟨(hp.push (kdv_tup vs)).push (excO C hp.objs.size), g, dr, tk, os⟩) T hlen ha (X.keeps k) (G.keeps k) (Bn.keeps k) hbb (hlim.keeps k) hget hnx hr fun h' tk' dx t1 D => ?_
    have hsz : ((hp.push (kdv_tup vs)).push (excO C hp.objs.size)).objs.size = hp.objs.size + 1 + 1 := by rw [Heap.size_push, Heap.size_push]
    have big : hp.objs.size ≤ dx := by
      have z := D.dbig
      have z' : ((hp.push (kdv_tup vs)).push (excO C hp.objs.size)).objs.size ≤ dx := z
      rw [hsz] at z'; omega
    exact ⟨rfl, hq h' tk' (hp.objs.size + 1) dx t1 (fun b o e => D.keep b o (Nat.ne_of_lt (Nat.lt_succ_of_lt (Heap.lt_size e))) (k b o e)) (Nat.le_succ _) D.obj big D.dne D.ns⟩
  rcases hargs with e | e
  · subst e
    exact call_own F.excBase_ValueError (fun Y => refsVE_contains Y bm hbm) (X _ _ hC) (looks_findIn X T.iC) (fun self => bind_fn X self T.tC) hrest (main us _ _ (by show A.depth + 1 < _; exact hroom) (.inl rfl))
  · subst e
    exact call_ownK F.excBase_ValueError (fun Y => refsVE_contains Y bm hbm) (X _ _ hC) (looks_findIn X T.iC) (fun self => bind_fn X self T.tC) (main [] _ _ (by show A.depth + 1 < _; exact hroom) (.inr rfl))
end
end OxE
end PySem
namespace L2
open PySem PySem.Spec PyProof.Rows PySem.OxE
theorem relO_zip : ∀ {fs : List Str} {vs : List V} {us : List Value}, Vals vs us → ∀ f, RelO ((fs.zip vs).lookup f) ((fs.zip us).lookup f)
  | [], _, _, _, _ => True.intro
  | _ :: _, _, _, .nil, _ => True.intro
  | g :: fs, _, _, .cons r t, f => by
    rw [List.zip_cons_cons, List.zip_cons_cons]
    by_cases h : f = g
    · subst h; simp only [List.lookup, beq_self_eq_true]; exact r
    · have e : (f == g) = false := by simpa using h
      simp only [List.lookup, e]; exact relO_zip t f
theorem relO_kv : ∀ {l : List (Str × V)} {m : List (Str × Value)}, Paired (fun (p : Str × V) (q : Str × Value) => p.1 = q.1 ∧ RelV p.2 q.2) l m → ∀ f, RelO (l.lookup f) (m.lookup f)
  | _, _, .nil, _ => True.intro
  | (g, v) :: l, (g', u) :: m, .cons r t, f => by
    obtain ⟨e, r⟩ := r
    obtain rfl : g = g' := e
    by_cases h : f = g
    · subst h; simp only [List.lookup, beq_self_eq_true]; exact r
    · have e : (f == g) = false := by simpa using h
      simp only [List.lookup, e]; exact relO_kv t f
theorem paired_snoc {α β : Type} {F : α → β → Prop} : ∀ {l : List α} {m : List β} {a : α} {b : β}, Paired F l m → F a b → Paired F (l ++ [a]) (m ++ [b])
  | _, _, _, _, .nil, h => .cons h .nil
  | _, _, _, _, .cons r t, h => .cons r (paired_snoc t h)
theorem paired_rev {α β : Type} {F : α → β → Prop} : ∀ {l : List α} {m : List β}, Paired F l m → Paired F l.reverse m.reverse
  | _, _, .nil => .nil
  | _, _, .cons r t => by rw [List.reverse_cons, List.reverse_cons]; exact paired_snoc (paired_rev t) r
theorem paired_zip : ∀ {fs : List Str} {vs : List V} {us : List Value}, Vals vs us → Paired (fun (p : Str × V) (q : Str × Value) => p.1 = q.1 ∧ RelV p.2 q.2) (fs.zip vs) (fs.zip us)
  | [], _, _, _ => .nil
  | _ :: _, _, _, .nil => .nil
  | _ :: _, _, _, .cons r t => .cons ⟨rfl, r⟩ (paired_zip t)
/-- the fields of a made error, as they stand in its dict -/
def exF (fs : List Str) (vs : List V) : List (Str × V) := (fs.zip vs).reverse
theorem relO_exF {fs : List Str} {vs : List V} {us : List Value} (r : Vals vs us) (f : Str) : RelO ((exF fs vs).lookup f) ((fs.zip us).reverse.lookup f) := relO_kv (paired_rev (paired_zip r)) f
/-- what is read off an error of the class at C -/
structure ExRd (K : PySem.W.Frag) (C : Addr) : Prop where
  ga : PySem.W.findIn K (.ref C) "__getattribute__" = some (some (.builtin "BaseException.__getattribute__"))
  gg : PySem.W.findIn K (.ref C) "__getattr__" = some none
  exC : PySem.W.subIn K (.ref C) (.type "BaseException") = some true
  hdC : PySem.W.hasDictIn K C = true
theorem _root_.PySem.OxE.ExTxt.rd {P : Program} {K : PySem.W.Frag} {mg : Str → Option Value} {nm : Str} {fs : List Str} {C fI : Addr} (T : ExTxt P K mg nm fs C fI) : ExRd K C := ⟨T.ga, T.gg, T.exC, T.hdC⟩
section
variable {X : Cx} {nm : Str} {fs : List Str} {C fI : Addr} {e : Expr} {es : List Expr} {ta : TA} {p pos : Pos}
/-- C(e, ..) as a value: a new error at e, its dict at d -/
def tOx (C : Addr) (fs : List Str) (ta : TA) : TE := fun σ H Q => ta σ H fun vs H1 => vs.length = fs.length ∧ ∀ e d, H1 e = none → H1 d = none → d ≠ e → Q (.ref e) (upd (upd H1 d (exd d (exF fs vs))) e (exo e C (some d)))
theorem ox_laid {pins : List (Addr × Obj)} {σ : St} {H1 : Hp} {us : List Value} {vs : List V} {hp h' : Heap} {g : Array GenState} {dr : Drawn} {tk tk' : Nat} {os : OsState} {e d t1 : Addr} (I1 : Inv X pins σ H1 ⟨hp, g, dr, tk, os⟩) (r : Vals vs us)
    (k : ∀ b o, hp.get? b = some o → h'.get? b = some o) (he : hp.objs.size ≤ e) (ho : h'.get? e = some { cls := .ref C, dict := some d, data := .fields #[.ref t1, .none, .none, .none, .bool false, .none] }) (hd : hp.objs.size ≤ d) (hde : d ≠ e) (hn : h'.Ns1 d (fun y => (fs.zip us).reverse.lookup y)) :
    Inv X pins σ (upd (upd H1 d (exd d (exF fs vs))) e (exo e C (some d))) ⟨h', g, dr, tk', os⟩ := by
  have n1 : H1 d = none := I1.hok.fresh hd
  have n2 : H1 e = none := I1.hok.fresh he
  refine I1.un (t' := tk') ⟨fun b o q n _ _ => k b o q, fun b o q n _ _ => ⟨o.slots, k b o q⟩, fun b o q n _ => ?_, fun b o q _ => ⟨o, k b o q⟩, fun b xs q => ?_, fun b o u q => ?_, fun b ps q => ⟨#[], ?_⟩⟩ fun b o q => ?_
  · rw [upd_ne (Nat.ne_of_lt (Nat.lt_of_lt_of_le (Heap.lt_size q) he)), upd_ne (Nat.ne_of_lt (Nat.lt_of_lt_of_le (Heap.lt_size q) hd))]; exact n
  · rw [upd_ne (ne_of_none q n2), upd_ne (ne_of_none q n1)]; exact q
  · rw [upd_ne (ne_of_none q n2), upd_ne (ne_of_none q n1)]; exact q
  · rw [upd_ne (ne_of_none q n2), upd_ne (ne_of_none q n1), q]; simp
  · by_cases hb : b = e
    · subst hb; rw [upd_same] at q; cases q; exact exo_ok ho
    · rw [upd_ne hb] at q
      by_cases hb2 : b = d
      · subst hb2; rw [upd_same] at q; cases q; exact exd_ok hn (relO_exF r)
      · rw [upd_ne hb2] at q
        exact (I1.hok b o q).stay (fun c v _ z => k c v z) (fun c hc => by rw [upd_ne (ne_of_none hc n2), upd_ne (ne_of_none hc n1)]; exact hc) fun c xs hc => by rw [upd_ne (ne_of_none hc n2), upd_ne (ne_of_none hc n1)]; exact hc
theorem ox_mod {pins : List (Addr × Obj)} {σ : St} {H : Hp} {s : Shared} (I : Inv X pins σ H s) : ∃ mb, s.heap.Ns mainGlobals X.mg ∧ s.heap.Ns builtinsNs mb ∧ ∀ x : Str, x ≠ "__name__" → mb x = bootBuiltins x := by
  obtain ⟨mb, h1, h2⟩ := I.mod.blt
  exact ⟨mb, I.mod.glob.keeps I.bk, h1.keeps I.bk, h2⟩
theorem pe_ox {k : Nat} (T : ExTxt X.prog X.K X.mg nm fs C fI) (hr : Room k X.A) (hg : Gl X nm) (ha : PA X (e :: es) ta)
    (he : starEach (e :: es) X.env = (false, eval e X.env) :: starEach es X.env := by rfl) (hpl : (backTo pos (starEach es X.env)).any (·.1) = false := by rfl) : PE X (.Call (.Name nm p) (e :: es) [] pos) (tOx C fs ta) := by
  refine ⟨fun pins s σ H Q I h => ?_⟩
  refine wpAny_Call_Name_kw (ld_glob I hg T.gC ?_ T.nmd)
  refine PySem.W.callWith_K (h₀ := X.base) I.ok.mod.kin T.kC (thn (ha.run pos pins s σ H _ I h) fun us s1 ⟨vs, H1, I1, r1, hl, q1⟩ => ⟨I1.kIn, ?_⟩) he hpl
  show wpAny _ _ (call (.ref C) us) _ _ _
  obtain ⟨mb, hg1, hb1, hbb⟩ := ox_mod I1
  have hlim := I1.nolimit
  obtain ⟨hp, g, dr, tk, os⟩ := s1
  refine wpAny_call (ox_made T (us := us) (by rw [← r1.length]; exact hl) (.inl rfl) I1.kIn hg1 hb1 hbb hlim (by have := hr.dp; omega) fun h' tk' e d t1 k2 he' ho hd hde hn => ?_)
  exact ⟨.ref e, _, ox_laid I1 r1 k2 he' ho hd hde hn, rfl, q1 e d (I1.hok.fresh he') (I1.hok.fresh hd) hde⟩
/-- C(f = e, ..): every field by its name, in order -/
theorem pe_oxK {k : Nat} {kws : List Keyword} (T : ExTxt X.prog X.K X.mg nm fs C fI) (hr : Room k X.A) (hg : Gl X nm) (hkw : PK X kws ta)
    (hall : (backToKw pos (keywordEach kws X.env)).all (·.1.isSome) = true := by rfl) (hks : (backToKw pos (keywordEach kws X.env)).filterMap (·.1) = fs := by rfl)
    (hpl : ((backTo pos (starEach [] X.env)).any (·.1) || (backToKw pos (keywordEach kws X.env)).any (·.1.isNone)) = false := by rfl) : PE X (.Call (.Name nm p) [] kws pos) (tOx C fs ta) := by
  refine ⟨fun pins s σ H Q I h => ?_⟩
  refine wpAny_Call_Name_kw (ld_glob I hg T.gC ?_ T.nmd)
  refine PySem.W.callWith_KW0 (h₀ := X.base) I.ok.mod.kin T.kC hall ?_ hpl
  refine thn (hkw.run pos pins s σ H _ I h) fun us s1 ⟨vs, H1, I1, r1, hl, q1⟩ => ⟨I1.kIn, ?_⟩
  rw [hks]
  obtain ⟨mb, hg1, hb1, hbb⟩ := ox_mod I1
  have hlim := I1.nolimit
  obtain ⟨hp, g, dr, tk, os⟩ := s1
  refine wpAny_call (ox_made T (us := us) (by rw [← r1.length]; exact hl) (.inr rfl) I1.kIn hg1 hb1 hbb hlim (by have := hr.dp; omega) fun h' tk' e d t1 k2 he' ho hd hde hn => ?_)
  exact ⟨.ref e, _, ox_laid I1 r1 k2 he' ho hd hde hn, rfl, q1 e d (I1.hok.fresh he') (I1.hok.fresh hd) hde⟩
/-- raise C(e, ..) -/
def tMkOx (C : Addr) (fs : List Str) (ta : TA) : St → Hp → XK → Prop := fun σ H Q => ta σ H fun vs H1 => vs.length = fs.length ∧ ∀ d : Addr, H1 d = none → Q (.ref C) (some d) (upd H1 d (.xd (exF fs vs)))
theorem pmk_ox {k : Nat} (T : ExTxt X.prog X.K X.mg nm fs C fI) (hr : Room k X.A) (hg : Gl X nm) (ha : PA X (e :: es) ta)
    (he : starEach (e :: es) X.env = (false, eval e X.env) :: starEach es X.env := by rfl) (hpl : (backTo pos (starEach es X.env)).any (·.1) = false := by rfl) : PMk X (.Call (.Name nm p) (e :: es) [] pos) (tMkOx C fs ta) := by
  intro pins s σ H Q I h
  refine wpAny_Call_Name_kw (ld_glob I hg T.gC ?_ T.nmd)
  refine PySem.W.callWith_K (h₀ := X.base) I.ok.mod.kin T.kC (thn (ha.run pos pins s σ H _ I h) fun us s1 ⟨vs, H1, I1, r1, hl, q1⟩ => ⟨I1.kIn, ?_⟩) he hpl
  show wpAny _ _ (call (.ref C) us) _ _ _
  obtain ⟨mb, hg1, hb1, hbb⟩ := ox_mod I1
  have hlim := I1.nolimit
  obtain ⟨hp, g, dr, tk, os⟩ := s1
  refine wpAny_call (ox_made T (us := us) (by rw [← r1.length]; exact hl) (.inl rfl) I1.kIn hg1 hb1 hbb hlim (by have := hr.dp; omega) fun h' tk' e d t1 k2 he' ho hd hde hn => ?_)
  show MkP X pins σ Q (.ref e) ⟨h', g, dr, tk', os⟩
  obtain ⟨G', g1, g2⟩ := restrict h' fun b => decide (b ≠ e)
  have gk : ∀ b, b ≠ e → G'.get? b = h'.get? b := fun b hb => g1 b (decide_eq_true hb)
  have ge : G'.get? e = none := g2 e (by simp)
  have old : ∀ b o, hp.get? b = some o → G'.get? b = some o := fun b o q => (gk b (Nat.ne_of_lt (Nat.lt_of_lt_of_le (Heap.lt_size q) he'))).trans (k2 b o q)
  have J : Inv X pins σ (upd H1 d (.xd (exF fs vs))) ⟨G', g, dr, tk', os⟩ := I1.laid (t' := tk') old hd ⟨_, hn.at (fun o q => (gk d hde).trans q), relO_exF r1⟩
  refine ⟨e, _, _, ⟨G', g, dr, tk', os⟩, _, .ref C, some d, rfl, J, fun b o q => ?_, ge, ho, ⟨rfl, rfl⟩, rfl, rfl, ?_, rfl, I1.bare, raises_own T.exC T.tyC, q1 d (I1.hok.fresh hd)⟩
  · by_cases hb : b = e
    · rw [hb, show (⟨G', g, dr, tk', os⟩ : Shared).heap.get? e = none from ge] at q; cases q
    · exact (gk b hb).symm.trans q
  · rw [upd_ne (Ne.symm hde)]; exact I1.hok.fresh he'
def tRaiseOx (C : Addr) (fs : List Str) (W : WX) (ta : TA) : TS := fun _ σ H => tMkOx C fs ta σ H fun cls d H' => W cls d σ H'
theorem ps_raiseOx {W : WX} {k : Nat} {pos2 : Pos} (hc : X.calm = true) (T : ExTxt X.prog X.K X.mg nm fs C fI) (hr : Room k X.A) (tk : Takes X W) (hg : Gl X nm) (ha : PA X (e :: es) ta)
    (he : starEach (e :: es) X.env = (false, eval e X.env) :: starEach es X.env := by rfl) (hpl : (backTo pos (starEach es X.env)).any (·.1) = false := by rfl) :
    PS X (.Raise (some (.Call (.Name nm p) (e :: es) [] pos)) none pos2) (tRaiseOx C fs W ta) := ps_raise hc tk (pmk_ox T hr hg ha he hpl)
end
section
variable {X : Cx} {e : Expr} {te : TE} {f : Str} {pos : Pos}
/-- x.f, x an error that is held as a value -/
def tOxF (K : PySem.W.Frag) (f : Str) (te : TE) : TE := fun σ H Q => te σ H fun x H1 => ∃ (a C d : Addr) (fv : List (Str × V)) (v : V), x = .ref a ∧ H1 a = some (exo a C (some d)) ∧ H1 d = some (exd d fv) ∧ ExRd K C ∧ PySem.W.findIn K (.ref C) f = some none ∧ fv.lookup f = some v ∧ Q v H1
theorem pe_oxF (he : PE X e te) (hb : attributeBase e f X.env (eval e X.env) = eval e X.env) : PE X (.Attribute e f pos) (tOxF X.K f te) := by
  refine ⟨fun pins s σ H Q I h => ?_⟩
  refine attr_of hb (thn (he.run pins s σ H _ I h) fun u s1 ⟨x, H1, I1, rx, a, C, d, fv, v, ex, ea, ed, T, hno, hl, q⟩ => ?_)
  subst ex
  obtain rfl : u = Value.ref a := rx
  obtain ⟨t1, ho⟩ := exo_at I1.hok ea
  obtain ⟨mA, hns, hr⟩ := exd_at I1.hok ed
  obtain ⟨od, hod, hlk⟩ := lookIn_ns hns
  obtain ⟨u, hu, ru⟩ := RelO.some_of (v := v) (o := mA f) (by rw [← hl]; exact hr f)
  have J : PySem.W.InstAt s1.heap a _ C (some od) := ⟨ho, rfl, rfl, hod⟩
  exact PySem.HandSPX.exc_get I1.kIn J T.ga T.gg T.exC (PySem.W.findObj_own T.hdC hno rfl (by rw [hlk, hu])) (handed_of ru) ⟨v, H1, I1.tok _, ru, q⟩
/-- isinstance(x, c), x an error that is held as a value -/
structure ExIs (K : PySem.W.Frag) (C : Addr) : Prop where
  rd : ExRd K C
  cl : (PySem.W.clsIn K C).isSome = true
  ha : PySem.W.findIn K (.ref C) "__class__" = some (some (.builtin "object.__class__"))
  hn : PySem.W.specialIn K (.builtin "object.__class__") "__get__" = some (some (.builtin "getset_descriptor.__get__"))
  ht : PySem.W.takesIn K (.builtin "object.__class__") = some true
  hm : PySem.W.mroIn K C (.type "object") = some true
def rIsOx (K : PySem.W.Frag) : List V → Hp → VK → Prop := fun xs H Q => ∃ (a C d : Addr) (fv : List (Str × V)) (c : V) (cv : Value) (b : Bool), xs = [.ref a, c] ∧ H a = some (exo a C (some d)) ∧ H d = some (exd d fv) ∧ ExIs K C ∧ (∀ u, RelV c u → u = cv) ∧ PySem.W.kitOne K (.ref C) cv = some b ∧ Q (.bl b) H
theorem call_isOx : CallR X (.builtin "isinstance") (rIsOx X.K) := by
  intro pins s σ H xs us Q I r h
  obtain ⟨a, C, d, fv, c, cv, b, rfl, ea, ed, T, hcv, e, q⟩ := h
  cases r with
  | cons rx rr =>
    cases rr with
    | cons rt rr =>
      cases rr
      cases rx
      have ec := hcv _ rt
      subst ec
      obtain ⟨t1, ho⟩ := exo_at I.hok ea
      obtain ⟨mA, hns, hr⟩ := exd_at I.hok ed
      obtain ⟨od, hod, hlk⟩ := lookIn_ns hns
      have J : PySem.W.InstAt s.heap a _ C (some od) := ⟨ho, rfl, rfl, hod⟩
      exact PySem.W.kia_one (PySem.W.kitx_exc T.cl T.rd.ga T.rd.gg T.rd.exC T.ha T.hn T.ht T.hm) I.kIn J e (fun z => nomatch z) fun tk => ⟨.bl b, H, I.kept (t' := tk) fun _ _ z => z, rfl, q⟩
/-- n.f, n the error that the suite holds (at a; its class cls, its dict d) -/
def tByOx (K : PySem.W.Frag) (f : Str) (a : Addr) (cls : Value) (d : Option Addr) (te : TE) : TE := fun σ H Q => te σ H fun x H1 => x = .ref a ∧ ∃ (C dd : Addr) (fv : List (Str × V)) (v : V), cls = .ref C ∧ d = some dd ∧ H1 dd = some (.xd fv) ∧ ExRd K C ∧ PySem.W.findIn K (.ref C) f = some none ∧ fv.lookup f = some v ∧ Q v H1
theorem pe_byOx {a : Addr} {oe : Obj} {cls : Value} {d : Option Addr} {pn : List (Addr × Obj)} (hz : Zc cls d oe) (hf : ∃ vs, oe.data = .fields vs) (he : PE (X.suite a ((a, oe) :: pn)) e te)
    (hb : attributeBase e f X.env (eval e X.env) = eval e X.env := by rfl) : PE (X.suite a ((a, oe) :: pn)) (.Attribute e f pos) (tByOx X.K f a cls d te) := by
  refine ⟨fun pins s σ H Q I h => ?_⟩
  refine attr_of hb (thn (he.run pins s σ H _ I h) fun u s1 ⟨x, H1, I1, rx, ex, C, dd, fv, v, ec, ed, ea, T, hno, hl, q⟩ => ?_)
  subst ex
  obtain rfl : u = Value.ref a := rx
  subst ec ed
  obtain ⟨ha, _⟩ := I1.pin (a, oe) (List.mem_append_left _ List.mem_cons_self)
  obtain ⟨vs, hd⟩ := hf
  obtain ⟨mA, hns, hr⟩ := (show ObjOk X.prog X.w H1 s1.heap dd (.xd fv) from I1.hok dd _ ea)
  obtain ⟨od, ho, hlk⟩ := lookIn_ns hns
  obtain ⟨u, hu, ru⟩ := RelO.some_of (v := v) (o := mA f) (by rw [← hl]; exact hr f)
  have J : PySem.W.InstAt s1.heap a oe C (some od) := ⟨ha, hz.1, by unfold PySem.W.notCls; rw [hd] <;> rfl, by rw [hz.2]; exact ho⟩
  exact PySem.HandSPX.exc_get I1.kIn J T.ga T.gg T.exC (PySem.W.findObj_own T.hdC hno rfl (by rw [hlk, hu])) (handed_of ru) ⟨v, H1, I1.tok _, ru, q⟩
end
end L2
end
section
set_option Elab.async false
set_option autoImplicit false
set_option linter.all false
set_option maxRecDepth 100000
set_option maxHeartbeats 4000000
namespace PySem
namespace OxE
open PySem.W PySem.Calls PyProof.Rows PySem.HandSPX
theorem sig_symbol {p0 p1 : Pos} : OxSig ["symbol"] { posonlyargs := [], args := [{ arg := "self", annotation := none, pos := p0 }, { arg := "symbol", annotation := none, pos := p1 }], vararg := none, kwonlyargs := [], kw_defaults := [], kwarg := none, defaults := [] }
    { kind := .function, names := [(PySem.Str.ofString "self", .local), (PySem.Str.ofString "symbol", .local), (PySem.Str.ofString "__class__", .free), (PySem.Str.ofString "super", .globalImplicit)], isGenerator := false, isCoroutine := false, more := [] } where
  kind := rfl
  co := rfl
  gen := rfl
  ncell := by decide +kernel
  hd := rfl
  lself := by decide +kernel
  lf := by decide +kernel
  lsup := by decide +kernel
  lcls := by decide +kernel
  nself := by decide +kernel
  ndbg := by decide +kernel
  nd := by decide +kernel
  few := by decide
  bnd := fun q body doc pm cdv ct an cc a vs hl => match vs, hl with | [_], _ => rfl
  bndK := fun q body doc pm cdv ct an cc a vs hl => match vs, hl with | [_], _ => rfl
  sw := fun q txt q0 q1 q2 q3 q4 L fI cc cd n => rfl
theorem sig_row {p0 p1 : Pos} : OxSig ["row"] { posonlyargs := [], args := [{ arg := "self", annotation := none, pos := p0 }, { arg := "row", annotation := none, pos := p1 }], vararg := none, kwonlyargs := [], kw_defaults := [], kwarg := none, defaults := [] }
    { kind := .function, names := [(PySem.Str.ofString "self", .local), (PySem.Str.ofString "row", .local), (PySem.Str.ofString "__class__", .free), (PySem.Str.ofString "super", .globalImplicit)], isGenerator := false, isCoroutine := false, more := [] } where
  kind := rfl
  co := rfl
  gen := rfl
  ncell := by decide +kernel
  hd := rfl
  lself := by decide +kernel
  lf := by decide +kernel
  lsup := by decide +kernel
  lcls := by decide +kernel
  nself := by decide +kernel
  ndbg := by decide +kernel
  nd := by decide +kernel
  few := by decide
  bnd := fun q body doc pm cdv ct an cc a vs hl => match vs, hl with | [_], _ => rfl
  bndK := fun q body doc pm cdv ct an cc a vs hl => match vs, hl with | [_], _ => rfl
  sw := fun q txt q0 q1 q2 q3 q4 L fI cc cd n => rfl
theorem sig_what {p0 p1 : Pos} : OxSig ["what"] { posonlyargs := [], args := [{ arg := "self", annotation := none, pos := p0 }, { arg := "what", annotation := none, pos := p1 }], vararg := none, kwonlyargs := [], kw_defaults := [], kwarg := none, defaults := [] }
    { kind := .function, names := [(PySem.Str.ofString "self", .local), (PySem.Str.ofString "what", .local), (PySem.Str.ofString "__class__", .free), (PySem.Str.ofString "super", .globalImplicit)], isGenerator := false, isCoroutine := false, more := [] } where
  kind := rfl
  co := rfl
  gen := rfl
  ncell := by decide +kernel
  hd := rfl
  lself := by decide +kernel
  lf := by decide +kernel
  lsup := by decide +kernel
  lcls := by decide +kernel
  nself := by decide +kernel
  ndbg := by decide +kernel
  nd := by decide +kernel
  few := by decide
  bnd := fun q body doc pm cdv ct an cc a vs hl => match vs, hl with | [_], _ => rfl
  bndK := fun q body doc pm cdv ct an cc a vs hl => match vs, hl with | [_], _ => rfl
  sw := fun q txt q0 q1 q2 q3 q4 L fI cc cd n => rfl
theorem sig_half {p0 p1 : Pos} : OxSig ["half"] { posonlyargs := [], args := [{ arg := "self", annotation := none, pos := p0 }, { arg := "half", annotation := none, pos := p1 }], vararg := none, kwonlyargs := [], kw_defaults := [], kwarg := none, defaults := [] }
    { kind := .function, names := [(PySem.Str.ofString "self", .local), (PySem.Str.ofString "half", .local), (PySem.Str.ofString "__class__", .free), (PySem.Str.ofString "super", .globalImplicit)], isGenerator := false, isCoroutine := false, more := [] } where
  kind := rfl
  co := rfl
  gen := rfl
  ncell := by decide +kernel
  hd := rfl
  lself := by decide +kernel
  lf := by decide +kernel
  lsup := by decide +kernel
  lcls := by decide +kernel
  nself := by decide +kernel
  ndbg := by decide +kernel
  nd := by decide +kernel
  few := by decide
  bnd := fun q body doc pm cdv ct an cc a vs hl => match vs, hl with | [_], _ => rfl
  bndK := fun q body doc pm cdv ct an cc a vs hl => match vs, hl with | [_], _ => rfl
  sw := fun q txt q0 q1 q2 q3 q4 L fI cc cd n => rfl
theorem sig_number {p0 p1 : Pos} : OxSig ["number"] { posonlyargs := [], args := [{ arg := "self", annotation := none, pos := p0 }, { arg := "number", annotation := none, pos := p1 }], vararg := none, kwonlyargs := [], kw_defaults := [], kwarg := none, defaults := [] }
    { kind := .function, names := [(PySem.Str.ofString "self", .local), (PySem.Str.ofString "number", .local), (PySem.Str.ofString "__class__", .free), (PySem.Str.ofString "super", .globalImplicit)], isGenerator := false, isCoroutine := false, more := [] } where
  kind := rfl
  co := rfl
  gen := rfl
  ncell := by decide +kernel
  hd := rfl
  lself := by decide +kernel
  lf := by decide +kernel
  lsup := by decide +kernel
  lcls := by decide +kernel
  nself := by decide +kernel
  ndbg := by decide +kernel
  nd := by decide +kernel
  few := by decide
  bnd := fun q body doc pm cdv ct an cc a vs hl => match vs, hl with | [_], _ => rfl
  bndK := fun q body doc pm cdv ct an cc a vs hl => match vs, hl with | [_], _ => rfl
  sw := fun q txt q0 q1 q2 q3 q4 L fI cc cd n => rfl
theorem sig_word {p0 p1 : Pos} : OxSig ["word"] { posonlyargs := [], args := [{ arg := "self", annotation := none, pos := p0 }, { arg := "word", annotation := none, pos := p1 }], vararg := none, kwonlyargs := [], kw_defaults := [], kwarg := none, defaults := [] }
    { kind := .function, names := [(PySem.Str.ofString "self", .local), (PySem.Str.ofString "word", .local), (PySem.Str.ofString "__class__", .free), (PySem.Str.ofString "super", .globalImplicit)], isGenerator := false, isCoroutine := false, more := [] } where
  kind := rfl
  co := rfl
  gen := rfl
  ncell := by decide +kernel
  hd := rfl
  lself := by decide +kernel
  lf := by decide +kernel
  lsup := by decide +kernel
  lcls := by decide +kernel
  nself := by decide +kernel
  ndbg := by decide +kernel
  nd := by decide +kernel
  few := by decide
  bnd := fun q body doc pm cdv ct an cc a vs hl => match vs, hl with | [_], _ => rfl
  bndK := fun q body doc pm cdv ct an cc a vs hl => match vs, hl with | [_], _ => rfl
  sw := fun q txt q0 q1 q2 q3 q4 L fI cc cd n => rfl
theorem sig_name {p0 p1 : Pos} : OxSig ["name"] { posonlyargs := [], args := [{ arg := "self", annotation := none, pos := p0 }, { arg := "name", annotation := none, pos := p1 }], vararg := none, kwonlyargs := [], kw_defaults := [], kwarg := none, defaults := [] }
    { kind := .function, names := [(PySem.Str.ofString "self", .local), (PySem.Str.ofString "name", .local), (PySem.Str.ofString "__class__", .free), (PySem.Str.ofString "super", .globalImplicit)], isGenerator := false, isCoroutine := false, more := [] } where
  kind := rfl
  co := rfl
  gen := rfl
  ncell := by decide +kernel
  hd := rfl
  lself := by decide +kernel
  lf := by decide +kernel
  lsup := by decide +kernel
  lcls := by decide +kernel
  nself := by decide +kernel
  ndbg := by decide +kernel
  nd := by decide +kernel
  few := by decide
  bnd := fun q body doc pm cdv ct an cc a vs hl => match vs, hl with | [_], _ => rfl
  bndK := fun q body doc pm cdv ct an cc a vs hl => match vs, hl with | [_], _ => rfl
  sw := fun q txt q0 q1 q2 q3 q4 L fI cc cd n => rfl
theorem sig_at {p0 p1 : Pos} : OxSig ["at"] { posonlyargs := [], args := [{ arg := "self", annotation := none, pos := p0 }, { arg := "at", annotation := none, pos := p1 }], vararg := none, kwonlyargs := [], kw_defaults := [], kwarg := none, defaults := [] }
    { kind := .function, names := [(PySem.Str.ofString "self", .local), (PySem.Str.ofString "at", .local), (PySem.Str.ofString "__class__", .free), (PySem.Str.ofString "super", .globalImplicit)], isGenerator := false, isCoroutine := false, more := [] } where
  kind := rfl
  co := rfl
  gen := rfl
  ncell := by decide +kernel
  hd := rfl
  lself := by decide +kernel
  lf := by decide +kernel
  lsup := by decide +kernel
  lcls := by decide +kernel
  nself := by decide +kernel
  ndbg := by decide +kernel
  nd := by decide +kernel
  few := by decide
  bnd := fun q body doc pm cdv ct an cc a vs hl => match vs, hl with | [_], _ => rfl
  bndK := fun q body doc pm cdv ct an cc a vs hl => match vs, hl with | [_], _ => rfl
  sw := fun q txt q0 q1 q2 q3 q4 L fI cc cd n => rfl
theorem sig_kind_lengths_moves {p0 p1 p2 p3 : Pos} : OxSig ["kind", "lengths", "moves"] { posonlyargs := [], args := [{ arg := "self", annotation := none, pos := p0 }, { arg := "kind", annotation := none, pos := p1 }, { arg := "lengths", annotation := none, pos := p2 }, { arg := "moves", annotation := none, pos := p3 }], vararg := none, kwonlyargs := [], kw_defaults := [], kwarg := none, defaults := [] }
    { kind := .function, names := [(PySem.Str.ofString "self", .local), (PySem.Str.ofString "kind", .local), (PySem.Str.ofString "lengths", .local), (PySem.Str.ofString "moves", .local), (PySem.Str.ofString "__class__", .free), (PySem.Str.ofString "super", .globalImplicit)], isGenerator := false, isCoroutine := false, more := [] } where
  kind := rfl
  co := rfl
  gen := rfl
  ncell := by decide +kernel
  hd := rfl
  lself := by decide +kernel
  lf := by decide +kernel
  lsup := by decide +kernel
  lcls := by decide +kernel
  nself := by decide +kernel
  ndbg := by decide +kernel
  nd := by decide +kernel
  few := by decide
  bnd := fun q body doc pm cdv ct an cc a vs hl => match vs, hl with | [_, _, _], _ => rfl
  bndK := fun q body doc pm cdv ct an cc a vs hl => match vs, hl with | [_, _, _], _ => rfl
  sw := fun q txt q0 q1 q2 q3 q4 L fI cc cd n => rfl
theorem exTxt_mk {P : Program} {K : Frag} {mg : Str → Option Value} {nm : Str} {fs : List Str} {C fI : Addr} {h : Heap} (X : K.In h) (G : h.Ns mainGlobals mg)
    {nm' q q2 txt : Str} {N cda cc : Addr} {bs bm : List Value} {sn : List Str} {sub : List Value} {ab : Bool} {col : Option Bool} {dd od an cdd cld : Option Addr} {k0 k1 k2 k3 k5 : Option Value} {oc doc pm ct ccl cl : Value} {osl ccs csl : Array (Option Value)} {params : Arguments} {sc : Scope} {q0 q1 q2' q3 q4 q5 : Pos} {asgs : List Stmt} {vs : Array Value} {file : Str} {tf : Tok}
    (nmd : (nm == ("__debug__" : Str)) = false)
    (aC : nsIn K mainGlobals nm = some (some (.ref C)))
    (lC : K.lookup C = some (excClassObj nm' q C N bs bm true sn sub ab col dd k0 k1 k2 k3 k5 "ValueError.__new__"))
    (iC : findIn K (.ref C) "__init__" = some (some (.ref fI)))
    (lF : K.lookup fI = some ⟨oc, od, .func (ksFn "__init__" q2 params (oxSup txt q0 q1 q2' q3 q4 q5 :: asgs) sc .none .none doc pm an (.ref cda) ct cc), osl⟩)
    (lD : K.lookup cda = some ⟨ccl, cdd, .fields vs, ccs⟩)
    (lc : K.lookup cc = some ⟨cl, cld, .cell (some (.ref C)), csl⟩)
    (hvs : vs[2]? = some (.str file tf))
    (hfile : ((P.main.file : Str) == file) = true)
    (cF : codeIn K (.ref cda) q2 = true)
    (ln : (q2'.endLine == q4.line) = true) (sig : OxSig fs params sc) (as : Asgs fs asgs)
    (rv : refsVE bm = true)
    (al : alongIn K "__init__" (((Value.ref C :: bm).dropWhile (· != .ref C)).drop 1) = some (some (.builtin "ValueError.__init__")))
    (sa : findIn K (.ref C) "__setattr__" = some (some (.builtin "object.__setattr__"))) (ga : findIn K (.ref C) "__getattribute__" = some (some (.builtin "BaseException.__getattribute__"))) (gg : findIn K (.ref C) "__getattr__" = some none)
    (nn : (fs.all fun f => findIn K (.ref C) f == some none) = true)
    (tC : typeIn K (.ref fI) = some (.type "function")) (kC : keepIn K (.ref C) = true) (exC : subIn K (.ref C) (.type "BaseException") = some true) (veC : subIn K (.ref C) (.type "ValueError") = some true) (slC : mroIn K C (.ref C) = some true)
    (tyC : typeIn K (.ref C) = some (.type "type")) (hdC : hasDictIn K C = true) (sup : nsIn K mainGlobals "super" = some none) (tp : nsIn K cStatics "thirdparty.any" = some none) (top : (P.main.scope.names.lookup ("super" : Str)).isSome = false) : ExTxt P K mg nm fs C fI where
  gC := mg_of X G aC
  nmd := nmd
  cls := ⟨nm', q, N, bs, bm, sn, sub, ab, col, dd, k0, k1, k2, k3, k5, lC, rv, al⟩
  sa := sa
  ga := ga
  gg := gg
  noN := fun f hf => beq_iff_eq.mp (List.all_eq_true.mp nn f hf)
  iC := iC
  tC := tC
  kC := kC
  exC := exC
  veC := veC
  slC := slC
  tyC := tyC
  hdC := hdC
  fn := ⟨oc, od, doc, pm, an, ct, osl, q2, txt, params, sc, q0, q1, q2', q3, q4, q5, asgs, cda, cc, ccl, cl, cdd, cld, vs, ccs, csl, file, tf, lF, cF, ln, sig, as, lD, hvs, hfile, lc⟩
  sup := mg_none_of X G sup
  tp := tp
  top := top
end OxE
end PySem
end
section
set_option Elab.async false
set_option autoImplicit false
set_option linter.all false
set_option maxRecDepth 100000
set_option maxHeartbeats 4000000
namespace L2
open PySem PySem.Spec PyProof.Rows PySem.OxE
/-! errors held as values -/
def IsEx (H : Hp) (v : V) (C : Addr) (fv : List (Str × V)) : Prop := ∃ e d, v = .ref e ∧ H e = some (exo e C (some d)) ∧ H d = some (exd d fv)
def IsX (K : PySem.W.Frag) (H : Hp) (v : V) (t : Addr) : Prop := (∃ fv, IsEx H v t fv ∧ ExIs K t) ∨ (∃ e, v = .ref e ∧ H e = some (ExO (.ref t) e) ∧ ExIs K t)
theorem IsEx.mono {H H' : Hp} {v : V} {C : Addr} {fv : List (Str × V)} (s : Same H H') (h : IsEx H v C fv) : IsEx H' v C fv := by
  obtain ⟨e, d, h1, h2, h3⟩ := h
  exact ⟨e, d, h1, s _ _ h2, s _ _ h3⟩
theorem IsX.mono {K : PySem.W.Frag} {H H' : Hp} {v : V} {t : Addr} (s : Same H H') (h : IsX K H v t) : IsX K H' v t := by
  rcases h with ⟨fv, h, i⟩ | ⟨e, h1, h2, i⟩
  · exact .inl ⟨fv, h.mono s, i⟩
  · exact .inr ⟨e, h1, s _ _ h2, i⟩
theorem Same.new {H : Hp} {p : Addr} {o : HO} (h : H p = none) : Same H (upd H p o) := fun b u e => by rw [upd_ne (ne_of_none e h)]; exact e
/-- all but the object at p is as it was -/
def But (p : Addr) (H H' : Hp) : Prop := ∀ b o, b ≠ p → H b = some o → H' b = some o
theorem But.upd {p : Addr} {H : Hp} {o : HO} : But p H (upd H p o) := fun b u h e => by rw [upd_ne h]; exact e
theorem But.trans {p : Addr} {H H1 H2 : Hp} (a : But p H H1) (b : But p H1 H2) : But p H H2 := fun c o h e => b c o h (a c o h e)
theorem But.same {p : Addr} {H H1 H2 : Hp} (s : Same H H1) (b : But p H1 H2) (h : H p = none) : Same H H2 := fun c o e => b c o (fun z => by rw [z, h] at e; cases e) (s c o e)
theorem mk_step {H : Hp} {e d C : Addr} {fv : List (Str × V)} (he : H e = none) (hd : H d = none) (hde : d ≠ e) : Same H (upd (upd H d (exd d fv)) e (exo e C (some d))) ∧ IsEx (upd (upd H d (exd d fv)) e (exo e C (some d))) (.ref e) C fv :=
  ⟨fun b u q => by rw [upd_ne (ne_of_none q he), upd_ne (ne_of_none q hd)]; exact q, e, d, rfl, upd_same, by rw [upd_ne hde, upd_same]⟩
def rIsX (K : PySem.W.Frag) : List V → Hp → VK → Prop := fun xs H Q => ∃ v c t cv b, xs = [v, c] ∧ IsX K H v t ∧ (∀ u, RelV c u → u = cv) ∧ PySem.W.kitOne K (.ref t) cv = some b ∧ Q (.bl b) H
theorem call_isX {X : Cx} : CallR X (.builtin "isinstance") (rIsX X.K) := by
  intro pins s σ H xs us Q I r h
  obtain ⟨v, c, t, cv, b, rfl, hx, hcv, e, q⟩ := h
  rcases hx with ⟨fv, ⟨a, d, rfl, ea, ed⟩, T⟩ | ⟨a, rfl, ea, T⟩
  · exact call_isOx pins s σ H _ us Q I r ⟨a, t, d, fv, c, cv, b, rfl, ea, ed, T, hcv, e, q⟩
  · cases r with
    | cons rx rr =>
      cases rr with
      | cons rt rr =>
        cases rr
        cases rx
        have ec := hcv _ rt
        subst ec
        obtain ⟨⟨oe, vs, ho, hz, hd, _⟩, _, _⟩ := I.hok a _ ea
        have J : PySem.W.InstAt s.heap a oe t none := ⟨ho, hz.1, by unfold PySem.W.notCls; rw [hd] <;> rfl, by rw [hz.2]; trivial⟩
        exact PySem.W.kia_one (PySem.W.kitx_exc T.cl T.rd.ga T.rd.gg T.rd.exC T.ha T.hn T.ht T.hm) I.kIn J e (fun z => nomatch z) fun tk => ⟨.bl b, H, I.kept (t' := tk) fun _ _ z => z, rfl, q⟩
theorem isx_use {K : PySem.W.Frag} {H : Hp} {Q : VK} {v : V} {t C : Addr} {b : Bool} (h : IsX K H v t) (hk : PySem.W.kitOne K (.ref t) (.ref C) = some b) (q : Q (.bl b) H) : rIsX K [v, .ref C] H Q :=
  ⟨v, .ref C, t, .ref C, b, rfl, h, fun u r => r, hk, q⟩
theorem isx_useT {K : PySem.W.Frag} {H : Hp} {Q : VK} {v : V} {t : Addr} {n : String} {b : Bool} (h : IsX K H v t) (hk : PySem.W.kitOne K (.ref t) (.type n) = some b) (q : Q (.bl b) H) : rIsX K [v, .ty n] H Q :=
  ⟨v, .ty n, t, .type n, b, rfl, h, fun u r => r, hk, q⟩
section
variable {P : Program} {K : PySem.W.Frag} {mg : Str → Option Value} {nm f : Str} {fs : List Str} {C fI : Addr} {ta tb te : TE} {tA : TA} {σ : St} {H : Hp} {Q : VK}
theorem tox_use {vs : List V} (h : Evl.EvA tA σ H vs) (hl : vs.length = fs.length) (q : ∀ v H2, Same H H2 → IsEx H2 v C (exF fs vs) → Q v H2) : tOx C fs tA σ H Q :=
  h H (Evl.Ex.refl H) _ fun H1 e1 => ⟨hl, fun e d he hd hde => by
    obtain ⟨s, x⟩ := mk_step (C := C) (fv := exF fs vs) he hd hde
    exact q _ _ (Same.trans e1 s) x⟩
theorem q_ox {vs : List V} {i : Nat} {tz : TS} {D : Ends} (h : Evl.EvA tA σ H vs) (hl : vs.length = fs.length) (q : ∀ v H2, Same H H2 → IsEx H2 v C (exF fs vs) → tz D (σ.set i (some v)) H2) : tSeq (tAsg (tOx C fs tA) (gName i)) tz D σ H := tox_use (Q := fun v H2 => tz D (σ.set i (some v)) H2) h hl q
theorem oxv_use {v u : V} {fv : List (Str × V)} (T : ExTxt P K mg nm fs C fI) (hf : f ∈ fs) (x : IsEx H v C fv) (hl : fv.lookup f = some u) (q : Q u H) :
    ∃ (a C d : Addr) (fv : List (Str × V)) (u : V), v = .ref a ∧ H a = some (exo a C (some d)) ∧ H d = some (exd d fv) ∧ ExRd K C ∧ PySem.W.findIn K (.ref C) f = some none ∧ fv.lookup f = some u ∧ Q u H := by
  obtain ⟨e, d, h1, h2, h3⟩ := x
  exact ⟨e, C, d, fv, u, h1, h2, h3, T.rd, T.noN f hf, hl, q⟩
/-- C(e).f | C(f = e).f -/
theorem ev_oxf {vs : List V} {u : V} (T : ExTxt P K mg nm fs C fI) (hf : f ∈ fs) (h : Evl.EvA tA σ H vs) (hl : vs.length = fs.length) (hu : (exF fs vs).lookup f = some u) : Evl.Ev (tOxF K f (tOx C fs tA)) σ H u := fun H1 e1 Q q =>
  tox_use (h.mono e1) hl fun v H2 s x => oxv_use T hf x hu (q H2 s)
/-- v.f -/
theorem ev_oxv {v u : V} {fv : List (Str × V)} (T : ExTxt P K mg nm fs C fI) (hf : f ∈ fs) (he : Evl.Ev te σ H v) (x : IsEx H v C fv) (hu : fv.lookup f = some u) : Evl.Ev (tOxF K f te) σ H u := fun H1 e1 Q q =>
  he H1 e1 _ fun H2 e2 => oxv_use T hf ((x.mono e1).mono e2) hu (q H2 e2)
theorem el_cat {p : Addr} {xs ys : List V} (ha : Evl.Ev ta σ H (.ref p)) (hp : H p = some (.lst xs)) (hb : Evl.EvL tb σ H ys) (hz : xs.length + ys.length ≤ 100000) : Evl.EvL (tOp rCat ta tb) σ H (xs ++ ys) := fun H1 e1 Q q =>
  ha H1 e1 _ fun H2 e2 => hb H2 (e1.trans e2) _ fun b H3 hb0 e3 hb3 => ⟨p, b, xs, ys, rfl, rfl, e3 _ _ (e2 _ _ (e1 _ _ hp)), hb3, Evl.sz_of hz, fun r hr => q r _ (Evl.fresh_back e2 (Evl.fresh_back e3 hr)) ((e2.trans e3).trans (Evl.Ex.new hr)) upd_same⟩
theorem el_rep {v : V} {n : Nat} (ha : Evl.Ev ta σ H v) (hn : n ≤ 1000) : Evl.EvL (tOp rRep (tLst (tCons ta tNil)) (tC (.int (n : Int)))) σ H (List.replicate n v) := fun H1 e1 Q q =>
  ha H1 e1 _ fun H2 e2 => ⟨by show 1 ≤ sizeLine; decide, fun p hp => ⟨p, n, [v], rfl, rfl, upd_same, by omega, by omega, by
    have : ([v] : List V).length * (n : Int).toNat = n := by simp
    rw [this]; exact Evl.sz_of (by omega), fun r hr => by
    have e : (List.replicate (n : Int).toNat [v]).flatten = List.replicate n v := by
      rw [Int.toNat_natCast]; simp
    rw [e]
    exact q r _ (Evl.fresh_back e2 (Evl.fresh_back (Evl.Ex.new hp) hr)) ((e2.trans (Evl.Ex.new hp)).trans (Evl.Ex.new hr)) upd_same⟩⟩
/-! data: what a value is worth (HandS's Dp), kept by an extension -/
mutual
theorem Dp.mono {H H' : Hp} (s : Same H H') : ∀ {v : V} {d : PyData}, Dp K H v d → Dp K H' v d
  | _, _, .non => .non
  | _, _, .bl b => .bl b
  | _, _, .int i => .int i
  | _, _, .str x => .str x
  | _, _, .lst h t => .lst (Evl.ex_l s h) (DpAll.mono s t)
  | _, _, .tup h t => .tup (Evl.ex_t s h) (DpAll.mono s t)
theorem DpAll.mono {H H' : Hp} (s : Same H H') : ∀ {vs : List V} {ds : List PyData}, DpAll K H vs ds → DpAll K H' vs ds
  | _, _, .nil => .nil
  | _, _, .cons h t => .cons (Dp.mono s h) (DpAll.mono s t)
end
theorem dpAll_rep {v : V} {d : PyData} (h : Dp K H v d) : ∀ n, DpAll K H (List.replicate n v) (List.replicate n d)
  | 0 => .nil
  | n + 1 => .cons h (dpAll_rep h n)
theorem ev_eqD {x y : V} {d e : PyData} {b : Bool} (ha : Evl.Ev ta σ H x) (hb : Evl.Ev tb σ H y) (dx : Dp K H x d) (dy : Dp K H y e) (sx : SeqAt.shaped d = true) (sy : SeqAt.shaped e = true) (hd : PyData.eqv d e = b) : Evl.Ev (tOp (rEqD K) ta tb) σ H (.bl b) := fun H1 e1 Q q =>
  ha H1 e1 _ fun H2 e2 => hb H2 (e1.trans e2) _ fun H3 e3 => ⟨d, e, dx.mono ((e1.trans e2).trans e3), dy.mono ((e1.trans e2).trans e3), sx, sy, by rw [hd]; exact q H3 (e2.trans e3)⟩
/-- == of a list that stands and a new one -/
theorem ev_eqDL {x : V} {ys : List V} {d e : PyData} {b : Bool} (ha : Evl.Ev ta σ H x) (hb : Evl.EvL tb σ H ys) (dx : Dp K H x d) (dy : ∀ p H1, Same H H1 → H1 p = some (.lst ys) → Dp K H1 (.ref p) e) (sx : SeqAt.shaped d = true) (sy : SeqAt.shaped e = true) (hd : PyData.eqv d e = b) : Evl.Ev (tOp (rEqD K) ta tb) σ H (.bl b) := fun H1 e1 Q q =>
  ha H1 e1 _ fun H2 e2 => hb H2 (e1.trans e2) _ fun p H3 hp e3 h3 => ⟨d, e, dx.mono ((e1.trans e2).trans e3), dy p H3 ((e1.trans e2).trans e3) h3, sx, sy, by rw [hd]; exact q H3 (e2.trans e3)⟩
theorem eqv_self {d : PyData} (h : SeqAt.shaped d = true) : PyData.eqv d d = true := SeqAt.eqv_refl d (SeqAt.canLay_of_shaped h)
end
/-- what is evaluated to data -/
def EvD (K : PySem.W.Frag) (te : TE) (σ : St) (H : Hp) (d : PyData) : Prop := ∀ H1, Evl.Ex H H1 → ∀ Q : VK, (∀ v H2, Evl.Ex H1 H2 → Dp K H2 v d → Q v H2) → te σ H1 Q
def EvDs (K : PySem.W.Frag) (ta : TA) (σ : St) (H : Hp) (ds : List PyData) : Prop := ∀ H1, Evl.Ex H H1 → ∀ Q : List V → Hp → Prop, (∀ vs H2, Evl.Ex H1 H2 → DpAll K H2 vs ds → Q vs H2) → ta σ H1 Q
section
variable {K : PySem.W.Frag} {ta tb te : TE} {tA tr : TA} {σ : St} {H : Hp}
theorem evd_of {v : V} {d : PyData} (h : Evl.Ev te σ H v) (hd : Dp K H v d) : EvD K te σ H d := fun H1 e1 Q q => h H1 e1 Q fun H2 e2 => q v H2 e2 (hd.mono (Same.trans e1 e2))
theorem evd_var {i : Nat} {v : V} {d : PyData} (h : σ[i]? = some (some v)) (hd : Dp K H v d) : EvD K (tVar i) σ H d := evd_of (Evl.ev_var h) hd
theorem evd_int {i : Int} : EvD K (tC (.int i)) σ H (.int i) := evd_of Evl.ev_c (.int i)
theorem evd_str {x : Str} : EvD K (tC (.str x)) σ H (.str x) := evd_of Evl.ev_c (.str x)
theorem evds_nil : EvDs K tNil σ H [] := fun H1 _ Q q => q [] H1 (Evl.Ex.refl H1) .nil
theorem evds_cons {d : PyData} {ds : List PyData} (h : EvD K te σ H d) (hr : EvDs K tr σ H ds) : EvDs K (tCons te tr) σ H (d :: ds) := fun H1 e1 Q q =>
  h H1 e1 _ fun v H2 e2 hv => hr H2 (e1.trans e2) _ fun vs H3 e3 hvs => q _ H3 (e2.trans e3) (.cons (hv.mono e3) hvs)
theorem DpAll.length {H : Hp} : ∀ {vs : List V} {ds : List PyData}, DpAll K H vs ds → vs.length = ds.length
  | _, _, .nil => rfl
  | _, _, .cons _ t => by rw [List.length_cons, List.length_cons, DpAll.length t]
theorem evd_tup {ds : List PyData} (h : EvDs K tA σ H ds) (hz : ds.length ≤ 10000) : EvD K (tTup tA) σ H (.tuple ds) := fun H1 e1 Q q =>
  h H1 e1 _ fun vs H2 e2 hvs => ⟨Evl.sz_of (by rw [DpAll.length hvs]; omega), fun p hp => q _ _ (e2.trans (Evl.Ex.new hp)) (.tup (SqT.of upd_same) (hvs.mono (Same.new hp)))⟩
theorem evd_lst {ds : List PyData} (h : EvDs K tA σ H ds) (hz : ds.length ≤ 10000) : EvD K (tLst tA) σ H (.list ds) := fun H1 e1 Q q =>
  h H1 e1 _ fun vs H2 e2 hvs => ⟨Evl.sz_of (by rw [DpAll.length hvs]; omega), fun p hp => q _ _ (e2.trans (Evl.Ex.new hp)) (.lst (SqL.of upd_same) (hvs.mono (Same.new hp)))⟩
theorem evd_abs {n : Int} (h : EvD K te σ H (.int n)) : EvD K (tCB (fun xs H Q => ∃ i, xs = [.int i] ∧ Q (.int (if i < 0 then -i else i)) H) (tCons te tNil)) σ H (.int (if n < 0 then -n else n)) := fun H1 e1 Q q =>
  h H1 e1 _ fun v H2 e2 hv => by
    cases hv
    exact ⟨n, rfl, q _ H2 e2 (.int _)⟩
theorem q_parD {i j : Nat} {d e : PyData} {tz : TS} {D : Ends} (h : EvDs K tA σ H [d, e]) (k : ∀ v u H1, Same H H1 → Dp K H1 v d → Dp K H1 u e → tz D ((σ.set i (some v)).set j (some u)) H1) : tSeq (tPar i j tA) tz D σ H :=
  h H (Evl.Ex.refl H) _ fun vs H1 e1 hvs => by
    cases hvs with
    | cons a t => cases t with
      | cons b t => cases t; exact ⟨_, _, rfl, k _ _ H1 e1 a b⟩
theorem Dp.int_inv {H : Hp} {v : V} {n : Int} (h : Dp K H v (.int n)) : v = .int n := by cases h; rfl
theorem Dp.tup_inv {H : Hp} {v : V} {ds : List PyData} (h : Dp K H v (.tuple ds)) : ∃ a, v = .ref a := by cases h; exact ⟨_, rfl⟩
end
def ExAll (H : Hp) (vs : List V) (sp : List (Addr × List (Str × V))) : Prop := Paired (fun v (s : Addr × List (Str × V)) => IsEx H v s.1 s.2) vs sp
theorem ExAll.mono {H H' : Hp} {vs : List V} {sp : List (Addr × List (Str × V))} (s : Same H H') (h : ExAll H vs sp) : ExAll H' vs sp := Paired.mapP h fun _ _ x => x.mono s
theorem ExAll.append {H : Hp} : ∀ {vs us : List V} {sp sq : List (Addr × List (Str × V))}, ExAll H vs sp → ExAll H us sq → ExAll H (vs ++ us) (sp ++ sq)
  | _, _, _, _, .nil, h => h
  | _, _, _, _, .cons r t, h => .cons r (ExAll.append t h)
theorem ExAll.get {H : Hp} : ∀ {vs : List V} {sp : List (Addr × List (Str × V))} {k : Nat} {C : Addr} {fv : List (Str × V)}, ExAll H vs sp → sp[k]? = some (C, fv) → ∃ v, vs[k]? = some v ∧ IsEx H v C fv
  | _, _, _, _, _, .nil, e => by simp at e
  | _, _, 0, _, _, .cons r _, e => by
    have e' := Option.some.inj (by simpa using e)
    exact ⟨_, rfl, by rw [e'] at r; exact r⟩
  | _, _, k + 1, _, _, .cons _ t, e => ExAll.get (k := k) t (by simpa using e)
/-- a list of errors made in a row -/
def EvAX (t : TA) (σ : St) (H : Hp) (sp : List (Addr × List (Str × V))) : Prop := ∀ H1, Evl.Ex H H1 → ∀ Q : List V → Hp → Prop, (∀ vs H2, Evl.Ex H1 H2 → ExAll H2 vs sp → Q vs H2) → t σ H1 Q
theorem eax_nil {σ : St} {H : Hp} : EvAX tNil σ H [] := fun H1 _ Q q => q [] H1 (Evl.Ex.refl H1) .nil
theorem eax_cons {σ : St} {H : Hp} {tA tr : TA} {C : Addr} {fs : List Str} {us : List V} {sp : List (Addr × List (Str × V))} (h : Evl.EvA tA σ H us) (hl : us.length = fs.length) (hr : EvAX tr σ H sp) : EvAX (tCons (tOx C fs tA) tr) σ H ((C, exF fs us) :: sp) := fun H1 e1 Q q =>
  tox_use (h.mono e1) hl fun v H2 s x => hr H2 (e1.trans s) _ fun vs H3 e3 xs => q _ H3 (Same.trans s e3) (.cons (x.mono e3) xs)
theorem q_lstX {σ : St} {H : Hp} {t : TA} {i : Nat} {tz : TS} {D : Ends} {sp : List (Addr × List (Str × V))} (h : EvAX t σ H sp) (hz : sp.length ≤ 1000) (q : ∀ p vs H1, H p = none → Same H H1 → H1 p = some (.lst vs) → ExAll H1 vs sp → tz D (σ.set i (some (.ref p))) H1) : tSeq (tAsg (tLst t) (gName i)) tz D σ H :=
  h H (Evl.Ex.refl H) _ fun vs H1 e1 x => ⟨Evl.sz_of (by have := Paired.length x; omega), fun p hp => q p vs _ (Evl.fresh_back e1 hp) (Same.trans e1 (Same.new hp)) upd_same (x.mono (Same.new hp))⟩
theorem q_catX {σ : St} {H : Hp} {ta : TE} {t : TA} {i : Nat} {tz : TS} {D : Ends} {l : Addr} {xs : List V} {sp : List (Addr × List (Str × V))} (ha : Evl.Ev ta σ H (.ref l)) (hl : H l = some (.lst xs)) (h : EvAX t σ H sp) (hz : xs.length + sp.length ≤ 1000)
    (q : ∀ p vs H1, H p = none → Same H H1 → H1 p = some (.lst (xs ++ vs)) → ExAll H1 vs sp → tz D (σ.set i (some (.ref p))) H1) : tSeq (tAsg (tOp rCat ta (tLst t)) (gName i)) tz D σ H :=
  ha H (Evl.Ex.refl H) _ fun H1 e1 => h H1 e1 _ fun vs H2 e2 x => ⟨Evl.sz_of (by have := Paired.length x; omega), fun p hp =>
    ⟨l, p, xs, vs, rfl, rfl, Same.new hp _ _ (e2 _ _ (e1 _ _ hl)), upd_same, Evl.sz_of (by have := Paired.length x; omega), fun r hr =>
      q r vs _ (Evl.fresh_back e1 (Evl.fresh_back e2 (Evl.fresh_back (Evl.Ex.new hp) hr))) (Same.trans (Same.trans e1 e2) (Same.trans (Same.new hp) (Same.new hr))) upd_same (x.mono (Same.trans (Same.new hp) (Same.new hr)))⟩⟩
end L2
end
section
set_option Elab.async false
set_option autoImplicit false
set_option linter.all false
set_option maxRecDepth 100000
set_option maxHeartbeats 1000000
namespace PySem
namespace MixD
open Sem (wp)
open PyProof.Rows L2
/-! a dict whose keys are texts and ints beside tuples of them -/
abbrev MK := L2.Key ⊕ List L2.Key
def kD : L2.Key → PyData
  | .inl i => .int i
  | .inr x => .str x
def mData : MK → PyData
  | .inl k => kD k
  | .inr ks => .tuple (ks.map kD)
section
variable {P : Program} {w : World}
def mIs (P : Program) (w : World) (h : Heap) : MK → Value → Prop
  | .inl k, v => L2.keyIs k v = true
  | .inr ks, v => ∃ a, v = .ref a ∧ IsTupleKey (L2.mixKind P w) h ks a
def mHash (P : Program) (w : World) : MK → Int
  | .inl k => L2.keyH w k
  | .inr ks => tupleKeyHash (L2.mixKind P w) ks
def mToks : MK → Nat
  | .inl _ => 1
  | .inr ks => ks.length + 1
theorem mIs_inj {h : Heap} : ∀ {x y : MK} {v : Value}, mIs P w h x v → mIs P w h y v → x = y
  | .inl a, .inl b, v, hx, hy => congrArg Sum.inl ((L2.mixKind P w).inj v a b hx hy)
  | .inl a, .inr b, v, hx, ⟨r, e, _⟩ => by
    have hx : L2.keyIs a v = true := hx
    rcases L2.keyIs_shape hx with ⟨i, t, _, q⟩ | ⟨i, t, _, q⟩ <;> (rw [q] at e; cases e)
  | .inr a, .inl b, v, ⟨r, e, _⟩, hy => by
    have hy : L2.keyIs b v = true := hy
    rcases L2.keyIs_shape hy with ⟨i, t, _, q⟩ | ⟨i, t, _, q⟩ <;> (rw [q] at e; cases e)
  | .inr a, .inr b, v, ⟨r, e, hx⟩, ⟨r2, e2, hy⟩ => by
    rw [e] at e2
    cases e2
    exact congrArg Sum.inr (hx.inj hy)
theorem items_reads {h : Heap} {ks : List L2.Key} {vs : List Value} (x : ItemsAre (L2.mixKind P w) ks vs) : ReadsAll h vs (ks.map kD) [] := by
  induction x with
  | nil => exact .nil
  | @cons k v ks vs hk _ ih =>
    have hk : L2.keyIs k v = true := hk
    rcases L2.keyIs_shape hk with ⟨i, t, rfl, rfl⟩ | ⟨i, t, rfl, rfl⟩
    · exact ReadsAll.cons (as := []) (.int i t) ih
    · exact ReadsAll.cons (as := []) (.str i t) ih
theorem mIs_reads {h : Heap} : ∀ {k : MK} {v : Value}, mIs P w h k v → Reads h v (mData k) []
  | .inl k, v, hk => by
    have hk : L2.keyIs k v = true := hk
    rcases L2.keyIs_shape hk with ⟨i, t, rfl, rfl⟩ | ⟨i, t, rfl, rfl⟩
    · exact .int i t
    · exact .str i t
  | .inr ks, v, ⟨a, e, o, its, n, ho, hc, hd, hi⟩ => by
    subst e
    exact .tuple ho hc hd (items_reads hi)
variable {A : Around} {E : Value → Shared → Prop} {s : Shared}
theorem m_hash {k : MK} {v : Value} {Q : Int → Shared → Prop} (hu : A.units < cLine) (hk : mIs P w s.heap k v) (h : Q (mHash P w k) { s with toks := s.toks + mToks k }) : wpAny (model P w) A (pyHash v) Q E s := by
  cases k with
  | inl k => exact (L2.mixKind P w).pyHash (k := k) hk h
  | inr ks =>
    obtain ⟨a, rfl, x⟩ := hk
    exact wpAny_pyHash_tuple hu x h
theorem kD_depth : ∀ k : L2.Key, (kD k).depth = 0
  | .inl _ => rfl
  | .inr _ => rfl
theorem m_eq {x y : MK} {u v : Value} {Q : Bool → Shared → Prop} (hu : A.units < cLine) (hx : mIs P w s.heap x u) (hy : mIs P w s.heap y v) (ox : (mData x).canLay0 = true) (oy : (mData y).canLay0 = true) (h : Q (decide (x = y)) s) : wpAny (model P w) A (eqBool u v) Q E s := by
  have rx := mIs_reads hx
  have ry := mIs_reads hy
  cases x with
  | inl a =>
    cases y with
    | inl b =>
      have e : decide ((Sum.inl a : MK) = Sum.inl b) = decide (a = b) := by simp
      rw [e] at h
      exact (L2.mixKind P w).eqBool (a := a) (b := b) hx hy h
    | inr b =>
      refine SeqAt.eqBoolOverData P w A E s u v _ _ _ _ Q rx ry ox oy ?_ ?_
      · show A.units + min (kD a).depth _ < cLine
        rw [kD_depth, Nat.zero_min]
        exact hu
      · have e : decide ((Sum.inl a : MK) = Sum.inr b) = false := by simp
        rw [e] at h
        cases a <;> exact h
  | inr a =>
    cases y with
    | inl b =>
      refine SeqAt.eqBoolOverData P w A E s u v _ _ _ _ Q rx ry ox oy ?_ ?_
      · show A.units + min _ (kD b).depth < cLine
        rw [kD_depth, Nat.min_zero]
        exact hu
      · have e : decide ((Sum.inr a : MK) = Sum.inl b) = false := by simp
        rw [e] at h
        cases b <;> exact h
    | inr b =>
      obtain ⟨p, rfl, x1⟩ := hx
      obtain ⟨q, rfl, y1⟩ := hy
      have e : decide ((Sum.inr a : MK) = Sum.inr b) = decide (a = b) := by simp
      rw [e] at h
      exact wpAny_eqBool_tuple hu x1 y1 h
theorem m_quiet {k : MK} {v : Value} {Q : Bool → Shared → Prop} (hk : mIs P w s.heap k v) (h : Q true s) : wpAny (model P w) A (eqIsQuiet 8 v) Q E s := by
  cases k with
  | inl k =>
    rw [eqIsQuiet_byValue 8 ((L2.mixKind P w).byValue k v hk)]
    exact wpAny_pure h
  | inr ks =>
    obtain ⟨a, rfl, x⟩ := hk
    exact wpAny_eqIsQuiet_tuple x h
theorem m_may {k : MK} {v : Value} {st : List Value} {Q : Bool → Shared → Prop} (hk : mIs P w s.heap k v) (hs : ∀ u ∈ st, ∃ k', mIs P w s.heap k' u) (h : Q false s) : wpAny (model P w) A (tableMayTell v st) Q E s := by
  unfold tableMayTell
  by_cases e : st.isEmpty = true
  · rw [if_pos e]; exact wpAny_pure h
  · rw [if_neg e]
    refine wpAny_bind (m_quiet hk ?_)
    simp only [Bool.not_true, Bool.false_eq_true, if_false]
    refine wpAny_bind ?_
    refine wpAny_forIn_list _ (fun rest r s' => s' = s ∧ r = (none, ()) ∧ ∀ u ∈ rest, ∃ k', mIs P w s.heap k' u) _ ?_ ?_ _ _ ⟨rfl, rfl, hs⟩
    · rintro u rest r s' ⟨rfl, rfl, hr⟩
      obtain ⟨k', hu⟩ := hr u List.mem_cons_self
      refine wpAny_bind (m_quiet hu ?_)
      simp only [Bool.not_true, Bool.false_eq_true, if_false]
      exact wpAny_pure ⟨rfl, rfl, fun u hu => hr u (List.mem_cons_of_mem _ hu)⟩
    · rintro r s' ⟨rfl, rfl, _⟩
      exact wpAny_pure h
/-- an entry -/
def entM (P : Program) (w : World) (x : MK × Value × Value) : DictEntry := ⟨mHash P w x.1, x.2.1, x.2.2⟩
/-- the entries of a table -/
structure Ents (P : Program) (w : World) (h : Heap) (es : Array DictEntry) (xs : List (MK × Value × Value)) : Prop where
  eq : es.toList = xs.map (entM P w)
  is : ∀ x ∈ xs, mIs P w h x.1 x.2.1
  lay : ∀ x ∈ xs, (mData x.1).canLay0 = true
  nd : (xs.map (·.1)).Nodup
variable {es : Array DictEntry} {xs : List (MK × Value × Value)}
theorem Ents.at {h : Heap} (X : Ents P w h es xs) (j : Nat) : es[j]? = (xs[j]?).map (entM P w) := by rw [← Array.getElem?_toList, X.eq, List.getElem?_map]
theorem Ents.size {h : Heap} (X : Ents P w h es xs) : es.size = xs.length := by rw [← Array.length_toList, X.eq, List.length_map]
theorem Ents.one {h : Heap} (X : Ents P w h es xs) {i j : Nat} {k : MK} {p q : Value × Value} (hi : xs[i]? = some (k, p)) (hj : xs[j]? = some (k, q)) : i = j := by
  have li : i < (xs.map (·.1)).length := by rw [List.length_map]; exact (List.getElem?_eq_some_iff.mp hi).1
  exact (List.getElem?_inj li X.nd).mp (by rw [List.getElem?_map, List.getElem?_map, hi, hj]; rfl)
/-- where the walk over the places stands -/
def Turn (xs : List (MK × Value × Value)) (k : MK) (rest : List Nat) (hit : Option Nat) : Prop :=
  (hit = none ∧ ∀ j p, xs[j]? = some (k, p) → j ∈ rest) ∨ ∃ j p, hit = some j ∧ xs[j]? = some (k, p) ∧ j ∉ rest
theorem Turn.skip {k : MK} {i : Nat} {rest : List Nat} {hit : Option Nat} (t : Turn xs k (i :: rest) hit) (hi : ∀ p, xs[i]? ≠ some (k, p)) : Turn xs k rest hit := by
  rcases t with ⟨e, a⟩ | ⟨j, p, e, hj, hn⟩
  · refine .inl ⟨e, fun j p hj => ?_⟩
    rcases List.mem_cons.mp (a j p hj) with rfl | h
    · exact absurd hj (hi p)
    · exact h
  · exact .inr ⟨j, p, e, hj, fun h => hn (List.mem_cons_of_mem _ h)⟩
theorem m_find {d : Addr} {o : Obj} {ep : Nat} {k : MK} {v : Value} {Q : Option Nat → Shared → Prop} (hu : A.units < cLine) (hk : mIs P w s.heap k v) (lk : (mData k).canLay0 = true) (ho : s.heap.get? d = some o) (hd : o.data = .dict es ep) (X : Ents P w s.heap es xs)
    (hnone : (∀ (j : Nat) (p : Value × Value), xs[j]? ≠ some (k, p)) → Q none s) (hsome : ∀ (j : Nat) (p : Value × Value), xs[j]? = some (k, p) → Q (some j) s) : wpAny (model P w) A (dictFind d v (mHash P w k)) Q E s := by
  have mem : ∀ e ∈ es, ∃ x ∈ xs, e = entM P w x := fun e he => by
    have h : e ∈ xs.map (entM P w) := X.eq ▸ Array.mem_toList_iff.mpr he
    obtain ⟨x, hx, q⟩ := List.mem_map.mp h
    exact ⟨x, hx, q.symm⟩
  have stored : ∀ u ∈ (placesWithHash es.size (fun i => es[i]?.map (·.hash)) (mHash P w k)).filterMap (fun i => es[i]?.map (·.key)), ∃ k', mIs P w s.heap k' u := fun u hu' => by
    obtain ⟨i, _, hi⟩ := List.mem_filterMap.mp hu'
    obtain ⟨e, he, q⟩ := Option.map_eq_some_iff.mp hi
    obtain ⟨x, hx, rfl⟩ := mem e (Array.mem_of_getElem? he)
    exact ⟨x.1, by rw [← q]; exact X.is x hx⟩
  have inPl : ∀ j p, xs[j]? = some (k, p) → j ∈ placesWithHash es.size (fun i => es[i]?.map (·.hash)) (mHash P w k) := fun j p hj => by
    refine List.mem_filter.mpr ⟨List.mem_range.mpr ?_, ?_⟩
    · rw [X.size]; exact (List.getElem?_eq_some_iff.mp hj).1
    · show (es[j]?.map (·.hash) == some (mHash P w k)) = true
      rw [X.at, hj]
      exact beq_self_eq_true _
  have hnd : (placesWithHash es.size (fun i => es[i]?.map (·.hash)) (mHash P w k)).Nodup := List.Pairwise.filter _ List.nodup_range
  have fits : ∀ i ∈ placesWithHash es.size (fun i => es[i]?.map (·.hash)) (mHash P w k), ∃ k' u y, xs[i]? = some (k', u, y) ∧ es[i]? = some ⟨mHash P w k, u, y⟩ ∧ mIs P w s.heap k' u ∧ (mData k').canLay0 = true := fun i hi => by
    obtain ⟨hr, hh⟩ := List.mem_filter.mp hi
    have hl : i < xs.length := by rw [← X.size]; exact List.mem_range.mp hr
    have hx : xs[i]? = some xs[i] := List.getElem?_eq_getElem hl
    have he : es[i]? = some (entM P w xs[i]) := by rw [X.at, hx]; rfl
    have hh : (es[i]?.map (·.hash) == some (mHash P w k)) = true := hh
    rw [he] at hh
    have hh : mHash P w xs[i].1 = mHash P w k := by simpa [entM] using hh
    have hm := List.getElem_mem hl
    exact ⟨xs[i].1, xs[i].2.1, xs[i].2.2, hx, by rw [he, entM, hh], X.is _ hm, X.lay _ hm⟩
  have start : Turn xs k (placesWithHash es.size (fun i => es[i]?.map (·.hash)) (mHash P w k)) none := .inl ⟨rfl, inPl⟩
  generalize hpl : placesWithHash es.size (fun i => es[i]?.map (·.hash)) (mHash P w k) = pl at *
  have fin : Turn xs k [] none → Q none s := fun t => hnone fun j p hj => by
    rcases t with ⟨_, a⟩ | ⟨_, _, e, _⟩
    · exact absurd (a j p hj) List.not_mem_nil
    · cases e
  -- all by value
  have plain : wpAny (model P w) A (dictWalkPlain d v (mHash P w k) es pl) Q E s := by
    unfold dictWalkPlain
    refine wpAny_bind ?_
    refine wpAny_forIn_list _ (fun rest b s' => s' = s ∧ b = (none, ()) ∧ Turn xs k rest none ∧ ∀ i ∈ rest, i ∈ pl) _ ?_ ?_ _ _ ⟨rfl, rfl, start, fun _ h => h⟩
    · rintro i rest b s' ⟨rfl, rfl, t, hr⟩
      obtain ⟨k', u, y, hx, he, hi, hl⟩ := fits i (hr i List.mem_cons_self)
      rw [he]
      dsimp only
      rw [if_pos (beq_self_eq_true _)]
      refine wpAny_bind (wpAny_dictEpoch ho hd (wpAny_bind (m_eq (x := k') (y := k) hu hi hk hl lk (wpAny_bind (wpAny_dictEpoch ho hd ?_)))))
      show wpAny _ _ (if (ep != ep) = true then _ else _) _ E _
      rw [if_neg (by simp)]
      by_cases hkk : k' = k
      · rw [decide_eq_true hkk]
        subst hkk
        first | rw [if_pos rfl] | skip
        first
          | exact wpAny_bind (wpAny_rule (wpAny_pure (wpAny_pure (hsome i _ hx))))
          | exact wpAny_bind (wpAny_bind (wpAny_rule (wpAny_pure (wpAny_pure (wpAny_pure (hsome i _ hx))))))
          | exact wpAny_bind (wpAny_rule (wpAny_pure (hsome i _ hx)))
      · rw [decide_eq_false hkk]
        have t2 := t.skip fun p hp => by rw [hx] at hp; exact hkk (congrArg Prod.fst (Option.some.inj hp))
        simp only [Bool.false_eq_true, if_false]
        first
          | exact wpAny_bind (wpAny_rule (wpAny_pure ⟨rfl, rfl, t2, fun j hj => hr j (List.mem_cons_of_mem _ hj)⟩))
          | exact wpAny_bind (wpAny_bind (wpAny_pure (wpAny_rule (wpAny_pure ⟨rfl, rfl, t2, fun j hj => hr j (List.mem_cons_of_mem _ hj)⟩))))
    · rintro b s' ⟨rfl, rfl, t, _⟩
      exact wpAny_pure (fin t)
  have hany : ¬ (es.any fun e => e.key == v && e.hash != mHash P w k) = true := by
    rw [← Array.any_toList, List.any_eq_true]
    rintro ⟨e, he, q⟩
    obtain ⟨x, hx, rfl⟩ := mem e (Array.mem_toList_iff.mp he)
    obtain ⟨q1, q2⟩ := (Bool.and_eq_true _ _ ▸ q)
    have e1 : x.2.1 = v := eq_of_beq q1
    have e2 : x.1 = k := mIs_inj (X.is x hx) (by rw [e1]; exact hk)
    have : (entM P w x).hash = mHash P w k := by show mHash P w x.1 = _; rw [e2]
    rw [this] at q2
    simp at q2
  unfold dictFind
  try with_reducible refine wpAny_holding ?_
  refine wpAny_bind (wpAny_dictEntries ho hd ?_)
  dsimp only
  rw [hpl]
  have byText : ∀ x t, v = .str x t → (es.all fun e => isExactStrKey e.key) = true → wpAny (model P w) A (foundByValue d v es x) Q E s := fun x t ev _ => by
    subst ev
    have ek : k = .inl (.inr x) := mIs_inj hk (show L2.keyIs (.inr x) (.str x t) = true from L2.keyIs_str x t)
    subst ek
    have isS : ∀ u : Value, u.isStr x = L2.keyIs (.inr x) u := fun u => ((L2.mixKind P w).strs (.inr x) x t u (L2.keyIs_str x t)).symm
    unfold foundByValue
    cases hf : es.findIdx? (fun e => e.key.isStr x) with
    | none =>
      refine wpAny_pure (hnone fun j p hj => ?_)
      have hm : entM P w (.inl (.inr x), p) ∈ es := by
        refine Array.mem_of_getElem? (i := j) ?_
        rw [X.at, hj]; rfl
      have h1 := Array.findIdx?_eq_none_iff.mp hf _ hm
      have h2 : L2.keyIs (.inr x) p.1 = true := X.is _ (List.mem_of_getElem? hj)
      have h3 : (entM P w ((.inl (.inr x) : MK), p)).key.isStr x = true := (isS p.1).trans h2
      rw [h3] at h1
      cases h1
    | some i =>
      obtain ⟨hlt, hi, _⟩ := Array.findIdx?_eq_some_iff_getElem.mp hf
      have hl : i < xs.length := by rw [← X.size]; exact hlt
      have hx : xs[i]? = some xs[i] := List.getElem?_eq_getElem hl
      have he : es[i]? = some (entM P w xs[i]) := by rw [X.at, hx]; rfl
      have he2 : es[i] = entM P w xs[i] := Option.some.inj ((Array.getElem?_eq_getElem hlt).symm.trans he)
      rw [he2] at hi
      have hm := List.getElem_mem hl
      have hk2 : xs[i].1 = (.inl (.inr x) : MK) := mIs_inj (X.is _ hm) (show L2.keyIs (.inr x) xs[i].2.1 = true from (isS _).symm.trans hi)
      dsimp only
      rw [he]
      dsimp only
      refine wpAny_bind (wpAny_dictEpoch ho hd (wpAny_bind (m_eq (x := xs[i].1) (y := .inl (.inr x)) hu (X.is _ hm) hk (X.lay _ hm) lk (wpAny_bind (wpAny_dictEpoch ho hd ?_)))))
      show wpAny _ _ (if (ep != ep) = true then _ else _) _ E _
      rw [if_neg (by simp), decide_eq_true hk2]
      exact wpAny_bind (wpAny_rule (wpAny_pure (hsome i xs[i].2 (by rw [hx, ← hk2]))))
  have shape : (∃ i t, v = .int i t) ∨ (∃ x t, v = .str x t) ∨ ∃ a, v = .ref a := by
    cases k with
    | inl k =>
      have hk : L2.keyIs k v = true := hk
      rcases L2.keyIs_shape hk with ⟨i, t, _, e⟩ | ⟨i, t, _, e⟩
      · exact .inl ⟨i, t, e⟩
      · exact .inr (.inl ⟨i, t, e⟩)
    | inr ks =>
      obtain ⟨a, e, _⟩ := hk
      exact .inr (.inr ⟨a, e⟩)
  rcases shape with ⟨i, t, rfl⟩ | ⟨x, t, rfl⟩ | ⟨a, rfl⟩
  · dsimp only
    by_cases hc : (Value.int i t :: pl.filterMap fun i => es[i]?.map (·.key)).all carriedByValue = true
    · rw [if_pos hc]; exact plain
    · rw [if_neg hc]
      (by_cases hone : ((pl.filterMap fun i => es[i]?.map (·.key)) == [Value.int i t]) = true <;> (first | rw [if_pos hone] | rw [if_neg hone]) <;> (first | refine wpAny_bind (wpAny_pure ?_) | refine wpAny_bind (m_may hk stored ?_)) <;> (
          rw [if_neg (by simp)]
          refine wpAny_bind ?_
          refine wpAny_forIn_list _ (fun rest b s' => s' = s ∧ ∃ hit, b = (none, hit) ∧ Turn xs k rest hit ∧ (∀ i ∈ rest, i ∈ pl) ∧ rest.Nodup) _ ?_ ?_ _ _ ⟨rfl, none, rfl, start, fun _ h => h, hnd⟩
          · rintro i rest b s' ⟨rfl, hit, rfl, t1, hr, hn⟩
            obtain ⟨k', u, y, hx, he, hi, hl⟩ := fits i (hr i List.mem_cons_self)
            have hr' : ∀ j ∈ rest, j ∈ pl := fun j hj => hr j (List.mem_cons_of_mem _ hj)
            obtain ⟨hn1, hn2⟩ := List.nodup_cons.mp hn
            rw [he]
            dsimp only
            rw [if_pos (beq_self_eq_true _)]
            refine wpAny_bind (wpAny_dictEpoch ho hd (wpAny_bind (m_eq (x := k') (y := k) hu hi hk hl lk (wpAny_bind (wpAny_dictEpoch ho hd ?_)))))
            show wpAny _ _ (if (ep != ep) = true then _ else _) _ E _
            rw [if_neg (by simp)]
            by_cases hkk : k' = k
            · rw [decide_eq_true hkk]
              subst hkk
              rcases t1 with ⟨rfl, _⟩ | ⟨j, p, _, hj, hjn⟩
              · first | rw [if_pos rfl] | skip
                simp only [Option.isSome_none, Bool.false_eq_true, if_false]
                first | refine wpAny_bind (wpAny_pure ?_) | skip
                refine wpAny_bind (wpAny_rule ?_)
                split
                · exact wpAny_pure (wpAny_pure (hsome i _ hx))
                · exact wpAny_pure ⟨rfl, some i, rfl, .inr ⟨i, _, rfl, hx, hn1⟩, hr', hn2⟩
              · exact absurd (X.one hj hx) (fun z => hjn (by rw [z]; exact List.mem_cons_self))
            · rw [decide_eq_false hkk]
              have t2 := t1.skip fun p hp => by rw [hx] at hp; exact hkk (congrArg Prod.fst (Option.some.inj hp))
              simp only [Bool.false_eq_true, if_false]
              refine wpAny_bind (wpAny_rule ?_)
              first | rw [if_neg (by simp)] | skip
              first
                | exact wpAny_pure ⟨rfl, hit, rfl, t2, hr', hn2⟩
                | exact wpAny_bind (wpAny_pure (wpAny_pure ⟨rfl, hit, rfl, t2, hr', hn2⟩))
          · rintro b s' ⟨rfl, hit, rfl, t1, _, _⟩
            rcases t1 with ⟨rfl, a⟩ | ⟨j, p, rfl, hj, _⟩
            · exact wpAny_pure (hnone fun j p hj => absurd (a j p hj) List.not_mem_nil)
            · exact wpAny_pure (hsome j p hj)))
  · dsimp only
    by_cases hs : (es.all fun e => isExactStrKey e.key) = true
    · rw [if_pos hs]; exact byText x t rfl hs
    · rw [if_neg hs]
      by_cases hc : (Value.str x t :: pl.filterMap fun i => es[i]?.map (·.key)).all carriedByValue = true
      · rw [if_pos hc]; exact plain
      · rw [if_neg hc]
        (by_cases hone : ((pl.filterMap fun i => es[i]?.map (·.key)) == [Value.str x t]) = true <;> (first | rw [if_pos hone] | rw [if_neg hone]) <;> (first | refine wpAny_bind (wpAny_pure ?_) | refine wpAny_bind (m_may hk stored ?_)) <;> (
          rw [if_neg (by simp)]
          refine wpAny_bind ?_
          refine wpAny_forIn_list _ (fun rest b s' => s' = s ∧ ∃ hit, b = (none, hit) ∧ Turn xs k rest hit ∧ (∀ i ∈ rest, i ∈ pl) ∧ rest.Nodup) _ ?_ ?_ _ _ ⟨rfl, none, rfl, start, fun _ h => h, hnd⟩
          · rintro i rest b s' ⟨rfl, hit, rfl, t1, hr, hn⟩
            obtain ⟨k', u, y, hx, he, hi, hl⟩ := fits i (hr i List.mem_cons_self)
            have hr' : ∀ j ∈ rest, j ∈ pl := fun j hj => hr j (List.mem_cons_of_mem _ hj)
            obtain ⟨hn1, hn2⟩ := List.nodup_cons.mp hn
            rw [he]
            dsimp only
            rw [if_pos (beq_self_eq_true _)]
            refine wpAny_bind (wpAny_dictEpoch ho hd (wpAny_bind (m_eq (x := k') (y := k) hu hi hk hl lk (wpAny_bind (wpAny_dictEpoch ho hd ?_)))))
            show wpAny _ _ (if (ep != ep) = true then _ else _) _ E _
            rw [if_neg (by simp)]
            by_cases hkk : k' = k
            · rw [decide_eq_true hkk]
              subst hkk
              rcases t1 with ⟨rfl, _⟩ | ⟨j, p, _, hj, hjn⟩
              · first | rw [if_pos rfl] | skip
                simp only [Option.isSome_none, Bool.false_eq_true, if_false]
                first | refine wpAny_bind (wpAny_pure ?_) | skip
                refine wpAny_bind (wpAny_rule ?_)
                split
                · exact wpAny_pure (wpAny_pure (hsome i _ hx))
                · exact wpAny_pure ⟨rfl, some i, rfl, .inr ⟨i, _, rfl, hx, hn1⟩, hr', hn2⟩
              · exact absurd (X.one hj hx) (fun z => hjn (by rw [z]; exact List.mem_cons_self))
            · rw [decide_eq_false hkk]
              have t2 := t1.skip fun p hp => by rw [hx] at hp; exact hkk (congrArg Prod.fst (Option.some.inj hp))
              simp only [Bool.false_eq_true, if_false]
              refine wpAny_bind (wpAny_rule ?_)
              first | rw [if_neg (by simp)] | skip
              first
                | exact wpAny_pure ⟨rfl, hit, rfl, t2, hr', hn2⟩
                | exact wpAny_bind (wpAny_pure (wpAny_pure ⟨rfl, hit, rfl, t2, hr', hn2⟩))
          · rintro b s' ⟨rfl, hit, rfl, t1, _, _⟩
            rcases t1 with ⟨rfl, a⟩ | ⟨j, p, rfl, hj, _⟩
            · exact wpAny_pure (hnone fun j p hj => absurd (a j p hj) List.not_mem_nil)
            · exact wpAny_pure (hsome j p hj)))
  · dsimp only
    by_cases hc : (Value.ref a :: pl.filterMap fun i => es[i]?.map (·.key)).all carriedByValue = true
    · rw [if_pos hc]; exact plain
    · rw [if_neg hc, if_neg hany]
      (by_cases hone : ((pl.filterMap fun i => es[i]?.map (·.key)) == [Value.ref a]) = true <;> (first | rw [if_pos hone] | rw [if_neg hone]) <;> (first | refine wpAny_bind (wpAny_pure ?_) | refine wpAny_bind (m_may hk stored ?_)) <;> (
          rw [if_neg (by simp)]
          refine wpAny_bind ?_
          refine wpAny_forIn_list _ (fun rest b s' => s' = s ∧ ∃ hit, b = (none, hit) ∧ Turn xs k rest hit ∧ (∀ i ∈ rest, i ∈ pl) ∧ rest.Nodup) _ ?_ ?_ _ _ ⟨rfl, none, rfl, start, fun _ h => h, hnd⟩
          · rintro i rest b s' ⟨rfl, hit, rfl, t1, hr, hn⟩
            obtain ⟨k', u, y, hx, he, hi, hl⟩ := fits i (hr i List.mem_cons_self)
            have hr' : ∀ j ∈ rest, j ∈ pl := fun j hj => hr j (List.mem_cons_of_mem _ hj)
            obtain ⟨hn1, hn2⟩ := List.nodup_cons.mp hn
            rw [he]
            dsimp only
            rw [if_pos (beq_self_eq_true _)]
            refine wpAny_bind (wpAny_dictEpoch ho hd (wpAny_bind (m_eq (x := k') (y := k) hu hi hk hl lk (wpAny_bind (wpAny_dictEpoch ho hd ?_)))))
            show wpAny _ _ (if (ep != ep) = true then _ else _) _ E _
            rw [if_neg (by simp)]
            by_cases hkk : k' = k
            · rw [decide_eq_true hkk]
              subst hkk
              rcases t1 with ⟨rfl, _⟩ | ⟨j, p, _, hj, hjn⟩
              · first | rw [if_pos rfl] | skip
                simp only [Option.isSome_none, Bool.false_eq_true, if_false]
                first | refine wpAny_bind (wpAny_pure ?_) | skip
                refine wpAny_bind (wpAny_rule ?_)
                split
                · exact wpAny_pure (wpAny_pure (hsome i _ hx))
                · exact wpAny_pure ⟨rfl, some i, rfl, .inr ⟨i, _, rfl, hx, hn1⟩, hr', hn2⟩
              · exact absurd (X.one hj hx) (fun z => hjn (by rw [z]; exact List.mem_cons_self))
            · rw [decide_eq_false hkk]
              have t2 := t1.skip fun p hp => by rw [hx] at hp; exact hkk (congrArg Prod.fst (Option.some.inj hp))
              simp only [Bool.false_eq_true, if_false]
              refine wpAny_bind (wpAny_rule ?_)
              first | rw [if_neg (by simp)] | skip
              first
                | exact wpAny_pure ⟨rfl, hit, rfl, t2, hr', hn2⟩
                | exact wpAny_bind (wpAny_pure (wpAny_pure ⟨rfl, hit, rfl, t2, hr', hn2⟩))
          · rintro b s' ⟨rfl, hit, rfl, t1, _, _⟩
            rcases t1 with ⟨rfl, a⟩ | ⟨j, p, rfl, hj, _⟩
            · exact wpAny_pure (hnone fun j p hj => absurd (a j p hj) List.not_mem_nil)
            · exact wpAny_pure (hsome j p hj)))
end
end MixD
end PySem
end
section
set_option Elab.async false
set_option autoImplicit false
set_option linter.all false
set_option maxRecDepth 100000
set_option maxHeartbeats 1000000
namespace PySem
namespace MixD
open Sem (wp)
open PyProof.Rows L2
section
variable {P : Program} {w : World} {A : Around} {E : Value → Shared → Prop} {s : Shared} {es : Array DictEntry} {xs : List (MK × Value × Value)}
def atM (xs : List (MK × Value × Value)) (k : MK) : Option (Value × Value) := (xs.find? fun x => decide (x.1 = k)).map (·.2)
theorem atM_none {k : MK} (h : ∀ (j : Nat) (p : Value × Value), xs[j]? ≠ some (k, p)) : atM xs k = none := by
  unfold atM
  rw [Option.map_eq_none_iff, List.find?_eq_none]
  intro x hx q
  obtain ⟨j, hj⟩ := List.mem_iff_getElem?.mp hx
  exact h j x.2 (by rw [hj, ← of_decide_eq_true q])
theorem atM_some {h : Heap} {k : MK} {j : Nat} {p : Value × Value} (X : Ents P w h es xs) (hj : xs[j]? = some (k, p)) : atM xs k = some p := by
  unfold atM
  cases hf : xs.find? (fun x => decide (x.1 = k)) with
  | none => exact absurd (List.find?_eq_none.mp hf _ (List.mem_of_getElem? hj)) (by simp)
  | some y =>
    have hy : y.1 = k := of_decide_eq_true (by simpa using List.find?_some hf)
    obtain ⟨i, hi⟩ := List.mem_iff_getElem?.mp (List.mem_of_find?_eq_some hf)
    obtain ⟨y1, y2⟩ := y
    have hy : y1 = k := hy
    subst hy
    have e := X.one hi hj
    subst e
    rw [hi] at hj
    cases hj
    rfl
theorem m_dictGet {d : Addr} {o : Obj} {ep : Nat} {k : MK} {v : Value} {Q : Option Value → Shared → Prop} (hu : A.units < cLine) (hk : mIs P w s.heap k v) (lk : (mData k).canLay0 = true) (ho : s.heap.get? d = some o) (hd : o.data = .dict es ep) (X : Ents P w s.heap es xs)
    (h : Q ((atM xs k).map (·.2)) { s with toks := s.toks + mToks k }) : wpAny (model P w) A (dictGet d v) Q E s := by
  unfold dictGet
  try with_reducible refine wpAny_holding ?_
  refine wpAny_bind (m_hash hu hk (wpAny_bind (m_find (s := { s with toks := s.toks + mToks k }) hu hk lk ho hd X (fun hno => ?_) fun j p hj => ?_)))
  · rw [atM_none hno] at h
    exact wpAny_pure h
  · rw [atM_some X hj] at h
    refine wpAny_bind (wpAny_dictEntries (s := { s with toks := s.toks + mToks k }) ho hd ?_)
    rw [X.at j, hj]
    exact wpAny_pure h
def setM (xs : List (MK × Value × Value)) (k : MK) (v r : Value) : List (MK × Value × Value) :=
  if (atM xs k).isSome = true then xs.map (fun x => if x.1 = k then (x.1, x.2.1, r) else x) else xs ++ [(k, v, r)]
theorem m_dictSet {d : Addr} {o : Obj} {ep : Nat} {k : MK} {v r : Value} {Q : Unit → Shared → Prop} (hu : A.units < cLine) (hk : mIs P w s.heap k v) (lk : (mData k).canLay0 = true) (ho : s.heap.get? d = some o) (hc : o.ExactDict) (hd : o.data = .dict es ep) (X : Ents P w s.heap es xs) (hz : xs.length ≤ sizeLine)
    (hQ : ∀ h', (∃ o' es' ep', h'.get? d = some o' ∧ o'.ExactDict ∧ o'.data = .dict es' ep' ∧ es'.toList = (setM xs k v r).map (entM P w)) → Heap.SameBut d s.heap h' → Q () { s with heap := h', toks := s.toks + mToks k }) :
    wpAny (model P w) A (dictSet d v r) Q E s := by
  unfold dictSet
  try with_reducible refine wpAny_holding ?_
  refine wpAny_bind (m_hash hu hk ?_)
  unfold dictSetHashed
  try with_reducible refine wpAny_holding ?_
  refine wpAny_bind (m_find (s := { s with toks := s.toks + mToks k }) hu hk lk ho hd X (fun hno => ?_) fun j p hj => ?_)
  · refine wpAny_bind (wpAny_rule (wpAny_updateDictKeys (hz := by have := X.size; omega) (s := { s with toks := s.toks + mToks k }) ho hd (hQ _ ⟨_, _, ep + 1, Heap.get?_update_self _ ho (Obj.isFreed_of_dict (Obj.data_mapDictKeys hd _)), hc.mapDictKeys _, Obj.data_mapDictKeys hd _, ?_⟩ (Heap.SameBut.update ..))))
    unfold setM
    rw [atM_none hno]
    simp [X.eq, entM]
  · refine wpAny_bind (wpAny_rule (wpAny_bind (wpAny_updateDict (s := { s with toks := s.toks + mToks k }) ho hd (wpAny_point (hQ _ ⟨_, _, ep, Heap.get?_update_self _ ho (Obj.isFreed_of_dict (Obj.data_mapDict hd _)), hc.mapDict _, Obj.data_mapDict hd _, ?_⟩ (Heap.SameBut.update ..))))))
    unfold setM
    rw [atM_some X hj, if_pos (by rfl), Array.toList_modify, X.eq]
    refine List.ext_getElem? fun i => ?_
    rw [List.getElem?_modify, List.getElem?_map, List.getElem?_map, List.getElem?_map]
    cases hi : xs[i]? with
    | none => rfl
    | some x =>
      obtain ⟨x1, x2⟩ := x
      by_cases e : x1 = k
      · subst e
        have e2 := X.one hj hi
        subst e2
        simp [entM]
      · have e2 : ¬ j = i := fun z => e (by subst z; rw [hj] at hi; exact (congrArg Prod.fst (Option.some.inj hi)).symm)
        simp [e, e2, entM]
end

/-! ### the tracked dict -/
abbrev Ent := MK × Addr × V
def keyRel (x : Ent) (u : Value) : Prop := match x.1 with
  | .inl k => L2.keyIs k u = true
  | .inr _ => u = .ref x.2.1
def entRel (x : Ent) (q : MK × Value × Value) : Prop := x.1 = q.1 ∧ keyRel x q.2.1 ∧ RelV x.2.2 q.2.2
def mixO (P : Program) (w : World) (a : Addr) (xs : List Ent) : HO := .ext fun h => ((xs.map (·.1)).Nodup ∧ xs.length ≤ sizeLine ∧ (a == sysModules) = false ∧ ∀ x ∈ xs, (mData x.1).canLay0 = true) ∧
  ∃ o es ep qs, h.get? a = some o ∧ o.ExactDict ∧ o.data = .dict es ep ∧ es.toList = qs.map (entM P w) ∧ Paired entRel xs qs
theorem mixO_ok {P : Program} {w : World} {H : Hp} {h : Heap} {a : Addr} {xs : List Ent} (c : (xs.map (·.1)).Nodup ∧ xs.length ≤ sizeLine ∧ (a == sysModules) = false ∧ ∀ x ∈ xs, (mData x.1).canLay0 = true)
    {o : Obj} {es : Array DictEntry} {ep : Nat} {qs : List (MK × Value × Value)} (ho : h.get? a = some o) (hc : o.ExactDict) (hd : o.data = .dict es ep) (he : es.toList = qs.map (entM P w)) (hp : Paired entRel xs qs) : ObjOk P w H h a (mixO P w a xs) :=
  ⟨⟨c, o, es, ep, qs, ho, hc, hd, he, hp⟩, ⟨o, ho⟩, fun _ _ ⟨c, o, es, ep, qs, ho, r⟩ k => ⟨c, o, es, ep, qs, k o ho, r⟩⟩
def absE (xs : List Ent) : List (MK × V) := xs.map fun x => (x.1, x.2.2)
/-- at a stands a dict with the keys and values ms -/
def MixH (P : Program) (w : World) (H : Hp) (a : Addr) (ms : List (MK × V)) : Prop := ∃ xs : List Ent, absE xs = ms ∧ H a = some (mixO P w a xs) ∧ ∀ x ∈ xs, ∀ ks, x.1 = .inr ks → H x.2.1 = some (.tup (ks.map kV))
/-- y is the key k -/
def MKey (H : Hp) (y : V) (k : MK) (b : Addr) : Prop := (∃ k', k = .inl k' ∧ y = kV k') ∨ ∃ ks, k = .inr ks ∧ y = .ref b ∧ H b = some (.tup (ks.map kV))
section
variable {P : Program} {w : World} {H H' : Hp} {h : Heap} {a b : Addr} {ms : List (MK × V)} {y : V} {u : Value} {k : MK}
theorem MixH.keep (x : MixH P w H a ms) (s : ∀ c o, H c = some o → H' c = some o) : MixH P w H' a ms := by
  obtain ⟨xs, e, ha, ht⟩ := x
  exact ⟨xs, e, s _ _ ha, fun x hx ks q => s _ _ (ht x hx ks q)⟩
theorem MixH.keepB {p : Addr} {o : HO} (x : MixH P w H a ms) (hp : H p = some o) (nt : ∀ xs, o ≠ .tup xs) (ne : a ≠ p) (s : ∀ c o, c ≠ p → H c = some o → H' c = some o) : MixH P w H' a ms := by
  obtain ⟨xs, e, ha, ht⟩ := x
  exact ⟨xs, e, s _ _ ne ha, fun x hx ks q => s _ _ (fun z => by have q2 := ht x hx ks q; rw [z, hp] at q2; exact nt _ (Option.some.inj q2)) (ht x hx ks q)⟩
theorem MKey.is (ok : HOk P w H h) (m : MKey H y k b) (r : RelV y u) : mIs P w h k u := by
  rcases m with ⟨k', rfl, rfl⟩ | ⟨ks, rfl, rfl, hb⟩
  · exact kV_is (P := P) (w := w) r
  · exact ⟨b, r, key_of ok hb⟩
theorem mix_ents (ok : HOk P w H h) {xs : List Ent} (ha : H a = some (mixO P w a xs)) (ht : ∀ x ∈ xs, ∀ ks, x.1 = .inr ks → H x.2.1 = some (.tup (ks.map kV))) :
    xs.length ≤ sizeLine ∧ (a == sysModules) = false ∧ ∃ o es ep qs, h.get? a = some o ∧ o.ExactDict ∧ o.data = .dict es ep ∧ Ents P w h es qs ∧ Paired entRel xs qs := by
  have φ := (ok a _ ha).1
  obtain ⟨⟨nd, z, hs, hl⟩, o, es, ep, qs, ho, hc, hd, he, hp⟩ := φ
  refine ⟨z, hs, o, es, ep, qs, ho, hc, hd, ?_, hp⟩
  have keys : xs.map (·.1) = qs.map (·.1) := by
    clear nd z hl he ha ht
    induction hp with
    | nil => rfl
    | cons r _ ih => rw [List.map_cons, List.map_cons, r.1, ih]
  have all : ∀ q ∈ qs, mIs P w h q.1 q.2.1 ∧ (mData q.1).canLay0 = true := by
    clear nd z he ha keys
    induction hp with
    | nil => intro q hq; cases hq
    | @cons x q xs qs r t ih =>
      intro q' hq
      rcases List.mem_cons.mp hq with rfl | hq
      · obtain ⟨r1, r2, r3⟩ := r
        refine ⟨?_, by rw [← r1]; exact hl x List.mem_cons_self⟩
        have hx := ht x List.mem_cons_self
        unfold keyRel at r2
        rw [← r1]
        cases hk : x.1 with
        | inl k' => rw [hk] at r2; exact r2
        | inr ks => rw [hk] at r2; exact ⟨x.2.1, r2, key_of ok (hx ks hk)⟩
      · exact ih (fun y hy => ht y (List.mem_cons_of_mem _ hy)) (fun y hy => hl y (List.mem_cons_of_mem _ hy)) q' hq
  exact ⟨he, fun q hq => (all q hq).1, fun q hq => (all q hq).2, by rw [← keys]; exact nd⟩
theorem mix_val {xs : List Ent} {qs : List (MK × Value × Value)} (p : Paired entRel xs qs) (k : MK) : RelO (valV (absE xs) k) ((atM qs k).map (·.2)) := by
  induction p with
  | nil => exact True.intro
  | @cons x q xs qs r t ih =>
    obtain ⟨r1, r2, r3⟩ := r
    show RelO (valV ((x.1, x.2.2) :: absE xs) k) _
    by_cases e : x.1 = k
    · have e' : q.1 = k := r1.symm.trans e
      have b : atM (q :: qs) k = some q.2 := by simp [atM, List.find?_cons, e']
      rw [valV_pos (show (x.1, x.2.2).1 = k from e), b]; exact r3
    · have e' : ¬ q.1 = k := fun z => e (r1.trans z)
      have b : atM (q :: qs) k = atM qs k := by simp [atM, List.find?_cons, e']
      rw [valV_neg (show ¬ (x.1, x.2.2).1 = k from e), b]; exact ih
def putE (xs : List Ent) (k : MK) (b : Addr) (v : V) : List Ent := if (valV (absE xs) k).isSome = true then xs.map (fun x => if x.1 = k then (x.1, x.2.1, v) else x) else xs ++ [(k, b, v)]
theorem absE_any {xs : List Ent} {k : MK} : ((absE xs).any fun kv => decide (kv.1 = k)) = (valV (absE xs) k).isSome := valV_any _ _
theorem putE_abs {xs : List Ent} {k : MK} {b : Addr} {v : V} : absE (putE xs k b v) = putK (absE xs) k v := by
  unfold putE putK
  rw [absE_any]
  split
  · unfold absE
    rw [List.map_map, List.map_map]
    refine List.map_congr_left fun x _ => ?_
    by_cases e : x.1 = k <;> simp [e]
  · simp [absE]
theorem putE_rel {xs : List Ent} {qs : List (MK × Value × Value)} (p : Paired entRel xs qs) {k : MK} {b : Addr} {v : V} {u r : Value} (hk : keyRel (k, b, v) u) (rv : RelV v r) : Paired entRel (putE xs k b v) (setM qs k u r) := by
  have e := (mix_val p k).isSome_eq
  rw [Option.isSome_map] at e
  unfold putE setM
  rw [e]
  split
  · clear e
    rename_i e0
    clear e0
    induction p with
    | nil => exact .nil
    | @cons x q xs qs r1 t ih =>
      rw [List.map_cons, List.map_cons]
      refine .cons ?_ ih
      obtain ⟨a1, a2, a3⟩ := r1
      by_cases z : x.1 = k
      · rw [if_pos z, if_pos (a1.symm.trans z)]; exact ⟨a1, a2, rv⟩
      · rw [if_neg z, if_neg (fun y => z (a1.trans y))]; exact ⟨a1, a2, a3⟩
  · exact Paired.snoc p ⟨rfl, hk, rv⟩
theorem putE_keys {xs : List Ent} {k : MK} {b : Addr} {v : V} (h : (valV (absE xs) k).isSome = true) : (putE xs k b v).map (·.1) = xs.map (·.1) := by
  unfold putE
  rw [if_pos h, List.map_map]
  refine List.map_congr_left fun x _ => ?_
  by_cases e : x.1 = k <;> simp [e]
theorem putE_ok {xs : List Ent} {k : MK} {b : Addr} {v : V} (c : (xs.map (·.1)).Nodup ∧ xs.length ≤ sizeLine ∧ (a == sysModules) = false ∧ ∀ x ∈ xs, (mData x.1).canLay0 = true) (hl : xs.length < sizeLine) (lk : (mData k).canLay0 = true) :
    ((putE xs k b v).map (·.1)).Nodup ∧ (putE xs k b v).length ≤ sizeLine ∧ (a == sysModules) = false ∧ ∀ x ∈ putE xs k b v, (mData x.1).canLay0 = true := by
  obtain ⟨nd, z, hs, lay⟩ := c
  by_cases h : (valV (absE xs) k).isSome = true
  · have e := putE_keys (b := b) (v := v) h
    have el : (putE xs k b v).length = xs.length := by have := congrArg List.length e; simpa using this
    refine ⟨by rw [e]; exact nd, by rw [el]; exact z, hs, fun x hx => ?_⟩
    have : x.1 ∈ xs.map (·.1) := by rw [← e]; exact List.mem_map.mpr ⟨x, hx, rfl⟩
    obtain ⟨y, hy, q⟩ := List.mem_map.mp this
    rw [← q]
    exact lay y hy
  · have nk : ∀ x ∈ xs, x.1 ≠ k := fun x hx q => h (by
      rw [← absE_any]
      exact List.any_eq_true.mpr ⟨(x.1, x.2.2), List.mem_map.mpr ⟨x, hx, rfl⟩, decide_eq_true q⟩)
    unfold putE
    rw [if_neg h]
    refine ⟨?_, by rw [List.length_append]; show _ + 1 ≤ _; omega, hs, fun x hx => ?_⟩
    · rw [List.map_append, List.nodup_append]
      refine ⟨nd, by simp, ?_⟩
      intro x hx y hy q
      obtain ⟨x', hx', e⟩ := List.mem_map.mp hx
      simp only [List.map_cons, List.map_nil, List.mem_singleton] at hy
      exact nk x' hx' (by rw [e, q, hy])
    · rcases List.mem_append.mp hx with hx | hx
      · exact lay x hx
      · rw [List.mem_singleton.mp hx]; exact lk
end
section
variable {X : Cx} {pins : List (Addr × Obj)} {σ : L2.St} {H : Hp} {s : Shared} {a b : Addr} {y v d : V} {u r : Value} {A : Around} {E : Value → Shared → Prop} {ms : List (MK × V)} {k : MK}
theorem x_typeIs (I : Inv X pins σ H s) (m : MixH X.prog X.w H a ms) : s.TypeIs (.ref a) "dict" ∧ (∀ b, Value.ref a = .ref b → ∃ ob, s.heap.get? b = some ob ∧ ob.dict = none) := by
  obtain ⟨xs, e, ha, ht⟩ := m
  obtain ⟨_, _, o, es, ep, qs, ho, hc, _⟩ := mix_ents I.hok ha ht
  exact ⟨⟨o, ho, hc.1⟩, fun b q => by cases q; exact ⟨o, ho, hc.2.1⟩⟩
theorem x_getItem {Q : Value → Shared → Prop} (hu : A.units + 1 < cLine) (I : Inv X pins σ H s) (m : MixH X.prog X.w H a ms) (hk : MKey H y k b) (lk : (mData k).canLay0 = true) (hv : valV ms k = some v) (ry : RelV y u) (h : ∀ w' s', Inv X pins σ H s' → RelV v w' → Q w' s') :
    wpAny (model X.prog X.w) A (getItem (.ref a) u) Q E s := by
  obtain ⟨xs, rfl, ha, ht⟩ := m
  obtain ⟨_, _, o, es, ep, qs, ho, hc, hd, X1, p⟩ := mix_ents I.hok ha ht
  obtain ⟨w', hw, rw'⟩ := RelO.some_of (v := v) (o := (atM qs k).map (·.2)) (by rw [← hv]; exact mix_val p k)
  have hT : s.TypeIs (.ref a) "dict" := ⟨o, ho, hc.1⟩
  unfold getItem
  try with_reducible refine wpAny_holding ?_
  refine wpAny_bind (wpAny_sequenceKey hT (by decide) ?_)
  refine wpAny_bind (wpAny_callSpecial?_slot (name := Str.ofString "__getitem__") hT slot_dict_getitem (wpAny_call_entry slot_dict_getitem hT entry_dict_getitem ?_ (args_dict_getitem _ _)))
  show wpAny _ _ (dictGet a u >>= _) _ _ s
  refine wpAny_bind (m_dictGet (P := X.prog) (w := X.w) hu (hk.is I.hok ry) lk ho hd X1 ?_)
  rw [hw]
  exact wpAny_pure ⟨w', rfl, wpAny_pure (h w' _ (I.tok _) rw')⟩
theorem x_get2 {Q : Value → Shared → Prop} (hu : A.units + 1 < cLine) (I : Inv X pins σ H s) (m : MixH X.prog X.w H a ms) (hk : MKey H y k b) (lk : (mData k).canLay0 = true) (ry : RelV y u) (rd : RelV d r) (h : ∀ w' s', Inv X pins σ H s' → RelV ((valV ms k).getD d) w' → Q w' s') :
    wpAny (model X.prog X.w) A (call (.builtin "dict.get") [.ref a, u, r]) Q E s := by
  obtain ⟨xs, rfl, ha, ht⟩ := m
  obtain ⟨_, hS, o, es, ep, qs, ho, hc, hd, X1, p⟩ := mix_ents I.hok ha ht
  have hT : s.TypeIs (.ref a) "dict" := ⟨o, ho, hc.1⟩
  refine wpAny_call_entry PySem.F.slot_dict_get hT PySem.F.entry_dict_get ?_ (PySem.F.args_dict_get_3 _ _ _)
  show wpAny _ _ (dictGet a u >>= _) _ _ s
  refine wpAny_bind (m_dictGet (P := X.prog) (w := X.w) hu (hk.is I.hok ry) lk ho hd X1 ?_)
  have rel := (mix_val p k).getD rd
  cases hf : (atM qs k).map (·.2) with
  | some z =>
    rw [hf] at rel
    exact wpAny_pure ⟨z, rfl, h z _ (I.tok _) rel⟩
  | none =>
    rw [hf] at rel
    show wpAny _ _ (Builtin.Dict.missed a u >>= _) _ _ _
    exact wpAny_bind (wpAny_missed_other hS (wpAny_pure ⟨r, rfl, h r _ (I.tok _) rel⟩))
theorem x_setItem {Q : Unit → Shared → Prop} (hu : A.units + 1 < cLine) (I : Inv X pins σ H s) (m : MixH X.prog X.w H a ms) (hk : MKey H y k b) (lk : (mData k).canLay0 = true) (hz : ms.length < sizeLine) (ry : RelV y u) (rv : RelV v r)
    (h : ∀ s' o, Inv X pins σ (upd H a o) s' → MixH X.prog X.w (upd H a o) a (putK ms k v) → (∀ xs, o ≠ .tup xs) → Q () s') : wpAny (model X.prog X.w) A (setItem (.ref a) u r) Q E s := by
  obtain ⟨xs, rfl, ha, ht⟩ := m
  have φ := (I.hok a _ ha).1
  obtain ⟨c, _⟩ := φ
  obtain ⟨z, hS, o, es, ep, qs, ho, hc, hd, X1, p⟩ := mix_ents I.hok ha ht
  have hT : s.TypeIs (.ref a) "dict" := ⟨o, ho, hc.1⟩
  have hl : xs.length < sizeLine := by have e : (absE xs).length = xs.length := List.length_map _; rw [e] at hz; exact hz
  unfold setItem
  try with_reducible refine wpAny_holding ?_
  refine wpAny_bind (wpAny_sequenceKey hT (by decide) ?_)
  refine wpAny_bind (wpAny_callSpecial?_slot (name := Str.ofString "__setitem__") hT slot_dict_setitem (wpAny_call_entry slot_dict_setitem hT entry_dict_setitem ?_ (args_dict_setitem _ _ _)))
  show wpAny _ _ (Builtin.Dict.notOrdered "__setitem__" ⟨[.ref a, u, r], []⟩ >>= _) _ _ s
  refine wpAny_bind (wpAny_notOrdered_dict hT ?_)
  show wpAny _ _ (dictSet a u r >>= _) _ _ s
  refine wpAny_bind (m_dictSet (P := X.prog) (w := X.w) hu (hk.is I.hok ry) lk ho hc hd X1 (by rw [← Paired.length p]; exact z) fun h' ⟨o', es', ep', ho', hc', hd', he'⟩ hs => wpAny_pure ⟨.none, rfl, wpAny_pure (h _ (mixO X.prog X.w a (putE xs k b v)) ?_ ?_ (fun _ q => nomatch q))⟩)
  · refine d_write I (by rw [ha]; exact True.intro) hs ⟨o', ho'⟩ (mixO_ok (putE_ok c hl lk) ho' hc' hd' he' (putE_rel p ?_ rv))
    rcases hk with ⟨k', rfl, rfl⟩ | ⟨ks, rfl, rfl, hb⟩
    · exact kV_is (P := X.prog) (w := X.w) ry
    · exact ry
  · have nt : ∀ c ys, H c = some (.tup ys) → upd H a (mixO X.prog X.w a (putE xs k b v)) c = some (.tup ys) := fun c ys q => by
      rw [upd_ne (fun z => by rw [z, ha] at q; cases q)]
      exact q
    refine ⟨_, putE_abs, upd_same, fun x hx ks q => ?_⟩
    unfold putE at hx
    split at hx
    · obtain ⟨x', hx', e⟩ := List.mem_map.mp hx
      by_cases z2 : x'.1 = k
      · rw [if_pos z2] at e
        subst e
        exact nt _ _ (ht x' hx' ks q)
      · rw [if_neg z2] at e
        subst e
        exact nt _ _ (ht x' hx' ks q)
    · rcases List.mem_append.mp hx with hx | hx
      · exact nt _ _ (ht x hx ks q)
      · rw [List.mem_singleton.mp hx] at q ⊢
        rcases hk with ⟨k', rfl, _⟩ | ⟨ks', rfl, rfl, hb⟩
        · cases q
        · cases q
          exact nt _ _ hb
/-- a dict with texts and ints for keys is such a dict -/
def convE (kvs : List (L2.Key × V)) : List Ent := kvs.map fun x => (.inl x.1, 0, x.2)
theorem conv_qs {P : Program} {w : World} {vs : List (L2.Key × Value)} : ∀ {es : List DictEntry} {kvs : List (L2.Key × V)}, Pairs (mixKind P w) es vs → KV kvs vs → (∀ e ∈ es, ∃ k, (mixKind P w).is k e.key = true ∧ e.hash = (mixKind P w).hash k) → ∃ qs, es = qs.map (entM P w) ∧ Paired entRel (convE kvs) qs := by
  induction vs with
  | nil =>
    intro es kvs p r _
    cases p
    cases r
    exact ⟨[], rfl, .nil⟩
  | cons kv vs ih =>
    intro es kvs p r hk
    cases p with
    | @cons e _ es' _ h1 h2 h3 =>
      cases r with
      | @cons p _ ps _ r1 r2 =>
        obtain ⟨qs, q1, q2⟩ := ih h3 r2 fun e he => hk e (List.mem_cons_of_mem _ he)
        obtain ⟨k, k1, k2⟩ := hk e List.mem_cons_self
        have ek : k = kv.1 := (mixKind P w).inj _ _ _ k1 h1
        subst ek
        obtain ⟨eh, ekey, ev⟩ := e
        have h2 : ev = kv.2 := h2
        have k2 : eh = (mixKind P w).hash kv.1 := k2
        refine ⟨(.inl kv.1, ekey, kv.2) :: qs, ?_, .cons ⟨?_, ?_, r1.2⟩ q2⟩
        · rw [List.map_cons, ← q1, h2, k2]
          rfl
        · exact congrArg Sum.inl r1.1
        · show L2.keyIs p.1 ekey = true
          rw [r1.1]
          exact h1
theorem x_conv {kvs : List (L2.Key × V)} (I : Inv X pins σ H s) (e : H a = some (.dK kvs)) (hl : ∀ x ∈ kvs, (kD x.1).canLay0 = true) :
    Inv X pins σ (upd H a (mixO X.prog X.w a (convE kvs))) s := by
  obtain ⟨z, hS, vs, rel, o, es, ep, ho, hc, hd, hk, hp, nd⟩ := dk_of I.hok e
  obtain ⟨qs, q1, q2⟩ := conv_qs hp rel (fun e he => hk e (Array.mem_toList_iff.mp he))
  refine I.write (x := a) (e := a) (h' := s.heap) (t' := s.toks) (by rw [e]; exact True.intro) (.inl rfl) (fun _ _ _ q => q) ⟨o, ho⟩ (mixO_ok ⟨?_, ?_, hS, fun x hx => ?_⟩ ho hc hd q1 q2)
  · have e1 : (convE kvs).map (·.1) = (vs.map (·.1)).map Sum.inl := by
      clear q2 hp z hd hk q1 e hl nd
      induction rel with
      | nil => rfl
      | @cons p q ps qs r _ ih =>
        show Sum.inl p.1 :: (convE ps).map (·.1) = _
        rw [ih, r.1]
        rfl
    rw [e1]
    exact List.Pairwise.map _ (fun x y hne q => hne (Sum.inl.inj q)) nd
  · show (kvs.map _).length ≤ _
    rw [List.length_map]; exact z
  · obtain ⟨y, hy, q⟩ := List.mem_map.mp hx
    rw [← q]
    exact hl y hy
theorem conv_mix {P : Program} {w : World} {H : Hp} {kvs : List (L2.Key × V)} : MixH P w (upd H a (mixO P w a (convE kvs))) a (kvs.map fun x => (.inl x.1, x.2)) :=
  ⟨convE kvs, by unfold absE convE; rw [List.map_map]; rfl, upd_same, fun x hx ks q => by
    obtain ⟨y, _, e⟩ := List.mem_map.mp hx
    rw [← e] at q
    cases q⟩
end
end MixD
end PySem
namespace L2
open PySem PySem.Spec PyProof.Rows PySem.MixD
/-! readings and rules -/
/-- d[y], d.get(y, x), d[y] = v of a dict with mixed keys -/
def tXGet (P : Program) (w : World) (td ty : TE) : TE := fun σ H Q => td σ H fun x H1 => ty σ H1 fun y H2 => ∃ a ms k b v, x = .ref a ∧ MixH P w H2 a ms ∧ MKey H2 y k b ∧ (mData k).canLay0 = true ∧ valV ms k = some v ∧ Q v H2
def tXGet2 (P : Program) (w : World) (td ty tx : TE) : TE := fun σ H Q => td σ H fun x H1 => ∃ a ms, x = .ref a ∧ MixH P w H1 a ms ∧ ty σ H1 fun y H2 => tx σ H2 fun z H3 => ∃ ms' k b, MixH P w H3 a ms' ∧ MKey H3 y k b ∧ (mData k).canLay0 = true ∧ Q ((valV ms' k).getD z) H3
def sXPut (P : Program) (w : World) (td ty tv : TE) : TS := fun D σ H => tv σ H fun v H1 => td σ H1 fun x H2 => ty σ H2 fun y H3 => ∃ a ms k b, x = .ref a ∧ MixH P w H3 a ms ∧ MKey H3 y k b ∧ (mData k).canLay0 = true ∧ ms.length < sizeLine ∧
  ∀ o, MixH P w (upd H3 a o) a (putK ms k v) → (∀ xs, o ≠ .tup xs) → D.nx σ (upd H3 a o)
/-- behind the statement, the heap may be told otherwise -/
def tRedo (X : Cx) (t : TS) : TS := fun D σ H => t { D with nx := fun σ' H' => ∃ H'', (∀ pins s, Inv X pins σ' H' s → Inv X pins σ' H'' s) ∧ D.nx σ' H'' } σ H
section
variable {X : Cx} {o i e f value : Expr} {pos pos' apos cpos : Pos} {td ty tx tv : TE} {st : Stmt} {t : TS}
theorem pe_xget (hu : X.A.units + 1 < cLine) (ho : PE X o td) (hi : PE X i ty) (hs : NoSl i) : PE X (.Subscript o i pos) (tXGet X.prog X.w td ty) := by
  refine ⟨fun pins s σ H Q I h => ?_⟩
  refine subD_of PySem.F.slot_dict_getitem.lookup hs (thn (ho.run pins s σ H _ I h) fun u s1 ⟨x, H1, I1, rx, q1⟩ => thn (hi.run pins s1 σ H1 _ I1 q1) fun iv s2 ⟨y, H2, I2, ry, a, ms, k, b, v, ex, m, hk, lk, hv, q2⟩ => ?_)
  subst ex
  obtain rfl : u = Value.ref a := rx
  exact ⟨(x_typeIs I2 m).1, x_getItem hu I2 m hk lk hv ry fun w' s3 I3 rw' => ⟨v, H2, I3, rw', q2⟩⟩
theorem pe_xget2 (hu : X.A.units + 1 < cLine) (ho : PE X o td) (he : PE X e ty) (hf : PE X f tx) (m : M2 X o "get" apos e f cpos) : PE X (.Call (.Attribute o "get" apos) [e, f] [] cpos) (tXGet2 X.prog X.w td ty tx) := by
  refine ⟨fun pins s σ H Q I h => ?_⟩
  refine wpAny_Call_method m.base m.few m.line PySem.F.plainAttrs_dict PySem.F.slot_dict_get PySem.F.type_dict_get (thn (ho.run pins s σ H _ I h) fun u s1 ⟨x, H1, I1, rx, a, ms, ex, d, q1⟩ => ?_)
  subst ex
  obtain rfl : u = Value.ref a := rx
  obtain ⟨t1, t2⟩ := x_typeIs I1 d
  refine ⟨t1, t2, ?_⟩
  rw [m.trees]
  refine Calls.callWith_builtin rfl (Calls.evalArgs_plain (Calls.spliced_cons (thn (he.run pins s1 σ H1 _ I1 q1) fun iv s2 ⟨y, H2, I2, ry, q2⟩ =>
    Calls.spliced_cons (thn (hf.run pins s2 σ H2 _ I2 q2) fun fv s3 ⟨z, H3, I3, rz, ms', k, b, m3, hk, lk, q3⟩ => Calls.spliced_nil ?_))))
  exact x_get2 hu I3 m3 hk lk ry rz fun w' s4 I4 rw' => ⟨_, H3, I4, rw', q3⟩
theorem ps_xput (hu : X.A.units + 1 < cLine) (ho : PE X o td) (hi : PE X i ty) (hv : PE X value tv) (hs : swapsWith value (some (.Subscript o i pos')) pos.line X.env = pure false) :
    PS X (.Assign [.Subscript o i pos'] value pos) (sXPut X.prog X.w td ty tv) := by
  refine ⟨fun pins s σ H D I h => ?_⟩
  refine wpAny_Assign_Subscript (thn (hv.run pins s σ H _ I h) fun r s1 ⟨v, H1, I1, rv, q1⟩ => thn (ho.run pins s1 σ H1 _ I1 q1) fun u s2 ⟨x, H2, I2, rx, q2⟩ => thn (hi.run pins s2 σ H2 _ I2 q2) fun iv s3 ⟨y, H3, I3, ry, a, ms, k, b, ex, m, hk, lk, hz, q3⟩ => ?_) hs
  subst ex
  obtain rfl : u = Value.ref a := rx
  exact x_setItem hu I3 m hk lk hz ry rv fun s4 o4 I4 m4 nt => ⟨σ, _, I4, q3 _ m4 nt⟩
theorem ps_redo (h : PS X st t) : PS X st (tRedo X t) := by
  refine ⟨fun pins s σ H D I k => thn (h.run pins s σ H _ I k) fun f s' q => ?_⟩
  cases f with
  | next =>
    obtain ⟨σ', H', I', H'', c, d⟩ := q
    exact ⟨σ', H'', c _ _ I', d⟩
  | brk => exact q
  | cont => exact q
  | ret u => exact q
end
end L2
end
section
set_option Elab.async false
set_option autoImplicit false
set_option linter.all false
set_option maxRecDepth 100000
set_option maxHeartbeats 2000000
/-! an own class's __getitem__, __setitem__, __contains__ -/
namespace L2
open PySem PySem.Spec PyProof.Rows
/-- the class at C has a def at f for the special name m -/
structure Spc (K : PySem.W.Frag) (C : Addr) (m : Str) (f : Addr) : Prop where
  find : PySem.W.findIn K (.ref C) m = some (some (.ref f))
  isf : PySem.W.isFn K (.ref f) = true
  fnin : PySem.W.fnIn K f = true
section
variable {X : Cx} {CX : CXT} {k : Nat} {f C : Addr} {fd : FuncData} {ps : List Str} {sp : Sp} {E : XK} {o i value : Expr} {pos pos' : Pos} {td ty tv : TE}
theorem run_own {A : Around} {pins : List (Addr × Obj)} {σ : L2.St} {H : Hp} {s : Shared} {Q : VK} {us : List Value} {vs : List V} (F : FnOk X.prog X.w X.K X.mg X.base CX k f fd ps sp) (sb : Sub X k A) (hb : Binds X.K fd ps []) (hx : PassesAt CX X σ E)
    (I : Inv X pins σ H s) (r : Vals vs us) (h : sp vs H Q E) : wpAny (model X.prog X.w) A (call (.ref f) us) (EP X pins σ Q) X.xe s := by
  have e0 : Env0 X.prog X.w X.K X.mg X.base A X.stack s H := by
    have e := I.env0
    exact ⟨by rw [sb.fr]; exact e.frames, e.mod, e.bs, e.bsz, e.funs, e.frf, e.hok, e.bare⟩
  have hl := F.len _ _ _ _ h
  refine wpAny_call (codeAny_mono (F.run A X.stack s H ⟨us, []⟩ us vs Q E sb.room e0 (by
    have := hb s us I.kIn (by rw [List.append_nil, ← r.length]; exact hl)
    rw [List.append_nil] at this
    exact this) r h) fun r s' hq => ?_)
  cases r with
  | error e => exact hx pins H s e s' I hq
  | ok fl =>
    cases fl with
    | ret u => exact I.after hq
    | next => exact False.elim hq
    | brk => exact False.elim hq
    | cont => exact False.elim hq
/-- o[i] by the class's own __getitem__ -/
def tIxOwn (C : Addr) (sp : Sp) (E : L2.St → XK) (td ty : TE) : TE := fun σ H Q => td σ H fun x H1 => ty σ H1 fun y H2 => ∃ a dx fs, x = .ref a ∧ H2 a = some (.ins C dx fs) ∧ sp [.ref a, y] H2 Q (E σ)
theorem pe_ixOwn {E : L2.St → XK} (S : Spc X.K C "__getitem__" f) (F : FnOk X.prog X.w X.K X.mg X.base CX k f fd ps sp) (hr : Room (k + 1) X.A) (hb : Binds X.K fd ps []) (hx : ∀ σ, PassesAt CX X σ (E σ)) (ho : PE X o td) (hi : PE X i ty)
    (hsl : ∀ a v, subscripted i true (.ref a) v = runValue (.builtin "lifetime.subscript" ⟨[.ref a, v], []⟩) := by exact fun _ _ => rfl) : PE X (.Subscript o i pos) (tIxOwn C sp E td ty) := by
  refine ⟨fun pins s σ H Q I h => ?_⟩
  refine Subscript_ (thn (ho.run pins s σ H _ I h) fun u s1 ⟨x, H1, I1, rx, q1⟩ => thn (hi.run pins s1 σ H1 _ I1 q1) fun iv s2 ⟨y, H2, I2, ry, a, dx, fs, ex, ea, q2⟩ => ?_)
  subst ex
  obtain rfl : u = Value.ref a := rx
  obtain ⟨mA, J, _⟩ := ins_get I2.hok ea
  obtain ⟨od, J, _⟩ := J.look
  obtain ⟨m, hF⟩ := I2.fr
  exact PySem.W.sub_K hF I2.ok.mod.kin J S.find S.fnin S.isf (run_own (us := [.ref a, iv]) (vs := [.ref a, y]) F ⟨hr.in1, rfl⟩ hb (hx σ) I2 (.cons rfl (.cons ry .nil)) q2) (hsl a iv)
/-- o[i] = v by the class's own __setitem__ -/
def sSetOwn (C : Addr) (sp : Sp) (E : L2.St → XK) (td ty tv : TE) : TS := fun D σ H => tv σ H fun v H1 => td σ H1 fun x H2 => ty σ H2 fun y H3 => ∃ a dx fs, x = .ref a ∧ H3 a = some (.ins C dx fs) ∧ sp [.ref a, y, v] H3 (fun _ H4 => D.nx σ H4) (E σ)
theorem ps_setOwn {E : L2.St → XK} (S : Spc X.K C "__setitem__" f) (hq : PySem.W.noSeq X.K C = true) (F : FnOk X.prog X.w X.K X.mg X.base CX k f fd ps sp) (hr : Room k X.A) (hb : Binds X.K fd ps []) (hx : ∀ σ, PassesAt CX X σ (E σ)) (ho : PE X o td) (hi : PE X i ty) (hv : PE X value tv)
    (hs : swapsWith value (some (.Subscript o i pos')) pos.line X.env = pure false) : PS X (.Assign [.Subscript o i pos'] value pos) (sSetOwn C sp E td ty tv) := by
  refine ⟨fun pins s σ H D I h => ?_⟩
  refine wpAny_Assign_Subscript (thn (hv.run pins s σ H _ I h) fun r s1 ⟨v, H1, I1, rv, q1⟩ => thn (ho.run pins s1 σ H1 _ I1 q1) fun u s2 ⟨x, H2, I2, rx, q2⟩ => thn (hi.run pins s2 σ H2 _ I2 q2) fun iv s3 ⟨y, H3, I3, ry, a, dx, fs, ex, ea, q3⟩ => ?_) hs
  subst ex
  obtain rfl : u = Value.ref a := rx
  obtain ⟨mA, J, _⟩ := ins_get I3.hok ea
  obtain ⟨od, J, _⟩ := J.look
  obtain ⟨m, hF⟩ := I3.fr
  refine PySem.W.ksp_setItem hF I3.ok.mod.kin J hq S.find S.isf (wpAny_mono (run_own (us := [.ref a, iv, r]) (vs := [.ref a, y, v]) F ⟨hr, rfl⟩ hb (hx σ) I3 (.cons rfl (.cons ry (.cons rv .nil))) q3) (fun _ s4 ⟨_, H4, I4, _, q4⟩ => ⟨σ, H4, I4, q4⟩) fun _ _ z => z)
/-- x in o by the class's own __contains__ -/
def rInOwn (C : Addr) (sp : Sp) (E : XK) (neg : Bool) : R2 := fun x y H Q => ∃ a dx fs, y = .ref a ∧ H a = some (.ins C dx fs) ∧ sp [.ref a, x] H (fun v H1 => ∃ b, v = .bl b ∧ Q (.bl (if neg then !b else b)) H1) E
theorem op_inOwn (S : Spc X.K C "__contains__" f) (F : FnOk X.prog X.w X.K X.mg X.base CX k f fd ps sp) (hr : Room k X.A) (hb : Binds X.K fd ps []) (hx : Passes CX X E) : OpR X (compareOp .In) (rInOwn C sp E false) := by
  intro pins s σ H x y v u Q I rx ry h
  obtain ⟨a, dx, fs, rfl, ea, q⟩ := h
  cases ry
  obtain ⟨mA, J, _⟩ := ins_get I.hok ea
  obtain ⟨od, J, _⟩ := J.look
  obtain ⟨m, hF⟩ := I.fr
  refine PySem.W.in_K hF I.ok.mod.kin J S.find S.isf (wpAny_mono (run_own (us := [.ref a, v]) (vs := [.ref a, x]) F ⟨hr, rfl⟩ hb (fun pins H s e s' => hx pins σ H s e s') I (.cons (show RelV (V.ref a) (Value.ref a) from rfl) (.cons rx .nil)) q) (fun r s4 ⟨z, H4, I4, rz, b, ez, q4⟩ => ?_) fun _ _ z => z)
  subst ez
  cases rz
  exact wpAny_truthy_bool ⟨.bl b, H4, I4, rfl, q4⟩
theorem pass_at {X : Cx} {CX : CXT} {E : XK} (h : Passes CX X E) (σ : L2.St) : PassesAt CX X σ E := fun pins H s e s' => h pins σ H s e s'
/-- o.m(e, ..), o.m(), the exception wished for by the slots -/
def tMethX (C : Addr) (m : Str) (sp : Sp) (E : L2.St → XK) (ta : TE) (t : TA) : TE := fun σ H Q => ta σ H fun x H1 => ∃ a dx fs, x = .ref a ∧ H1 a = some (.ins C dx fs) ∧ fs.lookup m = none ∧ t σ H1 fun vs H2 => sp (x :: vs) H2 Q (E σ)
theorem pe_methX {E : L2.St → XK} {m : Str} {apos : Pos} {e : Expr} {es : List Expr} {t : TA} {pl : Sem Bool} (he : PE X o td) (c : Cls X.K C) (hm : Meth X.K C m f) (F : FnOk X.prog X.w X.K X.mg X.base CX k f fd ps sp) (hr : Room k X.A) (hb : Binds X.K fd ps []) (hx : ∀ σ, PassesAt CX X σ (E σ)) (ha : PA X (e :: es) t)
    (hst : starEach (e :: es) X.env = (false, eval e X.env) :: starEach es X.env := by rfl) (hpl : (backTo pos (starEach es X.env)).any (·.1) = false := by rfl)
    (ht : eval (.Call (.Attribute o m apos) (e :: es) [] pos) X.env = (do
      let ov ← eval o X.env
      standAt apos.atName
      let (f, first) ← holding [ov] (getMethod ov m pl)
      callWith pos f first (backTo pos (starEach (e :: es) X.env)) (backToKw pos (keywordEach [] X.env))) := by rfl) :
    PE X (.Call (.Attribute o m apos) (e :: es) [] pos) (tMethX C m sp E td t) := by
  refine ⟨fun pins s σ H Q I h => ?_⟩
  refine PySem.W.methodCall_KW (pl := pl) (thn (he.run pins s σ H _ I h) fun u s1 ⟨x, H1, I1, rx, a, dx, fs, ex, ea, l, q⟩ => ?_) ht
  subst ex
  obtain rfl : u = Value.ref a := rx
  refine getmeth_ok I1 ea c hm l ?_
  refine PySem.W.callWith_K (first := [.ref a]) (h₀ := X.base) I.ok.mod.kin hm.kp (thn (ha.run pos pins s1 σ H1 _ I1 q) fun us s2 ⟨vs, H2, I2, r, q2⟩ => ⟨I2.kIn, ?_⟩) hst hpl
  exact run_fnS (us := .ref a :: us) (vs := .ref a :: vs) F hr hb (hx σ) I2 (.cons rfl r) q2
theorem pe_methX0 {E : L2.St → XK} {m : Str} {apos : Pos} {pl : Sem Bool} (he : PE X o td) (c : Cls X.K C) (hm : Meth X.K C m f) (F : FnOk X.prog X.w X.K X.mg X.base CX k f fd ps sp) (hr : Room k X.A) (hb : Binds X.K fd ps []) (hx : ∀ σ, PassesAt CX X σ (E σ))
    (ht : eval (.Call (.Attribute o m apos) [] [] pos) X.env = (do
      let ov ← eval o X.env
      standAt apos.atName
      let (f, first) ← holding [ov] (getMethod ov m pl)
      callWith pos f first (backTo pos (starEach [] X.env)) (backToKw pos (keywordEach [] X.env))) := by rfl) :
    PE X (.Call (.Attribute o m apos) [] [] pos) (tMethX C m sp E td tNil) := by
  refine ⟨fun pins s σ H Q I h => ?_⟩
  refine PySem.W.methodCall_KW (pl := pl) (thn (he.run pins s σ H _ I h) fun u s1 ⟨x, H1, I1, rx, a, dx, fs, ex, ea, l, q⟩ => ?_) ht
  subst ex
  obtain rfl : u = Value.ref a := rx
  refine getmeth_ok I1 ea c hm l ?_
  exact PySem.W.callWith_K0 (first := [.ref a]) I1.kIn hm.kp (run_fnS (us := [.ref a]) (vs := [.ref a]) F hr hb (hx σ) I1 (.cons rfl .nil) q)
theorem passE {X : Cx} {E : XK} (tk : Takes X fun cls d _ H => E cls d H) : Passes (L2.CX X.prog X.w) X E := fun pins σ H s e s' I c => tk e s' (XE.of_call I (fun _ _ _ h => h) c)
end
end L2
end
section
set_option Elab.async false
set_option autoImplicit false
set_option linter.all false
set_option maxRecDepth 100000
set_option maxHeartbeats 2000000
/-! several except clauses, with and without a name -/
namespace L2
open PySem PySem.Spec PyProof.Rows
/-- what the clauses wish of an exception of the body; a clause with a name: its slot -/
def wNm (K : PySem.W.Frag) (Wout : WX) (D : Ends) : List (Value × Option Nat × (Addr → Value → Option Addr → TS)) → WX
  | [] => Wout
  | (c, none, ts) :: r => fun cls d σ H => ∃ b, PySem.W.exmOne K cls c = some b ∧ (b = true → ∀ a, H a = none → ts a cls d D σ H) ∧ (b = false → wNm K Wout D r cls d σ H)
  | (c, some i, ts) :: r => fun cls d σ H => ∃ b, PySem.W.exmOne K cls c = some b ∧
      (b = true → ∀ a, H a = none → ts a cls d { nx := fun σ' H' => D.nx (σ'.set i none) H', rt := D.rt, bk := fun σ' H' => D.bk (σ'.set i none) H', ct := fun σ' H' => D.ct (σ'.set i none) H' } (σ.set i (some (.ref a))) H) ∧ (b = false → wNm K Wout D r cls d σ H)
inductive HdsNm (X : Cx) : List ExceptHandler → List (Value × Option Nat × (Addr → Value → Option Addr → TS)) → Prop
  | nil : HdsNm X [] []
  | plain {x : Str} {c : Value} {ts : Addr → Value → Option Addr → TS} {b₀ : Stmt} {suite : List Stmt} {np pos' : Pos} {hds : List ExceptHandler} {l : List (Value × Option Nat × (Addr → Value → Option Addr → TS))} (hc : Names X x c)
      (hsu : ∀ (a : Addr) (oe : Obj) (cls : Value) (d : Option Addr) (pn : List (Addr × Obj)), Zc cls d oe → (∃ vs, oe.data = .fields vs) → PSs (X.suite a ((a, oe) :: pn)) (b₀ :: suite) (ts a cls d)) (r : HdsNm X hds l) :
      HdsNm X (.ExceptHandler (some (.Name x np)) none (b₀ :: suite) pos' :: hds) ((c, none, ts) :: l)
  | named {x n : Str} {c : Value} {i : Nat} {ts : Addr → Value → Option Addr → TS} {b₀ : Stmt} {suite : List Stmt} {np pos' : Pos} {hds : List ExceptHandler} {l : List (Value × Option Nat × (Addr → Value → Option Addr → TS))} (hi : X.N[i]? = some n) (hln : X.env.kindOf n = some .local) (hc : Names X x c)
      (hsu : ∀ (a : Addr) (oe : Obj) (cls : Value) (d : Option Addr) (pn : List (Addr × Obj)), Zc cls d oe → (∃ vs, oe.data = .fields vs) → PSs (X.suite a ((a, oe) :: pn)) (b₀ :: suite) (ts a cls d)) (r : HdsNm X hds l) :
      HdsNm X (.ExceptHandler (some (.Name x np)) (some n) (b₀ :: suite) pos' :: hds) ((c, some i, ts) :: l)
section
variable {X : Cx} {body : List Stmt} {h₀ : ExceptHandler} {hds : List ExceptHandler} {l : List (Value × Option Nat × (Addr → Value → Option Addr → TS))} {pos : Pos} {tb : WX → TS} {Wout : WX}
theorem ps_try_nm (hN : X.N.Nodup) (hs : X.stack = X.env :: X.outer) (hf : X.env.frame = some X.env.locals) (tk : Takes X Wout)
    (hb : ∀ (W : WX) (pn : List (Addr × Obj)) (xe : Value → Shared → Prop), Takes (X.tr pn xe) W → PassesOwn (model X.prog X.w) X.A X.env xe → PSs (X.tr pn xe) body (tb W))
    (hh : HdsNm X (h₀ :: hds) l) : PS X (.Try body (h₀ :: hds) [] [] pos) (fun D σ H => tb (wNm X.K Wout D l) D σ H) := by
  refine ⟨fun pins s σ H D I h => ?_⟩
  have ok := I.ok
  have hfr : X.A.frames = some (X.env :: X.outer) := by rw [ok.frames, hs]
  refine wpAny_Try_except ?_
  refine wpAny_mono ((hb (wNm X.K Wout D l) (X.pn ++ pins) (fun e s₁ => wpAny (model X.prog X.w) X.A (noteFrame e X.env) (fun _ s₂ => wpAny (model X.prog X.w) X.A (setFlight e none) (fun _ s₃ =>
    wpAny (model X.prog X.w) X.A (handleBy e X.env (h₀ :: hds)) (SP X pins D) X.xe s₃) X.xe s₂) X.xe s₁) (fun u s' xx => ?_) PassesOwn.looking).run [] s σ H D (I.toTry _) h) (fun f s1 hsp => ?_) (fun e s1 he => he)
  · -- the catch
    obtain ⟨a, B, sI, pins', σ', H', cls, d, rfl, J', nb, up, sky, na, os, ag, w⟩ := xx
    have J : Inv X pins σ' H' sI := J'.ofTry ok
    have sky' : Sky B (X.env :: X.outer) a (Zc cls d) X.env.locals s'.heap := by rw [← hs]; exact sky
    show wpAny (model X.prog X.w) X.A (noteFrame (.ref a) X.env) _ _ _
    refine Sky.land Zc.steady hfr hf sky' fun h3 fl3 up3 => ?_
    have J3 : Inv X pins σ' H' { s' with heap := h3 } := J.landed nb fl3.1 (up.trans up3) os ag
    obtain ⟨oe3, vs3, he3, hz3, hd3⟩ := fl3.there
    have notFr : ∀ {h : Heap} {o : Obj} {vs : Array Value}, h.FunFrames B (X.env :: X.outer) → h.get? a = some o → o.data = .fields vs → a ∉ frs (X.env :: X.outer) := fun {h o vs} ff e dd hm => by
      obtain ⟨_, o', e', hnf⟩ := ff.mem hm
      rw [e] at e'; cases e'
      exact hnf _ dd
    have nfr := notFr fl3.2.2.1 he3 hd3
    have nL : a ≠ X.env.locals := fun z => nfr (List.mem_filterMap.mpr ⟨X.env, List.mem_cons_self, by rw [hf, z]⟩)
    have nF : a ∉ X.fs := fun hm => by
      obtain ⟨e, he, q⟩ := List.mem_filterMap.mp hm
      exact nfr (List.mem_filterMap.mpr ⟨e, List.mem_cons_of_mem _ he, q⟩)
    have S3 := J3.suite he3 hd3 na nL nF
    have go : ∀ {hds' : List ExceptHandler} {l' : List (Value × Option Nat × (Addr → Value → Option Addr → TS))}, HdsNm X hds' l' → wNm X.K Wout D l' cls d σ' H' →
        wpAny (model X.prog X.w) X.A (handleBy (.ref a) X.env hds') (SP X pins D) X.xe { s' with heap := h3 } := by
      intro hds' l' hk
      induction hk with
      | nil =>
        intro w
        refine wpAny_handleBy_nil ?_
        obtain ⟨k1, k2, k3, oe, vs, T, oT, ts', he, hz, hd, h1, hr⟩ := id fl3
        unfold PySem.passOn
        refine wpAny_bind (wpAny_field he hd h1 ?_)
        rw [if_neg (show ¬ ((Value.ref T == Value.none) = true) from by simp)]
        have fin : wpAny (model X.prog X.w) X.A (setFlight (.ref a) X.env.frame) (fun _ s4 => wpAny (model X.prog X.w) X.A (throw (.ref a) : Sem Flow) (SP X pins D) X.xe s4) X.xe { s' with heap := h3 } := by
          rw [hf]
          refine HandSPX.setFlight_upZ fl3 fun h4 hh4 up4 => wpAny_throw (tk _ _ ?_)
          exact ⟨a, B, sI, pins, σ', H', cls, d, rfl, J, nb, (up.trans up3).trans up4, .inr (.inr (by rw [hs]; exact hh4)), na, os, ag, w⟩
        first
          | exact wpAny_bind (wpAny_pure (wpAny_bind fin))
          | exact wpAny_bind fin
      | @plain x c ts b₀ suite np pos' hds2 l2 hc hsu r ih =>
        intro w
        obtain ⟨b, hb1, hyes, hno⟩ := w
        refine wpAny_handleBy_cons (codeAny_handlers_test ?_) (by intro q; cases q)
        have LT : PySem.W.Looks (model X.prog X.w) h3 (typeOf (.ref a)) cls := fun A Q E s k q => wpAny_typeOf_ref (k _ _ he3) (by rw [hz3.1]; exact q)
        have LM := PySem.W.exm_one (M := model X.prog X.w) (J3.kIn) LT hb1
        have test : ∀ {Q : Value → Shared → Prop} {E : Value → Shared → Prop}, Q c { s' with heap := h3 } → wpAny (model X.prog X.w) (X.A.mark (some (.ref a))) (eval (.Name x np) X.env) Q E { s' with heap := h3 } := fun {Q E} q => by
          obtain ⟨hg, hdbg, hm | ⟨hm, hv, hnn⟩⟩ := hc
          · exact ld_glob (X := X.suite a ((a, oe3) :: (X.pn ++ pins))) S3 hg hm q hdbg
          · exact ld_blt (X := X.suite a ((a, oe3) :: (X.pn ++ pins))) S3 hg hm hv q hnn hdbg
        refine test (LM.here ?_)
        cases b with
        | true =>
          refine codeAny_handlers_suite ?_
          refine HandSPX.lands_againZ fl3 fun h4 fl4 up4 => ?_
          have J4 : Inv X pins σ' H' { s' with heap := h4 } := J.landed nb fl4.1 ((up.trans up3).trans up4) os ag
          obtain ⟨oe4, vs4, he4, hz4, hd4⟩ := fl4.there
          have S4 := J4.suite he4 hd4 na nL nF
          refine wpAny_mono ((hsu a oe4 cls d (X.pn ++ pins) hz4 ⟨_, hd4⟩).run [] _ _ H' _ S4 (hyes rfl a na)) (fun f s6 hsp => ?_) (fun _ _ z => False.elim z)
          cases f with
          | next =>
            obtain ⟨σ6, H6, S6, q6⟩ := hsp
            exact ⟨_, _, S6.unsuite ok, q6⟩
          | brk =>
            obtain ⟨σ6, H6, S6, q6⟩ := hsp
            exact ⟨_, _, S6.unsuite ok, q6⟩
          | cont =>
            obtain ⟨σ6, H6, S6, q6⟩ := hsp
            exact ⟨_, _, S6.unsuite ok, q6⟩
          | ret u =>
            obtain ⟨v6, σ6, H6, S6, r6, q6⟩ := hsp
            exact ⟨_, _, _, S6.unsuite ok, r6, q6⟩
        | false =>
          show wpAny _ X.A (handleBy (.ref a) X.env hds2) _ _ _
          exact ih (hno rfl)
      | @named x n c i ts b₀ suite np pos' hds2 l2 hi hln hc hsu r ih =>
        intro w
        obtain ⟨b, hb1, hyes, hno⟩ := w
        refine wpAny_handleBy_cons (codeAny_handlers_test ?_) (by intro q; cases q)
        have LT : PySem.W.Looks (model X.prog X.w) h3 (typeOf (.ref a)) cls := fun A Q E s k q => wpAny_typeOf_ref (k _ _ he3) (by rw [hz3.1]; exact q)
        have LM := PySem.W.exm_one (M := model X.prog X.w) (J3.kIn) LT hb1
        have test : ∀ {Q : Value → Shared → Prop} {E : Value → Shared → Prop}, Q c { s' with heap := h3 } → wpAny (model X.prog X.w) (X.A.mark (some (.ref a))) (eval (.Name x np) X.env) Q E { s' with heap := h3 } := fun {Q E} q => by
          obtain ⟨hg, hdbg, hm | ⟨hm, hv, hnn⟩⟩ := hc
          · exact ld_glob (X := X.suite a ((a, oe3) :: (X.pn ++ pins))) S3 hg hm q hdbg
          · exact ld_blt (X := X.suite a ((a, oe3) :: (X.pn ++ pins))) S3 hg hm hv q hnn hdbg
        refine test (LM.here ?_)
        cases b with
        | true =>
          refine codeAny_handlers_suite_as ?_
          refine HandSPX.lands_againZ fl3 fun h4 fl4 up4 => ?_
          have J4 : Inv X pins σ' H' { s' with heap := h4 } := J.landed nb fl4.1 ((up.trans up3).trans up4) os ag
          obtain ⟨oe4, vs4, he4, hz4, hd4⟩ := fl4.there
          have S4 := J4.suite he4 hd4 na nL nF
          have hloc : Loc X.env.scope n := .inl hln
          refine store_ok (X := X.suite a ((a, oe4) :: (X.pn ++ pins))) (v := .ref a) S4 hN hi hloc rfl (fun s5 S5 => ?_) (.inr hln)
          refine wpAny_mono ((hsu a oe4 cls d (X.pn ++ pins) hz4 ⟨_, hd4⟩).run [] s5 _ H' _ S5 (hyes rfl a na)) (fun f s6 hsp => ?_) (fun _ _ z => False.elim z)
          have leave : ∀ {σ6 : St} {H6 : Hp} {Q : Shared → Prop}, Inv (X.suite a ((a, oe4) :: (X.pn ++ pins))) [] σ6 H6 s6 → (∀ s7, Inv X pins (σ6.set i none) H6 s7 → Q s7) →
              wpAny (model X.prog X.w) X.A (do bindName X.env n .none; unbindBehindTheSuite X.env n pos') (fun _ s7 => Q s7) X.xe s6 := fun {σ6 H6 Q} S6 hq => gone_ok (S6.unsuite ok) hN hi hln hq
          cases f with
          | next => obtain ⟨σ6, H6, S6, q6⟩ := hsp; exact leave S6 fun s7 J7 => ⟨_, _, J7, q6⟩
          | brk => obtain ⟨σ6, H6, S6, q6⟩ := hsp; exact leave S6 fun s7 J7 => ⟨_, _, J7, q6⟩
          | cont => obtain ⟨σ6, H6, S6, q6⟩ := hsp; exact leave S6 fun s7 J7 => ⟨_, _, J7, q6⟩
          | ret u => obtain ⟨v6, σ6, H6, S6, r6, q6⟩ := hsp; exact leave S6 fun s7 J7 => ⟨_, _, _, J7, r6, q6⟩
        | false =>
          show wpAny _ X.A (handleBy (.ref a) X.env hds2) _ _ _
          exact ih (hno rfl)
    exact go hh w
  · cases f with
    | next =>
      obtain ⟨σ', H', J', q⟩ := hsp
      exact wpAny_execs_nil ⟨σ', H', J'.ofTry ok, q⟩
    | brk =>
      obtain ⟨σ', H', J', q⟩ := hsp
      exact ⟨σ', H', J'.ofTry ok, q⟩
    | cont =>
      obtain ⟨σ', H', J', q⟩ := hsp
      exact ⟨σ', H', J'.ofTry ok, q⟩
    | ret u =>
      obtain ⟨v, σ', H', J', r, q⟩ := hsp
      exact ⟨v, σ', H', J'.ofTry ok, r, q⟩
end
end L2
end
section
set_option Elab.async false
set_option autoImplicit false
set_option linter.all false
set_option maxRecDepth 100000
set_option maxHeartbeats 4000000
namespace LawC
open PySem PySem.Spec PyProof.Rows L2 PySem.OxE
/-! what several laws' own helpers promise -/
/-- the draws' source -/
def srcV (d m t : Int) : HO := .lst [.int d, .int m, .int t]
def SM : Int := 4294967296
structure SrcAt (H : Hp) (p : Addr) (t : Int) : Prop where
  ex : ∃ d m, H p = some (srcV d m t) ∧ 0 ≤ d ∧ 0 ≤ m ∧ m < SM
  t0 : 0 ≤ t
def spSource (K : PySem.W.Frag) : Sp := fun vs H Q _ => ∃ (a : Addr) (ns : List Int) (pl : Int), vs = [.ref a, .int pl] ∧ SqL K H a (ns.map V.int) ∧ 0 ≤ pl ∧ pl < 12 ∧
  ∀ (p : Addr) (H' : Hp), H p = none → Same H H' → SrcAt H' p 0 → Q (.ref p) H'
def spDraw : Sp := fun vs H Q _ => ∃ (p : Addr) (t n : Int), vs = [.ref p, .int n] ∧ SrcAt H p t ∧ t < 100000 ∧ 0 < n ∧ n.natAbs < 2 ^ 100 ∧
  ∀ (k t' : Int) (H' : Hp), 0 ≤ k → k < n → t ≤ t' → t' ≤ t + 1 → But p H H' → SrcAt H' p t' → Q (.int k) H'
def spOf (K : PySem.W.Frag) : Sp := fun vs H Q _ => ∃ (p l : Addr) (t : Int) (xs : List V), vs = [.ref p, .ref l] ∧ SrcAt H p t ∧ t < 100000 ∧ H l = some (.lst xs) ∧ 0 < xs.length ∧ xs.length < 1000 ∧ p ≠ l ∧
  ∀ (v : V) (t' : Int) (H' : Hp), v ∈ xs → t ≤ t' → t' ≤ t + 1 → But p H H' → SrcAt H' p t' → Q v H'
theorem rem0 {a n : Int} (h : 0 < n) : 0 ≤ a % n := Int.emod_nonneg a (by omega)
theorem rem1 {a n : Int} (h : 0 < n) : a % n < n := Int.emod_lt_of_pos a h
theorem div0 {a n : Int} (h : 0 < n) (ha : 0 ≤ a) : 0 ≤ a / n := Int.ediv_nonneg ha (by omega)
/-! `same`: two values that are worth the same -/
def tyN : PyData → String
  | .none => "NoneType"
  | .bool _ => "bool"
  | .int _ => "int"
  | .str _ => "str"
  | .list _ => "list"
  | .tuple _ => "tuple"
  | .dict _ => "dict"
theorem dp_ty {K : PySem.W.Frag} {H : Hp} {v : V} {d : PyData} (h : Dp K H v d) : TyX K H v (.type (tyN d)) := by
  cases h with
  | non => exact .base .non
  | bl b => exact .base (.bl b)
  | int i => exact .base (.int i)
  | str x => exact .base (.str x)
  | lst h _ =>
    rcases h with (h | ⟨o, h⟩) | ⟨o, its, n, hl, hc, _⟩
    · exact .base (.lst h)
    · exact .base (.frz h)
    · exact .kList hl hc
  | tup h _ =>
    rcases h with (h | ⟨o, h⟩) | ⟨o, its, n, hl, hc, _⟩
    · exact .base (.tup h)
    · exact .fTuple h
    · exact .kTuple hl hc
mutual
/-- how deep lists and tuples stand in it -/
def dep : PyData → Nat
  | .list xs => depAll xs + 1
  | .tuple xs => depAll xs + 1
  | _ => 0
def depAll : List PyData → Nat
  | [] => 0
  | x :: xs => max (dep x) (depAll xs)
end
theorem depAll_mem : ∀ {xs : List PyData} {x : PyData}, x ∈ xs → dep x ≤ depAll xs
  | y :: ys, x, h => by
    unfold depAll
    rcases List.mem_cons.mp h with rfl | h
    · exact Nat.le_max_left _ _
    · exact Nat.le_trans (depAll_mem h) (Nat.le_max_right _ _)
mutual
def noDict : PyData → Bool
  | .dict _ => false
  | .list xs => noDictAll xs
  | .tuple xs => noDictAll xs
  | _ => true
def noDictAll : List PyData → Bool
  | [] => true
  | x :: xs => noDict x && noDictAll xs
end
mutual
/-- no dict, no list of more than a thousand -/
def okD : PyData → Bool
  | .dict _ => false
  | .list xs => decide (xs.length ≤ 1000) && okDAll xs
  | .tuple xs => decide (xs.length ≤ 1000) && okDAll xs
  | _ => true
def okDAll : List PyData → Bool
  | [] => true
  | x :: xs => okD x && okDAll xs
end
theorem okDAll_mem : ∀ {xs : List PyData} {x : PyData}, okDAll xs = true → x ∈ xs → okD x = true
  | y :: ys, x, h, hm => by
    unfold okDAll at h
    obtain ⟨h1, h2⟩ := Bool.and_eq_true_iff.mp h
    rcases List.mem_cons.mp hm with rfl | hm
    · exact h1
    · exact okDAll_mem h2 hm
theorem okD_lst {xs : List V} {ds : List PyData} {K : PySem.W.Frag} {H : Hp} (h : okD (.list ds) = true) (a : DpAll K H xs ds) : xs.length ≤ 1000 ∧ okDAll ds = true := by
  unfold okD at h
  obtain ⟨h1, h2⟩ := Bool.and_eq_true_iff.mp h
  exact ⟨by rw [DpAll.length a]; exact of_decide_eq_true h1, h2⟩
theorem okD_tup {xs : List V} {ds : List PyData} {K : PySem.W.Frag} {H : Hp} (h : okD (.tuple ds) = true) (a : DpAll K H xs ds) : xs.length ≤ 1000 ∧ okDAll ds = true := by
  unfold okD at h
  obtain ⟨h1, h2⟩ := Bool.and_eq_true_iff.mp h
  exact ⟨by rw [DpAll.length a]; exact of_decide_eq_true h1, h2⟩
theorem kitA_lst {K : PySem.W.Frag} : PySem.W.kitAny K (.type "list") [.type "tuple", .type "list"] = some true := by
  refine kitAny_cons (b := false) (kit_ty (by decide +kernel)) (fun _ => kitAny_cons (b := true) (kit_ty (by decide +kernel)) (fun h => nomatch h) fun _ => rfl) fun h => nomatch h
theorem kitA_tup {K : PySem.W.Frag} : PySem.W.kitAny K (.type "tuple") [.type "tuple", .type "list"] = some true := by
  refine kitAny_cons (b := true) (kit_ty (by decide +kernel)) (fun h => nomatch h) fun _ => rfl
theorem kitA_int {K : PySem.W.Frag} : PySem.W.kitAny K (.type "int") [.type "tuple", .type "list"] = some false := by
  refine kitAny_cons (b := false) (kit_ty (by decide +kernel)) (fun _ => kitAny_cons (b := false) (kit_ty (by decide +kernel)) (fun _ => rfl) fun h => nomatch h) fun h => nomatch h
theorem kitA_str {K : PySem.W.Frag} : PySem.W.kitAny K (.type "str") [.type "tuple", .type "list"] = some false := by
  refine kitAny_cons (b := false) (kit_ty (by decide +kernel)) (fun _ => kitAny_cons (b := false) (kit_ty (by decide +kernel)) (fun _ => rfl) fun h => nomatch h) fun h => nomatch h
def spSame (K : PySem.W.Frag) (n : Nat) : Sp := fun vs H Q _ => ∃ (x y : V) (d : PyData), vs = [x, y] ∧ Dp K H x d ∧ Dp K H y d ∧ dep d ≤ n ∧ okD d = true ∧ ∀ H', Same H H' → Q (.bl true) H'
theorem DpAll.get {K : PySem.W.Frag} {H : Hp} : ∀ {vs : List V} {ds : List PyData} {i : Nat} {v : V}, DpAll K H vs ds → vs[i]? = some v → ∃ d, d ∈ ds ∧ ds[i]? = some d ∧ Dp K H v d
  | _, _, 0, _, .cons h _, e => ⟨_, List.mem_cons_self, rfl, by cases e; exact h⟩
  | _, _, i + 1, _, .cons _ t, e => by
    obtain ⟨d, h1, h2, h3⟩ := DpAll.get (i := i) t (by simpa using e)
    exact ⟨d, List.mem_cons_of_mem _ h1, by simpa using h2, h3⟩
/-- [same(a, b) for a, b in zip(xs, ys)] -/
theorem zip_turns {K : PySem.W.Frag} {J : It} {D : Addr} {xs ys : List V} {ds : List PyData} {n : Nat} {G : Hp → Prop} {H1 : Hp} {vs : List Nat} {σ : L2.St} {i j : Nat} {Qd : Hp → Prop} {g : TG}
    (w : Walk J xs.length G (YPair (fun i => xs[i]?) (fun i => ys[i]?))) (hG : ∀ H', Same H1 H' → G H') (hD : H1 D = none) (dx : DpAll K H1 xs ds) (dy : DpAll K H1 ys ds) (hn : depAll ds ≤ n) (hz : xs.length ≤ 1000 ∧ okDAll ds = true)
    (hg : ∀ T x y H' k, H' T = some (.tup [x, y]) → k (((wipe σ vs).set i (some x)).set j (some y)) H' → g (.ref T) (wipe σ vs) H' k)
    (hw : ∀ x y, wipe (((wipe σ vs).set i (some x)).set j (some y)) vs = wipe σ vs) (hi : ∀ x y : V, (((wipe σ vs).set i (some x)).set j (some y))[i]? = some (some x)) (hj : ∀ x y : V, (((wipe σ vs).set i (some x)).set j (some y))[j]? = some (some y))
    (hd : ∀ H', Same H1 H' → H' D = some (.lst (List.replicate xs.length (.bl true))) → Qd H') :
    ∃ W : Nat → Nat → Hp → Prop, (∃ m, W 0 m (upd H1 D (.lst []))) ∧ ∀ i' m H, W i' m H →
      (J.stop i' H ∧ Qd H) ∨ (J.go i' H ∧ ∃ Nx : Hp → Prop, (∀ H', Nx H' → ∃ m', m' < m ∧ W (i' + 1) m' H') ∧ ∀ x H', J.yld i' H x H' → g x (wipe σ vs) H' fun σ2 H2 => wipe σ2 vs = wipe σ vs ∧ tYes σ2 H2 fun b H3 =>
        if b = true then tCall (spSame K n) [] E0 (tCons (tVar i) (tCons (tVar j) tNil)) σ2 H3 fun y H4 => ∃ acc, H4 D = some (.lst acc) ∧ acc.length < sizeLine ∧ Nx (upd H4 D (.lst (acc ++ [y]))) else Nx H3) := by
  refine lc_it w (fun k H' => Same H1 H' ∧ H' D = some (.lst (List.replicate k (.bl true)))) ⟨Same.new hD, upd_same⟩ (fun k H' _ p => hG H' p.1) (fun k v H H' hk p y => ?_) fun H' p => hd H' p.1 p.2
  obtain ⟨T, x, z, rfl, hT, rfl, hx, hz2⟩ := y
  obtain ⟨p1, p2⟩ := p
  have s2 := Same.trans p1 (Same.new (o := .tup [x, z]) hT)
  refine hg T x z _ _ upd_same ⟨hw x z, ?_⟩
  show tCall (spSame K n) [] E0 (tCons (tVar i) (tCons (tVar j) tNil)) _ _ _
  obtain ⟨d, m1, m2, m3⟩ := DpAll.get dx hx
  obtain ⟨e, q1, q2, q3⟩ := DpAll.get dy hz2
  have ed : e = d := by rw [m2] at q2; exact (Option.some.inj q2).symm
  subst ed
  refine ⟨x, hi x z, z, hj x z, x, z, e, rfl, m3.mono s2, q3.mono s2, Nat.le_trans (depAll_mem m1) hn, okDAll_mem hz.2 m1, fun H5 e5 => ⟨_, e5 _ _ (Same.new hT _ _ p2), Evl.sz_lt (by rw [List.length_replicate]; omega), ?_, ?_⟩⟩
  · intro b o hb
    have := e5 _ _ (s2 b o hb)
    rw [upd_ne (ne_of_none hb hD)]
    exact this
  · rw [upd_same, List.replicate_succ']
/-! readings' lemmas for `same` -/
section
variable {K : PySem.W.Frag} {σ : L2.St} {H : Hp} {ta : TE} {v : V} {d : PyData}
theorem ev_isi {T : String} {b : Bool} (h : Evl.Ev ta σ H v) (hd : Dp K H v d) (hk : kitB (tyN d) T = some b) : Evl.Ev (tCB (rIsi K) (tCons ta (tCons (tC (.ty T)) tNil))) σ H (.bl b) :=
  Evl.ev_cb (Evl.ea_cons h (Evl.ea_cons Evl.ev_c Evl.ea_nil)) fun H1 e1 Q q => ⟨v, .ty T, _, .type T, b, rfl, .ty T, dp_ty (hd.mono e1), kit_ty hk, q H1 (Evl.Ex.refl H1)⟩
theorem ev_isN (h : Evl.Ev ta σ H v) : Evl.Ev (tOp (fun x y H Q => y = V.non ∧ Q (V.bl (decide (x = V.non))) H) ta (tC .non)) σ H (.bl (decide (v = .non))) :=
  Evl.ev_op h Evl.ev_c fun H1 e Q q => ⟨rfl, q H1 (Evl.Ex.refl H1)⟩
theorem ev_isiT {T1 T2 : String} {b : Bool} (h : Evl.Ev ta σ H v) (hd : Dp K H v d) (hk : PySem.W.kitAny K (.type (tyN d)) [.type T1, .type T2] = some b) : Evl.Ev (tCB (rIsiT K) (tCons ta (tCons (tTup (tCons (tC (.ty T1)) (tCons (tC (.ty T2)) tNil))) tNil))) σ H (.bl b) := fun H1 e1 Q q =>
  h H1 e1 _ fun H2 e2 => ⟨by show 2 ≤ sizeLine; decide, fun p hp => ⟨v, p, [.ty T1, .ty T2], _, _, b, rfl, upd_same, .cons (.ty T1) (.cons (.ty T2) .nil), dp_ty (hd.mono ((e1.trans e2).trans (Evl.Ex.new hp))), hk, q _ (e2.trans (Evl.Ex.new hp))⟩⟩
theorem DpAll.same_length {vs us : List V} {ds : List PyData} (a : DpAll K H vs ds) (b : DpAll K H us ds) : vs.length = us.length := by rw [DpAll.length a, DpAll.length b]
end
theorem walk_zipT {K : PySem.W.Frag} {a b : Addr} {xs ys : List V} (hl : xs.length = ys.length) : Walk (RZ.ItzT K a b) xs.length (fun H => SqT K H a xs ∧ SqT K H b ys) (YPair (fun i => xs[i]?) (fun i => ys[i]?)) := by
  refine ⟨fun i _ hi q => ⟨xs, ys, xs[i], ys[i], q.1, q.2, by simp [hi], by simp [show i < ys.length by omega]⟩, fun _ q => ⟨xs, ys, q.1, q.2, by omega⟩, fun i H v H' _ q y => ?_⟩
  obtain ⟨T, x, z, h1, h2, h3, h4, h5⟩ := y
  exact ⟨T, x, z, h1, h2, h3, h4 xs q.1, h5 ys q.2⟩
section
variable {K : PySem.W.Frag} {σ : L2.St} {H : Hp} {ta : TE} {v : V}
theorem ev_lenT {p : Addr} {xs : List V} (h : Evl.Ev ta σ H (.ref p)) (hp : SqT K H p xs) : Evl.Ev (tCB (fun xs H Q => ∃ x n, xs = [x] ∧ LenV K x H n ∧ Q (V.int n) H) (tCons ta tNil)) σ H (.int xs.length) :=
  Evl.ev_cb (Evl.ea_cons h Evl.ea_nil) fun H1 e1 Q q => ⟨_, _, rfl, .inr ⟨_, Evl.ex_t e1 hp, rfl⟩, q H1 (Evl.Ex.refl H1)⟩
theorem ev_lenL {p : Addr} {xs : List V} (h : Evl.Ev ta σ H (.ref p)) (hp : SqL K H p xs) : Evl.Ev (tCB (fun xs H Q => ∃ x n, xs = [x] ∧ LenV K x H n ∧ Q (V.int n) H) (tCons ta tNil)) σ H (.int xs.length) :=
  Evl.ev_cb (Evl.ea_cons h Evl.ea_nil) fun H1 e1 Q q => ⟨_, _, rfl, .inl ⟨_, Evl.ex_l e1 hp, rfl⟩, q H1 (Evl.Ex.refl H1)⟩
theorem ev_fld {x C dx : Addr} {fs : List (Str × V)} {f : Str} (h : Evl.Ev ta σ H (.ref x)) (hx : H x = some (.ins C dx fs)) (c : Cls K C) (n : NoAttr K C f) (l : fs.lookup f = some v) : Evl.Ev (tFld K ta f) σ H v := fun H1 e1 Q q =>
  h H1 e1 _ fun H2 e2 => ⟨x, C, dx, fs, v, rfl, e2 _ _ (e1 _ _ hx), c, n, l, q H2 e2⟩
theorem inV_str {u : Str} : ∀ {ws : List Str}, inV (.str u) (ws.map V.str) = decide (u ∈ ws)
  | [] => by simp [inV]
  | x :: ws => by
    have ih := inV_str (u := u) (ws := ws)
    unfold inV at ih ⊢
    rw [List.map_cons, List.any_cons, ih]
    by_cases h : x = u
    · subst h
      simp [eqV]
    · have h2 : ¬ u = x := fun q => h q.symm
      simp [eqV, h, h2]
theorem flat_strs : ∀ {ws : List Str}, (ws.map V.str).all flatV = true
  | [] => rfl
  | x :: ws => by rw [List.map_cons, List.all_cons, flat_strs (ws := ws)]; rfl
end
section
variable {K : PySem.W.Frag} {σ : L2.St} {H : Hp} {te tt : TE} {t : TT}
theorem el_slN {tl th : TO} {xs : List V} {lo hi : Option Int} (h : Evl.EvL te σ H xs) (h1 : Evl.EvO tl σ H lo) (h2 : Evl.EvO th σ H hi) : Evl.EvL (tSl (rSlL K) te tl th) σ H (cutV xs lo hi) := fun H1 e _ q =>
  h H1 e _ fun a H2 ha e2 hx => h1 H2 (e.trans e2) _ fun H3 e3 => h2 H3 ((e.trans e2).trans e3) _ fun H4 e4 =>
    ⟨a, xs, rfl, SqL.of (e4 _ _ (e3 _ _ hx)), fun p hp => q p _ (Evl.fresh_back ((e2.trans e3).trans e4) hp) (((e2.trans e3).trans e4).trans (Evl.Ex.new hp)) upd_same⟩
theorem filt_step {f : V → Bool} {xs : List V} {i : Nat} {x : V} (h : xs[i]? = some x) : (xs.take (i + 1)).filter f = (xs.take i).filter f ++ (if f x = true then [x] else []) := by
  rw [List.take_add_one, h, List.filter_append]
  congr 1
  cases hf : f x <;> simp [hf]
/-- [x for x in xs if f x] -/
theorem el_filt {a : Addr} {xs : List V} {tl : TE} {j : Nat} {vs : List Nat} {f : V → Bool} (h : Evl.Ev tl σ H (.ref a)) (hx : SqL K H a xs) (hz : xs.length ≤ 40000) (hw : ∀ x, wipe ((wipe σ vs).set j (some x)) vs = wipe σ vs)
    (ht : ∀ (x : V) H1, Evl.Ex H H1 → x ∈ xs → Evl.EvT t ((wipe σ vs).set j (some x)) H1 (f x)) (he : ∀ (x : V) H1, Evl.Ex H H1 → x ∈ xs → Evl.Ev te ((wipe σ vs).set j (some x)) H1 x) :
    Evl.EvL (tLc (iList K tl) (gName j) t te vs) σ H (xs.filter f) := fun H0 e Q q => h H0 e _ fun H1 e1 => ⟨a, rfl, ⟨xs, Evl.ex_l (e.trans e1) hx⟩, fun Dl hD =>
  lc_list (xs := xs) (fun i H' => Same H1 H' ∧ H' Dl = some (.lst ((xs.take i).filter f))) ⟨Same.new hD, upd_same⟩ (fun i H' _ p => Evl.ex_l ((e.trans e1).trans p.1) hx) (fun i x H' hi p => ⟨hw x, by
    obtain ⟨p1, p2⟩ := p
    have hm := List.mem_of_getElem? hi
    refine ht x H' ((e.trans e1).trans p1) hm H' (Evl.Ex.refl H') _ fun H3 e3 => ?_
    have hl : ((xs.take i).filter f).length < sizeLine := Evl.sz_lt (by
      have := List.length_filter_le f (xs.take i)
      rw [List.length_take] at this
      omega)
    cases hf : f x with
    | true =>
      refine he x H3 ((e.trans e1).trans (Same.trans p1 e3)) hm H3 (Evl.Ex.refl H3) _ fun H4 e4 => ⟨_, e4 _ _ (e3 _ _ p2), hl, ?_, ?_⟩
      · intro b o hb
        have := e4 _ _ (e3 _ _ (p1 b o hb))
        rw [upd_ne (ne_of_none hb hD)]
        exact this
      · rw [upd_same, filt_step hi, hf]
        rfl
    | false =>
      refine ⟨Same.trans p1 e3, ?_⟩
      rw [e3 _ _ p2, filt_step hi, hf]
      simp⟩) (fun H' p => q Dl H' (Evl.fresh_back e1 hD) (e1.trans p.1) (by rw [p.2, List.take_of_length_le (Nat.le_refl _)]))⟩
end
end LawC
end
section
set_option Elab.async false
set_option autoImplicit false
set_option linter.all false
set_option maxRecDepth 100000
set_option maxHeartbeats 4000000
namespace K36
open PySem PySem.Spec PyProof.Rows L2 PySem.OxE LawC
def top (i : Nat) : Stmt := PySem.Challenge.pw_owedanswers_k36_doors_and_ways.main.body.getD i (.Pass ⟨0, 0, 0, 0⟩)
abbrev s_reason_of : Stmt := top 4
theorem sc_reason_of : FnScope ["way"] ["way"] (defScope s_reason_of) := ⟨rfl, rfl, rfl, by decide +kernel, rfl, by decide +kernel, by decide +kernel⟩
abbrev s_check_word : Stmt := top 8
theorem sc_check_word : FnScope ["word"] ["word"] (defScope s_check_word) := ⟨rfl, rfl, rfl, by decide +kernel, rfl, by decide +kernel, by decide +kernel⟩
abbrev s_Door_init : Stmt := inClass (top 9) 0
theorem sc_Door_init : FnScope ["self", "end", "fail", "cut", "word"] ["self", "end", "fail", "cut"] (defScope s_Door_init) := ⟨rfl, rfl, rfl, by decide +kernel, rfl, by decide +kernel, by decide +kernel⟩
abbrev s_Door_getitem : Stmt := inClass (top 9) 1
theorem sc_Door_getitem : FnScope ["self", "way", "reason"] ["self", "way"] (defScope s_Door_getitem) := ⟨rfl, rfl, rfl, by decide +kernel, rfl, by decide +kernel, by decide +kernel⟩
abbrev s_Door_setitem : Stmt := inClass (top 9) 2
theorem sc_Door_setitem : FnScope ["self", "way", "word"] ["self", "way", "word"] (defScope s_Door_setitem) := ⟨rfl, rfl, rfl, by decide +kernel, rfl, by decide +kernel, by decide +kernel⟩
abbrev s_Door_change : Stmt := inClass (top 9) 4
theorem sc_Door_change : FnScope ["self", "way", "word"] ["self", "way", "word"] (defScope s_Door_change) := ⟨rfl, rfl, rfl, by decide +kernel, rfl, by decide +kernel, by decide +kernel⟩
abbrev s_Door_copy : Stmt := inClass (top 9) 5
theorem sc_Door_copy : FnScope ["self", "other", "way"] ["self"] (defScope s_Door_copy) := ⟨rfl, rfl, rfl, by decide +kernel, rfl, by decide +kernel, by decide +kernel⟩
abbrev s_source : Stmt := top 11
theorem sc_source : FnScope ["_law_script", "_law_place", "_law_cell", "_law_large"] ["_law_script", "_law_place"] (defScope s_source) := ⟨rfl, rfl, rfl, by decide +kernel, rfl, by decide +kernel, by decide +kernel⟩
abbrev s_draw : Stmt := top 12
theorem sc_draw : FnScope ["_law_source_here", "_law_many", "_law_digit", "_law_turn", "_law_mixed"] ["_law_source_here", "_law_many"] (defScope s_draw) := ⟨rfl, rfl, rfl, by decide +kernel, rfl, by decide +kernel, by decide +kernel⟩
abbrev s_of : Stmt := top 13
theorem sc_of : FnScope ["_law_source_here", "_law_some"] ["_law_source_here", "_law_some"] (defScope s_of) := ⟨rfl, rfl, rfl, by decide +kernel, rfl, by decide +kernel, by decide +kernel⟩
abbrev s_same : Stmt := top 14
theorem sc_same : FnScope ["_law_actual", "_law_due", "_law_one", "_law_two"] ["_law_actual", "_law_due"] (defScope s_same) := ⟨rfl, rfl, rfl, by decide +kernel, rfl, by decide +kernel, by decide +kernel⟩
abbrev s_made : Stmt := top 15
theorem sc_made : FnScope ["_law_one", "_law_two", "_law_three"] ["_law_one", "_law_two", "_law_three"] (defScope s_made) := ⟨rfl, rfl, rfl, by decide +kernel, rfl, by decide +kernel, by decide +kernel⟩
abbrev s_word : Stmt := top 16
theorem sc_word : FnScope ["_law_source_here"] ["_law_source_here"] (defScope s_word) := ⟨rfl, rfl, rfl, by decide +kernel, rfl, by decide +kernel, by decide +kernel⟩
abbrev s_refusal : Stmt := top 17
theorem sc_refusal : FnScope ["_law_words", "_law_word_here"] ["_law_words"] (defScope s_refusal) := ⟨rfl, rfl, rfl, by decide +kernel, rfl, by decide +kernel, by decide +kernel⟩
abbrev s_made_or : Stmt := top 18
theorem sc_made_or : FnScope ["_law_words", "_law_door", "_law_found", "e"] ["_law_words"] (defScope s_made_or) := ⟨rfl, rfl, rfl, by decide +kernel, rfl, by decide +kernel, by decide +kernel⟩
abbrev s_changed : Stmt := top 19
theorem sc_changed : FnScope ["_law_door", "_law_way", "_law_word_here", "_law_by_item", "_law_found", "e"] ["_law_door", "_law_way", "_law_word_here", "_law_by_item"] (defScope s_changed) := ⟨rfl, rfl, rfl, by decide +kernel, rfl, by decide +kernel, by decide +kernel⟩
abbrev s_shows : Stmt := top 20
theorem sc_shows : FnScope ["_law_door", "_law_now", "_law_way", "_law_reason"] ["_law_door", "_law_now"] (defScope s_shows) := ⟨rfl, rfl, rfl, by decide +kernel, rfl, by decide +kernel, by decide +kernel⟩
abbrev s_holds : Stmt := top 21
theorem sc_holds : FnScope ["_law_source_here", "_law_words", "_law_turn", "_law_door", "_law_found", "_law_word_here", "_law_twin", "_law_now", "_law_reason", "_law_pairs", "_law_chosen", "_law_model", "_law_row", "_law_way", "_law_wrong"] ["_law_source_here"] (defScope s_holds) := ⟨rfl, rfl, rfl, by decide +kernel, rfl, by decide +kernel, by decide +kernel⟩
abbrev s_law : Stmt := top 22
theorem sc_law : FnScope ["_law_script", "_law_place", "_law_words"] ["_law_script"] (defScope s_law) := ⟨rfl, rfl, rfl, by decide +kernel, rfl, by decide +kernel, by decide +kernel⟩
structure Ad where
  cB : Addr
  iB : Addr
  cO : Addr
  c_Door : Addr
  c_Leave : Addr
  a_WORDS : Addr
  mcL : Value
  f_reason_of : Addr
  fd_reason_of : FuncData
  f_check_word : Addr
  fd_check_word : FuncData
  f_Door_init : Addr
  fd_Door_init : FuncData
  f_Door_getitem : Addr
  fd_Door_getitem : FuncData
  f_Door_setitem : Addr
  fd_Door_setitem : FuncData
  f_Door_change : Addr
  fd_Door_change : FuncData
  f_Door_copy : Addr
  fd_Door_copy : FuncData
  f_source : Addr
  fd_source : FuncData
  f_draw : Addr
  fd_draw : FuncData
  f_of : Addr
  fd_of : FuncData
  f_same : Addr
  fd_same : FuncData
  f_made : Addr
  fd_made : FuncData
  f_word : Addr
  fd_word : FuncData
  f_refusal : Addr
  fd_refusal : FuncData
  f_made_or : Addr
  fd_made_or : FuncData
  f_changed : Addr
  fd_changed : FuncData
  f_shows : Addr
  fd_shows : FuncData
  f_holds : Addr
  fd_holds : FuncData
  f_law : Addr
  fd_law : FuncData
def W5 : List Str := ["keep", "close", "check", "drain", "ping"]
structure Txt (P : Program) (K : PySem.W.Frag) (mg : Str → Option Value) (A : Ad) : Prop where
  x_BadDoor : ExTxt P K mg "BadDoor" ["word"] A.cB A.iB
  mO : mg "OwedError" = some (.ref A.cO)
  eB : PySem.W.exmOne K (.ref A.cB) (.ref A.cB) = some true
  m_Door : mg "Door" = some (.ref A.c_Door)
  cl : Cls K A.c_Door
  nsq : PySem.W.noSeq K A.c_Door = true
  Mk_Door : Mk K A.c_Door A.f_Door_init
  n_end : NoAttr K A.c_Door "end"
  n_fail : NoAttr K A.c_Door "fail"
  n_cut : NoAttr K A.c_Door "cut"
  n_others : NoAttr K A.c_Door "others"
  F_Door_init : FunD K "__init__" "Door.__init__" (defArgs s_Door_init) (defBody s_Door_init) (defScope s_Door_init) [] [("end", .str "keep"), ("fail", .str "keep"), ("cut", .str "keep")] A.f_Door_init A.fd_Door_init
  m_Leave : mg "Leave" = some (.ref A.c_Leave)
  cr : ClX.CRead K A.c_Leave A.mcL
  v_KEEP : ∃ u, ClX.CVal K A.c_Leave A.mcL "KEEP" (.str "keep") u
  v_CLOSE : ∃ u, ClX.CVal K A.c_Leave A.mcL "CLOSE" (.str "close") u
  v_CHECK : ∃ u, ClX.CVal K A.c_Leave A.mcL "CHECK" (.str "check") u
  v_DRAIN : ∃ u, ClX.CVal K A.c_Leave A.mcL "DRAIN" (.str "drain") u
  v_PING : ∃ u, ClX.CVal K A.c_Leave A.mcL "PING" (.str "ping") u
  m_WORDS : mg "WORDS" = some (.ref A.a_WORDS)
  q_WORDS : ∀ H, SqT K H A.a_WORDS (W5.map V.str)
  F_Door_getitem : Fun K "__getitem__" "Door.__getitem__" s_Door_getitem A.f_Door_getitem A.fd_Door_getitem
  S_Door_getitem : Spc K A.c_Door "__getitem__" A.f_Door_getitem
  b_Door_getitem : Binds K A.fd_Door_getitem ["self", "way"] []
  F_Door_setitem : Fun K "__setitem__" "Door.__setitem__" s_Door_setitem A.f_Door_setitem A.fd_Door_setitem
  S_Door_setitem : Spc K A.c_Door "__setitem__" A.f_Door_setitem
  b_Door_setitem : Binds K A.fd_Door_setitem ["self", "way", "word"] []
  F_Door_change : Fun K "change" "Door.change" s_Door_change A.f_Door_change A.fd_Door_change
  M_Door_change : Meth K A.c_Door "change" A.f_Door_change
  b_Door_change : Binds K A.fd_Door_change ["self", "way", "word"] []
  F_Door_copy : Fun K "copy" "Door.copy" s_Door_copy A.f_Door_copy A.fd_Door_copy
  M_Door_copy : Meth K A.c_Door "copy" A.f_Door_copy
  b_Door_copy : Binds K A.fd_Door_copy ["self"] []
  F_reason_of : Fun K "reason_of" "reason_of" s_reason_of A.f_reason_of A.fd_reason_of
  m_reason_of : mg "reason_of" = some (.ref A.f_reason_of)
  b_reason_of : Binds K A.fd_reason_of ["way"] []
  F_check_word : Fun K "check_word" "check_word" s_check_word A.f_check_word A.fd_check_word
  m_check_word : mg "check_word" = some (.ref A.f_check_word)
  b_check_word : Binds K A.fd_check_word ["word"] []
  F_source : Fun K "_law_source" "_law_source" s_source A.f_source A.fd_source
  m_source : mg "_law_source" = some (.ref A.f_source)
  b_source : Binds K A.fd_source ["_law_script", "_law_place"] []
  F_draw : Fun K "_law_draw" "_law_draw" s_draw A.f_draw A.fd_draw
  m_draw : mg "_law_draw" = some (.ref A.f_draw)
  b_draw : Binds K A.fd_draw ["_law_source_here", "_law_many"] []
  F_of : Fun K "_law_of" "_law_of" s_of A.f_of A.fd_of
  m_of : mg "_law_of" = some (.ref A.f_of)
  b_of : Binds K A.fd_of ["_law_source_here", "_law_some"] []
  F_same : Fun K "_law_same" "_law_same" s_same A.f_same A.fd_same
  m_same : mg "_law_same" = some (.ref A.f_same)
  b_same : Binds K A.fd_same ["_law_actual", "_law_due"] []
  F_made : Fun K "_law_made" "_law_made" s_made A.f_made A.fd_made
  m_made : mg "_law_made" = some (.ref A.f_made)
  b_made : Binds K A.fd_made ["_law_one", "_law_two", "_law_three"] []
  F_word : Fun K "_law_word" "_law_word" s_word A.f_word A.fd_word
  m_word : mg "_law_word" = some (.ref A.f_word)
  b_word : Binds K A.fd_word ["_law_source_here"] []
  F_refusal : Fun K "_law_refusal" "_law_refusal" s_refusal A.f_refusal A.fd_refusal
  m_refusal : mg "_law_refusal" = some (.ref A.f_refusal)
  b_refusal : Binds K A.fd_refusal ["_law_words"] []
  F_made_or : Fun K "_law_made_or" "_law_made_or" s_made_or A.f_made_or A.fd_made_or
  m_made_or : mg "_law_made_or" = some (.ref A.f_made_or)
  b_made_or : Binds K A.fd_made_or ["_law_words"] []
  F_changed : Fun K "_law_changed" "_law_changed" s_changed A.f_changed A.fd_changed
  m_changed : mg "_law_changed" = some (.ref A.f_changed)
  b_changed : Binds K A.fd_changed ["_law_door", "_law_way", "_law_word_here", "_law_by_item"] []
  F_shows : Fun K "_law_shows" "_law_shows" s_shows A.f_shows A.fd_shows
  m_shows : mg "_law_shows" = some (.ref A.f_shows)
  b_shows : Binds K A.fd_shows ["_law_door", "_law_now"] []
  F_holds : Fun K "_law_holds" "_law_holds" s_holds A.f_holds A.fd_holds
  m_holds : mg "_law_holds" = some (.ref A.f_holds)
  b_holds : Binds K A.fd_holds ["_law_source_here"] []
  F_law : Fun K "law" "law" s_law A.f_law A.fd_law
  m_law : mg "law" = some (.ref A.f_law)
  b_law : Binds K A.fd_law ["_law_script"] []
  z_len : mg "len" = none
  z_abs : mg "abs" = none
  z_int : mg "int" = none
  z_range : mg "range" = none
  z_min : mg "min" = none
  z_max : mg "max" = none
  z_isinstance : mg "isinstance" = none
  z_zip : mg "zip" = none
  z_all : mg "all" = none
  z_tuple : mg "tuple" = none
  z_list : mg "list" = none
  z_bool : mg "bool" = none
  z_str : mg "str" = none
  z_dict : mg "dict" = none
/-! promises -/
def good (u : Str) : Prop := u ∈ W5
instance (u : Str) : Decidable (good u) := inferInstanceAs (Decidable (u ∈ W5))
def firstBad (ws : List Str) : Option Str := ws.find? fun u => decide (¬ good u)
def reason : List Key → Str
  | .inr r :: _ => if r = "return" then "end" else r
  | _ => "end"
def IsWay (wy : List Key) : Prop := wy = [] ∨ ∃ r n, wy = [.inr r, .inl n] ∧ r ∈ (["return", "fail", "cut"] : List Str)
def doorF (e f c : Str) (d : Addr) : List (Str × V) := [("end", .str e), ("fail", .str f), ("cut", .str c), ("others", .ref d)]
def DoorAt (A : Ad) (H : Hp) (x : Addr) (e f c : Str) (d : Addr) (kvs : List (List Key × V)) : Prop := ∃ dx, H x = some (.ins A.c_Door dx (doorF e f c d)) ∧ H d = some (.dT kvs)
def spReason : Sp := fun vs H Q _ => ∃ (a : Addr) (wy : List Key), vs = [.ref a] ∧ H a = some (.tup (wy.map kV)) ∧ IsWay wy ∧ ∀ H', Same H H' → Q (.str (reason wy)) H'
/-- BadDoor(u) goes out -/
def Raises1 (A : Ad) (H : Hp) (E : XK) (u : Str) : Prop := ∀ d H', H d = none → Same H H' → H' d = some (.xd [("word", .str u)]) → E (.ref A.cB) (some d) H'
def spCheck (A : Ad) : Sp := fun vs H Q E => ∃ u, vs = [.str u] ∧ (good u → ∀ H', Same H H' → Q .non H') ∧ (¬ good u → Raises1 A H E u)
def spInit (A : Ad) : Sp := fun vs H Q E => ∃ (x dx : Addr) (e f c : Str), vs = [.ref x, .str e, .str f, .str c] ∧ H x = some (.ins A.c_Door dx []) ∧
  (firstBad [e, f, c] = none → ∀ d H', H d = none → But x H H' → H' x = some (.ins A.c_Door dx (doorF e f c d)) → H' d = some (.dT []) → Q .non H') ∧ (∀ u, firstBad [e, f, c] = some u → Raises1 A H E u)
def doorV (e f c : Str) (kvs : List (List Key × V)) (wy : List Key) : V := (valV kvs wy).getD (if reason wy = "fail" then .str f else if reason wy = "cut" then .str c else .str e)
def spGet (A : Ad) : Sp := fun vs H Q _ => ∃ (x a : Addr) (e f c : Str) (d : Addr) (kvs : List (List Key × V)) (wy : List Key), vs = [.ref x, .ref a] ∧ DoorAt A H x e f c d kvs ∧ H a = some (.tup (wy.map kV)) ∧ IsWay wy ∧ ∀ H', Same H H' → Q (doorV e f c kvs wy) H'
def spSet (A : Ad) : Sp := fun vs H Q E => ∃ (x a : Addr) (u e f c : Str) (d : Addr) (kvs : List (List Key × V)) (wy : List Key), vs = [.ref x, .ref a, .str u] ∧ DoorAt A H x e f c d kvs ∧ H a = some (.tup (wy.map kV)) ∧ kvs.length < 1000 ∧
  (good u → ∀ H', But d H H' → H' d = some (.dT (putK kvs wy (.str u))) → Q .non H') ∧ (¬ good u → Raises1 A H E u)
section
variable {P : Program} {w : World} {K : PySem.W.Frag} {mg : Str → Option Value} {base : Heap} {A0 : Ad}
local macro_rules | `(tactic| walk_at "sz") => `(tactic| first | decide | (simp only [List.length_cons, List.length_nil, List.length_append]; omega) | (simp; done))
local macro_rules | `(tactic| walk_at "pow") => `(tactic| exact ⟨by decide, by decide, by first | decide | omega⟩)
local macro_rules | `(tactic| walk_at "mul") => `(tactic| first | exact .inl ⟨by decide, by decide⟩ | exact .inr ⟨by decide, by decide⟩ | exact .inl ⟨by omega, by omega⟩ | exact .inr ⟨by omega, by omega⟩)
local macro_rules | `(tactic| walk_at "pos") => `(tactic| first | (show (0 : Int) < _; decide) | (show (0 : Int) < _; omega))
local macro_rules | `(tactic| walk_at "fdiv") => `(tactic| exact wide_div (b := 100) (by first | decide | omega) (by first | decide | omega) (by decide) (by walk_at "sz"))
theorem ok_source (T : Txt P K mg A0) : FnOk P w K mg base CX0 1 A0.f_source A0.fd_source ["_law_script", "_law_place"] (spSource K) := by
  refine T.F_source.ok sc_source (fun vs H Q E h => ?_) (fun cdv A outer s H vs Q E hr h => ?_)
  · obtain ⟨a, ns, pl, rfl, _⟩ := h
    rfl
  · obtain ⟨a, ns, pl, rfl, hS, hp0, hp1, k⟩ := h
    refine ⟨_, (pss_cons (ps_set (i := 2) sc_source.nd rfl (Or.inl rfl) (pe_ifExp (pt_cmpR op_lt (pv 1) (pe_callB call_len (by rfl) T.z_len PySem.boot_len (pa_cons (pv 0) pa_nil)) (nomark _)) (pe_callTy call_int1 (by rfl) T.z_int (by decide +kernel) (pa_cons (pe_ix ix_list (pv 0) (pv 1) (fun _ _ => rfl)) pa_nil)) pe_int))
 (pss_cons (ps_set (i := 3) sc_source.nd rfl (Or.inl rfl) (pe_ifExp (pt_cmpR op_ge (pe_callB call_abs (by rfl) T.z_abs (by decide +kernel) (pa_cons (pv 2) pa_nil)) (pe_op op_pow pe_int pe_int) (nomark _)) (pe_callB call_abs (by rfl) T.z_abs (by decide +kernel) (pa_cons (pv 2) pa_nil)) pe_int))
 (pss_one (ps_ret (pe_lst (pa_cons (pv 3) (pa_cons (pe_op op_add (pe_op op_add (pe_op op_mod (pe_callTy call_int1 (by rfl) T.z_int (by decide +kernel) (pa_cons (pv 2) pa_nil)) pe_int) (pe_op op_mul pe_int (pv 1))) pe_int) (pa_cons pe_int pa_nil)))))))), ?_⟩
    have rest : ∀ (cell : Int) (D : Int), 0 ≤ D → ∀ p, H p = none → Q (.ref p) (upd H p (.lst [.int D, .int (cell % 2147483579 + 9176 * pl + 41), .int 0])) := fun cell D hD p hp => by
      have e0 := rem0 (a := cell) (n := 2147483579) (by decide)
      have e1 := rem1 (a := cell) (n := 2147483579) (by decide)
      exact k p _ hp (Same.new hp) ⟨⟨_, _, upd_same, hD, by omega, by unfold SM; omega⟩, Int.le_refl _⟩
    refine ⟨_, rfl, _, rfl, _, _, rfl, .inl ⟨_, hS, rfl⟩, _, _, rfl, rfl, _, rfl, ?_⟩
    rw [List.length_map]
    refine ite2 (fun c43 => ?_) (fun c43 => ?_)
    · have hlt : pl.toNat < ns.length := by have := of_decide_eq_true c43; omega
      refine ⟨_, rfl, _, rfl, _, _, _, .int ns[pl.toNat], rfl, rfl, hS, at_of (j := pl.toNat) (by omega) (by simp [hlt]), ?_⟩
      refine .inl ⟨_, rfl, ?_⟩
      refine ⟨_, rfl, _, rfl, _, _, rfl, rfl, (by walk_at "pow"), _, _, rfl, rfl, _, rfl, ?_⟩
      refine ite2 (fun c36 => ?_) (fun c36 => ?_)
      · refine ⟨_, rfl, _, rfl, ?_⟩
        refine ⟨_, rfl, _, rfl, ?_⟩
        refine .inl ⟨_, rfl, ?_⟩
        refine ⟨_, _, rfl, rfl, (by walk_at "pos"), _, rfl, _, _, rfl, rfl, (by walk_at "mul"), _, _, rfl, rfl, _, _, rfl, rfl, (by show 3 ≤ sizeLine; decide), fun p11 hp11 => ?_⟩
        exact rest _ _ (by split <;> omega) p11 hp11
      · refine ⟨_, rfl, _, rfl, ?_⟩
        refine .inl ⟨_, rfl, ?_⟩
        refine ⟨_, _, rfl, rfl, (by walk_at "pos"), _, rfl, _, _, rfl, rfl, (by walk_at "mul"), _, _, rfl, rfl, _, _, rfl, rfl, (by show 3 ≤ sizeLine; decide), fun p11 hp11 => ?_⟩
        exact rest _ _ (by decide) p11 hp11
    · refine ⟨_, rfl, _, rfl, _, _, rfl, rfl, (by walk_at "pow"), _, _, rfl, rfl, _, rfl, ?_⟩
      refine ite2 (fun c36 => ?_) (fun c36 => ?_)
      · refine ⟨_, rfl, _, rfl, ?_⟩
        refine ⟨_, rfl, _, rfl, ?_⟩
        refine .inl ⟨_, rfl, ?_⟩
        refine ⟨_, _, rfl, rfl, (by walk_at "pos"), _, rfl, _, _, rfl, rfl, (by walk_at "mul"), _, _, rfl, rfl, _, _, rfl, rfl, (by show 3 ≤ sizeLine; decide), fun p11 hp11 => ?_⟩
        exact rest _ _ (by decide) p11 hp11
      · refine ⟨_, rfl, _, rfl, ?_⟩
        refine .inl ⟨_, rfl, ?_⟩
        refine ⟨_, _, rfl, rfl, (by walk_at "pos"), _, rfl, _, _, rfl, rfl, (by walk_at "mul"), _, _, rfl, rfl, _, _, rfl, rfl, (by show 3 ≤ sizeLine; decide), fun p11 hp11 => ?_⟩
        exact rest _ _ (by decide) p11 hp11
theorem ok_draw (T : Txt P K mg A0) : FnOk P w K mg base CX0 1 A0.f_draw A0.fd_draw ["_law_source_here", "_law_many"] spDraw := by
  refine T.F_draw.ok sc_draw (fun vs H Q E h => ?_) (fun cdv A outer s H vs Q E hr h => ?_)
  · obtain ⟨p, t, n, rfl, _⟩ := h
    rfl
  · obtain ⟨p, t, n, rfl, ⟨⟨d, m, hp, hd, hm0, hm1⟩, ht0⟩, ht1, hn0, hn1, k⟩ := h
    unfold SM at hm1
    refine ⟨_, (pss_cons (ps_if (pt_cmpR op_gt (pe_ix ix_list (pv 0) pe_int (fun _ _ => rfl)) pe_int (nomark _))
 (pss_cons (ps_set (i := 2) sc_draw.nd rfl (Or.inl rfl) (pe_op op_mod (pe_callTy call_int1 (by rfl) T.z_int (by decide +kernel) (pa_cons (pe_ix ix_list (pv 0) pe_int (fun _ _ => rfl)) pa_nil)) (pv 1)))
 (pss_cons (ps_asg (pe_op op_fdivW (pe_ix ix_list (pv 0) pe_int (fun _ _ => rfl)) (pv 1)) (pg_sub (pv 0) pe_int set_list))
 (pss_one (ps_ret (pv 2)))))
 pss_nil)
 (pss_cons (ps_set (i := 3) sc_draw.nd rfl (Or.inl rfl) (pe_op op_add (pe_ix ix_list (pv 0) pe_int (fun _ _ => rfl)) pe_int))
 (pss_cons (ps_asg (pv 3) (pg_sub (pv 0) pe_int set_list))
 (pss_cons (ps_set (i := 4) sc_draw.nd rfl (Or.inl rfl) (pe_op op_mod (pe_callTy call_int1 (by rfl) T.z_int (by decide +kernel) (pa_cons (pe_op op_add (pe_op op_add (pe_op op_mul (pe_ix ix_list (pv 0) pe_int (fun _ _ => rfl)) pe_int) (pe_op op_mul (pe_op op_mul pe_int (pv 3)) (pv 3))) pe_int) pa_nil)) pe_int))
 (pss_cons (ps_asg (pv 4) (pg_sub (pv 0) pe_int set_list))
 (pss_one (ps_ret (pe_op op_mod (pe_op op_mod (pe_callTy call_int1 (by rfl) T.z_int (by decide +kernel) (pa_cons (pe_op op_add (pe_op op_pow (pe_op op_fdivW (pv 4) pe_int) pe_int) (pe_op op_fdivW (pv 4) pe_int)) pa_nil)) pe_int) (pv 1))))))))), ?_⟩
    refine ⟨_, rfl, _, _, _, .int d, rfl, rfl, (SqL.of hp), (by rfl), _, _, rfl, rfl, _, rfl, ?_⟩
    refine ite2 (fun c7 => ?_) (fun c7 => ?_)
    · refine ⟨_, rfl, _, _, _, .int d, rfl, rfl, (SqL.of hp), (by rfl), ?_⟩
      refine .inl ⟨_, rfl, ?_⟩
      refine ⟨_, rfl, _, _, rfl, rfl, (by walk_at "pos"), ?_⟩
      refine ⟨_, rfl, _, _, _, .int d, rfl, rfl, (SqL.of hp), (by rfl), _, rfl, _, _, rfl, rfl, (by walk_at "fdiv"), _, rfl, _, _, _, _, rfl, rfl, hp, (by rfl), ?_⟩
      refine ⟨_, rfl, ?_⟩
      exact k _ t _ (rem0 hn0) (rem1 hn0) (Int.le_refl _) (by omega) But.upd ⟨⟨_, _, upd_same, div0 hn0 hd, hm0, by unfold SM; omega⟩, ht0⟩
    · refine ⟨_, rfl, _, _, _, .int t, rfl, rfl, (SqL.of hp), (by rfl), _, _, rfl, rfl, ?_⟩
      refine ⟨_, rfl, _, rfl, _, _, _, _, rfl, rfl, hp, (by rfl), ?_⟩
      have hp' : upd H p (.lst ([V.int d, .int m, .int t].set 2 (.int (t + 1)))) p = some (srcV d m (t + 1)) := upd_same
      refine ⟨_, rfl, _, _, _, .int m, rfl, rfl, (SqL.of hp'), (by rfl), _, _, rfl, rfl, (by walk_at "mul"), _, rfl, _, _, rfl, rfl, (by walk_at "mul"), _, rfl, _, _, rfl, rfl, (by walk_at "mul"), _, _, rfl, rfl, _, _, rfl, rfl, ?_⟩
      refine .inl ⟨_, rfl, ?_⟩
      refine ⟨_, _, rfl, rfl, (by walk_at "pos"), ?_⟩
      have e0 := rem0 (a := m * 40692 + 12211 * (t + 1) * (t + 1) + 77) (n := 2147483399) (by decide)
      have e1 := rem1 (a := m * 40692 + 12211 * (t + 1) * (t + 1) + 77) (n := 2147483399) (by decide)
      generalize (m * 40692 + 12211 * (t + 1) * (t + 1) + 77) % 2147483399 = y at e0 e1
      refine ⟨_, rfl, _, rfl, _, _, _, _, rfl, rfl, hp', (by rfl), ?_⟩
      refine ⟨_, rfl, _, _, rfl, rfl, (by walk_at "fdiv"), _, _, rfl, rfl, (by walk_at "pow"), _, rfl, _, _, rfl, rfl, (by walk_at "fdiv"), _, _, rfl, rfl, ?_⟩
      refine .inl ⟨_, rfl, ?_⟩
      refine ⟨_, _, rfl, rfl, (by walk_at "pos"), _, rfl, _, _, rfl, rfl, (by walk_at "pos"), ?_⟩
      exact k _ (t + 1) _ (rem0 hn0) (rem1 hn0) (by omega) (Int.le_refl _) (But.trans But.upd But.upd) ⟨⟨_, _, upd_same, hd, by omega, by unfold SM; omega⟩, by omega⟩
theorem ok_of (T : Txt P K mg A0) : FnOk P w K mg base CX0 2 A0.f_of A0.fd_of ["_law_source_here", "_law_some"] (spOf K) := by
  have G_draw : FnOk P w K mg base CX0 1 A0.f_draw A0.fd_draw ["_law_source_here", "_law_many"] spDraw := ok_draw T
  refine T.F_of.ok sc_of (fun vs H Q E h => ?_) (fun cdv A outer s H vs Q E hr h => ?_)
  · obtain ⟨p, l, t, xs, rfl, _⟩ := h
    rfl
  · obtain ⟨p, l, t, xs, rfl, hp, ht1, hl, hx0, hx1, hne, k⟩ := h
    refine ⟨_, (pss_one (ps_ret (pe_ix ix_list (pv 1) (pe_call G_draw (hr.mono (by decide)) rfl T.m_draw T.F_draw.kp T.b_draw .nil pass0 (pa_cons (pv 0) (pa_cons (pe_callB call_len (by rfl) T.z_len PySem.boot_len (pa_cons (pv 1) pa_nil)) pa_nil))) (fun _ _ => rfl)))), ?_⟩
    refine ⟨_, rfl, _, rfl, _, rfl, _, _, rfl, .inl ⟨_, SqL.of hl, rfl⟩, p, t, _, rfl, hp, ht1, by omega, by omega, fun i t' H1 h0 h1 h2 h3 h4 h5 => ?_⟩
    have hi : i.toNat < xs.length := by omega
    refine ⟨l, xs, i, xs[i.toNat], rfl, rfl, SqL.of (h4 l _ (Ne.symm hne) hl), at_of (j := i.toNat) (by omega) (by simp [hi]), ?_⟩
    exact k _ t' _ (List.getElem_mem hi) h2 h3 h4 h5
/-- nothing is promised -/
def spNo : Sp := fun _ _ _ _ => False
def lowSame (K : PySem.W.Frag) : Nat → Sp
  | 0 => spNo
  | n + 1 => spSame K n
theorem ok_same (T : Txt P K mg A0) : ∀ n : Nat, FnOk P w K mg base CX0 (n + 1) A0.f_same A0.fd_same ["_law_actual", "_law_due"] (spSame K n) := by
  have main : ∀ n : Nat, FnOk P w K mg base CX0 n A0.f_same A0.fd_same ["_law_actual", "_law_due"] (lowSame K n) → FnOk P w K mg base CX0 (n + 1) A0.f_same A0.fd_same ["_law_actual", "_law_due"] (spSame K n) := fun n Gs => by
    refine T.F_same.ok sc_same (fun vs H Q E h => ?_) (fun cdv A outer s H vs Q E hr h => ?_)
    · obtain ⟨x, y, d, rfl, _⟩ := h
      rfl
    · obtain ⟨x, y, d, rfl, dx, dy, hn, hok, k⟩ := h
      refine ⟨_, (pss_cons (ps_if (PW.pt (pw_or (pt_cmpR op_isN (pv 1) pe_non (nomark _)) (pw_or1 (pt_val (pe_callB call_isi (by rfl) T.z_isinstance (by decide +kernel) (pa_cons (pv 1) (pa_cons (pe_bltn (v := .ty "bool") (by rfl) T.z_bool (by decide +kernel) rfl) pa_nil)))))))
 (pss_one (ps_ret (pe_ifExp (pt_cmpR op_isN (pv 1) pe_non (nomark _)) (pe_cmpR op_isN (pv 0) pe_non (nomark _)) (pe_and (pe_callB call_isi (by rfl) T.z_isinstance (by decide +kernel) (pa_cons (pv 0) (pa_cons (pe_bltn (v := .ty "bool") (by rfl) T.z_bool (by decide +kernel) rfl) pa_nil))) (pe_one (pe_cmpR op_eq (pv 0) (pv 1) (nomark _)))))))
 pss_nil)
 (pss_cons (ps_if (pt_cmpR op_ne (pe_callB call_isi (by rfl) T.z_isinstance (by decide +kernel) (pa_cons (pv 1) (pa_cons (pe_bltn (v := .ty "tuple") (by rfl) T.z_tuple (by decide +kernel) rfl) pa_nil))) (pe_callB call_isi (by rfl) T.z_isinstance (by decide +kernel) (pa_cons (pv 0) (pa_cons (pe_bltn (v := .ty "tuple") (by rfl) T.z_tuple (by decide +kernel) rfl) pa_nil))) (nomark _))
 (pss_one (ps_ret pe_bl))
 pss_nil)
 (pss_cons (ps_if (pt_cmpR op_ne (pe_callB call_isi (by rfl) T.z_isinstance (by decide +kernel) (pa_cons (pv 1) (pa_cons (pe_bltn (v := .ty "list") (by rfl) T.z_list (by decide +kernel) rfl) pa_nil))) (pe_callB call_isi (by rfl) T.z_isinstance (by decide +kernel) (pa_cons (pv 0) (pa_cons (pe_bltn (v := .ty "list") (by rfl) T.z_list (by decide +kernel) rfl) pa_nil))) (nomark _))
 (pss_one (ps_ret pe_bl))
 pss_nil)
 (pss_cons (ps_if (pt_val (pe_callB call_isiT (by rfl) T.z_isinstance (by decide +kernel) (pa_cons (pv 1) (pa_cons (pe_tup (pa_cons (pe_bltn (v := .ty "tuple") (by rfl) T.z_tuple (by decide +kernel) rfl) (pa_cons (pe_bltn (v := .ty "list") (by rfl) T.z_list (by decide +kernel) rfl) pa_nil))) pa_nil))))
 (pss_one (ps_ret (pe_and (pe_cmpR op_eq (pe_callB call_len (by rfl) T.z_len PySem.boot_len (pa_cons (pv 0) pa_nil)) (pe_callB call_len (by rfl) T.z_len PySem.boot_len (pa_cons (pv 1) pa_nil)) (nomark _)) (pe_one (pe_callB (cr_all rfl) (by rfl) T.z_all (by decide +kernel) (pa_cons (pe_lc (own := [("_law_one", 2), ("_law_two", 3)]) (g := gTup _ 2 (gCons (gName 2) (gCons (gName 3) gNil))) (tt := tYes) (by rfl) sc_same.nd (RZ.pi_zipA rfl T.z_zip (pa_cons (pv 0) (pa_cons (pv 1) pa_nil))) (blkOk_by (N := ["_law_actual", "_law_due", "_law_one", "_law_two"]) (sc := defScope s_same) (by decide +kernel)) (fun _ _ _ _ _ => (pg_tup rfl (pgs_cons (pg_name (i := 2) sc_same.nd rfl (Or.inl rfl)) (pgs_cons (pg_name (i := 3) sc_same.nd rfl (Or.inl rfl)) pgs_nil)))) (fun _ _ _ _ _ => pts_nil) (fun _ _ _ _ _ => (pe_call Gs hr rfl T.m_same T.F_same.kp T.b_same .nil pass0 (pa_cons (pv 2) (pa_cons (pv 3) pa_nil))))) pa_nil))))))
 pss_nil)
 (pss_cons (ps_if (pt_val (pe_callB call_isi (by rfl) T.z_isinstance (by decide +kernel) (pa_cons (pv 1) (pa_cons (pe_bltn (v := .ty "int") (by rfl) T.z_int (by decide +kernel) rfl) pa_nil))))
 (pss_one (ps_ret (pe_and (pe_callB call_isi (by rfl) T.z_isinstance (by decide +kernel) (pa_cons (pv 0) (pa_cons (pe_bltn (v := .ty "int") (by rfl) T.z_int (by decide +kernel) rfl) pa_nil))) (pe_and (pe_not (pe_callB call_isi (by rfl) T.z_isinstance (by decide +kernel) (pa_cons (pv 0) (pa_cons (pe_bltn (v := .ty "bool") (by rfl) T.z_bool (by decide +kernel) rfl) pa_nil)))) (pe_one (pe_cmpR op_eq (pv 0) (pv 1) (nomark _)))))))
 pss_nil)
 (pss_one (ps_ret (pe_and (pe_callB call_isi (by rfl) T.z_isinstance (by decide +kernel) (pa_cons (pv 0) (pa_cons (pe_bltn (v := .ty "str") (by rfl) T.z_str (by decide +kernel) rfl) pa_nil))) (pe_one (pe_cmpR op_eq (pv 0) (pv 1) (nomark _))))))))))), ?_⟩
      cases dx
      · -- None
        cases dy
        refine Evl.q_when (b := true) (Evl.et_or (a := true) (b := true) (Evl.et_test (Evl.ev_is (ev_isN (v := .non) (Evl.ev_var rfl)) (by rfl))) fun h => nomatch h) (fun _ H1 e1 => ?_) (fun h => nomatch h)
        exact Evl.s_ret (v := .bl true) (Evl.ev_if (b := true) (Evl.et_test (Evl.ev_is (ev_isN (v := .non) (Evl.ev_var rfl)) (by rfl))) (fun _ => Evl.ev_is (ev_isN (v := .non) (Evl.ev_var rfl)) (by rfl)) fun h => nomatch h) fun H2 e2 => k H2 (Same.trans e1 e2)
      · -- bool
        cases dy
        rename_i b
        refine Evl.q_when (b := true) (Evl.et_or (a := false) (b := true) (Evl.et_test (Evl.ev_is (ev_isN (v := .bl b) (Evl.ev_var rfl)) (by rfl))) fun _ => Evl.et_B (ev_isi (b := true) (Evl.ev_var rfl) (.bl b) (show kitB "bool" "bool" = some true by decide +kernel))) (fun _ H1 e1 => ?_) (fun h => nomatch h)
        exact Evl.s_ret (v := .bl true) (Evl.ev_if (b := false) (Evl.et_test (Evl.ev_is (ev_isN (v := .bl b) (Evl.ev_var rfl)) (by rfl))) (fun h => nomatch h) fun _ => Evl.ev_andV (a := true) (b := true) (ev_isi (b := true) (Evl.ev_var rfl) (.bl b) (show kitB "bool" "bool" = some true by decide +kernel)) fun _ => Evl.ev_is (Evl.ev_op (Evl.ev_var (v := .bl b) rfl) (Evl.ev_var (v := .bl b) rfl) (Evl.rv_eq rfl)) (by simp)) fun H2 e2 => k H2 (Same.trans e1 e2)
      · -- int
        rename_i i
        have dx : Dp K H (.int i) (.int i) := .int i
        cases dy
        have dy := dx
        refine Evl.q_when (b := false) (Evl.et_or (a := false) (b := false) (Evl.et_test (Evl.ev_is (ev_isN (v := .int _) (Evl.ev_var rfl)) (by rfl))) fun _ => Evl.et_B (ev_isi (b := false) (Evl.ev_var rfl) dy (show kitB "int" "bool" = some false by decide +kernel))) (fun h => nomatch h) fun _ H1 e1 => ?_
        refine Evl.q_when (b := false) (Evl.et_test (Evl.ev_is (Evl.ev_op (ev_isi (b := false) (Evl.ev_var rfl) (dy.mono e1) (show kitB "int" "tuple" = some false by decide +kernel)) (ev_isi (b := false) (Evl.ev_var rfl) (dx.mono e1) (show kitB "int" "tuple" = some false by decide +kernel)) (Evl.rv_ne rfl)) (by decide))) (fun h => nomatch h) fun _ H2 e2 => ?_
        have e2 := Same.trans e1 e2
        refine Evl.q_when (b := false) (Evl.et_test (Evl.ev_is (Evl.ev_op (ev_isi (b := false) (Evl.ev_var rfl) (dy.mono e2) (show kitB "int" "list" = some false by decide +kernel)) (ev_isi (b := false) (Evl.ev_var rfl) (dx.mono e2) (show kitB "int" "list" = some false by decide +kernel)) (Evl.rv_ne rfl)) (by decide))) (fun h => nomatch h) fun _ H3 e3 => ?_
        have e3 := Same.trans e2 e3
        refine Evl.q_when (b := false) (Evl.et_B (ev_isiT (Evl.ev_var rfl) (dy.mono e3) (kitA_int (K := K)))) (fun h => nomatch h) fun _ H4 e4 => ?_
        have e4 := Same.trans e3 e4
        refine Evl.q_when (b := true) (Evl.et_B (ev_isi (b := true) (Evl.ev_var rfl) (dy.mono e4) (show kitB "int" "int" = some true by decide +kernel))) (fun _ H5 e5 => ?_) (fun h => nomatch h)
        have e5 := Same.trans e4 e5
        exact Evl.s_ret (v := .bl true) (Evl.ev_andV (a := true) (b := true) (ev_isi (b := true) (Evl.ev_var rfl) (dx.mono e5) (show kitB "int" "int" = some true by decide +kernel)) fun _ => Evl.ev_andV (a := true) (b := true) (Evl.ev_is (Evl.ev_notV (a := false) (ev_isi (b := false) (Evl.ev_var rfl) (dx.mono e5) (show kitB "int" "bool" = some false by decide +kernel))) (by rfl)) fun _ => Evl.ev_is (Evl.ev_op (Evl.ev_var (v := .int i) rfl) (Evl.ev_var (v := .int i) rfl) (Evl.rv_eq rfl)) (by simp)) fun H2 e2 => k H2 (Same.trans e5 e2)
      · -- str
        rename_i i
        have dx : Dp K H (.str i) (.str i) := .str i
        cases dy
        have dy := dx
        refine Evl.q_when (b := false) (Evl.et_or (a := false) (b := false) (Evl.et_test (Evl.ev_is (ev_isN (v := .str _) (Evl.ev_var rfl)) (by rfl))) fun _ => Evl.et_B (ev_isi (b := false) (Evl.ev_var rfl) dy (show kitB "str" "bool" = some false by decide +kernel))) (fun h => nomatch h) fun _ H1 e1 => ?_
        refine Evl.q_when (b := false) (Evl.et_test (Evl.ev_is (Evl.ev_op (ev_isi (b := false) (Evl.ev_var rfl) (dy.mono e1) (show kitB "str" "tuple" = some false by decide +kernel)) (ev_isi (b := false) (Evl.ev_var rfl) (dx.mono e1) (show kitB "str" "tuple" = some false by decide +kernel)) (Evl.rv_ne rfl)) (by decide))) (fun h => nomatch h) fun _ H2 e2 => ?_
        have e2 := Same.trans e1 e2
        refine Evl.q_when (b := false) (Evl.et_test (Evl.ev_is (Evl.ev_op (ev_isi (b := false) (Evl.ev_var rfl) (dy.mono e2) (show kitB "str" "list" = some false by decide +kernel)) (ev_isi (b := false) (Evl.ev_var rfl) (dx.mono e2) (show kitB "str" "list" = some false by decide +kernel)) (Evl.rv_ne rfl)) (by decide))) (fun h => nomatch h) fun _ H3 e3 => ?_
        have e3 := Same.trans e2 e3
        refine Evl.q_when (b := false) (Evl.et_B (ev_isiT (Evl.ev_var rfl) (dy.mono e3) (kitA_str (K := K)))) (fun h => nomatch h) fun _ H4 e4 => ?_
        have e4 := Same.trans e3 e4
        refine Evl.q_when (b := false) (Evl.et_B (ev_isi (b := false) (Evl.ev_var rfl) (dy.mono e4) (show kitB "str" "int" = some false by decide +kernel))) (fun h => nomatch h) fun _ H5 e5 => ?_
        have e5 := Same.trans e4 e5
        exact Evl.s_ret (v := .bl true) (Evl.ev_andV (a := true) (b := true) (ev_isi (b := true) (Evl.ev_var rfl) (dx.mono e5) (show kitB "str" "str" = some true by decide +kernel)) fun _ => Evl.ev_is (Evl.ev_op (Evl.ev_var (v := .str i) rfl) (Evl.ev_var (v := .str i) rfl) (Evl.rv_eq rfl)) (by simp)) fun H2 e2 => k H2 (Same.trans e5 e2)
      · -- list
        rename_i xa xs ds hx ax
        obtain ⟨yr, rfl⟩ : ∃ a, y = .ref a := by cases dy; exact ⟨_, rfl⟩
        have dx := Dp.lst (K := K) (H := H) hx ax
        refine Evl.q_when (b := false) (Evl.et_or (a := false) (b := false) (Evl.et_test (Evl.ev_is (ev_isN (v := .ref _) (Evl.ev_var rfl)) (by rfl))) fun _ => Evl.et_B (ev_isi (b := false) (Evl.ev_var rfl) dy (show kitB "list" "bool" = some false by decide +kernel))) (fun h => nomatch h) fun _ H1 e1 => ?_
        refine Evl.q_when (b := false) (Evl.et_test (Evl.ev_is (Evl.ev_op (ev_isi (b := false) (Evl.ev_var rfl) (dy.mono e1) (show kitB "list" "tuple" = some false by decide +kernel)) (ev_isi (b := false) (Evl.ev_var rfl) (dx.mono e1) (show kitB "list" "tuple" = some false by decide +kernel)) (Evl.rv_ne rfl)) (by decide))) (fun h => nomatch h) fun _ H2 e2 => ?_
        have e2 := Same.trans e1 e2
        refine Evl.q_when (b := false) (Evl.et_test (Evl.ev_is (Evl.ev_op (ev_isi (b := true) (Evl.ev_var rfl) (dy.mono e2) (show kitB "list" "list" = some true by decide +kernel)) (ev_isi (b := true) (Evl.ev_var rfl) (dx.mono e2) (show kitB "list" "list" = some true by decide +kernel)) (Evl.rv_ne rfl)) (by decide))) (fun h => nomatch h) fun _ H3 e3 => ?_
        have e3 := Same.trans e2 e3
        refine Evl.q_when (b := true) (Evl.et_B (ev_isiT (Evl.ev_var rfl) (dy.mono e3) (kitA_lst (K := K)))) (fun _ H4 e4 => ?_) (fun h => nomatch h)
        have e4 := Same.trans e3 e4
        cases dy with
        | lst hy ay =>
          rename_i ya ys
          have hlen : xs.length = ys.length := DpAll.same_length ax ay
          have hx4 := Evl.ex_l e4 hx
          have hy4 := Evl.ex_l e4 hy
          have ez : decide (V.int (xs.length : Int) = V.int (ys.length : Int)) = true := decide_eq_true (by rw [hlen])
          refine ⟨_, rfl, _, _, rfl, .inl ⟨_, hx4, rfl⟩, _, rfl, _, _, rfl, .inl ⟨_, hy4, rfl⟩, rfl, _, rfl, ?_⟩
          rw [ez]
          refine ⟨_, rfl, _, rfl, _, _, _, _, rfl, .inl ⟨hx4, hy4, fun D hD => ?_⟩⟩
          have hnn : depAll ds + 1 ≤ n := by unfold dep at hn; exact hn
          cases n with
          | zero => omega
          | succ n =>
            refine zip_turns (K := K) (n := n) (walk_zip (by omega)) (fun H' e => ⟨Evl.ex_l e hx4, Evl.ex_l e hy4⟩) hD (ax.mono e4) (ay.mono e4) (by omega) (okD_lst hok ax) (fun T x y H' k hT hk => ⟨T, _, rfl, SqT.of hT, rfl, x, _, rfl, y, _, rfl, rfl, hk⟩) (fun _ _ => rfl) (fun _ _ => rfl) (fun _ _ => rfl) fun H' e hD' => ?_
            refine ⟨D, List.replicate xs.length true, rfl, SqL.of (by rw [List.map_replicate]; exact hD'), ?_⟩
            rw [List.all_replicate]
            have et : (if xs.length = 0 then true else id true) = true := by split <;> rfl
            exact k _ (Same.trans (Same.trans e4 e) (Same.refl _)) |> cast (by simp)
      · -- tuple
        rename_i xa xs ds hx ax
        obtain ⟨yr, rfl⟩ : ∃ a, y = .ref a := by cases dy; exact ⟨_, rfl⟩
        have dx := Dp.tup (K := K) (H := H) hx ax
        refine Evl.q_when (b := false) (Evl.et_or (a := false) (b := false) (Evl.et_test (Evl.ev_is (ev_isN (v := .ref _) (Evl.ev_var rfl)) (by rfl))) fun _ => Evl.et_B (ev_isi (b := false) (Evl.ev_var rfl) dy (show kitB "tuple" "bool" = some false by decide +kernel))) (fun h => nomatch h) fun _ H1 e1 => ?_
        refine Evl.q_when (b := false) (Evl.et_test (Evl.ev_is (Evl.ev_op (ev_isi (b := true) (Evl.ev_var rfl) (dy.mono e1) (show kitB "tuple" "tuple" = some true by decide +kernel)) (ev_isi (b := true) (Evl.ev_var rfl) (dx.mono e1) (show kitB "tuple" "tuple" = some true by decide +kernel)) (Evl.rv_ne rfl)) (by decide))) (fun h => nomatch h) fun _ H2 e2 => ?_
        have e2 := Same.trans e1 e2
        refine Evl.q_when (b := false) (Evl.et_test (Evl.ev_is (Evl.ev_op (ev_isi (b := false) (Evl.ev_var rfl) (dy.mono e2) (show kitB "tuple" "list" = some false by decide +kernel)) (ev_isi (b := false) (Evl.ev_var rfl) (dx.mono e2) (show kitB "tuple" "list" = some false by decide +kernel)) (Evl.rv_ne rfl)) (by decide))) (fun h => nomatch h) fun _ H3 e3 => ?_
        have e3 := Same.trans e2 e3
        refine Evl.q_when (b := true) (Evl.et_B (ev_isiT (Evl.ev_var rfl) (dy.mono e3) (kitA_tup (K := K)))) (fun _ H4 e4 => ?_) (fun h => nomatch h)
        have e4 := Same.trans e3 e4
        cases dy with
        | tup hy ay =>
          rename_i ya ys
          have hlen : xs.length = ys.length := DpAll.same_length ax ay
          have hx4 := Evl.ex_t e4 hx
          have hy4 := Evl.ex_t e4 hy
          have ez : decide (V.int (xs.length : Int) = V.int (ys.length : Int)) = true := decide_eq_true (by rw [hlen])
          refine ⟨_, rfl, _, _, rfl, .inr ⟨_, hx4, rfl⟩, _, rfl, _, _, rfl, .inr ⟨_, hy4, rfl⟩, rfl, _, rfl, ?_⟩
          rw [ez]
          refine ⟨_, rfl, _, rfl, _, _, _, _, rfl, .inr ⟨hx4, hy4, fun D hD => ?_⟩⟩
          have hnn : depAll ds + 1 ≤ n := by unfold dep at hn; exact hn
          cases n with
          | zero => omega
          | succ n =>
            refine zip_turns (K := K) (n := n) (walk_zipT hlen) (fun H' e => ⟨Evl.ex_t e hx4, Evl.ex_t e hy4⟩) hD (ax.mono e4) (ay.mono e4) (by omega) (okD_tup hok ax) (fun T x y H' k hT hk => ⟨T, _, rfl, SqT.of hT, rfl, x, _, rfl, y, _, rfl, rfl, hk⟩) (fun _ _ => rfl) (fun _ _ => rfl) (fun _ _ => rfl) fun H' e hD' => ?_
            refine ⟨D, List.replicate xs.length true, rfl, SqL.of (by rw [List.map_replicate]; exact hD'), ?_⟩
            rw [List.all_replicate]
            have et : (if xs.length = 0 then true else id true) = true := by split <;> rfl
            exact k _ (Same.trans (Same.trans e4 e) (Same.refl _)) |> cast (by simp)
  intro n
  induction n with
  | zero => exact main 0 ⟨fun _ _ _ _ h => h.elim, fun _ _ _ _ _ _ _ _ _ _ _ _ _ h => h.elim⟩
  | succ n ih => exact main (n + 1) ih

end
end K36
end
section
set_option Elab.async false
set_option autoImplicit false
set_option linter.all false
set_option maxRecDepth 100000
set_option maxHeartbeats 4000000
namespace K36
open PySem PySem.Spec PyProof.Rows L2 PySem.OxE LawC
theorem firstBad_at {u : Str} : ∀ {ws : List Str} {i : Nat}, (∀ v ∈ ws.take i, good v) → ws[i]? = some u → ¬ good u → firstBad ws = some u
  | x :: ws, 0, _, e, h => by
    have e : x = u := by simpa using e
    subst e
    unfold firstBad
    rw [List.find?_cons, decide_eq_true h]
  | x :: ws, i + 1, hg, e, h => by
    have hx : good x := hg x (by simp)
    have ih := firstBad_at (ws := ws) (i := i) (fun v hv => hg v (by simp [hv])) (by simpa using e) h
    unfold firstBad at ih ⊢
    rw [List.find?_cons, decide_eq_false (fun q => q hx)]
    exact ih
theorem firstBad_none {ws : List Str} {n : Nat} (h : ∀ v ∈ ws.take n, good v) (hn : ws.length ≤ n := by decide) : firstBad ws = none := by
  rw [List.take_of_length_le hn] at h
  unfold firstBad
  rw [List.find?_eq_none]
  intro v hv q
  have q : ¬ good v := by simpa using q
  exact q (h v hv)
def doorF1 (e f c : Str) : List (Str × V) := [("end", .str e), ("fail", .str f), ("cut", .str c)]
section
variable {P : Program} {w : World} {K : PySem.W.Frag} {mg : Str → Option Value} {base : Heap} {A0 : Ad}
theorem ok_reason_of (T : Txt P K mg A0) : FnOk P w K mg base CX0 1 A0.f_reason_of A0.fd_reason_of ["way"] spReason := by
  refine T.F_reason_of.ok sc_reason_of (fun vs H Q E h => ?_) (fun cdv A outer s H vs Q E hr h => ?_)
  · obtain ⟨a, wy, rfl, _⟩ := h
    rfl
  · obtain ⟨a, wy, rfl, ha, hw, k⟩ := h
    refine ⟨_, (pss_cons (ps_if (PW.pt (pw_or (pt_cmpR op_eq (pe_callB call_len (by rfl) T.z_len PySem.boot_len (pa_cons (pv 0) pa_nil)) pe_int (nomark _)) (pw_or1 (pt_cmpR op_eq (pe_ix ix_tup (pv 0) pe_int (fun _ _ => rfl)) pe_str (nomark _)))))
 (pss_one (ps_ret pe_str))
 pss_nil)
 (pss_one (ps_ret (pe_ix ix_tup (pv 0) pe_int (fun _ _ => rfl))))), ?_⟩
    rcases hw with rfl | ⟨r, n, rfl, hr3⟩
    · refine Evl.q_when (b := true) (Evl.et_or (a := true) (b := true) (Evl.et_test (Evl.ev_is (Evl.ev_op (ev_lenT (Evl.ev_var rfl) (SqT.of ha)) Evl.ev_c (Evl.rv_eq rfl)) (by rfl))) fun h => nomatch h) (fun _ H1 e1 => ?_) (fun h => nomatch h)
      exact Evl.s_ret Evl.ev_c fun H2 e2 => k H2 (Same.trans e1 e2)
    · refine Evl.q_when (b := decide (r = "return")) (Evl.et_is (Evl.et_or (a := false) (b := decide (r = "return")) (Evl.et_test (Evl.ev_is (Evl.ev_op (ev_lenT (Evl.ev_var rfl) (SqT.of ha)) Evl.ev_c (Evl.rv_eq rfl)) (by rfl))) fun _ => Evl.et_test (Evl.ev_is (Evl.ev_op (Evl.ev_op (Evl.ev_var rfl) Evl.ev_c (Evl.rv_ixT (v := .str r) (SqT.of ha) (by rfl))) Evl.ev_c (Evl.rv_eq rfl)) (by simp))) (by simp)) (fun h H1 e1 => ?_) (fun h H1 e1 => ?_)
      · refine Evl.s_ret Evl.ev_c fun H2 e2 => ?_
        have := k H2 (Same.trans e1 e2)
        rw [show reason [.inr r, .inl n] = "end" from if_pos (of_decide_eq_true h)] at this
        exact this
      · refine Evl.s_ret (Evl.ev_op (Evl.ev_var rfl) Evl.ev_c (Evl.rv_ixT (v := .str r) (SqT.of (e1 _ _ ha)) (by rfl))) fun H2 e2 => ?_
        have := k H2 (Same.trans e1 e2)
        rw [show reason [.inr r, .inl n] = r from if_neg (of_decide_eq_false h)] at this
        exact this
theorem ok_check_word (T : Txt P K mg A0) : FnOk P w K mg base (CX P w) 1 A0.f_check_word A0.fd_check_word ["word"] (spCheck A0) := by
  refine T.F_check_word.okX sc_check_word (fun vs H Q E h => ?_) (fun cdv A outer s H vs Q E hr h => ?_)
  · obtain ⟨u, rfl, _⟩ := h
    rfl
  · obtain ⟨u, rfl, k1, k2⟩ := h
    refine ⟨_, (pss_one (ps_if (pt_cmpR op_notIn_seq (pv 0) (pe_glob (v := .ref _) rfl T.m_WORDS rfl) (by first | rfl | with_unfolding_all rfl))
 (pss_one (ps_raiseOx rfl T.x_BadDoor hr (takes_of rfl rfl rfl rfl) rfl (pa_cons (pv 0) pa_nil)))
 pss_nil)), ?_⟩
    refine Evl.s_when (b := !decide (good u)) (Evl.et_test (Evl.ev_is (Evl.ev_op (Evl.ev_var (v := .str u) rfl) Evl.ev_c (Evl.rv_niT (T.q_WORDS _) rfl flat_strs)) (by rw [inV_str]; rfl))) (fun h H1 e1 => ?_) (fun h H1 e1 => ?_)
    · have hb : ¬ good u := by simpa using h
      exact ⟨_, rfl, rfl, fun d hd => k2 hb d _ (Evl.fresh_back e1 hd) (Same.trans e1 (Same.new hd)) upd_same⟩
    · exact k1 (by simpa using h) H1 e1
theorem ok_Door_init (T : Txt P K mg A0) : FnOk P w K mg base (CX P w) 2 A0.f_Door_init A0.fd_Door_init ["self", "end", "fail", "cut"] (spInit A0) := by
  have G_check_word : FnOk P w K mg base (CX P w) 1 A0.f_check_word A0.fd_check_word ["word"] (spCheck A0) := ok_check_word T
  refine T.F_Door_init.ok sc_Door_init (fun vs H Q E h => ?_) (fun cdv A outer s H vs Q E hr h => ?_)
  · obtain ⟨x, dx, e, f, c, rfl, _⟩ := h
    rfl
  · obtain ⟨x, dx, e, f, c, rfl, hx, k1, k2⟩ := h
    refine ⟨_, (pss_cons (ps_for (passes_of rfl) rfl (pi_tup (pe_tup (pa_cons (pv 1) (pa_cons (pv 2) (pa_cons (pv 3) pa_nil))))) (pg_name (i := 4) sc_Door_init.nd rfl (Or.inl rfl))
 (pss_one (ps_expr (pe_callS G_check_word (hr.mono (by decide)) rfl T.m_check_word T.F_check_word.kp T.b_check_word (passAt (takes_of rfl rfl rfl rfl)) (pa_cons (pv 4) pa_nil)))))
 (pss_cons (ps_fld (pv 0) (pv 1) rfl)
 (pss_cons (ps_fld (pv 0) (pv 2) rfl)
 (pss_cons (ps_fld (pv 0) (pv 3) rfl)
 (pss_one (ps_fld (pv 0) pe_dnewT rfl)))))), ?_⟩
    refine ⟨_, rfl, _, rfl, _, rfl, (by show 3 ≤ sizeLine; decide), fun p hp => ⟨p, rfl, ⟨_, SqT.of upd_same⟩, for_tup (xs := [e, f, c].map V.str)
      (fun i σ H' => ∃ y4 : Option V, σ = [some (.ref x), some (.str e), some (.str f), some (.str c), y4] ∧ Same H H' ∧ H' p = some (.tup ([e, f, c].map V.str)) ∧ ∀ u ∈ [e, f, c].take i, good u) ⟨_, rfl, Same.new hp, upd_same, fun u h => by cases h⟩ (fun i σ H' _ q => ?_) (fun i z σ H' hi q => ?_) (fun σ H' q => ?_)⟩⟩
    · obtain ⟨y4, _, _, hp', _⟩ := q
      exact SqT.of hp'
    · obtain ⟨y4, rfl, s1, hp', hg⟩ := q
      rw [List.getElem?_map] at hi
      obtain ⟨u, hu, rfl⟩ := Option.map_eq_some_iff.mp hi
      refine ⟨_, rfl, u, rfl, fun hgu H2 e2 => ⟨_, rfl, Same.trans s1 e2, e2 _ _ hp', fun v hv => ?_⟩, fun hgu d H2 hd e2 hd2 => ?_⟩
      · rw [List.take_add_one, hu] at hv
        rcases List.mem_append.mp hv with hv | hv
        · exact hg v hv
        · rw [List.mem_singleton.mp hv]; exact hgu
      · exact k2 u (firstBad_at hg hu hgu) d H2 (Evl.fresh_back s1 hd) (Same.trans s1 e2) hd2
    · obtain ⟨y4, rfl, s1, hp', hg⟩ := q
      have hx1 := s1 _ _ hx
      have hn : firstBad [e, f, c] = none := firstBad_none hg (by simp)
      refine ⟨_, rfl, _, rfl, x, _, _, _, rfl, hx1, T.cl, T.n_end, (by show (0 : Nat) < 1000; decide), ?_⟩
      refine ⟨_, rfl, _, rfl, x, _, _, _, rfl, upd_same, T.cl, T.n_fail, (by show (1 : Nat) < 1000; decide), ?_⟩
      refine ⟨_, rfl, _, rfl, x, _, _, _, rfl, upd_same, T.cl, T.n_cut, (by show (2 : Nat) < 1000; decide), ?_⟩
      refine fun d hd => ⟨_, rfl, x, A0.c_Door, dx, doorF1 e f c, rfl, ?_, T.cl, T.n_others, (by show (3 : Nat) < 1000; decide), ?_⟩
      · have hxd : x ≠ d := ne_of_none (upd_same (a := x)) hd
        rw [upd_ne hxd, upd_same]
        rfl
      · have hxd : x ≠ d := ne_of_none (upd_same (a := x)) hd
        have b1 : But x H H' := fun b o _ h => s1 b o h
        have hdH : H d = none := by
          cases hh : H d with
          | none => rfl
          | some o =>
            have := s1 _ _ hh
            rw [upd_ne (Ne.symm hxd), upd_ne (Ne.symm hxd), upd_ne (Ne.symm hxd)] at hd
            rw [hd] at this
            cases this
        exact k1 hn d _ hdH (But.trans (But.trans (But.trans (But.trans (But.trans b1 But.upd) But.upd) But.upd) (fun b o _ h => Same.new hd b o h)) But.upd) upd_same (by rw [upd_ne (Ne.symm hxd), upd_same])
theorem ok_Door_getitem (T : Txt P K mg A0) : FnOk P w K mg base CX0 2 A0.f_Door_getitem A0.fd_Door_getitem ["self", "way"] (spGet A0) := by
  have G_reason_of : FnOk P w K mg base CX0 1 A0.f_reason_of A0.fd_reason_of ["way"] spReason := ok_reason_of T
  refine T.F_Door_getitem.ok sc_Door_getitem (fun vs H Q E h => ?_) (fun cdv A outer s H vs Q E hr h => ?_)
  · obtain ⟨x, a, e, f, c, d, kvs, wy, rfl, _⟩ := h
    rfl
  · obtain ⟨x, a, e, f, c, d, kvs, wy, rfl, hx, ha, hw, k⟩ := h
    refine ⟨_, (pss_cons (ps_set (i := 2) sc_Door_getitem.nd rfl (Or.inl rfl) (pe_call G_reason_of (hr.mono (by decide)) rfl T.m_reason_of T.F_reason_of.kp T.b_reason_of .nil pass0 (pa_cons (pv 1) pa_nil)))
 (pss_cons (ps_if (pt_cmp (pc_din (hu_of hr) (pv 1) (pe_fld (pv 0) rfl)))
 (pss_one (ps_ret (pe_dget (hu_of hr) (pe_fld (pv 0) rfl) (pv 1) (fun _ _ => rfl))))
 pss_nil)
 (pss_cons (ps_if (pt_cmpR op_eq (pv 2) pe_str (nomark _))
 (pss_one (ps_ret (pe_fld (pv 0) rfl)))
 pss_nil)
 (pss_one (ps_ret (pe_ifExp (pt_cmpR op_eq (pv 2) pe_str (nomark _)) (pe_fld (pv 0) rfl) (pe_fld (pv 0) rfl))))))), ?_⟩
    obtain ⟨dx, hx1, hd⟩ := hx
    refine ⟨_, rfl, a, wy, rfl, ha, hw, fun H1 e1 => ?_⟩
    have hx2 := e1 _ _ hx1
    have hd2 := e1 _ _ hd
    have ha2 := e1 _ _ ha
    refine ⟨_, rfl, _, rfl, x, _, _, _, _, rfl, hx2, T.cl, T.n_others, (by rfl), d, valV kvs wy, rfl, DGet.t hd2 ha2, _, rfl, ?_⟩
    cases hv : valV kvs wy with
    | some v =>
      refine ⟨_, rfl, x, _, _, _, _, rfl, hx2, T.cl, T.n_others, (by rfl), _, rfl, d, v, rfl, ?_, ?_⟩
      · rw [← hv]; exact DGet.t hd2 ha2
      · have := k H1 e1
        unfold doorV at this
        rw [hv] at this
        exact this
    | none =>
      refine Evl.q_when (b := decide (reason wy = "fail")) (Evl.et_test (Evl.ev_is (Evl.ev_op (Evl.ev_var rfl) Evl.ev_c (Evl.rv_eq rfl)) (by simp))) (fun h H2 e2 => ?_) (fun h H2 e2 => ?_)
      · refine Evl.s_ret (ev_fld (Evl.ev_var rfl) (e2 _ _ hx2) T.cl T.n_fail (v := .str f) (by rfl)) fun H3 e3 => ?_
        have := k H3 (Same.trans (Same.trans e1 e2) e3)
        unfold doorV at this
        rw [hv, if_pos (of_decide_eq_true h)] at this
        exact this
      · refine Evl.s_ret (v := if reason wy = "cut" then .str c else .str e) (Evl.ev_if (b := decide (reason wy = "cut")) (Evl.et_test (Evl.ev_is (Evl.ev_op (Evl.ev_var rfl) Evl.ev_c (Evl.rv_eq rfl)) (by simp))) (fun h2 => ?_) (fun h2 => ?_)) fun H3 e3 => ?_
        · rw [if_pos (of_decide_eq_true h2)]
          exact ev_fld (Evl.ev_var rfl) (e2 _ _ hx2) T.cl T.n_cut (v := .str c) (by rfl)
        · rw [if_neg (of_decide_eq_false h2)]
          exact ev_fld (Evl.ev_var rfl) (e2 _ _ hx2) T.cl T.n_end (v := .str e) (by rfl)
        · have := k H3 (Same.trans (Same.trans e1 e2) e3)
          unfold doorV at this
          rw [hv, if_neg (of_decide_eq_false h)] at this
          exact this
theorem ok_Door_setitem (T : Txt P K mg A0) : FnOk P w K mg base (CX P w) 2 A0.f_Door_setitem A0.fd_Door_setitem ["self", "way", "word"] (spSet A0) := by
  have G_check_word : FnOk P w K mg base (CX P w) 1 A0.f_check_word A0.fd_check_word ["word"] (spCheck A0) := ok_check_word T
  refine T.F_Door_setitem.okX sc_Door_setitem (fun vs H Q E h => ?_) (fun cdv A outer s H vs Q E hr h => ?_)
  · obtain ⟨x, a, u, e, f, c, d, kvs, wy, rfl, _⟩ := h
    rfl
  · obtain ⟨x, a, u, e, f, c, d, kvs, wy, rfl, hx, ha, hz, k1, k2⟩ := h
    refine ⟨_, (pss_cons (ps_expr (pe_callS G_check_word (hr.mono (by decide)) rfl T.m_check_word T.F_check_word.kp T.b_check_word (passAt (takes_of rfl rfl rfl rfl)) (pa_cons (pv 2) pa_nil)))
 (pss_one (ps_dput (hu_of hr) (pe_fld (pv 0) rfl) (pv 1) (pv 2) rfl))), ?_⟩
    obtain ⟨dx, hx1, hd⟩ := hx
    refine ⟨_, rfl, u, rfl, fun hg H1 e1 => ?_, fun hg d1 H1 h1 h2 h3 => k2 hg d1 H1 h1 h2 h3⟩
    refine ⟨_, rfl, _, rfl, x, _, _, _, _, rfl, e1 _ _ hx1, T.cl, T.n_others, (by rfl), _, rfl, d, _, rfl, DPut.t (e1 _ _ hd) (e1 _ _ ha) (Evl.sz_lt (by omega)), ?_⟩
    exact k1 hg _ (But.trans (fun b o _ h => e1 b o h) But.upd) upd_same
theorem ok_Door_change (T : Txt P K mg A0) : FnOk P w K mg base (CX P w) 3 A0.f_Door_change A0.fd_Door_change ["self", "way", "word"] (spSet A0) := by
  have G_Door_setitem : FnOk P w K mg base (CX P w) 2 A0.f_Door_setitem A0.fd_Door_setitem ["self", "way", "word"] (spSet A0) := ok_Door_setitem T
  refine T.F_Door_change.okX sc_Door_change (fun vs H Q E h => ?_) (fun cdv A outer s H vs Q E hr h => ?_)
  · obtain ⟨x, a, u, e, f, c, d, kvs, wy, rfl, _⟩ := h
    rfl
  · have h0 := h
    obtain ⟨x, a, u, e, f, c, d, kvs, wy, rfl, hx, ha, hz, k1, k2⟩ := h
    refine ⟨_, (pss_one (ps_setOwn T.S_Door_setitem T.nsq G_Door_setitem (hr.mono (by decide)) T.b_Door_setitem (passAt (takes_of rfl rfl rfl rfl)) (pv 0) (pv 1) (pv 2) rfl)), ?_⟩
    obtain ⟨dx, hx1, hd⟩ := id hx
    exact ⟨_, rfl, _, rfl, _, rfl, x, dx, _, rfl, hx1, x, a, u, e, f, c, d, kvs, wy, rfl, hx, ha, hz, fun hg H1 h1 h2 => k1 hg H1 h1 h2, fun hg => k2 hg⟩
end
end K36
end
section
set_option Elab.async false
set_option autoImplicit false
set_option linter.all false
set_option maxRecDepth 100000
set_option maxHeartbeats 4000000
namespace K36
open PySem PySem.Spec PyProof.Rows L2 PySem.OxE LawC
theorem passF {P : Program} {w : World} {X : Cx} : Passes (CX P w) X (fun _ _ _ => False) := fun _ _ _ _ _ _ _ ⟨_, _, _, _, _, _, _, _, _, _, _, _, h⟩ => h.elim
theorem passAtF {P : Program} {w : World} {X : Cx} (σ : L2.St) : PassesAt (CX P w) X σ ((fun _ _ _ _ => False : L2.St → XK) σ) := fun _ _ _ _ _ _ ⟨_, _, _, _, _, _, _, _, _, _, _, _, h⟩ => h.elim
theorem upd_id {H : Hp} {a : Addr} {o : HO} (h : H a = some o) : upd H a o = H := by
  funext b
  by_cases e : b = a
  · rw [e, upd_same, h]
  · rw [upd_ne e]
theorem vals_take {vs : List V} {us : List Value} (r : Vals vs us) : ∀ n, Vals (vs.take n) (us.take n) := by
  induction r with
  | nil => intro n; simp; exact .nil
  | cons h t ih =>
    intro n
    cases n with
    | zero => exact .nil
    | succ n => exact .cons h (ih n)
section
variable {P : Program} {w : World} {K : PySem.W.Frag} {mg : Str → Option Value} {base : Heap} {A0 : Ad}
theorem kb_1 (T : Txt P K mg A0) : ∃ mz : List Value, KBn K A0.fd_Door_init ["self", "end", "fail", "cut"] 1 [] (fun us ws => us ++ mz) (fun vs zs => vs ++ ([.str "keep", .str "keep", .str "keep"] : List V)) := by
  obtain ⟨mv, h⟩ := T.F_Door_init.kbinds0 (ps := ["self", "end", "fail", "cut"]) 1 [] [("end", .str "keep"), ("fail", .str "keep"), ("cut", .str "keep")] (fun us mz ws => us ++ mz) (by simp) (by simp) (fun r1 r2 r3 => r1.append r2) (fun D doc pm an cdv ct us mv ws l1 l2 l3 => by
    match us, mv, ws, l1, l2, l3 with
    | [u], [a, b, c], [], _, _, _ => exact ⟨_, _, _, _, _, _, rfl, rfl, ⟨_, _, _, _, _, _, rfl, rfl, ⟨_, _, _, _, _, _, rfl, rfl, rfl⟩⟩⟩)
  exact ⟨mv, h⟩
theorem kb_2 (T : Txt P K mg A0) : ∃ mz : List Value, KBn K A0.fd_Door_init ["self", "end", "fail", "cut"] 1 ["cut"] (fun us ws => us ++ (mz ++ ws)) (fun vs zs => vs ++ (([.str "keep", .str "keep"] : List V) ++ zs)) := by
  obtain ⟨mv, h⟩ := T.F_Door_init.kbinds0 (ps := ["self", "end", "fail", "cut"]) 1 ["cut"] [("end", .str "keep"), ("fail", .str "keep")] (fun us mz ws => us ++ (mz ++ ws)) (by simp) (by simp) (fun r1 r2 r3 => r1.append (r2.append r3)) (fun D doc pm an cdv ct us mv ws l1 l2 l3 => by
    match us, mv, ws, l1, l2, l3 with
    | [u], [a, b], [x], _, _, _ => exact ⟨_, _, _, _, _, _, rfl, rfl, ⟨_, _, _, _, _, _, rfl, rfl, rfl⟩⟩)
  exact ⟨mv, h⟩
theorem kb_3 (T : Txt P K mg A0) : ∃ mz : List Value, KBn K A0.fd_Door_init ["self", "end", "fail", "cut"] 1 ["fail"] (fun us ws => us ++ (mz.take 1 ++ (ws ++ mz.drop 1))) (fun vs zs => vs ++ (([.str "keep", .str "keep"] : List V).take 1 ++ (zs ++ ([.str "keep", .str "keep"] : List V).drop 1))) := by
  obtain ⟨mv, h⟩ := T.F_Door_init.kbinds0 (ps := ["self", "end", "fail", "cut"]) 1 ["fail"] [("end", .str "keep"), ("cut", .str "keep")] (fun us mz ws => us ++ (mz.take 1 ++ (ws ++ mz.drop 1))) (by simp) (by simp) (fun r1 r2 r3 => r1.append ((vals_take r2 1).append (r3.append (r2.drop 1)))) (fun D doc pm an cdv ct us mv ws l1 l2 l3 => by
    match us, mv, ws, l1, l2, l3 with
    | [u], [a, b], [x], _, _, _ => exact ⟨_, _, _, _, _, _, rfl, rfl, ⟨_, _, _, _, _, _, rfl, rfl, rfl⟩⟩)
  exact ⟨mv, h⟩
theorem kb_4 (T : Txt P K mg A0) : ∃ mz : List Value, KBn K A0.fd_Door_init ["self", "end", "fail", "cut"] 1 ["cut", "fail"] (fun us ws => us ++ (mz ++ (ws.drop 1 ++ ws.take 1))) (fun vs zs => vs ++ (([.str "keep"] : List V) ++ (zs.drop 1 ++ zs.take 1))) := by
  obtain ⟨mv, h⟩ := T.F_Door_init.kbinds0 (ps := ["self", "end", "fail", "cut"]) 1 ["cut", "fail"] [("end", .str "keep")] (fun us mz ws => us ++ (mz ++ (ws.drop 1 ++ ws.take 1))) (by simp) (by simp) (fun r1 r2 r3 => r1.append (r2.append ((r3.drop 1).append (vals_take r3 1)))) (fun D doc pm an cdv ct us mv ws l1 l2 l3 => by
    match us, mv, ws, l1, l2, l3 with
    | [u], [a], [x, y], _, _, _ => exact ⟨_, _, _, _, _, _, rfl, rfl, rfl⟩)
  exact ⟨mv, h⟩
theorem kb_5 (T : Txt P K mg A0) : ∃ mz : List Value, KBn K A0.fd_Door_init ["self", "end", "fail", "cut"] 1 ["end"] (fun us ws => us ++ (ws ++ mz)) (fun vs zs => vs ++ (zs ++ ([.str "keep", .str "keep"] : List V))) := by
  obtain ⟨mv, h⟩ := T.F_Door_init.kbinds0 (ps := ["self", "end", "fail", "cut"]) 1 ["end"] [("fail", .str "keep"), ("cut", .str "keep")] (fun us mz ws => us ++ (ws ++ mz)) (by simp) (by simp) (fun r1 r2 r3 => r1.append (r3.append r2)) (fun D doc pm an cdv ct us mv ws l1 l2 l3 => by
    match us, mv, ws, l1, l2, l3 with
    | [u], [a, b], [x], _, _, _ => exact ⟨_, _, _, _, _, _, rfl, rfl, ⟨_, _, _, _, _, _, rfl, rfl, rfl⟩⟩)
  exact ⟨mv, h⟩
theorem kb_6 (T : Txt P K mg A0) : ∃ mz : List Value, KBn K A0.fd_Door_init ["self", "end", "fail", "cut"] 1 ["cut", "end"] (fun us ws => us ++ (ws.drop 1 ++ (mz ++ ws.take 1))) (fun vs zs => vs ++ (zs.drop 1 ++ (([.str "keep"] : List V) ++ zs.take 1))) := by
  obtain ⟨mv, h⟩ := T.F_Door_init.kbinds0 (ps := ["self", "end", "fail", "cut"]) 1 ["cut", "end"] [("fail", .str "keep")] (fun us mz ws => us ++ (ws.drop 1 ++ (mz ++ ws.take 1))) (by simp) (by simp) (fun r1 r2 r3 => r1.append ((r3.drop 1).append (r2.append (vals_take r3 1)))) (fun D doc pm an cdv ct us mv ws l1 l2 l3 => by
    match us, mv, ws, l1, l2, l3 with
    | [u], [a], [x, y], _, _, _ => exact ⟨_, _, _, _, _, _, rfl, rfl, rfl⟩)
  exact ⟨mv, h⟩
theorem kb_7 (T : Txt P K mg A0) : ∃ mz : List Value, KBn K A0.fd_Door_init ["self", "end", "fail", "cut"] 1 ["end", "fail"] (fun us ws => us ++ (ws ++ mz)) (fun vs zs => vs ++ (zs ++ ([.str "keep"] : List V))) := by
  obtain ⟨mv, h⟩ := T.F_Door_init.kbinds0 (ps := ["self", "end", "fail", "cut"]) 1 ["end", "fail"] [("cut", .str "keep")] (fun us mz ws => us ++ (ws ++ mz)) (by simp) (by simp) (fun r1 r2 r3 => r1.append (r3.append r2)) (fun D doc pm an cdv ct us mv ws l1 l2 l3 => by
    match us, mv, ws, l1, l2, l3 with
    | [u], [a], [x, y], _, _, _ => exact ⟨_, _, _, _, _, _, rfl, rfl, rfl⟩)
  exact ⟨mv, h⟩
theorem kb_8 (T : Txt P K mg A0) : ∃ mz : List Value, KBn K A0.fd_Door_init ["self", "end", "fail", "cut"] 1 ["fail", "end", "cut"] (fun us ws => us ++ ((ws.drop 1).take 1 ++ (ws.take 1 ++ ws.drop 2))) (fun vs zs => vs ++ ((zs.drop 1).take 1 ++ (zs.take 1 ++ zs.drop 2))) := by
  obtain ⟨mv, h⟩ := T.F_Door_init.kbinds0 (ps := ["self", "end", "fail", "cut"]) 1 ["fail", "end", "cut"] [] (fun us mz ws => us ++ ((ws.drop 1).take 1 ++ (ws.take 1 ++ ws.drop 2))) (by simp) (by simp) (fun r1 r2 r3 => r1.append ((vals_take (r3.drop 1) 1).append ((vals_take r3 1).append (r3.drop 2)))) (fun D doc pm an cdv ct us mv ws l1 l2 l3 => by
    match us, mv, ws, l1, l2, l3 with
    | [u], [], [x, y, z], _, _, _ => exact rfl)
  exact ⟨mv, h⟩
theorem kb_9 (T : Txt P K mg A0) : ∃ mz : List Value, KBn K A0.fd_Door_init ["self", "end", "fail", "cut"] 1 ["end", "fail", "cut"] (fun us ws => us ++ ws) (fun vs zs => vs ++ zs) := by
  obtain ⟨mv, h⟩ := T.F_Door_init.kbinds0 (ps := ["self", "end", "fail", "cut"]) 1 ["end", "fail", "cut"] [] (fun us mz ws => us ++ ws) (by simp) (by simp) (fun r1 r2 r3 => r1.append r3) (fun D doc pm an cdv ct us mv ws l1 l2 l3 => by
    match us, mv, ws, l1, l2, l3 with
    | [u], [], [x, y, z], _, _, _ => exact rfl)
  exact ⟨mv, h⟩

/-- a new door, or BadDoor -/
def MadeOk (A : Ad) (H : Hp) (Q : VK) (E : XK) (e f c : Str) : Prop := (firstBad [e, f, c] = none → ∀ y d H', H y = none → H d = none → y ≠ d → Same H H' → DoorAt A H' y e f c d [] → Q (.ref y) H') ∧ ∀ u, firstBad [e, f, c] = some u → Raises1 A H E u
theorem mk_door {H H1 : Hp} {W : VK} {E : XK} {e f c : Str} {x dx : Addr} (m1 : firstBad [e, f, c] = none → ∀ d H', H d = none → x ≠ d → Same H H' → DoorAt A0 H' x e f c d [] → W .non H') (m2 : ∀ u, firstBad [e, f, c] = some u → Raises1 A0 H E u) (s : Same H H1) (hx : H1 x = none) (hdx : H1 dx = none) (hne : dx ≠ x) :
    spInit A0 [.ref x, .str e, .str f, .str c] (upd (upd H1 dx (.own x)) x (.ins A0.c_Door dx [])) W E := by
  have s2 : Same H (upd (upd H1 dx (.own x)) x (.ins A0.c_Door dx [])) := fun b o h => by
    have h1 := s b o h
    rw [upd_ne (ne_of_none h1 hx), upd_ne (ne_of_none h1 hdx)]
    exact h1
  exact ⟨x, dx, e, f, c, rfl, upd_same, fun hn d H' hd hb hx' hd' => m1 hn d H' (Evl.fresh_back s2 hd) (fun q => by rw [← q, upd_same] at hd; cases hd) (fun b o h => hb b o (fun q => by rw [q] at h; have := s _ _ h; rw [hx] at this; cases this) (s2 b o h)) ⟨dx, hx', hd'⟩, fun u hu d H' hd hs hd' => m2 u hu d H' (Evl.fresh_back s2 hd) (Same.trans s2 hs) hd'⟩
theorem mk_made {H H1 : Hp} {Q : VK} {E : XK} {e f c : Str} {x dx : Addr} (m : MadeOk A0 H Q E e f c) (s : Same H H1) (hx : H1 x = none) (hdx : H1 dx = none) (hne : dx ≠ x) :
    spInit A0 [.ref x, .str e, .str f, .str c] (upd (upd H1 dx (.own x)) x (.ins A0.c_Door dx [])) (fun v H3 => v = .non ∧ Q (.ref x) H3) E :=
  mk_door (fun hn d H' h1 h2 h3 h4 => ⟨rfl, m.1 hn x d H' (Evl.fresh_back s hx) h1 h2 h3 h4⟩) m.2 s hx hdx hne
def optV : Option Str → V
  | none => .non
  | some u => .str u
def dft (o : Option Str) : Str := o.getD "keep"
def spMade (A : Ad) : Sp := fun vs H Q E => ∃ o1 o2 o3 : Option Str, vs = [optV o1, optV o2, optV o3] ∧ MadeOk A H Q E (dft o1) (dft o2) (dft o3)
def spCopy (A : Ad) : Sp := fun vs H Q _ => ∃ (x : Addr) (e f c : Str) (d : Addr), vs = [.ref x] ∧ DoorAt A H x e f c d [] ∧ firstBad [e, f, c] = none ∧ ∀ y d2 H', H y = none → H d2 = none → y ≠ d2 → Same H H' → DoorAt A H' y e f c d2 [] → Q (.ref y) H'
theorem ok_Door_copy (T : Txt P K mg A0) : FnOk P w K mg base CX0 4 A0.f_Door_copy A0.fd_Door_copy ["self"] (spCopy A0) := by
  have G_Door_init : FnOk P w K mg base (CX P w) 2 A0.f_Door_init A0.fd_Door_init ["self", "end", "fail", "cut"] (spInit A0) := ok_Door_init T
  have G_Door_setitem : FnOk P w K mg base (CX P w) 2 A0.f_Door_setitem A0.fd_Door_setitem ["self", "way", "word"] (spSet A0) := ok_Door_setitem T
  obtain ⟨m9, kb9⟩ := kb_9 T
  refine T.F_Door_copy.ok sc_Door_copy (fun vs H Q E h => ?_) (fun cdv A outer s H vs Q E hr h => ?_)
  · obtain ⟨x, e, f, c, d, rfl, _⟩ := h
    rfl
  · obtain ⟨x, e, f, c, d, rfl, ⟨dx, hx, hd⟩, hn, k⟩ := h
    refine ⟨_, (pss_cons (ps_set (i := 1) sc_Door_copy.nd rfl (Or.inl rfl) (pe_makeK0 T.Mk_Door G_Door_init (hr.mono (by decide)) rfl T.m_Door kb9 passF (pk_cons (pe_fld (pv 0) rfl) (pk_cons (pe_fld (pv 0) rfl) (pk_cons (pe_fld (pv 0) rfl) pk_nil)))))
 (pss_cons (ps_lock (ps_for PassesOwn.never rfl (pi_keys (pe_fld (pv 0) rfl)) (pg_name (i := 2) sc_Door_copy.nd rfl (Or.inl rfl)) (pss_one (ps_setOwn T.S_Door_setitem T.nsq G_Door_setitem (hr.mono (by decide)) T.b_Door_setitem (passAtF) (pv 1) (pv 2) (pe_dget (hu_of hr) (pe_fld (pv 0) rfl) (pv 2) (fun _ _ => rfl)) rfl))))
 (pss_one (ps_ret (pv 1))))), ?_⟩
    refine ⟨_, rfl, x, _, dx, _, .str e, rfl, hx, T.cl, T.n_end, (by rfl), _, rfl, x, _, dx, _, .str f, rfl, hx, T.cl, T.n_fail, (by rfl), _, rfl, x, _, dx, _, .str c, rfl, hx, T.cl, T.n_cut, (by rfl), rfl, rfl, fun y dy hy hdy hne => ?_⟩
    refine mk_door (fun _ d2 H1 h2 h3 s1 D => ⟨rfl, ?_⟩) (fun u hu => by rw [hn] at hu; cases hu) (Same.refl H) hy hdy hne
    have hx1 := s1 _ _ hx
    have hd1 := s1 _ _ hd
    have hxd : x ≠ d := ne_of hx1 hd1 (fun z => nomatch z)
    refine ⟨d, .dT [], hd1, True.intro, fun od => ?_⟩
    refine ⟨_, rfl, x, _, dx, _, _, rfl, (by rw [upd_ne hxd]; exact hx1), T.cl, T.n_others, (by rfl), d, od, rfl, .inr ⟨[], upd_same, for_it walk_keysT (fun i σ' H' => i = 0 ∧ σ' = [some (.ref x), some (.ref y), none] ∧ H' = upd H1 d (.frz od (.dT []))) ⟨rfl, rfl, rfl⟩ (fun i σ' H' _ q => by rw [q.2.2]; exact upd_same) (fun i v σ' H' H'' hi q => absurd hi (by simp)) (fun σ' H' q => ?_)⟩⟩
    obtain ⟨_, rfl, rfl⟩ := q
    refine ⟨upd_same, ?_⟩
    rw [upd_upd, upd_id hd1]
    exact ⟨_, rfl, k y d2 H1 hy h2 h3 s1 D⟩
theorem ok_made (T : Txt P K mg A0) : FnOk P w K mg base (CX P w) 4 A0.f_made A0.fd_made ["_law_one", "_law_two", "_law_three"] (spMade A0) := by
  have G_Door_init : FnOk P w K mg base (CX P w) 2 A0.f_Door_init A0.fd_Door_init ["self", "end", "fail", "cut"] (spInit A0) := ok_Door_init T
  obtain ⟨m1, kb1⟩ := kb_1 T
  obtain ⟨m2, kb2⟩ := kb_2 T
  obtain ⟨m3, kb3⟩ := kb_3 T
  obtain ⟨m4, kb4⟩ := kb_4 T
  obtain ⟨m5, kb5⟩ := kb_5 T
  obtain ⟨m6, kb6⟩ := kb_6 T
  obtain ⟨m7, kb7⟩ := kb_7 T
  obtain ⟨m8, kb8⟩ := kb_8 T
  refine T.F_made.okX sc_made (fun vs H Q E h => ?_) (fun cdv A outer s H vs Q E hr h => ?_)
  · obtain ⟨o1, o2, o3, rfl, _⟩ := h
    rfl
  · obtain ⟨o1, o2, o3, rfl, m⟩ := h
    refine ⟨_, (pss_cons (ps_if (PW.pt (pw_and (pt_cmpR op_isN (pv 0) pe_non (nomark _)) (pw_and1 (pt_cmpR op_isN (pv 1) pe_non (nomark _)))))
 (pss_one (ps_ret (pe_ifExp (pt_cmpR op_isN (pv 2) pe_non (nomark _)) (pe_makeK0 T.Mk_Door G_Door_init (hr.mono (by decide)) rfl T.m_Door kb1 (passE (takes_of rfl rfl rfl rfl)) pk_nil) (pe_makeK0 T.Mk_Door G_Door_init (hr.mono (by decide)) rfl T.m_Door kb2 (passE (takes_of rfl rfl rfl rfl)) (pk_cons (pv 2) pk_nil)))))
 pss_nil)
 (pss_cons (ps_if (pt_cmpR op_isN (pv 0) pe_non (nomark _))
 (pss_one (ps_ret (pe_ifExp (pt_cmpR op_isN (pv 2) pe_non (nomark _)) (pe_makeK0 T.Mk_Door G_Door_init (hr.mono (by decide)) rfl T.m_Door kb3 (passE (takes_of rfl rfl rfl rfl)) (pk_cons (pv 1) pk_nil)) (pe_makeK0 T.Mk_Door G_Door_init (hr.mono (by decide)) rfl T.m_Door kb4 (passE (takes_of rfl rfl rfl rfl)) (pk_cons (pv 2) (pk_cons (pv 1) pk_nil))))))
 pss_nil)
 (pss_cons (ps_if (pt_cmpR op_isN (pv 1) pe_non (nomark _))
 (pss_one (ps_ret (pe_ifExp (pt_cmpR op_isN (pv 2) pe_non (nomark _)) (pe_makeK0 T.Mk_Door G_Door_init (hr.mono (by decide)) rfl T.m_Door kb5 (passE (takes_of rfl rfl rfl rfl)) (pk_cons (pv 0) pk_nil)) (pe_makeK0 T.Mk_Door G_Door_init (hr.mono (by decide)) rfl T.m_Door kb6 (passE (takes_of rfl rfl rfl rfl)) (pk_cons (pv 2) (pk_cons (pv 0) pk_nil))))))
 pss_nil)
 (pss_one (ps_ret (pe_ifExp (pt_cmpR op_isN (pv 2) pe_non (nomark _)) (pe_makeK0 T.Mk_Door G_Door_init (hr.mono (by decide)) rfl T.m_Door kb7 (passE (takes_of rfl rfl rfl rfl)) (pk_cons (pv 0) (pk_cons (pv 1) pk_nil))) (pe_makeK0 T.Mk_Door G_Door_init (hr.mono (by decide)) rfl T.m_Door kb8 (passE (takes_of rfl rfl rfl rfl)) (pk_cons (pv 1) (pk_cons (pv 0) (pk_cons (pv 2) pk_nil)))))))))), ?_⟩
    rcases o1 with _ | a <;> rcases o2 with _ | b <;> rcases o3 with _ | c
    · -- 000
      refine Evl.q_when (b := true) (Evl.et_and (a := true) (b := true) (Evl.et_test (b := true) (Evl.ev_is (ev_isN (v := .non) (Evl.ev_var rfl)) (by rfl))) fun _ => Evl.et_test (b := true) (Evl.ev_is (ev_isN (v := .non) (Evl.ev_var rfl)) (by rfl))) (fun _ H1 e1 => ?_) (fun h => nomatch h)
      refine ((Evl.et_test (b := true) (Evl.ev_is (ev_isN (v := .non) (Evl.ev_var rfl)) (by rfl))) H1 (Evl.Ex.refl _) _ fun H3 e3 => ?_)
      rw [if_pos rfl]
      exact ⟨rfl, rfl, fun x dx hx hdx hne => mk_made m (Same.trans e1 e3) hx hdx hne⟩
    · -- 001
      refine Evl.q_when (b := true) (Evl.et_and (a := true) (b := true) (Evl.et_test (b := true) (Evl.ev_is (ev_isN (v := .non) (Evl.ev_var rfl)) (by rfl))) fun _ => Evl.et_test (b := true) (Evl.ev_is (ev_isN (v := .non) (Evl.ev_var rfl)) (by rfl))) (fun _ H1 e1 => ?_) (fun h => nomatch h)
      refine ((Evl.et_test (b := false) (Evl.ev_is (ev_isN (v := .str c) (Evl.ev_var rfl)) (by rfl))) H1 (Evl.Ex.refl _) _ fun H3 e3 => ?_)
      rw [if_neg Bool.false_ne_true]
      exact ⟨_, rfl, rfl, rfl, fun x dx hx hdx hne => mk_made m (Same.trans e1 e3) hx hdx hne⟩
    · -- 010
      refine Evl.q_when (b := false) (Evl.et_and (a := true) (b := false) (Evl.et_test (b := true) (Evl.ev_is (ev_isN (v := .non) (Evl.ev_var rfl)) (by rfl))) fun _ => Evl.et_test (b := false) (Evl.ev_is (ev_isN (v := .str b) (Evl.ev_var rfl)) (by rfl))) (fun h => nomatch h) fun _ H0 e0 => ?_
      refine Evl.q_when (b := true) (Evl.et_test (b := true) (Evl.ev_is (ev_isN (v := .non) (Evl.ev_var rfl)) (by rfl))) (fun _ H1 e1 => ?_) (fun h => nomatch h)
      have e1 := Same.trans e0 e1
      refine ((Evl.et_test (b := true) (Evl.ev_is (ev_isN (v := .non) (Evl.ev_var rfl)) (by rfl))) H1 (Evl.Ex.refl _) _ fun H3 e3 => ?_)
      rw [if_pos rfl]
      exact ⟨_, rfl, rfl, rfl, fun x dx hx hdx hne => mk_made m (Same.trans e1 e3) hx hdx hne⟩
    · -- 011
      refine Evl.q_when (b := false) (Evl.et_and (a := true) (b := false) (Evl.et_test (b := true) (Evl.ev_is (ev_isN (v := .non) (Evl.ev_var rfl)) (by rfl))) fun _ => Evl.et_test (b := false) (Evl.ev_is (ev_isN (v := .str b) (Evl.ev_var rfl)) (by rfl))) (fun h => nomatch h) fun _ H0 e0 => ?_
      refine Evl.q_when (b := true) (Evl.et_test (b := true) (Evl.ev_is (ev_isN (v := .non) (Evl.ev_var rfl)) (by rfl))) (fun _ H1 e1 => ?_) (fun h => nomatch h)
      have e1 := Same.trans e0 e1
      refine ((Evl.et_test (b := false) (Evl.ev_is (ev_isN (v := .str c) (Evl.ev_var rfl)) (by rfl))) H1 (Evl.Ex.refl _) _ fun H3 e3 => ?_)
      rw [if_neg Bool.false_ne_true]
      exact ⟨_, rfl, _, rfl, rfl, rfl, fun x dx hx hdx hne => mk_made m (Same.trans e1 e3) hx hdx hne⟩
    · -- 100
      refine Evl.q_when (b := false) (Evl.et_and (a := false) (b := true) (Evl.et_test (b := false) (Evl.ev_is (ev_isN (v := .str a) (Evl.ev_var rfl)) (by rfl))) fun _ => Evl.et_test (b := true) (Evl.ev_is (ev_isN (v := .non) (Evl.ev_var rfl)) (by rfl))) (fun h => nomatch h) fun _ H0 e0 => ?_
      refine Evl.q_when (b := false) (Evl.et_test (b := false) (Evl.ev_is (ev_isN (v := .str a) (Evl.ev_var rfl)) (by rfl))) (fun h => nomatch h) fun _ H2 e2 => ?_
      have e2 := Same.trans e0 e2
      refine Evl.q_when (b := true) (Evl.et_test (b := true) (Evl.ev_is (ev_isN (v := .non) (Evl.ev_var rfl)) (by rfl))) (fun _ H1 e1 => ?_) (fun h => nomatch h)
      have e1 := Same.trans e2 e1
      refine ((Evl.et_test (b := true) (Evl.ev_is (ev_isN (v := .non) (Evl.ev_var rfl)) (by rfl))) H1 (Evl.Ex.refl _) _ fun H3 e3 => ?_)
      rw [if_pos rfl]
      exact ⟨_, rfl, rfl, rfl, fun x dx hx hdx hne => mk_made m (Same.trans e1 e3) hx hdx hne⟩
    · -- 101
      refine Evl.q_when (b := false) (Evl.et_and (a := false) (b := true) (Evl.et_test (b := false) (Evl.ev_is (ev_isN (v := .str a) (Evl.ev_var rfl)) (by rfl))) fun _ => Evl.et_test (b := true) (Evl.ev_is (ev_isN (v := .non) (Evl.ev_var rfl)) (by rfl))) (fun h => nomatch h) fun _ H0 e0 => ?_
      refine Evl.q_when (b := false) (Evl.et_test (b := false) (Evl.ev_is (ev_isN (v := .str a) (Evl.ev_var rfl)) (by rfl))) (fun h => nomatch h) fun _ H2 e2 => ?_
      have e2 := Same.trans e0 e2
      refine Evl.q_when (b := true) (Evl.et_test (b := true) (Evl.ev_is (ev_isN (v := .non) (Evl.ev_var rfl)) (by rfl))) (fun _ H1 e1 => ?_) (fun h => nomatch h)
      have e1 := Same.trans e2 e1
      refine ((Evl.et_test (b := false) (Evl.ev_is (ev_isN (v := .str c) (Evl.ev_var rfl)) (by rfl))) H1 (Evl.Ex.refl _) _ fun H3 e3 => ?_)
      rw [if_neg Bool.false_ne_true]
      exact ⟨_, rfl, _, rfl, rfl, rfl, fun x dx hx hdx hne => mk_made m (Same.trans e1 e3) hx hdx hne⟩
    · -- 110
      refine Evl.q_when (b := false) (Evl.et_and (a := false) (b := false) (Evl.et_test (b := false) (Evl.ev_is (ev_isN (v := .str a) (Evl.ev_var rfl)) (by rfl))) fun _ => Evl.et_test (b := false) (Evl.ev_is (ev_isN (v := .str b) (Evl.ev_var rfl)) (by rfl))) (fun h => nomatch h) fun _ H0 e0 => ?_
      refine Evl.q_when (b := false) (Evl.et_test (b := false) (Evl.ev_is (ev_isN (v := .str a) (Evl.ev_var rfl)) (by rfl))) (fun h => nomatch h) fun _ H2 e2 => ?_
      have e2 := Same.trans e0 e2
      refine Evl.q_when (b := false) (Evl.et_test (b := false) (Evl.ev_is (ev_isN (v := .str b) (Evl.ev_var rfl)) (by rfl))) (fun h => nomatch h) fun _ H1 e1 => ?_
      have e1 := Same.trans e2 e1
      refine ((Evl.et_test (b := true) (Evl.ev_is (ev_isN (v := .non) (Evl.ev_var rfl)) (by rfl))) H1 (Evl.Ex.refl _) _ fun H3 e3 => ?_)
      rw [if_pos rfl]
      exact ⟨_, rfl, _, rfl, rfl, rfl, fun x dx hx hdx hne => mk_made m (Same.trans e1 e3) hx hdx hne⟩
    · -- 111
      refine Evl.q_when (b := false) (Evl.et_and (a := false) (b := false) (Evl.et_test (b := false) (Evl.ev_is (ev_isN (v := .str a) (Evl.ev_var rfl)) (by rfl))) fun _ => Evl.et_test (b := false) (Evl.ev_is (ev_isN (v := .str b) (Evl.ev_var rfl)) (by rfl))) (fun h => nomatch h) fun _ H0 e0 => ?_
      refine Evl.q_when (b := false) (Evl.et_test (b := false) (Evl.ev_is (ev_isN (v := .str a) (Evl.ev_var rfl)) (by rfl))) (fun h => nomatch h) fun _ H2 e2 => ?_
      have e2 := Same.trans e0 e2
      refine Evl.q_when (b := false) (Evl.et_test (b := false) (Evl.ev_is (ev_isN (v := .str b) (Evl.ev_var rfl)) (by rfl))) (fun h => nomatch h) fun _ H1 e1 => ?_
      have e1 := Same.trans e2 e1
      refine ((Evl.et_test (b := false) (Evl.ev_is (ev_isN (v := .str c) (Evl.ev_var rfl)) (by rfl))) H1 (Evl.Ex.refl _) _ fun H3 e3 => ?_)
      rw [if_neg Bool.false_ne_true]
      exact ⟨_, rfl, _, rfl, _, rfl, rfl, rfl, fun x dx hx hdx hne => mk_made m (Same.trans e1 e3) hx hdx hne⟩
end
end K36
end
section
set_option Elab.async false
set_option autoImplicit false
set_option linter.all false
set_option maxRecDepth 100000
set_option maxHeartbeats 4000000
namespace K36
open PySem PySem.Spec PyProof.Rows L2 PySem.OxE LawC
theorem _root_.LawC.SrcAt.new {H : Hp} {p l : Addr} {t : Int} {o : HO} (s : SrcAt H p t) (hl : H l = none) : SrcAt (upd H l o) p t := by
  obtain ⟨⟨d, m, h, r⟩, t0⟩ := s
  exact ⟨⟨d, m, Same.new hl _ _ h, r⟩, t0⟩
theorem _root_.LawC.SrcAt.ne {H : Hp} {p l : Addr} {t : Int} (s : SrcAt H p t) (hl : H l = none) : p ≠ l := by
  obtain ⟨⟨d, m, h, r⟩, t0⟩ := s
  exact ne_of_none h hl
theorem _root_.LawC.SrcAt.same {H H' : Hp} {p : Addr} {t : Int} (s : SrcAt H p t) (e : Same H H') : SrcAt H' p t := by
  obtain ⟨⟨d, m, h, r⟩, t0⟩ := s
  exact ⟨⟨d, m, e _ _ h, r⟩, t0⟩
theorem But.ofSame {p : Addr} {H H' : Hp} (e : Same H H') : But p H H' := fun b o _ h => e b o h
def lay (u : Str) : Prop := (PyData.str u).canLay0 = true
def menu : List Str := ["keep", "close", "check", "drain", "ping", "", "Keep", "keep ", "closed", "pin", "none", "end"]
theorem menu_lay {u : Str} (h : u ∈ menu) : lay u := by
  have : (menu.all fun u => (PyData.str u).canLay0) = true := by decide +kernel
  exact List.all_eq_true.mp this u h
def spWord : Sp := fun vs H Q _ => ∃ (p : Addr) (t : Int), vs = [.ref p] ∧ SrcAt H p t ∧ t < 99000 ∧ ∀ (u : Str) (t' : Int) (H' : Hp), lay u → t ≤ t' → t' ≤ t + 2 → But p H H' → SrcAt H' p t' → Q (.str u) H'
def bads (os : List (Option Str)) : List V := (os.map optV).filter fun v => !inV v ((W5.map V.str) ++ [.non])
def spRefusal (K : PySem.W.Frag) : Sp := fun vs H Q _ => ∃ (l : Addr) (os : List (Option Str)), vs = [.ref l] ∧ H l = some (.lst (os.map optV)) ∧ os.length ≤ 100 ∧ ∀ r H', H r = none → Same H H' → H' r = some (.lst ((bads os).take 1)) → Q (.ref r) H'
theorem cut1 (xs : List V) : cutV xs none (some 1) = xs.take 1 := by
  unfold cutV
  cases xs with
  | nil => rfl
  | cons x xs =>
    have e1 : HT.sIx (x :: xs).length 0 none = 0 := rfl
    have e2 : HT.sIx (x :: xs).length (x :: xs).length (some 1) = 1 := by
      unfold HT.sIx
      simp
    rw [e1, e2]
    rfl
section
variable {P : Program} {w : World} {K : PySem.W.Frag} {mg : Str → Option Value} {base : Heap} {A0 : Ad}
theorem ok_word (T : Txt P K mg A0) : FnOk P w K mg base CX0 3 A0.f_word A0.fd_word ["_law_source_here"] spWord := by
  have G_draw : FnOk P w K mg base CX0 1 A0.f_draw A0.fd_draw ["_law_source_here", "_law_many"] spDraw := ok_draw T
  have G_of : FnOk P w K mg base CX0 2 A0.f_of A0.fd_of ["_law_source_here", "_law_some"] (spOf K) := ok_of T
  refine T.F_word.ok sc_word (fun vs H Q E h => ?_) (fun cdv A outer s H vs Q E hr h => ?_)
  · obtain ⟨p, t, rfl, _⟩ := h
    rfl
  · obtain ⟨p, t, rfl, hs, ht, k⟩ := h
    obtain ⟨u1, c1⟩ := T.v_KEEP
    obtain ⟨u2, c2⟩ := T.v_CLOSE
    obtain ⟨u3, c3⟩ := T.v_CHECK
    obtain ⟨u4, c4⟩ := T.v_DRAIN
    obtain ⟨u5, c5⟩ := T.v_PING
    refine ⟨_, (pss_cons (ps_if (pt_cmpR op_gt (pe_call G_draw (hr.mono (by decide)) rfl T.m_draw T.F_draw.kp T.b_draw .nil pass0 (pa_cons (pv 0) (pa_cons pe_int pa_nil))) pe_int (nomark _))
 (pss_one (ps_ret (pe_call G_of (hr.mono (by decide)) rfl T.m_of T.F_of.kp T.b_of .nil pass0 (pa_cons (pv 0) (pa_cons (pe_lst (pa_cons (ClX.pe_cval (pe_glob (v := .ref _) rfl T.m_Leave rfl)) (pa_cons (ClX.pe_cval (pe_glob (v := .ref _) rfl T.m_Leave rfl)) (pa_cons (ClX.pe_cval (pe_glob (v := .ref _) rfl T.m_Leave rfl)) (pa_cons (ClX.pe_cval (pe_glob (v := .ref _) rfl T.m_Leave rfl)) (pa_cons (ClX.pe_cval (pe_glob (v := .ref _) rfl T.m_Leave rfl)) pa_nil)))))) pa_nil)))))
 pss_nil)
 (pss_one (ps_ret (pe_call G_of (hr.mono (by decide)) rfl T.m_of T.F_of.kp T.b_of .nil pass0 (pa_cons (pv 0) (pa_cons (pe_lst (pa_cons pe_str (pa_cons pe_str (pa_cons pe_str (pa_cons pe_str (pa_cons pe_str (pa_cons pe_str (pa_cons pe_str pa_nil)))))))) pa_nil)))))), ?_⟩
    refine ⟨_, rfl, p, t, 4, rfl, hs, by omega, by decide, by decide, fun j t1 H1 j0 j1 h2 h3 b1 s1 => ?_⟩
    refine ⟨_, _, rfl, rfl, _, rfl, ?_⟩
    refine ite2 (fun c7 => ?_) (fun c7 => ?_)
    · refine ⟨_, rfl, A0.c_Leave, A0.mcL, _, _, rfl, T.cr, c1, A0.c_Leave, A0.mcL, _, _, rfl, T.cr, c2, A0.c_Leave, A0.mcL, _, _, rfl, T.cr, c3, A0.c_Leave, A0.mcL, _, _, rfl, T.cr, c4, A0.c_Leave, A0.mcL, _, _, rfl, T.cr, c5, (by show 5 ≤ sizeLine; decide), fun l hl => ?_⟩
      refine ⟨p, l, t1, _, rfl, s1.new hl, by omega, upd_same, by decide, by decide, s1.ne hl, fun v t2 H2 hv h4 h5 b2 s2 => ?_⟩
      have : ∃ u, v = .str u ∧ u ∈ menu := by
        simp only [List.mem_cons, List.not_mem_nil, or_false] at hv
        rcases hv with rfl | rfl | rfl | rfl | rfl <;> exact ⟨_, rfl, by decide⟩
      obtain ⟨u, rfl, hu⟩ := this
      exact k u t2 H2 (menu_lay hu) (by omega) (by omega) (But.trans b1 (But.trans (But.ofSame (Same.new hl)) b2)) s2
    · refine ⟨_, rfl, (by show 7 ≤ sizeLine; decide), fun l hl => ?_⟩
      refine ⟨p, l, t1, _, rfl, s1.new hl, by omega, upd_same, by decide, by decide, s1.ne hl, fun v t2 H2 hv h4 h5 b2 s2 => ?_⟩
      have : ∃ u, v = .str u ∧ u ∈ menu := by
        simp only [List.mem_cons, List.not_mem_nil, or_false] at hv
        rcases hv with rfl | rfl | rfl | rfl | rfl | rfl | rfl <;> exact ⟨_, rfl, by decide⟩
      obtain ⟨u, rfl, hu⟩ := this
      exact k u t2 H2 (menu_lay hu) (by omega) (by omega) (But.trans b1 (But.trans (But.ofSame (Same.new hl)) b2)) s2
theorem ok_refusal (T : Txt P K mg A0) : FnOk P w K mg base CX0 1 A0.f_refusal A0.fd_refusal ["_law_words"] (spRefusal K) := by
  refine T.F_refusal.ok sc_refusal (fun vs H Q E h => ?_) (fun cdv A outer s H vs Q E hr h => ?_)
  · obtain ⟨l, os, rfl, _⟩ := h
    rfl
  · obtain ⟨l, os, rfl, hl, hz, k⟩ := h
    refine ⟨_, (pss_one (ps_ret (pe_slice sl_list (pe_lc (own := [("_law_word_here", 1)]) (g := gName 1) (by rfl) sc_refusal.nd (pi_list (pv 0)) (blkOk_by (N := ["_law_words", "_law_word_here"]) (sc := defScope s_refusal) (by decide +kernel)) (fun _ _ _ _ _ => (pg_name (i := 1) sc_refusal.nd rfl (Or.inl rfl))) (fun _ _ _ _ _ => (pts_one (pt_cmpR (r := rIn K true) op_notIn_seq (pv 1) (pe_tup (pa_cons pe_str (pa_cons pe_str (pa_cons pe_str (pa_cons pe_str (pa_cons pe_str (pa_cons pe_non pa_nil))))))) (by first | rfl | with_unfolding_all rfl)))) (fun _ _ _ _ _ => (pv 1))) po_none (po_some pe_int)))), ?_⟩
    have fw : ∀ v ∈ os.map optV, flatV v = true := fun v hv => by
      obtain ⟨o, _, rfl⟩ := List.mem_map.mp hv
      cases o <;> rfl
    refine Evl.s_retL (el_slN (xs := bads os) (lo := none) (hi := some 1) (el_filt (xs := os.map optV) (f := fun v => !inV v (W5.map V.str ++ [.non])) (Evl.ev_var rfl) (SqL.of hl) (by rw [List.length_map]; omega) (fun _ => rfl) (fun x H1 e1 hx => ?_) (fun x H1 e1 hx => Evl.ev_var rfl)) Evl.eo_none (Evl.eo_some Evl.ev_c)) fun r H1 hr1 e1 h1 => k r H1 hr1 e1 ?_
    · exact Evl.et_test (Evl.ev_niU (Evl.ev_var rfl) (Evl.eu_tup (Evl.ea_cons Evl.ev_c (Evl.ea_cons Evl.ev_c (Evl.ea_cons Evl.ev_c (Evl.ea_cons Evl.ev_c (Evl.ea_cons Evl.ev_c (Evl.ea_cons Evl.ev_c Evl.ea_nil)))))) (by show 6 ≤ 100000; decide)) (fw x hx) (by rfl))
    · rw [h1, cut1]
end
end K36
end
section
set_option Elab.async false
set_option autoImplicit false
set_option linter.all false
set_option maxRecDepth 100000
set_option maxHeartbeats 4000000
namespace K36
open PySem PySem.Spec PyProof.Rows L2 PySem.OxE LawC
def spMadeOr (A : Ad) : Sp := fun vs H Q _ => ∃ (l : Addr) (o1 o2 o3 : Option Str), vs = [.ref l] ∧ H l = some (.lst [optV o1, optV o2, optV o3]) ∧
  (firstBad [dft o1, dft o2, dft o3] = none → ∀ tp y d r H', Same H H' → H y = none → H d = none → y ≠ d → H' tp = some (.tup [.ref y, .ref r]) → H' r = some (.lst []) → DoorAt A H' y (dft o1) (dft o2) (dft o3) d [] → Q (.ref tp) H') ∧
  ∀ u, firstBad [dft o1, dft o2, dft o3] = some u → ∀ tp r H', Same H H' → H' tp = some (.tup [.non, .ref r]) → H' r = some (.lst [.str u]) → Q (.ref tp) H'
def spChanged (A : Ad) : Sp := fun vs H Q _ => ∃ (x a : Addr) (u e f c : Str) (d : Addr) (kvs : List (List Key × V)) (wy : List Key) (b : Bool), vs = [.ref x, .ref a, .str u, .bl b] ∧ DoorAt A H x e f c d kvs ∧ H a = some (.tup (wy.map kV)) ∧ kvs.length < 1000 ∧
  (good u → ∀ r H', But d H H' → H' d = some (.dT (putK kvs wy (.str u))) → H' r = some (.lst []) → Q (.ref r) H') ∧ (¬ good u → ∀ r H', Same H H' → H' r = some (.lst [.str u]) → Q (.ref r) H')
section
variable {P : Program} {w : World} {K : PySem.W.Frag} {mg : Str → Option Value} {base : Heap} {A0 : Ad}
theorem ok_made_or (T : Txt P K mg A0) : FnOk P w K mg base CX0 5 A0.f_made_or A0.fd_made_or ["_law_words"] (spMadeOr A0) := by
  have G_made : FnOk P w K mg base (CX P w) 4 A0.f_made A0.fd_made ["_law_one", "_law_two", "_law_three"] (spMade A0) := ok_made T
  refine T.F_made_or.ok sc_made_or (fun vs H Q E h => ?_) (fun cdv A outer s H vs Q E hr h => ?_)
  · obtain ⟨l, o1, o2, o3, rfl, _⟩ := h
    rfl
  · obtain ⟨l, o1, o2, o3, rfl, hl, k1, k2⟩ := h
    refine ⟨_, (pss_cons (ps_par (i := 1) (j := 2) (by rfl) sc_made_or.nd rfl rfl (by decide) rfl rfl (pa_cons pe_non (pa_cons (pe_lst pa_nil) pa_nil)) (by rfl))
 (pss_cons (ps_try_nm sc_made_or.nd rfl rfl takes0 (fun W pn xe tk po =>
 (pss_one (ps_set (i := 1) sc_made_or.nd rfl (Or.inl rfl) (pe_callS G_made (hr.mono (by decide)) rfl T.m_made T.F_made.kp T.b_made (passAt tk) (pa_cons (pe_ix (r := rIxL K) ix_list (pv 0) pe_int (fun _ _ => rfl)) (pa_cons (pe_ix (r := rIxL K) ix_list (pv 0) pe_int (fun _ _ => rfl)) (pa_cons (pe_ix (r := rIxL K) ix_list (pv 0) pe_int (fun _ _ => rfl)) pa_nil)))))))
 (.named (i := 3) rfl rfl ⟨rfl, by decide, .inl T.x_BadDoor.gC⟩ (fun a oe cls d pn hz hf =>
 (pss_one (ps_set (i := 2) sc_made_or.nd rfl (Or.inl rfl) (pe_lst (pa_cons (pe_byOx hz hf (pv 3)) pa_nil)))))
 (.plain ⟨rfl, by decide, .inl T.mO⟩ (fun a oe cls d pn hz hf =>
 (pss_one (ps_set (i := 2) sc_made_or.nd rfl (Or.inl rfl) (pe_lst (pa_cons pe_non pa_nil)))))
 .nil)))
 (pss_one (ps_ret (pe_tup (pa_cons (pv 1) (pa_cons (pv 2) pa_nil))))))), ?_⟩
    refine ⟨(by show 0 ≤ sizeLine; decide), fun r hr => ⟨_, _, rfl, ?_⟩⟩
    have n0 := Same.new (o := .lst []) hr
    have hl' := n0 _ _ hl
    refine ⟨_, rfl, l, _, _, optV o1, rfl, rfl, SqL.of hl', (by rfl), _, rfl, l, _, _, optV o2, rfl, rfl, SqL.of hl', (by rfl), _, rfl, l, _, _, optV o3, rfl, rfl, SqL.of hl', (by rfl), o1, o2, o3, rfl, ⟨fun hn y d H2 hy hd hne s2 D => ?_, fun u hu d H2 hd s2 hd2 => ?_⟩⟩
    · refine ⟨_, rfl, _, rfl, (by show 2 ≤ sizeLine; decide), fun tp htp => ?_⟩
      have nt := Same.new (o := .tup [.ref y, .ref r]) htp
      obtain ⟨dx, D1, D2⟩ := D
      exact k1 hn tp y d r _ (Same.trans n0 (Same.trans s2 nt)) (Evl.fresh_back n0 hy) (Evl.fresh_back n0 hd) hne upd_same (nt _ _ (s2 _ _ upd_same)) ⟨dx, nt _ _ D1, nt _ _ D2⟩
    · refine ⟨true, T.eB, fun _ a ha => ?_, fun q => nomatch q⟩
      refine ⟨_, rfl, rfl, A0.cB, d, _, .str u, rfl, rfl, hd2, T.x_BadDoor.rd, T.x_BadDoor.noN _ (by decide), (by rfl), (by show 1 ≤ sizeLine; decide), fun r2 hr2 => ?_⟩
      refine ⟨_, rfl, _, rfl, (by show 2 ≤ sizeLine; decide), fun tp htp => ?_⟩
      have nr := Same.new (o := .lst [.str u]) hr2
      have nt := Same.new (o := .tup [.non, .ref r2]) htp
      exact k2 u hu tp r2 _ (Same.trans (Same.trans n0 s2) (Same.trans nr nt)) upd_same (nt _ _ upd_same)
theorem ok_changed (T : Txt P K mg A0) : FnOk P w K mg base CX0 4 A0.f_changed A0.fd_changed ["_law_door", "_law_way", "_law_word_here", "_law_by_item"] (spChanged A0) := by
  have G_Door_setitem : FnOk P w K mg base (CX P w) 2 A0.f_Door_setitem A0.fd_Door_setitem ["self", "way", "word"] (spSet A0) := ok_Door_setitem T
  have G_Door_change : FnOk P w K mg base (CX P w) 3 A0.f_Door_change A0.fd_Door_change ["self", "way", "word"] (spSet A0) := ok_Door_change T
  refine T.F_changed.ok sc_changed (fun vs H Q E h => ?_) (fun cdv A outer s H vs Q E hr h => ?_)
  · obtain ⟨x, a, u, e, f, c, d, kvs, wy, b, rfl, _⟩ := h
    rfl
  · obtain ⟨x, a, u, e, f, c, d, kvs, wy, b, rfl, ⟨dx, hx, hd⟩, ha, hz, k1, k2⟩ := h
    refine ⟨_, (pss_cons (ps_set (i := 4) sc_changed.nd rfl (Or.inl rfl) (pe_lst pa_nil))
 (pss_cons (ps_try_nm sc_changed.nd rfl rfl takes0 (fun W pn xe tk po =>
 (pss_one (ps_if (pt_val (pv 3))
 (pss_one (ps_setOwn T.S_Door_setitem T.nsq G_Door_setitem (hr.mono (by decide)) T.b_Door_setitem (passAt tk) (pv 0) (pv 1) (pv 2) rfl))
 (pss_one (ps_set (i := 4) sc_changed.nd rfl (Or.inl rfl) (pe_ifExp (pt_cmpR op_isN (pe_methX (pv 0) T.cl T.M_Door_change G_Door_change (hr.mono (by decide)) T.b_Door_change (passAt tk) (pa_cons (pv 1) (pa_cons (pv 2) pa_nil))) pe_non (nomark _)) (pe_lst pa_nil) (pe_lst (pa_cons pe_non pa_nil))))))))
 (.named (i := 5) rfl rfl ⟨rfl, by decide, .inl T.x_BadDoor.gC⟩ (fun a oe cls d pn hz hf =>
 (pss_one (ps_set (i := 4) sc_changed.nd rfl (Or.inl rfl) (pe_lst (pa_cons (pe_byOx hz hf (pv 5)) pa_nil)))))
 .nil))
 (pss_one (ps_ret (pv 4))))), ?_⟩
    refine ⟨(by show 0 ≤ sizeLine; decide), fun r hr => ?_⟩
    have n0 := Same.new (o := .lst []) hr
    have hdr : r ≠ d := Ne.symm (ne_of_none hd hr)
    refine ⟨_, rfl, b, rfl, ?_⟩
    cases b with
    | true =>
      refine ⟨_, rfl, _, rfl, _, rfl, x, dx, _, rfl, n0 _ _ hx, x, a, u, e, f, c, d, kvs, wy, rfl, ⟨dx, n0 _ _ hx, n0 _ _ hd⟩, n0 _ _ ha, hz, fun hg H1 b1 h1 => ?_, fun hg dd H1 hdd s1 h1 => ?_⟩
      · refine ⟨_, rfl, ?_⟩
        exact k1 hg r H1 (But.trans (But.ofSame n0) b1) h1 (b1 _ _ hdr upd_same)
      · refine ⟨true, T.eB, fun _ ea hea => ?_, fun q => nomatch q⟩
        refine ⟨_, rfl, rfl, A0.cB, dd, _, .str u, rfl, rfl, h1, T.x_BadDoor.rd, T.x_BadDoor.noN _ (by decide), (by rfl), (by show 1 ≤ sizeLine; decide), fun r2 hr2 => ?_⟩
        refine ⟨_, rfl, ?_⟩
        exact k2 hg r2 _ (Same.trans (Same.trans n0 s1) (Same.new hr2)) upd_same
    | false =>
      refine ⟨_, rfl, x, dx, _, rfl, n0 _ _ hx, (by rfl), _, rfl, _, rfl, x, a, u, e, f, c, d, kvs, wy, rfl, ⟨dx, n0 _ _ hx, n0 _ _ hd⟩, n0 _ _ ha, hz, fun hg H1 b1 h1 => ?_, fun hg dd H1 hdd s1 h1 => ?_⟩
      · refine ⟨rfl, true, rfl, ?_⟩
        refine ⟨(by show 0 ≤ sizeLine; decide), fun r3 hr3 => ?_⟩
        refine ⟨_, rfl, ?_⟩
        have n3 := Same.new (o := .lst []) hr3
        exact k1 hg r3 _ (But.trans (But.trans (But.ofSame n0) b1) (But.ofSame n3)) (n3 _ _ h1) upd_same
      · refine ⟨true, T.eB, fun _ ea hea => ?_, fun q => nomatch q⟩
        refine ⟨_, rfl, rfl, A0.cB, dd, _, .str u, rfl, rfl, h1, T.x_BadDoor.rd, T.x_BadDoor.noN _ (by decide), (by rfl), (by show 1 ≤ sizeLine; decide), fun r2 hr2 => ?_⟩
        refine ⟨_, rfl, ?_⟩
        exact k2 hg r2 _ (Same.trans (Same.trans n0 s1) (Same.new hr2)) upd_same
end
end K36
end
section
set_option Elab.async false
set_option autoImplicit false
set_option linter.all false
set_option maxRecDepth 100000
set_option maxHeartbeats 4000000
namespace L2
open PySem PySem.Spec PyProof.Rows
def EvKs (ta : TA) (σ : L2.St) (H : Hp) (wys : List (List Key)) : Prop := ∀ H1, Evl.Ex H H1 → ∀ Q : List V → Hp → Prop, (∀ vs H2, Evl.Ex H1 H2 → Paired (fun v wy => ∃ a, v = V.ref a ∧ H2 a = some (.tup (wy.map kV))) vs wys → Q vs H2) → ta σ H1 Q
section
variable {K : PySem.W.Frag} {σ : L2.St} {H : Hp} {ta tr : TA} {te tb : TE}
theorem evks_nil : EvKs tNil σ H [] := fun H1 _ Q q => q [] H1 (Evl.Ex.refl H1) .nil
theorem evks_cons {wy : List Key} {wys : List (List Key)} (h : Evl.EvA ta σ H (wy.map kV)) (hz : wy.length ≤ 1000) (hr : EvKs tr σ H wys) : EvKs (tCons (tTup ta) tr) σ H (wy :: wys) := fun H1 e1 Q q =>
  h H1 e1 _ fun H2 e2 => ⟨Evl.sz_of (by rw [List.length_map]; omega), fun p hp => hr _ ((e1.trans e2).trans (Evl.Ex.new hp)) _ fun vs H3 e3 hvs => q _ H3 ((e2.trans (Evl.Ex.new hp)).trans e3) (.cons ⟨p, rfl, e3 _ _ upd_same⟩ hvs)⟩
theorem s_forKs {wys : List (List Key)} {j : Nat} {tu : TS} {D : Ends} (h : EvKs ta σ H wys) (hz : wys.length ≤ 1000) (Pv : Nat → L2.St → Prop) (h0 : Pv 0 σ)
    (hs : ∀ i a wy Hl H' σ', wys[i]? = some wy → Same H Hl → Same Hl H' → H' a = some (.tup (wy.map kV)) → Pv i σ' → tu { D with nx := fun σ2 H2 => Same Hl H2 ∧ Pv (i + 1) σ2, ct := fun σ2 H2 => Same Hl H2 ∧ Pv (i + 1) σ2, bk := D.nx } (σ'.set j (some (.ref a))) H')
    (hd : ∀ σ' H', Same H H' → Pv wys.length σ' → D.nx σ' H') : tFor (iList K (tLst ta)) (gName j) tu D σ H :=
  h H (Evl.Ex.refl H) _ fun vs H1 e1 hv => ⟨Evl.sz_of (by have := Paired.length hv; omega), fun p hp => ⟨p, rfl, ⟨vs, SqL.of upd_same⟩, for_list (xs := vs) (fun i σ' H' => Same (upd H1 p (.lst vs)) H' ∧ Pv i σ') ⟨Same.refl _, h0⟩ (fun i σ' H' _ q => SqL.of (q.1 _ _ upd_same)) (fun i x σ' H' hx q => by
    obtain ⟨wy, hw, a, rfl, ha⟩ := paired_get hv hx
    exact hs i a wy _ H' σ' hw (Same.trans e1 (Same.new hp)) q.1 (q.1 _ _ (Same.new hp _ _ ha)) q.2) (fun σ' H' q => hd σ' H' (Same.trans (Same.trans e1 (Same.new hp)) q.1) (by rw [← Paired.length hv]; exact q.2))⟩⟩
theorem q_forKs {wys : List (List Key)} {j : Nat} {tu tz : TS} {D : Ends} (h : EvKs ta σ H wys) (hz : wys.length ≤ 1000) (Pv : Nat → L2.St → Prop) (h0 : Pv 0 σ)
    (hs : ∀ i a wy Hl H' σ', wys[i]? = some wy → Same H Hl → Same Hl H' → H' a = some (.tup (wy.map kV)) → Pv i σ' → tu { D with nx := fun σ2 H2 => Same Hl H2 ∧ Pv (i + 1) σ2, ct := fun σ2 H2 => Same Hl H2 ∧ Pv (i + 1) σ2, bk := tz D } (σ'.set j (some (.ref a))) H')
    (hd : ∀ σ' H', Same H H' → Pv wys.length σ' → tz D σ' H') : tSeq (tFor (iList K (tLst ta)) (gName j) tu) tz D σ H := s_forKs (D := { D with nx := tz D }) h hz Pv h0 hs hd
theorem ev_eqDE {ta : TE} {v : V} {d e : PyData} {b : Bool} (ha : Evl.Ev ta σ H v) (hb : EvD K tb σ H e) (dv : Dp K H v d) (sx : SeqAt.shaped d = true) (sy : SeqAt.shaped e = true) (h : PyData.eqv d e = b) : Evl.Ev (tOp (rEqD K) ta tb) σ H (.bl b) := fun H1 e1 Q q =>
  ha H1 e1 _ fun H2 e2 => hb H2 (e1.trans e2) _ fun u H3 e3 du => ⟨d, e, (dv.mono ((e1.trans e2).trans e3)), du, sx, sy, by rw [h]; exact q H3 (e2.trans e3)⟩
theorem ev_neDE {ta : TE} {v : V} {d e : PyData} {b : Bool} (ha : Evl.Ev ta σ H v) (hb : EvD K tb σ H e) (dv : Dp K H v d) (sx : SeqAt.shaped d = true) (sy : SeqAt.shaped e = true) (h : PyData.eqv d e = b) : Evl.Ev (tOp (rNeD K) ta tb) σ H (.bl (!b)) := fun H1 e1 Q q =>
  ha H1 e1 _ fun H2 e2 => hb H2 (e1.trans e2) _ fun u H3 e3 du => ⟨d, e, (dv.mono ((e1.trans e2).trans e3)), du, sx, sy, by rw [h]; exact q H3 (e2.trans e3)⟩
end
end L2
namespace K36
open PySem PySem.Spec PyProof.Rows L2 PySem.OxE LawC PySem.MixD
structure Mod (ms : List (MK × V)) (e f c : Str) (kvs : List (List Key × V)) : Prop where
  e : valV ms (.inl (.inr "end")) = some (.str e)
  f : valV ms (.inl (.inr "fail")) = some (.str f)
  c : valV ms (.inl (.inr "cut")) = some (.str c)
  w : ∀ wy, valV ms (.inr wy) = valV kvs wy
  s : ∀ wy v, valV kvs wy = some v → ∃ u, v = .str u
theorem Mod.door {ms : List (MK × V)} {e f c : Str} {kvs : List (List Key × V)} (m : Mod ms e f c kvs) (wy : List Key) : ∃ u, doorV e f c kvs wy = .str u := by
  unfold doorV
  cases h : valV kvs wy with
  | some v =>
    obtain ⟨u, rfl⟩ := m.s wy v h
    exact ⟨u, rfl⟩
  | none =>
    show ∃ u, (if reason wy = "fail" then V.str f else if reason wy = "cut" then .str c else .str e) = .str u
    split
    · exact ⟨_, rfl⟩
    · split <;> exact ⟨_, rfl⟩
/-- what the reason gives -/
def byReason (e f c : Str) (r : Str) : V := if r = "fail" then .str f else if r = "cut" then .str c else .str e
theorem Mod.get {ms : List (MK × V)} {e f c : Str} {kvs : List (List Key × V)} (m : Mod ms e f c kvs) (wy : List Key) : (valV ms (.inr wy)).getD (byReason e f c (reason wy)) = doorV e f c kvs wy := by
  rw [m.w]
  rfl
theorem IsWay.reason {wy : List Key} (h : IsWay wy) : reason wy = "end" ∨ reason wy = "fail" ∨ reason wy = "cut" := by
  rcases h with rfl | ⟨r, n, rfl, hr⟩
  · exact .inl rfl
  · simp only [List.mem_cons, List.not_mem_nil, or_false] at hr
    rcases hr with rfl | rfl | rfl
    · exact .inl rfl
    · exact .inr (.inl rfl)
    · exact .inr (.inr rfl)
theorem Mod.by {ms : List (MK × V)} {e f c : Str} {kvs : List (List Key × V)} (m : Mod ms e f c kvs) {r : Str} (h : r = "end" ∨ r = "fail" ∨ r = "cut") : valV ms (.inl (.inr r)) = some (byReason e f c r) := by
  rcases h with rfl | rfl | rfl
  · exact m.e
  · exact m.f
  · exact m.c
def spShows (P : Program) (w : World) (A : Ad) : Sp := fun vs H Q _ => ∃ (x n : Addr) (e f c : Str) (d : Addr) (kvs : List (List Key × V)) (ms : List (MK × V)), vs = [.ref x, .ref n] ∧ DoorAt A H x e f c d kvs ∧ MixH P w H n ms ∧ Mod ms e f c kvs ∧ ∀ H', Same H H' → Q (.bl true) H'
def wayD : List Key → PyData
  | wy => .tuple (wy.map kD)
theorem dpA_way {K : PySem.W.Frag} {H : Hp} : ∀ wy : List Key, DpAll K H (wy.map kV) (wy.map kD)
  | [] => .nil
  | .inl i :: wy => .cons (.int i) (dpA_way wy)
  | .inr x :: wy => .cons (.str x) (dpA_way wy)
theorem dp_way {K : PySem.W.Frag} {H : Hp} {a : Addr} {wy : List Key} (h : H a = some (.tup (wy.map kV))) : Dp K H (.ref a) (wayD wy) := .tup (SqT.of h) (dpA_way wy)
def ways8 : List (List Key) := [[], [.inr "return", .inl 0], [.inr "return", .inl 7], [.inr "fail", .inl 0], [.inr "fail", .inl 23], [.inr "cut", .inl 0], [.inr "cut", .inl 7], [.inr "cut", .inl (10 ^ 20)]]
theorem ways8_ok {wy : List Key} (h : wy ∈ ways8) : IsWay wy ∧ SeqAt.shaped (wayD wy) = true ∧ (mData (.inr wy)).canLay0 = true := by
  have : (ways8.all fun wy => SeqAt.shaped (wayD wy) && (mData (.inr wy)).canLay0) = true := by decide +kernel
  have h2 := List.all_eq_true.mp this wy h
  obtain ⟨h3, h4⟩ := Bool.and_eq_true_iff.mp h2
  refine ⟨?_, h3, h4⟩
  unfold ways8 at h
  simp only [List.mem_cons, List.not_mem_nil, or_false] at h
  rcases h with rfl | rfl | rfl | rfl | rfl | rfl | rfl | rfl
  · exact .inl rfl
  all_goals exact .inr ⟨_, _, rfl, by simp⟩
def D3 : List (Key × V) := [(.inr "return", .str "end"), (.inr "fail", .str "fail"), (.inr "cut", .str "cut")]
theorem d3_get {r : Str} {j : Int} (h : r ∈ (["return", "fail", "cut"] : List Str)) : valV (mergeK [] D3) (.inr r) = some (.str (reason [.inr r, .inl j])) := by
  simp only [List.mem_cons, List.not_mem_nil, or_false] at h
  rcases h with rfl | rfl | rfl <;> rfl
theorem reason_lay {wy : List Key} (h : IsWay wy) : (mData (.inl (.inr (reason wy)))).canLay0 = true := by
  rcases h.reason with e | e | e <;> (rw [e]; decide +kernel)
section
variable {P : Program} {w : World} {K : PySem.W.Frag} {mg : Str → Option Value} {base : Heap} {A0 : Ad}
theorem ok_shows (T : Txt P K mg A0) : FnOk P w K mg base CX0 4 A0.f_shows A0.fd_shows ["_law_door", "_law_now"] (spShows P w A0) := by
  have G_Door_getitem : FnOk P w K mg base CX0 2 A0.f_Door_getitem A0.fd_Door_getitem ["self", "way"] (spGet A0) := ok_Door_getitem T
  have G_same : FnOk P w K mg base CX0 1 A0.f_same A0.fd_same ["_law_actual", "_law_due"] (spSame K 0) := ok_same T 0
  refine T.F_shows.ok sc_shows (fun vs H Q E h => ?_) (fun cdv A outer s H vs Q E hr h => ?_)
  · obtain ⟨x, n, e, f, c, d, kvs, ms, rfl, _⟩ := h
    rfl
  · obtain ⟨x, n, e, f, c, d, kvs, ms, rfl, ⟨dx, hx, hd⟩, hn, m, k⟩ := h
    refine ⟨_, (pss_cons (ps_for PassesOwn.never rfl (pi_list (pe_lst (pa_cons (pe_tup pa_nil) (pa_cons (pe_tup (pa_cons pe_str (pa_cons pe_int pa_nil))) (pa_cons (pe_tup (pa_cons pe_str (pa_cons pe_int pa_nil))) (pa_cons (pe_tup (pa_cons pe_str (pa_cons pe_int pa_nil))) (pa_cons (pe_tup (pa_cons pe_str (pa_cons pe_int pa_nil))) (pa_cons (pe_tup (pa_cons pe_str (pa_cons pe_int pa_nil))) (pa_cons (pe_tup (pa_cons pe_str (pa_cons pe_int pa_nil))) (pa_cons (pe_tup (pa_cons pe_str (pa_cons (pe_op op_pow pe_int pe_int) pa_nil))) pa_nil)))))))))) (pg_name (i := 2) sc_shows.nd rfl (Or.inl rfl))
 (pss_cons (ps_set (i := 3) sc_shows.nd rfl (Or.inl rfl) (pe_ifExp (pt_cmpR (op_eqD hr.units) (pv 2) (pe_tup pa_nil) (nomark _)) pe_str (pe_dget (hu_of hr) (pe_disp (pps_cons pe_str pe_str (pps_cons pe_str pe_str (pps_cons pe_str pe_str pps_nil))) rfl rfl (by simp) (by decide)) (pe_ix ix_tup (pv 2) pe_int (fun _ _ => rfl)) (fun _ _ => rfl))))
 (pss_one (ps_if (pt_not (pt_val (pe_call G_same (hr.mono (by decide)) rfl T.m_same T.F_same.kp T.b_same .nil pass0 (pa_cons (pe_ixOwn T.S_Door_getitem G_Door_getitem (hr.mono (by decide)) T.b_Door_getitem (pass_at pass0) (pv 0) (pv 2)) (pa_cons (pe_xget2 (hu_of hr) (pv 1) (pv 2) (pe_xget (hu_of hr) (pv 1) (pv 3) (fun _ _ => rfl)) ⟨rfl, rfl, rfl, rfl⟩) pa_nil)))))
 (pss_one (ps_ret pe_bl))
 pss_nil))))
 (pss_one (ps_ret pe_bl))), ?_⟩
    refine q_forKs (wys := ways8) (evks_cons (wy := []) Evl.ea_nil (by decide) (evks_cons (wy := [.inr "return", .inl 0]) (Evl.ea_cons Evl.ev_c (Evl.ea_cons Evl.ev_c Evl.ea_nil)) (by decide) (evks_cons (wy := [.inr "return", .inl 7]) (Evl.ea_cons Evl.ev_c (Evl.ea_cons Evl.ev_c Evl.ea_nil)) (by decide) (evks_cons (wy := [.inr "fail", .inl 0]) (Evl.ea_cons Evl.ev_c (Evl.ea_cons Evl.ev_c Evl.ea_nil)) (by decide) (evks_cons (wy := [.inr "fail", .inl 23]) (Evl.ea_cons Evl.ev_c (Evl.ea_cons Evl.ev_c Evl.ea_nil)) (by decide) (evks_cons (wy := [.inr "cut", .inl 0]) (Evl.ea_cons Evl.ev_c (Evl.ea_cons Evl.ev_c Evl.ea_nil)) (by decide) (evks_cons (wy := [.inr "cut", .inl 7]) (Evl.ea_cons Evl.ev_c (Evl.ea_cons Evl.ev_c Evl.ea_nil)) (by decide)
      (evks_cons (wy := [.inr "cut", .inl (10 ^ 20)]) (Evl.ea_cons Evl.ev_c (Evl.ea_cons (Evl.ev_is (Evl.ev_op Evl.ev_c Evl.ev_c (Evl.rv_I (by exact ⟨by decide, by decide, by decide⟩))) (congrArg V.int (by decide))) Evl.ea_nil)) (by decide) evks_nil)))))))) (by decide)
      (fun _ σ' => ∃ y2 y3 : Option V, σ' = [some (.ref x), some (.ref n), y2, y3]) ⟨_, _, rfl⟩ (fun i a wy Hl H' σ' hw s1 s2 ha pv => ?_) (fun σ' H' s1 _ => Evl.s_ret Evl.ev_c fun H2 e2 => k H2 (Same.trans s1 e2))
    obtain ⟨y2, y3, rfl⟩ := pv
    obtain ⟨hway, sh, hlay⟩ := ways8_ok (List.mem_of_getElem? hw)
    have s3 := Same.trans s1 s2
    refine Evl.q_asg (v := .str (reason wy)) ?_ fun H2 e2 => ?_
    · rcases hway with rfl | ⟨r, j, rfl, hr⟩
      · exact Evl.ev_if (b := true) (Evl.et_test (ev_eqDE (Evl.ev_var rfl) (evd_tup evds_nil (by simp)) (dp_way ha) sh (by rfl) (by rfl))) (fun _ => Evl.ev_c) fun h => nomatch h
      · refine Evl.ev_if (b := false) (Evl.et_test (ev_eqDE (Evl.ev_var rfl) (evd_tup evds_nil (by simp)) (dp_way ha) sh (by rfl) (by rfl))) (fun h => nomatch h) fun _ => fun H1 e1 Q q => ?_
        refine fun p hp => ⟨upd_same, D3, rfl, by decide, ?_⟩
        have ha1 := e1 _ _ ha
        rw [upd_upd]
        refine ⟨_, rfl, a, _, _, .str r, rfl, rfl, SqT.of (Same.new hp _ _ ha1), (by rfl), p, .str (reason [.inr r, .inl j]), rfl, ?_, q _ (Same.new hp)⟩
        rw [← d3_get hr]
        exact DGet.k (k := .inr r) upd_same
    · obtain ⟨u, hu⟩ := m.door wy
      have s4 := Same.trans s3 e2
      refine Evl.s_when (b := false) (Evl.et_is (Evl.et_not (a := true) (Evl.et_B (Evl.ev_call (vs := [.str u, .str u]) (Evl.ea_cons ?_ (Evl.ea_cons ?_ Evl.ea_nil)) (fun H4 e4 Q q E => ⟨.str u, .str u, .str u, rfl, .str u, .str u, Nat.le_refl 0, rfl, fun H5 e5 => q H5 e5⟩)))) rfl) (fun h => nomatch h) (fun _ H3 e3 => ⟨Same.trans s2 (Same.trans e2 e3), _, _, rfl⟩)
      · intro H4 e4 Q q
        have s5 := Same.trans s4 e4
        exact ⟨_, rfl, _, rfl, x, dx, _, rfl, s5 _ _ hx, x, a, e, f, c, d, kvs, wy, rfl, ⟨dx, s5 _ _ hx, s5 _ _ hd⟩, e4 _ _ (e2 _ _ ha), hway, fun H5 e5 => by rw [hu]; exact q H5 e5⟩
      · intro H4 e4 Q q
        have s5 := Same.trans s4 e4
        have hn5 := hn.keep s5
        refine ⟨_, rfl, n, ms, rfl, hn5, _, rfl, _, rfl, _, rfl, n, ms, .inl (.inr (reason wy)), 0, _, rfl, hn5, .inl ⟨_, rfl, rfl⟩, reason_lay hway, m.by hway.reason, ms, .inr wy, a, hn5, .inr ⟨wy, rfl, rfl, e4 _ _ (e2 _ _ ha)⟩, hlay, ?_⟩
        rw [m.get wy, hu]
        exact q H4 (Evl.Ex.refl H4)
end
end K36
end
section
set_option Elab.async false
set_option autoImplicit false
set_option linter.all false
set_option maxRecDepth 100000
set_option maxHeartbeats 4000000
namespace L2
open PySem PySem.Spec PyProof.Rows
section
variable {K : PySem.W.Frag} {σ : L2.St} {H : Hp} {te tb ta : TE}
theorem ev_eqLD {xs : List V} {d e : PyData} {b : Bool} (ha : Evl.EvL ta σ H xs) (hb : EvD K tb σ H e) (dx : ∀ p H1, H1 p = some (.lst xs) → Dp K H1 (.ref p) d) (sx : SeqAt.shaped d = true) (sy : SeqAt.shaped e = true) (h : PyData.eqv d e = b) : Evl.Ev (tOp (rEqD K) ta tb) σ H (.bl b) := fun H1 e1 Q q =>
  ha H1 e1 _ fun p H2 hp e2 h2 => hb H2 (e1.trans e2) _ fun u H3 e3 du => ⟨d, e, dx p H3 (e3 _ _ h2), du, sx, sy, by rw [h]; exact q H3 (e2.trans e3)⟩
/-- [g x for x in xs] -/
theorem el_map {a : Addr} {xs : List V} {tl : TE} {j : Nat} {vs : List Nat} {g : V → V} (h : Evl.Ev tl σ H (.ref a)) (hx : SqL K H a xs) (hz : xs.length ≤ 40000) (hw : ∀ x, wipe ((wipe σ vs).set j (some x)) vs = wipe σ vs)
    (he : ∀ (x : V) H1, Evl.Ex H H1 → x ∈ xs → Evl.Ev te ((wipe σ vs).set j (some x)) H1 (g x)) :
    Evl.EvL (tLc (iList K tl) (gName j) tYes te vs) σ H (xs.map g) := fun H0 e Q q => h H0 e _ fun H1 e1 => ⟨a, rfl, ⟨xs, Evl.ex_l (e.trans e1) hx⟩, fun Dl hD =>
  lc_list (xs := xs) (fun i H' => Same H1 H' ∧ H' Dl = some (.lst ((xs.take i).map g))) ⟨Same.new hD, upd_same⟩ (fun i H' _ p => Evl.ex_l ((e.trans e1).trans p.1) hx) (fun i x H' hi p => ⟨hw x, by
    obtain ⟨p1, p2⟩ := p
    have hm := List.mem_of_getElem? hi
    show te _ H' _
    have hl : ((xs.take i).map g).length < sizeLine := Evl.sz_lt (by rw [List.length_map, List.length_take]; omega)
    refine he x H' ((e.trans e1).trans p1) hm H' (Evl.Ex.refl H') _ fun H4 e4 => ⟨_, e4 _ _ p2, hl, ?_, ?_⟩
    · intro b o hb
      have := e4 _ _ (p1 b o hb)
      rw [upd_ne (ne_of_none hb hD)]
      exact this
    · rw [upd_same, List.take_add_one, hi, List.map_append]
      rfl⟩) (fun H' p => q Dl H' (Evl.fresh_back e1 hD) (e1.trans p.1) (by rw [p.2, List.take_of_length_le (Nat.le_refl _)]))⟩
theorem paired_mem {α β : Type} {R : α → β → Prop} {l : List α} {m : List β} (h : Paired R l m) {a : α} (ha : a ∈ l) : ∃ b, b ∈ m ∧ R a b := by
  induction h with
  | nil => cases ha
  | @cons x y l m r _ ih =>
    rcases List.mem_cons.mp ha with rfl | ha
    · exact ⟨y, List.mem_cons_self, r⟩
    · obtain ⟨b, hb, hr⟩ := ih ha
      exact ⟨b, List.mem_cons_of_mem _ hb, hr⟩
theorem dpA_strs {K : PySem.W.Frag} {H : Hp} : ∀ us : List Str, DpAll K H (us.map V.str) (us.map PyData.str)
  | [] => .nil
  | u :: us => .cons (.str u) (dpA_strs us)
theorem dp_strs {a : Addr} {us : List Str} (h : H a = some (.lst (us.map V.str))) : Dp K H (.ref a) (.list (us.map PyData.str)) := .lst (SqL.of h) (dpA_strs us)
end
end L2
namespace K36
open PySem PySem.Spec PyProof.Rows L2 PySem.OxE LawC PySem.MixD
theorem inV_W5 {u : Str} : inV (.str u) (W5.map V.str ++ [.non]) = decide (good u) := by
  have h := inV_str (u := u) (ws := W5)
  unfold inV at h ⊢
  rw [List.any_append, h]
  show (decide (u ∈ W5) || (eqV .non (.str u) || false)) = _
  rw [show eqV .non (.str u) = false from rfl, Bool.or_false, Bool.or_false]
  exact decide_eq_decide.mpr Iff.rfl
theorem bads_none {os : List (Option Str)} : bads (none :: os) = bads os := by
  unfold bads
  rw [List.map_cons, List.filter_cons]
  rfl
theorem bads_some {u : Str} {os : List (Option Str)} : bads (some u :: os) = if good u then bads os else .str u :: bads os := by
  unfold bads
  rw [List.map_cons, List.filter_cons]
  show (if (!inV (.str u) (W5.map V.str ++ [.non])) = true then _ else _) = _
  rw [inV_W5]
  by_cases h : good u
  · simp [h]
  · simp [h, optV]
theorem good_keep : good "keep" := by decide
theorem fb_cons {u : Str} {ws : List Str} : firstBad (u :: ws) = if good u then firstBad ws else some u := by
  unfold firstBad
  rw [List.find?_cons]
  by_cases h : good u <;> simp [h]
theorem bads_take : ∀ os : List (Option Str), (bads os).take 1 = (firstBad (os.map dft)).toList.map V.str
  | [] => rfl
  | none :: os => by
    rw [bads_none, bads_take os, List.map_cons, fb_cons, if_pos (show good (dft none) from good_keep)]
  | some u :: os => by
    rw [bads_some, List.map_cons, fb_cons]
    by_cases h : good u
    · rw [if_pos h, if_pos (show good (dft (some u)) from h), bads_take os]
    · rw [if_neg h, if_neg (show ¬ good (dft (some u)) from h)]
      rfl
theorem sh_list {us : List Str} (h : ∀ u ∈ us, lay u) (hd : us.length ≤ 1) : SeqAt.shaped (.list (us.map PyData.str)) = true := by
  match us, hd with
  | [], _ => rfl
  | [u], _ =>
    have hu : (PyData.str u).canLay0 = true := h u (by simp)
    show SeqAt.shaped (.list [.str u]) = true
    unfold SeqAt.shaped
    rw [show PyData.canLay0 (.list [PyData.str u]) = true from by
      unfold PyData.canLay0 PyData.canLayAll0
      rw [hu]
      rfl]
    rfl
theorem eqv_nil {us : List Str} : PyData.eqv (.list (us.map PyData.str)) (.list []) = decide (us = []) := by
  cases us <;> rfl
/-- the words, the bad ones made good -/
def fixO (o : Option Str) : Option Str := if good (dft o) then o else some "ping"
theorem fixO_good (o : Option Str) : good (dft (fixO o)) := by
  unfold fixO
  split
  · assumption
  · decide
theorem fixO_lay {o : Option Str} (h : lay (dft o)) : lay (dft (fixO o)) := by
  unfold fixO
  split
  · exact h
  · show (PyData.str "ping").canLay0 = true; decide +kernel
theorem fb_all {ws : List Str} (h : ∀ u ∈ ws, good u) : firstBad ws = none := firstBad_none (n := ws.length) (fun v hv => h v (List.mem_of_mem_take hv)) (Nat.le_refl _)
section
variable {K : PySem.W.Frag} {σ : L2.St} {H : Hp} {te : TE}
theorem el_refusal1 {o : Option Str} (h : Evl.Ev te σ H (optV o)) : Evl.EvL (tCall (spRefusal K) [] E0 (tCons (tLst (tCons te tNil)) tNil)) σ H ((firstBad [dft o]).toList.map V.str) := fun H1 e1 Q q =>
  h H1 e1 _ fun H2 e2 => ⟨by show 1 ≤ sizeLine; decide, fun l hl => ⟨l, [o], rfl, upd_same, (by show 1 ≤ 100; decide), fun r H3 hr e3 h3 => q r H3 (Evl.fresh_back e2 (Evl.fresh_back (Same.new hl) hr)) (e2.trans (Same.trans (Same.new hl) e3)) (by rw [h3, bads_take]; rfl)⟩⟩
end
/-- two doors and their models -/
structure Two (P : Program) (w : World) (A : Ad) (H : Hp) (y z d1 d2 n1 n2 : Addr) (e f c : Str) (k1 k2 : List (List Key × V)) (m1 m2 : List (MK × V)) : Prop where
  D1 : DoorAt A H y e f c d1 k1
  D2 : DoorAt A H z e f c d2 k2
  N1 : MixH P w H n1 m1
  N2 : MixH P w H n2 m2
  ne : d1 ≠ d2
  nn : n1 ≠ n2
section
variable {P : Program} {w : World} {A : Ad} {H H' : Hp} {y z d1 d2 n1 n2 : Addr} {e f c : Str} {k1 k2 k' : List (List Key × V)} {m1 m2 m' : List (MK × V)}
theorem Two.swap (t : Two P w A H y z d1 d2 n1 n2 e f c k1 k2 m1 m2) : Two P w A H z y d2 d1 n2 n1 e f c k2 k1 m2 m1 := ⟨t.D2, t.D1, t.N2, t.N1, Ne.symm t.ne, Ne.symm t.nn⟩
theorem DoorAt.same {x d : Addr} {k : List (List Key × V)} (D : DoorAt A H x e f c d k) (s : Same H H') : DoorAt A H' x e f c d k := by
  obtain ⟨dx, h1, h2⟩ := D
  exact ⟨dx, s _ _ h1, s _ _ h2⟩
theorem DoorAt.but {x d a : Addr} {o : HO} {k : List (List Key × V)} (D : DoorAt A H x e f c d k) (b : But a H H') (ha : H a = some o) (n1 : ∀ C dx fs, o ≠ .ins C dx fs) (n2 : a ≠ d) : DoorAt A H' x e f c d k := by
  obtain ⟨dx, h1, h2⟩ := D
  exact ⟨dx, b _ _ (fun q => by rw [q, ha] at h1; exact n1 _ _ _ (Option.some.inj h1)) h1, b _ _ (Ne.symm n2) h2⟩
theorem Two.same (t : Two P w A H y z d1 d2 n1 n2 e f c k1 k2 m1 m2) (s : Same H H') : Two P w A H' y z d1 d2 n1 n2 e f c k1 k2 m1 m2 := ⟨t.D1.same s, t.D2.same s, t.N1.keep s, t.N2.keep s, t.ne, t.nn⟩
theorem mixh_at {a : Addr} {ms : List (MK × V)} (x : MixH P w H a ms) : ∃ φ, H a = some (.ext φ) := by
  obtain ⟨xs, _, h, _⟩ := x
  exact ⟨_, h⟩
theorem Two.src {p : Addr} {xs : List V} (t : Two P w A H y z d1 d2 n1 n2 e f c k1 k2 m1 m2) (b : But p H H') (hp : H p = some (.lst xs)) : Two P w A H' y z d1 d2 n1 n2 e f c k1 k2 m1 m2 := by
  obtain ⟨dx1, _, h1⟩ := t.D1
  obtain ⟨dx2, _, h2⟩ := t.D2
  obtain ⟨φ1, g1⟩ := mixh_at t.N1
  obtain ⟨φ2, g2⟩ := mixh_at t.N2
  exact ⟨t.D1.but b hp (fun _ _ _ => nofun) (ne_of hp h1 nofun), t.D2.but b hp (fun _ _ _ => nofun) (ne_of hp h2 nofun), t.N1.keepB hp (fun _ => nofun) (Ne.symm (ne_of hp g1 nofun)) b, t.N2.keepB hp (fun _ => nofun) (Ne.symm (ne_of hp g2 nofun)) b, t.ne, t.nn⟩
theorem Two.door (t : Two P w A H y z d1 d2 n1 n2 e f c k1 k2 m1 m2) (b : But d1 H H') (h : H' d1 = some (.dT k')) : Two P w A H' y z d1 d2 n1 n2 e f c k' k2 m1 m2 := by
  obtain ⟨dx1, hx, h1⟩ := t.D1
  obtain ⟨φ1, g1⟩ := mixh_at t.N1
  obtain ⟨φ2, g2⟩ := mixh_at t.N2
  exact ⟨⟨dx1, b _ _ (ne_of hx h1 nofun) hx, h⟩, t.D2.but b h1 (fun _ _ _ => nofun) t.ne, t.N1.keepB h1 (fun _ => nofun) (Ne.symm (ne_of h1 g1 nofun)) b, t.N2.keepB h1 (fun _ => nofun) (Ne.symm (ne_of h1 g2 nofun)) b, t.ne, t.nn⟩
theorem Two.mod {o : HO} (t : Two P w A H y z d1 d2 n1 n2 e f c k1 k2 m1 m2) (m : MixH P w (upd H n1 o) n1 m') : Two P w A (upd H n1 o) y z d1 d2 n1 n2 e f c k1 k2 m' m2 := by
  obtain ⟨dx1, _, h1⟩ := t.D1
  obtain ⟨dx2, _, h2⟩ := t.D2
  obtain ⟨φ1, g1⟩ := mixh_at t.N1
  exact ⟨t.D1.but But.upd g1 (fun _ _ _ => nofun) (ne_of g1 h1 nofun), t.D2.but But.upd g1 (fun _ _ _ => nofun) (ne_of g1 h2 nofun), m, t.N2.keepB g1 (fun _ => nofun) (Ne.symm t.nn) But.upd, t.ne, t.nn⟩
end
/-- the list of the pairs -/
structure PlAt (H : Hp) (pl q1 q2 y z n1 n2 : Addr) : Prop where
  pl : H pl = some (.lst [.ref q1, .ref q2])
  q1 : H q1 = some (.tup [.ref y, .ref n1])
  q2 : H q2 = some (.tup [.ref z, .ref n2])
theorem PlAt.but {H H' : Hp} {pl q1 q2 y z n1 n2 a : Addr} {o : HO} (t : PlAt H pl q1 q2 y z n1 n2) (b : But a H H') (ha : H a = some o) (nt : ∀ xs, o ≠ .tup xs) (np : pl ≠ a) : PlAt H' pl q1 q2 y z n1 n2 :=
  ⟨b _ _ np t.pl, b _ _ (fun q => by have h := t.q1; rw [q, ha] at h; exact nt _ (Option.some.inj h)) t.q1, b _ _ (fun q => by have h := t.q2; rw [q, ha] at h; exact nt _ (Option.some.inj h)) t.q2⟩
theorem PlAt.same {H H' : Hp} {pl q1 q2 y z n1 n2 : Addr} (t : PlAt H pl q1 q2 y z n1 n2) (s : Same H H') : PlAt H' pl q1 q2 y z n1 n2 := ⟨s _ _ t.pl, s _ _ t.q1, s _ _ t.q2⟩
theorem SrcAt.lst {H : Hp} {p : Addr} {t : Int} (s : SrcAt H p t) : ∃ xs, H p = some (.lst xs) := by
  obtain ⟨⟨d, m, h, _⟩, _⟩ := s
  exact ⟨_, h⟩
def gV (v : V) : V := if inV v (W5.map V.str ++ [.non]) = true then v else .str "ping"
theorem gV_opt (o : Option Str) : gV (optV o) = optV (fixO o) := by
  cases o with
  | none =>
    unfold fixO
    rw [if_pos (show good (dft none) from good_keep)]
    rfl
  | some u =>
    unfold gV fixO
    show (if inV (.str u) (W5.map V.str ++ [.non]) = true then V.str u else .str "ping") = _
    rw [inV_W5]
    by_cases h : good u
    · rw [if_pos (decide_eq_true h), if_pos (show good (dft (some u)) from h)]; rfl
    · rw [if_neg (fun q => h (of_decide_eq_true q)), if_neg (show ¬ good (dft (some u)) from h)]; rfl
theorem fb_one {o : Option Str} : ((firstBad [dft o]).toList = []) ↔ good (dft o) := by
  rw [fb_cons]
  by_cases h : good (dft o)
  · rw [if_pos h]
    exact ⟨fun _ => h, fun _ => rfl⟩
  · rw [if_neg h]
    exact ⟨(fun q => by cases q), fun q => absurd q h⟩
theorem fb_mem {u : Str} {ws : List Str} (h : firstBad ws = some u) : u ∈ ws := List.mem_of_find?_eq_some h
def W3 (a b c : Str) : List (Key × V) := [(.inr "end", .str a), (.inr "fail", .str b), (.inr "cut", .str c)]
theorem w3_mod {a b c : Str} : Mod ((W3 a b c).map fun x => (.inl x.1, x.2)) a b c [] := ⟨rfl, rfl, rfl, fun wy => by
  unfold W3 valV
  simp [List.find?_cons], fun wy v h => by cases h⟩
theorem valV_putK_same {κ : Type} [DecidableEq κ] {kvs : List (κ × V)} {k : κ} {y : V} : valV (putK kvs k y) k = some y := by rw [valV_put, if_pos rfl]
theorem valV_putK_ne {κ : Type} [DecidableEq κ] {kvs : List (κ × V)} {k j : κ} {y : V} (h : j ≠ k) : valV (putK kvs k y) j = valV kvs j := by rw [valV_put, if_neg h]
theorem depA_strs : ∀ us : List Str, depAll (us.map PyData.str) = 0
  | [] => rfl
  | u :: us => by
    rw [List.map_cons]
    unfold depAll
    rw [depA_strs us]
    rfl
theorem okA_strs : ∀ us : List Str, okDAll (us.map PyData.str) = true
  | [] => rfl
  | u :: us => by
    rw [List.map_cons]
    unfold okDAll
    rw [okA_strs us]
    rfl
theorem dep_strs (us : List Str) : dep (.list (us.map PyData.str)) ≤ 1 := by
  unfold dep
  rw [depA_strs]
  exact Nat.le_refl 1
theorem ok_strs {us : List Str} (h : us.length ≤ 1000) : okD (.list (us.map PyData.str)) = true := by
  unfold okD
  rw [okA_strs, List.length_map, decide_eq_true h]
  rfl
theorem toList_le {α : Type} (o : Option α) : o.toList.length ≤ 1 := by cases o <;> simp
theorem Mod.put {ms : List (MK × V)} {e f c u : Str} {kvs : List (List Key × V)} (m : Mod ms e f c kvs) (wy : List Key) : Mod (putK ms (.inr wy) (.str u)) e f c (putK kvs wy (.str u)) :=
  ⟨by rw [valV_putK_ne (kvs := ms) (k := .inr wy) (j := .inl (.inr "end")) (by intro q; cases q)]; exact m.e, by rw [valV_putK_ne (kvs := ms) (k := .inr wy) (j := .inl (.inr "fail")) (by intro q; cases q)]; exact m.f, by rw [valV_putK_ne (kvs := ms) (k := .inr wy) (j := .inl (.inr "cut")) (by intro q; cases q)]; exact m.c, fun wz => by
    by_cases h : wz = wy
    · subst h
      rw [valV_putK_same, valV_putK_same]
    · rw [valV_putK_ne (fun q => h (Sum.inr.inj q)), valV_putK_ne h]
      exact m.w wz, fun wz v h => by
    by_cases hz : wz = wy
    · subst hz
      rw [valV_putK_same] at h
      exact ⟨u, (Option.some.inj h).symm⟩
    · rw [valV_putK_ne hz] at h
      exact m.s wz v h⟩
def rows : List Int := [0, 7, 23, 10 ^ 20]
def ways (r : Int) : List (List Key) := [[], [.inr "return", .inl r], [.inr "fail", .inl r], [.inr "cut", .inl r]]
theorem ways_ok {r : Int} {wy : List Key} (hr : r ∈ rows) (h : wy ∈ ways r) : (mData (.inr wy)).canLay0 = true := by
  have : (rows.all fun r => (ways r).all fun wy => (mData (.inr wy)).canLay0) = true := by decide +kernel
  exact List.all_eq_true.mp (List.all_eq_true.mp this r hr) wy h
theorem q_ofKs {K : PySem.W.Frag} {σ : L2.St} {H : Hp} {ta : TA} {ip j : Nat} {p : Addr} {t : Int} {wys : List (List Key)} {tz : TS} {D : Ends} (hp : σ[ip]? = some (some (.ref p))) (hs : SrcAt H p t) (ht : t < 100000) (h : EvKs ta σ H wys) (h0 : 0 < wys.length) (h1 : wys.length < 1000)
    (k : ∀ wy a t' H', wy ∈ wys → H' a = some (.tup (wy.map kV)) → t ≤ t' → t' ≤ t + 1 → But p H H' → SrcAt H' p t' → tz D (σ.set j (some (.ref a))) H') : tSeq (tAsg (tCall (spOf K) [] E0 (tCons (tVar ip) (tCons (tLst ta) tNil))) (gName j)) tz D σ H :=
  ⟨_, hp, h H (Evl.Ex.refl H) _ fun vs H1 e1 hv => ⟨Evl.sz_of (by have := Paired.length hv; omega), fun l hl => by
    have hlen := Paired.length hv
    have nl := Same.new (o := .lst vs) hl
    have s1 := hs.same e1
    refine ⟨p, l, t, vs, rfl, s1.new hl, ht, upd_same, by omega, by omega, s1.ne hl, fun v t2 H2 hvm g1 g2 b2 s2 => ?_⟩
    obtain ⟨wy, hwy, a, rfl, ha⟩ := paired_mem hv hvm
    obtain ⟨xs, hx⟩ := SrcAt.lst (s1.new (o := .lst vs) hl)
    exact k wy a t2 H2 hwy (b2 _ _ (ne_of (nl _ _ ha) hx nofun) (nl _ _ ha)) g1 g2 (But.trans (But.ofSame (Same.trans e1 nl)) b2) s2⟩⟩
theorem But.fresh {p d : Addr} {H H1 : Hp} {t : Int} (b : But p H H1) (hd : H1 d = none) (s : SrcAt H1 p t) : H d = none := by
  cases h : H d with
  | none => rfl
  | some o =>
    have := b d o (fun q => by rw [q] at hd; obtain ⟨xs, hx⟩ := SrcAt.lst s; rw [hx] at hd; cases hd) h
    rw [hd] at this
    cases this
def spHolds : Sp := fun vs H Q _ => ∃ p, vs = [.ref p] ∧ SrcAt H p 0 ∧ ∀ H', But p H H' → Q (.bl true) H'
section
variable {P : Program} {w : World} {K : PySem.W.Frag} {mg : Str → Option Value} {base : Heap} {A0 : Ad}
theorem ok_holds (T : Txt P K mg A0) : FnOk P w K mg base CX0 6 A0.f_holds A0.fd_holds ["_law_source_here"] spHolds := by
  have G_draw : FnOk P w K mg base CX0 1 A0.f_draw A0.fd_draw ["_law_source_here", "_law_many"] spDraw := ok_draw T
  have G_of : FnOk P w K mg base CX0 2 A0.f_of A0.fd_of ["_law_source_here", "_law_some"] (spOf K) := ok_of T
  have G_same : FnOk P w K mg base CX0 2 A0.f_same A0.fd_same ["_law_actual", "_law_due"] (spSame K 1) := ok_same T 1
  have G_word : FnOk P w K mg base CX0 3 A0.f_word A0.fd_word ["_law_source_here"] spWord := ok_word T
  have G_refusal : FnOk P w K mg base CX0 1 A0.f_refusal A0.fd_refusal ["_law_words"] (spRefusal K) := ok_refusal T
  have G_made_or : FnOk P w K mg base CX0 5 A0.f_made_or A0.fd_made_or ["_law_words"] (spMadeOr A0) := ok_made_or T
  have G_Door_copy : FnOk P w K mg base CX0 4 A0.f_Door_copy A0.fd_Door_copy ["self"] (spCopy A0) := ok_Door_copy T
  have G_changed : FnOk P w K mg base CX0 4 A0.f_changed A0.fd_changed ["_law_door", "_law_way", "_law_word_here", "_law_by_item"] (spChanged A0) := ok_changed T
  have G_shows : FnOk P w K mg base CX0 4 A0.f_shows A0.fd_shows ["_law_door", "_law_now"] (spShows P w A0) := ok_shows T
  refine T.F_holds.ok sc_holds (fun vs H Q E h => ?_) (fun cdv A outer s H vs Q E hr h => ?_)
  · obtain ⟨p, rfl, _⟩ := h
    rfl
  · obtain ⟨p, rfl, hs, k⟩ := h
    refine ⟨_, (pss_cons (ps_setLc (i := 1) (own := [("_law_turn", 2)]) (g := gName 2) (tt := tYes) rfl sc_holds.nd rfl rfl (sw_true rfl rfl rfl (by decide +kernel)) (pi_range1 rfl T.z_range (pa_cons pe_int pa_nil)) (blkOk_by (N := ["_law_source_here", "_law_words", "_law_turn", "_law_door", "_law_found", "_law_word_here", "_law_twin", "_law_now", "_law_reason", "_law_pairs", "_law_chosen", "_law_model", "_law_row", "_law_way", "_law_wrong"]) (sc := defScope s_holds) (by decide +kernel)) (fun _ _ _ _ _ => (pg_name (i := 2) sc_holds.nd rfl (Or.inl rfl))) (fun _ _ _ _ _ => pts_nil) (fun _ _ _ _ _ => (pe_ifExp (pt_cmpR op_gt (pe_call G_draw (hr.mono (by decide)) rfl T.m_draw T.F_draw.kp T.b_draw .nil pass0 (pa_cons (pv 0) (pa_cons pe_int pa_nil))) pe_int (nomark _)) (pe_call G_word (hr.mono (by decide)) rfl T.m_word T.F_word.kp T.b_word .nil pass0 (pa_cons (pv 0) pa_nil)) pe_non)))
 (Evl.pss_cut (ps_asg (pe_call G_made_or (hr.mono (by decide)) rfl T.m_made_or T.F_made_or.kp T.b_made_or .nil pass0 (pa_cons (pv 1) pa_nil)) (pg_tup rfl (pgs_cons (pg_name (i := 3) sc_holds.nd rfl (Or.inl rfl)) (pgs_cons (pg_name (i := 4) sc_holds.nd rfl (Or.inl rfl)) pgs_nil))))
 (pss_cons (ps_if (pt_not (pt_val (pe_call G_same (hr.mono (by decide)) rfl T.m_same T.F_same.kp T.b_same .nil pass0 (pa_cons (pv 4) (pa_cons (pe_call G_refusal (hr.mono (by decide)) rfl T.m_refusal T.F_refusal.kp T.b_refusal .nil pass0 (pa_cons (pv 1) pa_nil)) pa_nil)))))
 (pss_one (ps_ret pe_bl))
 pss_nil)
 (Evl.pss_cut (ps_if (pt_cmpR (op_neD hr.units) (pv 4) (pe_lst pa_nil) (nomark _))
 (pss_cons (ps_setLc (i := 1) (own := [("_law_word_here", 5)]) (g := gName 5) (tt := tYes) rfl sc_holds.nd rfl rfl (sw_true rfl rfl rfl (by decide +kernel)) (pi_list (pv 1)) (blkOk_by (N := ["_law_source_here", "_law_words", "_law_turn", "_law_door", "_law_found", "_law_word_here", "_law_twin", "_law_now", "_law_reason", "_law_pairs", "_law_chosen", "_law_model", "_law_row", "_law_way", "_law_wrong"]) (sc := defScope s_holds) (by decide +kernel)) (fun _ _ _ _ _ => (pg_name (i := 5) sc_holds.nd rfl (Or.inl rfl))) (fun _ _ _ _ _ => pts_nil) (fun _ _ _ _ _ => (pe_ifExp (pt_cmpR (r := rEqD K) (op_eqD hr.units) (pe_call G_refusal (hr.mono (by decide)) rfl T.m_refusal T.F_refusal.kp T.b_refusal .nil pass0 (pa_cons (pe_lst (pa_cons (pv 5) pa_nil)) pa_nil)) (pe_lst pa_nil) (nomark _)) (pv 5) pe_str)))
 (pss_one (ps_asg (pe_call G_made_or (hr.mono (by decide)) rfl T.m_made_or T.F_made_or.kp T.b_made_or .nil pass0 (pa_cons (pv 1) pa_nil)) (pg_tup rfl (pgs_cons (pg_name (i := 3) sc_holds.nd rfl (Or.inl rfl)) (pgs_cons (pg_name (i := 4) sc_holds.nd rfl (Or.inl rfl)) pgs_nil))))))
 pss_nil)
 (pss_cons (ps_if (pt_cmpR op_isN (pv 3) pe_non (nomark _))
 (pss_one (ps_ret pe_bl))
 pss_nil)
 (pss_cons (ps_par (i := 6) (j := 7) (by rfl) sc_holds.nd rfl rfl (by decide) rfl rfl (pa_cons (pe_meth0 (pv 3) T.cl T.M_Door_copy G_Door_copy (hr.mono (by decide)) T.b_Door_copy .nil pass0) (pa_cons pe_dnewK pa_nil)) (by rfl))
 (pss_cons (ps_for PassesOwn.never rfl (pi_zip (by rfl) T.z_zip (pa_cons (pe_lst (pa_cons pe_str (pa_cons pe_str (pa_cons pe_str pa_nil)))) (pa_cons (pv 1) pa_nil))) (pg_tup rfl (pgs_cons (pg_name (i := 8) sc_holds.nd rfl (Or.inl rfl)) (pgs_cons (pg_name (i := 5) sc_holds.nd rfl (Or.inl rfl)) pgs_nil)))
 (pss_one (ps_dput (hu_of hr) (pv 7) (pv 8) (pe_ifExp (pt_cmpR op_isN (pv 5) pe_non (nomark _)) pe_str (pv 5)) rfl)))
 (pss_cons (ps_redo (ps_set (i := 9) sc_holds.nd rfl (Or.inl rfl) (pe_lst (pa_cons (pe_tup (pa_cons (pv 3) (pa_cons (pv 7) pa_nil))) (pa_cons (pe_tup (pa_cons (pv 6) (pa_cons (pe_callTy call_dictD (by rfl) T.z_dict (by decide +kernel) (pa_cons (pv 7) pa_nil)) pa_nil))) pa_nil)))))
 (pss_cons (ps_for PassesOwn.never rfl (pi_range1 rfl T.z_range (pa_cons (pe_op op_add pe_int (pe_call G_draw (hr.mono (by decide)) rfl T.m_draw T.F_draw.kp T.b_draw .nil pass0 (pa_cons (pv 0) (pa_cons pe_int pa_nil)))) pa_nil)) (pg_name (i := 2) sc_holds.nd rfl (Or.inl rfl))
 (Evl.pss_cut (ps_asg (pe_ix ix_list (pv 9) (pe_call G_draw (hr.mono (by decide)) rfl T.m_draw T.F_draw.kp T.b_draw .nil pass0 (pa_cons (pv 0) (pa_cons pe_int pa_nil))) (fun _ _ => rfl)) (pg_tup rfl (pgs_cons (pg_name (i := 10) sc_holds.nd rfl (Or.inl rfl)) (pgs_cons (pg_name (i := 11) sc_holds.nd rfl (Or.inl rfl)) pgs_nil))))
 (pss_cons (ps_par (i := 12) (j := 5) (by rfl) sc_holds.nd rfl rfl (by decide) rfl rfl (pa_cons (pe_call G_of (hr.mono (by decide)) rfl T.m_of T.F_of.kp T.b_of .nil pass0 (pa_cons (pv 0) (pa_cons (pe_lst (pa_cons pe_int (pa_cons pe_int (pa_cons pe_int (pa_cons (pe_op op_pow pe_int pe_int) pa_nil))))) pa_nil))) (pa_cons (pe_call G_word (hr.mono (by decide)) rfl T.m_word T.F_word.kp T.b_word .nil pass0 (pa_cons (pv 0) pa_nil)) pa_nil)) (by rfl))
 (pss_cons (ps_set (i := 13) sc_holds.nd rfl (Or.inl rfl) (pe_call G_of (hr.mono (by decide)) rfl T.m_of T.F_of.kp T.b_of .nil pass0 (pa_cons (pv 0) (pa_cons (pe_lst (pa_cons (pe_tup pa_nil) (pa_cons (pe_tup (pa_cons pe_str (pa_cons (pv 12) pa_nil))) (pa_cons (pe_tup (pa_cons pe_str (pa_cons (pv 12) pa_nil))) (pa_cons (pe_tup (pa_cons pe_str (pa_cons (pv 12) pa_nil))) pa_nil))))) pa_nil))))
 (pss_cons (ps_set (i := 14) sc_holds.nd rfl (Or.inl rfl) (pe_call G_refusal (hr.mono (by decide)) rfl T.m_refusal T.F_refusal.kp T.b_refusal .nil pass0 (pa_cons (pe_lst (pa_cons (pv 5) pa_nil)) pa_nil)))
 (Evl.pss_cut (ps_if (pt_not (pt_val (pe_call G_same (hr.mono (by decide)) rfl T.m_same T.F_same.kp T.b_same .nil pass0 (pa_cons (pe_call G_changed (hr.mono (by decide)) rfl T.m_changed T.F_changed.kp T.b_changed .nil pass0 (pa_cons (pv 10) (pa_cons (pv 13) (pa_cons (pv 5) (pa_cons (pe_cmpR op_eq (pe_call G_draw (hr.mono (by decide)) rfl T.m_draw T.F_draw.kp T.b_draw .nil pass0 (pa_cons (pv 0) (pa_cons pe_int pa_nil))) pe_int (nomark _)) pa_nil))))) (pa_cons (pv 14) pa_nil)))))
 (pss_one (ps_ret pe_bl))
 pss_nil)
 (Evl.pss_cut (ps_if (pt_cmpR (op_eqD hr.units) (pv 14) (pe_lst pa_nil) (nomark _))
 (pss_one (ps_xput (hu_of hr) (pv 11) (pv 13) (pv 5) rfl))
 pss_nil)
 (pss_one (ps_if (PW.pt (pw_or (pt_not (pt_val (pe_call G_shows (hr.mono (by decide)) rfl T.m_shows T.F_shows.kp T.b_shows .nil pass0 (pa_cons (pv 3) (pa_cons (pv 7) pa_nil))))) (pw_or1 (pt_not (pt_val (pe_call G_shows (hr.mono (by decide)) rfl T.m_shows T.F_shows.kp T.b_shows .nil pass0 (pa_cons (pv 6) (pa_cons (pe_ix ix_tup (pe_ix ix_list (pv 9) pe_int (fun _ _ => rfl)) pe_int (fun _ _ => rfl)) pa_nil))))))))
 (pss_one (ps_ret pe_bl))
 pss_nil)))))))))
 (pss_one (ps_ret pe_bl))))))))))), ?_⟩
    -- the words
    refine ⟨3, rfl, by decide, by decide, fun L hL => lc_range (lo := 0) (n := 3) (fun i H' => ∃ (os : List (Option Str)) (t' : Int), os.length = i ∧ (∀ o ∈ os, lay (dft o)) ∧ But p H H' ∧ SrcAt H' p t' ∧ t' ≤ 3 * i ∧ H' L = some (.lst (os.map optV)))
      ⟨[], 0, rfl, (fun o ho => absurd ho List.not_mem_nil), But.ofSame (Same.new hL), hs.new hL, by decide, upd_same⟩ (fun i H' hi q => ⟨rfl, ?_⟩) (fun H' q => ?_)⟩
    · obtain ⟨os, t', ho, hlay, b0, s0, ht, hL'⟩ := q
      unfold tYes
      dsimp only
      rw [if_pos rfl]
      refine ⟨_, rfl, p, t', 3, rfl, s0, by omega, by decide, by decide, fun j t1 H1 j0 j1 h2 h3 b1 s1 => ?_⟩
      have hpL : p ≠ L := hs.ne hL
      have hL1 := b1 _ _ (Ne.symm hpL) hL'
      refine ⟨_, _, rfl, rfl, _, rfl, ?_⟩
      refine ite2 (fun c7 => ?_) (fun c7 => ?_)
      · refine ⟨_, rfl, p, t1, rfl, s1, by omega, fun u t2 H2 hu h4 h5 b2 s2 => ?_⟩
        have hL2 := b2 _ _ (Ne.symm hpL) hL1
        refine ⟨_, hL2, Evl.sz_lt (by rw [List.length_map]; omega), os ++ [some u], t2, by simp [ho], fun o hm => ?_, ?_, ?_, by omega, by rw [upd_same, List.map_append]; rfl⟩
        · rcases List.mem_append.mp hm with hm | hm
          · exact hlay o hm
          · rw [List.mem_singleton.mp hm]; exact hu
        · intro b o hb ho
          rw [upd_ne (ne_of_none ho hL)]
          exact b2 b o hb (b1 b o hb (b0 b o hb ho))
        · obtain ⟨⟨dd, m, h, r⟩, t0⟩ := s2
          exact ⟨⟨dd, m, by rw [upd_ne hpL]; exact h, r⟩, t0⟩
      · refine ⟨_, hL1, Evl.sz_lt (by rw [List.length_map]; omega), os ++ [none], t1, by simp [ho], fun o hm => ?_, ?_, ?_, by omega, by rw [upd_same, List.map_append]; rfl⟩
        · rcases List.mem_append.mp hm with hm | hm
          · exact hlay o hm
          · rw [List.mem_singleton.mp hm]; exact menu_lay (by decide)
        · intro b o hb ho
          rw [upd_ne (ne_of_none ho hL)]
          exact b1 b o hb (b0 b o hb ho)
        · obtain ⟨⟨dd, m, h, r⟩, t0⟩ := s1
          exact ⟨⟨dd, m, by rw [upd_ne hpL]; exact h, r⟩, t0⟩
    · obtain ⟨os, t0, ho, hlay, b0, s0, ht, hL'⟩ := q
      match os, ho with
      | [o1, o2, o3], _ =>
      have hlay1 := hlay o1 (by simp)
      have hlay2 := hlay o2 (by simp)
      have hlay3 := hlay o3 (by simp)
      have hws : ∀ u ∈ [dft o1, dft o2, dft o3], lay u := fun u hu => by
        simp only [List.mem_cons, List.not_mem_nil, or_false] at hu
        rcases hu with rfl | rfl | rfl
        · exact hlay1
        · exact hlay2
        · exact hlay3
      refine Evl.q_cut (M := fun σ' H2 => ∃ (r : Addr) (dv : V), σ' = [some (.ref p), some (.ref L), none, some dv, some (.ref r), none, none, none, none, none, none, none, none, none, none] ∧ Same H' H2 ∧ H2 r = some (.lst ((firstBad [dft o1, dft o2, dft o3]).toList.map V.str)) ∧ (firstBad [dft o1, dft o2, dft o3] = none → ∃ y d, dv = .ref y ∧ DoorAt A0 H2 y (dft o1) (dft o2) (dft o3) d [] ∧ H d = none)) ?_ ?_
      · refine ⟨_, rfl, L, o1, o2, o3, rfl, hL', fun hn tp y d r H2 e2 hy hd hyd htp hr2 D => ?_, fun u hu tp r H2 e2 htp hr2 => ?_⟩
        · exact ⟨tp, _, rfl, SqT.of htp, rfl, _, _, rfl, _, _, rfl, rfl, r, .ref y, rfl, e2, by rw [hn]; exact hr2, fun _ => ⟨y, d, rfl, D, But.fresh b0 hd s0⟩⟩
        · exact ⟨tp, _, rfl, SqT.of htp, rfl, _, _, rfl, _, _, rfl, rfl, r, .non, rfl, e2, by rw [hu]; exact hr2, fun h => by rw [hu] at h; cases h⟩
      rintro σ' H2 ⟨r, dv, rfl, e2, hr2, hD⟩
      refine Evl.q_when (b := false) (Evl.et_is (Evl.et_not (a := true) (Evl.et_B (fun H3 e3 Q' q' => ?_))) rfl) (fun h => nomatch h) fun _ H3 e3 => ?_
      · refine ⟨_, rfl, _, rfl, L, [o1, o2, o3], rfl, e3 _ _ (e2 _ _ hL'), (by show 3 ≤ 100; decide), fun r2 H4 _ e4 h4 => ?_⟩
        rw [bads_take] at h4
        exact ⟨.ref r, .ref r2, _, rfl, dp_strs (e4 _ _ (e3 _ _ hr2)), dp_strs h4, dep_strs _, ok_strs (Nat.le_trans (toList_le _) (by decide)), fun H5 e5 => q' H5 (e4.trans e5)⟩
      have hr3 := e3 _ _ hr2
      refine Evl.q_cut (M := fun σ' H' => ∃ (o1 o2 o3 : Option Str) (l y d : Addr) (t : Int) (x2 x4 x5 : Option V), σ' = [some (.ref p), some (.ref l), x2, some (.ref y), x4, x5, none, none, none, none, none, none, none, none, none] ∧ H' l = some (.lst [optV o1, optV o2, optV o3]) ∧ firstBad [dft o1, dft o2, dft o3] = none ∧ DoorAt A0 H' y (dft o1) (dft o2) (dft o3) d [] ∧ H d = none ∧ But p H H' ∧ SrcAt H' p t ∧ t ≤ 9 ∧ lay (dft o1) ∧ lay (dft o2) ∧ lay (dft o3)) ?_ ?_
      · refine Evl.s_if (b := !decide ((firstBad [dft o1, dft o2, dft o3]).toList = [])) (Evl.et_test (ev_neDE (Evl.ev_var rfl) (evd_lst evds_nil (by simp)) (dp_strs hr3) (sh_list (fun v hv => hws v (by
            cases hf : firstBad [dft o1, dft o2, dft o3] with
            | none => rw [hf] at hv; cases hv
            | some u => rw [hf] at hv; rw [show v = u by simpa using hv]; exact fb_mem hf)) (toList_le _)) rfl eqv_nil)) (fun hb H4 e4 => ?_) (fun hb H4 e4 => ?_)
        · have s4 := Same.trans e2 (Same.trans e3 e4)
          refine Evl.q_asgL (el_map (xs := [optV o1, optV o2, optV o3]) (g := gV) (Evl.ev_var rfl) (SqL.of (s4 _ _ hL')) (by show 3 ≤ 40000; decide) (fun _ => rfl) (fun x H5 e5 hx => ?_)) fun l2 H5 hl2 e5 h5 => ?_
          · obtain ⟨o, ho, rfl⟩ : ∃ o, o ∈ [o1, o2, o3] ∧ x = optV o := by
              simp only [List.mem_cons, List.not_mem_nil, or_false] at hx
              rcases hx with rfl | rfl | rfl
              · exact ⟨o1, by simp, rfl⟩
              · exact ⟨o2, by simp, rfl⟩
              · exact ⟨o3, by simp, rfl⟩
            have ho2 : lay (dft o) := hlay o ho
            refine Evl.ev_is (v := if good (dft o) then optV o else .str "ping") (Evl.ev_if (b := decide (good (dft o))) (Evl.et_test (ev_eqLD (el_refusal1 (Evl.ev_var rfl)) (evd_lst evds_nil (by simp)) (fun p H1 h => dp_strs h) (sh_list (fun v hv => ?_) (toList_le _)) rfl (by rw [eqv_nil]; exact decide_eq_decide.mpr fb_one))) (fun h => ?_) (fun h => ?_)) ?_
            · rw [fb_cons] at hv
              by_cases hg : good (dft o)
              · rw [if_pos hg] at hv; cases hv
              · rw [if_neg hg] at hv
                have : v = dft o := by simpa using hv
                rw [this]; exact ho2
            · rw [if_pos (of_decide_eq_true h)]
              exact Evl.ev_var rfl
            · rw [if_neg (of_decide_eq_false h)]
              exact Evl.ev_c
            · rw [gV_opt]
              unfold fixO
              by_cases hg : good (dft o)
              · rw [if_pos hg, if_pos hg]
              · rw [if_neg hg, if_neg hg]; rfl
          · have h5' : H5 l2 = some (.lst [optV (fixO o1), optV (fixO o2), optV (fixO o3)]) := by
              rw [← gV_opt, ← gV_opt, ← gV_opt]; exact h5
            have hn : firstBad [dft (fixO o1), dft (fixO o2), dft (fixO o3)] = none := fb_all fun v hv => by
              simp only [List.mem_cons, List.not_mem_nil, or_false] at hv
              rcases hv with rfl | rfl | rfl <;> exact fixO_good _
            refine ⟨_, rfl, l2, fixO o1, fixO o2, fixO o3, rfl, h5', fun _ tp6 y d r6 H6 e6 hy hd hyd htp6 hr6 D => ?_, fun u2 hu2 => by rw [hn] at hu2; cases hu2⟩
            refine ⟨_, _, rfl, SqT.of htp6, rfl, _, _, rfl, _, _, rfl, rfl, ?_⟩
            have s6 := Same.trans s4 (Same.trans e5 e6)
            exact ⟨fixO o1, fixO o2, fixO o3, l2, y, d, t0, _, _, _, rfl, e6 _ _ h5', hn, D, But.fresh b0 (Evl.fresh_back (Same.trans s4 e5) hd) s0, But.trans b0 (But.ofSame s6), s0.same s6, by omega, fixO_lay hlay1, fixO_lay hlay2, fixO_lay hlay3⟩
        · have hn : firstBad [dft o1, dft o2, dft o3] = none := by
            cases hf : firstBad [dft o1, dft o2, dft o3] with
            | none => rfl
            | some u => rw [hf] at hb; cases hb
          obtain ⟨y, d, rfl, D, hd0⟩ := hD hn
          have s4 := Same.trans e2 (Same.trans e3 e4)
          exact ⟨o1, o2, o3, L, y, d, t0, _, _, _, rfl, s4 _ _ hL', hn, D.same (Same.trans e3 e4), hd0, But.trans b0 (But.ofSame s4), s0.same s4, by omega, hlay1, hlay2, hlay3⟩
      · rintro σ5 H5 ⟨a1, a2, a3, l, y, d, t5, x2, x4, x5, rfl, hl5, hn5, D5, hd0, b5, s5, ht5, lay1, lay2, lay3⟩
        refine Evl.q_when (b := false) (Evl.et_test (Evl.ev_is (ev_isN (v := .ref y) (Evl.ev_var rfl)) (by rfl))) (fun h => nomatch h) fun _ H6 e6 => ?_
        have D6 := D5.same e6
        obtain ⟨dx6, hx6, hd6⟩ := id D6
        refine ⟨_, rfl, y, dx6, _, rfl, hx6, (by rfl), y, _, _, _, d, rfl, D6, hn5, fun z d2 H7 hz hd2 hzd e7 D7 => fun n1 hn1 => ⟨_, _, rfl, ?_⟩⟩
        have nn1 := Same.new (o := .dK []) hn1
        refine ⟨(by show 3 ≤ sizeLine; decide), fun l1 hl1 => ⟨_, rfl, l1, l, _, _, rfl, SqL.of upd_same, SqL.of (Same.new hl1 _ _ (nn1 _ _ (e7 _ _ (e6 _ _ hl5)))), for_it (walk_zip (n := 3) (xs := [.str "end", .str "fail", .str "cut"]) (ys := [optV a1, optV a2, optV a3]) rfl) (fun i σ' H' => ∃ x5 x8 : Option V, σ' = [some (.ref p), some (.ref l), x2, some (.ref y), x4, x5, some (.ref z), some (.ref n1), x8, none, none, none, none, none, none] ∧ But n1 (upd (upd H7 n1 (.dK [])) l1 (.lst [.str "end", .str "fail", .str "cut"])) H' ∧ H' n1 = some (.dK ((W3 (dft a1) (dft a2) (dft a3)).take i)))
          ⟨_, _, rfl, fun b o _ h => h, by rw [upd_ne (ne_of_none upd_same hl1), upd_same]; rfl⟩ (fun i σ' H' _ q => ?_) (fun i v σ' H8 H9 hi q yv => ?_) (fun σ' H8 q => ?_)⟩⟩
        · obtain ⟨x5, x8, _, b8, _⟩ := q
          have nl : l1 ≠ n1 := Ne.symm (ne_of_none upd_same hl1)
          refine ⟨SqL.of (b8 _ _ nl upd_same), SqL.of (b8 _ _ ?_ (Same.new hl1 _ _ (nn1 _ _ (e7 _ _ (e6 _ _ hl5)))))⟩
          exact ne_of_none (e7 _ _ (e6 _ _ hl5)) hn1
        · obtain ⟨x5, x8, rfl, b8, h8⟩ := q
          obtain ⟨Tp, kx, vx, rfl, hT, rfl, hk1, hk2⟩ := yv
          have hnT : n1 ≠ Tp := ne_of_none h8 hT
          have step : ∀ (kk : Str) (o : Option Str), kx = .str kk → vx = optV o → putK ((W3 (dft a1) (dft a2) (dft a3)).take i) (.inr kk) (.str (dft o)) = (W3 (dft a1) (dft a2) (dft a3)).take (i + 1) → gTup K 2 (gCons (gName 8) (gCons (gName 5) gNil)) (.ref Tp) [some (.ref p), some (.ref l), x2, some (.ref y), x4, x5, some (.ref z), some (.ref n1), x8, none, none, none, none, none, none] (upd H8 Tp (.tup [kx, vx])) fun σ2 H2 => sDPut (tVar 7) (tVar 8) (tIf (tTest (tOp (fun x y H Q => y = V.non ∧ Q (V.bl (decide (x = V.non))) H) (tVar 5) (tC .non))) (tC (.str "keep")) (tVar 5))
              { nx := fun σ' H' => ∃ x5 x8 : Option V, σ' = [some (.ref p), some (.ref l), x2, some (.ref y), x4, x5, some (.ref z), some (.ref n1), x8, none, none, none, none, none, none] ∧ But n1 (upd (upd H7 n1 (.dK [])) l1 (.lst [.str "end", .str "fail", .str "cut"])) H' ∧ H' n1 = some (.dK ((W3 (dft a1) (dft a2) (dft a3)).take (i + 1))), rt := Q } σ2 H2 := fun kk o e1 e2 e3 => by
            subst e1 e2
            refine ⟨Tp, _, rfl, SqT.of upd_same, rfl, _, _, rfl, _, _, rfl, rfl, ?_⟩
            have ev : ∀ σ H, σ[5]? = some (some (optV o)) → Evl.Ev (tIf (tTest (tOp (fun x y H Q => y = V.non ∧ Q (V.bl (decide (x = V.non))) H) (tVar 5) (tC .non))) (tC (.str "keep")) (tVar 5)) σ H (.str (dft o)) := fun σ H hv => by
              cases o with
              | none => exact Evl.ev_if (b := true) (Evl.et_test (Evl.ev_is (ev_isN (v := .non) (Evl.ev_var hv)) (by rfl))) (fun _ => Evl.ev_c) fun h => nomatch h
              | some u => exact Evl.ev_if (b := false) (Evl.et_test (Evl.ev_is (ev_isN (v := .str u) (Evl.ev_var hv)) (by rfl))) (fun h => nomatch h) fun _ => Evl.ev_var hv
            refine ev _ _ rfl _ (Evl.Ex.refl _) _ fun H10 e10 => ?_
            have h10 := e10 _ _ (Same.new (o := .tup [.str kk, optV o]) hT _ _ h8)
            refine ⟨_, rfl, _, rfl, n1, _, rfl, DPut.k (k := .inr kk) h10 (Evl.sz_lt (by rw [List.length_take]; omega)), _, _, rfl, ?_, by rw [upd_same, e3]⟩
            intro b o' hb ho'
            rw [upd_ne hb]
            exact e10 _ _ (Same.new hT _ _ (b8 b o' hb ho'))
          have hi3 : i = 0 ∨ i = 1 ∨ i = 2 := by omega
          rcases hi3 with rfl | rfl | rfl
          · exact step "end" a1 (by simpa using hk1.symm) (by simpa using hk2.symm) rfl
          · exact step "fail" a2 (by simpa using hk1.symm) (by simpa using hk2.symm) rfl
          · exact step "cut" a3 (by simpa using hk1.symm) (by simpa using hk2.symm) rfl
        · obtain ⟨x5, x8, rfl, b8, h8⟩ := q
          have h8 : H8 n1 = some (.dK (W3 (dft a1) (dft a2) (dft a3))) := h8
          have s78 : Same H7 H8 := fun b o h => b8 b o (ne_of_none h hn1) (Same.new hl1 _ _ (nn1 _ _ h))
          have s58 : Same H5 H8 := Same.trans e6 (Same.trans e7 s78)
          have D8y := D5.same s58
          have D8z := D7.same s78
          have hne : d ≠ d2 := ne_of_none hd6 hd2
          have hd20 : H d2 = none := But.fresh (But.trans b5 (But.ofSame e6)) hd2 (s5.same e6)
          have hn10 : H n1 = none := But.fresh (But.trans b5 (But.ofSame (Same.trans e6 e7))) hn1 (s5.same (Same.trans e6 e7))
          have hlay3 : ∀ x ∈ W3 (dft a1) (dft a2) (dft a3), (kD x.1).canLay0 = true := fun x hx => by
            have : ((["end", "fail", "cut"] : List Str).all fun u => (PyData.str u).canLay0) = true := by decide +kernel
            unfold W3 at hx
            simp only [List.mem_cons, List.not_mem_nil, or_false] at hx
            rcases hx with rfl | rfl | rfl
            · exact List.all_eq_true.mp this "end" (by simp)
            · exact List.all_eq_true.mp this "fail" (by simp)
            · exact List.all_eq_true.mp this "cut" (by simp)
          refine ⟨_, rfl, _, rfl, (by show 2 ≤ sizeLine; decide), fun q1 hq1 => ⟨_, rfl, _, rfl, n1, _, rfl, .inl (Same.new hq1 _ _ h8), fun n2 hn2 => ⟨(by show 2 ≤ sizeLine; decide), fun q2 hq2 => ⟨(by show 2 ≤ sizeLine; decide), fun pl hpl => ?_⟩⟩⟩⟩
          have g1 := Same.new (o := .tup [.ref y, .ref n1]) hq1
          have g2 := Same.new (o := .dK (W3 (dft a1) (dft a2) (dft a3))) hn2
          have g3 := Same.new (o := .tup [.ref z, .ref n2]) hq2
          have g4 := Same.new (o := .lst [.ref q1, .ref q2]) hpl
          have s8G := Same.trans (Same.trans g1 g2) (Same.trans g3 g4)
          have hG1 := s8G _ _ h8
          have hG2 := g4 _ _ (g3 _ _ (upd_same (H := upd H8 q1 (.tup [.ref y, .ref n1])) (a := n2) (o := .dK (W3 (dft a1) (dft a2) (dft a3)))))
          have hq1G := g4 _ _ (g3 _ _ (g2 _ _ (upd_same (H := H8) (a := q1) (o := .tup [.ref y, .ref n1]))))
          have hq2G := g4 _ _ (upd_same (a := q2) (o := .tup [.ref z, .ref n2]) (H := upd (upd H8 q1 (.tup [.ref y, .ref n1])) n2 (.dK (W3 (dft a1) (dft a2) (dft a3)))))
          have hn12 : n1 ≠ n2 := ne_of_none (g1 _ _ h8) hn2
          have hplG : upd (upd (upd (upd H8 q1 (.tup [.ref y, .ref n1])) n2 (.dK (W3 (dft a1) (dft a2) (dft a3)))) q2 (.tup [.ref z, .ref n2])) pl (.lst [.ref q1, .ref q2]) pl = some (.lst [.ref q1, .ref q2]) := upd_same
          have hn20 : H n2 = none := But.fresh (But.trans b5 (But.ofSame (Same.trans s58 g1))) hn2 (s5.same (Same.trans s58 g1))
          have hppl : p ≠ pl := (s5.same (Same.trans s58 (Same.trans (Same.trans g1 g2) g3))).ne hpl
          have hbn2 : ∀ b o, H8 b = some o → b ≠ n2 := fun b o h => ne_of_none (g1 _ _ h) hn2
          generalize hGd : upd (upd (upd (upd H8 q1 (.tup [.ref y, .ref n1])) n2 (.dK (W3 (dft a1) (dft a2) (dft a3)))) q2 (.tup [.ref z, .ref n2])) pl (.lst [.ref q1, .ref q2]) = G at *
          have hG2' : upd G n1 (mixO P w n1 (convE (W3 (dft a1) (dft a2) (dft a3)))) n2 = some (.dK (W3 (dft a1) (dft a2) (dft a3))) := by rw [upd_ne (Ne.symm hn12)]; exact hG2
          refine ⟨upd (upd G n1 (mixO P w n1 (convE (W3 (dft a1) (dft a2) (dft a3))))) n2 (mixO P w n2 (convE (W3 (dft a1) (dft a2) (dft a3)))), fun pins s I => x_conv (x_conv I hG1 hlay3) hG2' hlay3, ?_⟩
          have nG1 : ∀ b o, H8 b = some o → b ≠ n1 → upd (upd G n1 (mixO P w n1 (convE (W3 (dft a1) (dft a2) (dft a3))))) n2 (mixO P w n2 (convE (W3 (dft a1) (dft a2) (dft a3)))) b = some o := fun b o h hb => by
            rw [upd_ne (hbn2 b o h), upd_ne hb]
            exact s8G b o h
          have dAt : ∀ {x : Addr} {dd : Addr} {kk : List (List Key × V)}, DoorAt A0 H8 x (dft a1) (dft a2) (dft a3) dd kk → DoorAt A0 (upd (upd G n1 (mixO P w n1 (convE (W3 (dft a1) (dft a2) (dft a3))))) n2 (mixO P w n2 (convE (W3 (dft a1) (dft a2) (dft a3))))) x (dft a1) (dft a2) (dft a3) dd kk := fun {x dd kk} D => by
            obtain ⟨dx, r1, r2⟩ := D
            exact ⟨dx, nG1 _ _ r1 (ne_of r1 h8 nofun), nG1 _ _ r2 (ne_of r2 h8 nofun)⟩
          have T0 : Two P w A0 (upd (upd G n1 (mixO P w n1 (convE (W3 (dft a1) (dft a2) (dft a3))))) n2 (mixO P w n2 (convE (W3 (dft a1) (dft a2) (dft a3))))) y z d d2 n1 n2 (dft a1) (dft a2) (dft a3) [] [] _ _ := ⟨dAt D8y, dAt D8z, conv_mix.keepB hG2' (fun _ => nofun) hn12 But.upd, conv_mix, hne, hn12⟩
          have P0 : PlAt (upd (upd G n1 (mixO P w n1 (convE (W3 (dft a1) (dft a2) (dft a3))))) n2 (mixO P w n2 (convE (W3 (dft a1) (dft a2) (dft a3))))) pl q1 q2 y z n1 n2 := by
            have P1 : PlAt G pl q1 q2 y z n1 n2 := ⟨hplG, hq1G, hq2G⟩
            exact (P1.but But.upd hG1 (fun _ => nofun) (ne_of hplG hG1 nofun)).but But.upd hG2' (fun _ => nofun) (ne_of hplG hG2 nofun)
          have S0 : SrcAt (upd (upd G n1 (mixO P w n1 (convE (W3 (dft a1) (dft a2) (dft a3))))) n2 (mixO P w n2 (convE (W3 (dft a1) (dft a2) (dft a3))))) p t5 := by
            obtain ⟨⟨dd, mm, r1, r2⟩, r3⟩ := s5.same s58
            exact ⟨⟨dd, mm, nG1 _ _ r1 (ne_of r1 h8 nofun), r2⟩, r3⟩
          have B0 : But p H (upd (upd G n1 (mixO P w n1 (convE (W3 (dft a1) (dft a2) (dft a3))))) n2 (mixO P w n2 (convE (W3 (dft a1) (dft a2) (dft a3))))) := fun b o hb ho => by
            have r5 := b5 b o hb ho
            exact nG1 b o (s58 _ _ r5) (ne_of_none (e7 _ _ (e6 _ _ r5)) hn1)
          generalize upd (upd G n1 (mixO P w n1 (convE (W3 (dft a1) (dft a2) (dft a3))))) n2 (mixO P w n2 (convE (W3 (dft a1) (dft a2) (dft a3)))) = G0 at T0 P0 S0 B0
          -- the turns
          refine ⟨_, rfl, p, t5, 38, rfl, S0, by omega, by decide, by decide, fun j t6 H9 j0 j1 h2 h3 b9 s9 => ⟨_, _, rfl, rfl, _, rfl, ?_, ?_, for_range (lo := 0) (fun i σ' H' => ∃ (k1 k2 : List (List Key × V)) (m1 m2 : List (MK × V)) (t : Int) (x2 x5 x8 x10 x11 x12 x13 x14 : Option V), σ' = [some (.ref p), some (.ref l), x2, some (.ref y), x4, x5, some (.ref z), some (.ref n1), x8, some (.ref pl), x10, x11, x12, x13, x14] ∧ Two P w A0 H' y z d d2 n1 n2 (dft a1) (dft a2) (dft a3) k1 k2 m1 m2 ∧ Mod m1 (dft a1) (dft a2) (dft a3) k1 ∧ Mod m2 (dft a1) (dft a2) (dft a3) k2 ∧ PlAt H' pl q1 q2 y z n1 n2 ∧ But p H H' ∧ SrcAt H' p t ∧ t ≤ 20 + 7 * i ∧ k1.length ≤ i ∧ k2.length ≤ i ∧ m1.length ≤ 3 + i ∧ m2.length ≤ 3 + i) ?_ ?_ ?_⟩⟩
          · omega
          · omega
          · obtain ⟨xs, hxs⟩ := SrcAt.lst S0
            exact ⟨[], [], _, _, t6, _, _, _, _, _, _, _, _, rfl, T0.src b9 hxs, w3_mod, w3_mod, P0.but b9 hxs (fun _ => nofun) (Ne.symm hppl), But.trans B0 b9, s9, by omega, Nat.le_refl _, Nat.le_refl _, Nat.le_refl _, Nat.le_refl _⟩
          · rintro i σ9 H10 hi ⟨k1, k2, m1, m2, t, x2, x5, x8, x10, x11, x12, x13, x14, rfl, T1, M1, M2, P1, B1, S1, ht1, lk1, lk2, lm1, lm2⟩
            have hi40 : i < 41 := by omega
            have hxs : ∀ {H' : Hp} {t : Int}, SrcAt H' p t → ∃ xs, H' p = some (.lst xs) := fun s => SrcAt.lst s
            refine Evl.q_cut (M := fun σ' H' => ∃ (c o dc dp nc no : Addr) (kc ko : List (List Key × V)) (mc mo : List (MK × V)) (t : Int) (x2 x5 x8 x12 x13 x14 : Option V), σ' = [some (.ref p), some (.ref l), x2, some (.ref y), x4, x5, some (.ref z), some (.ref n1), x8, some (.ref pl), some (.ref c), some (.ref nc), x12, x13, x14] ∧ Two P w A0 H' c o dc dp nc no (dft a1) (dft a2) (dft a3) kc ko mc mo ∧ Mod mc (dft a1) (dft a2) (dft a3) kc ∧ Mod mo (dft a1) (dft a2) (dft a3) ko ∧ PlAt H' pl q1 q2 y z n1 n2 ∧ ((c = y ∧ o = z ∧ dc = d ∧ dp = d2 ∧ nc = n1 ∧ no = n2) ∨ (c = z ∧ o = y ∧ dc = d2 ∧ dp = d ∧ nc = n2 ∧ no = n1)) ∧ But p H H' ∧ SrcAt H' p t ∧ t ≤ 21 + 7 * i ∧ kc.length ≤ i ∧ ko.length ≤ i ∧ mc.length ≤ 3 + i ∧ mo.length ≤ 3 + i) ?_ ?_
            · refine ⟨_, rfl, _, rfl, p, t, 2, rfl, S1, by omega, by decide, by decide, fun j t2 H11 j0 j1 h2 h3 b11 s11 => ?_⟩
              obtain ⟨xs, hx⟩ := hxs S1
              have T2 := T1.src b11 hx
              have P2 := P1.but b11 hx (fun _ => nofun) (Ne.symm hppl)
              have hj : j = 0 ∨ j = 1 := by omega
              rcases hj with rfl | rfl
              · refine ⟨pl, _, 0, .ref q1, rfl, rfl, SqL.of P2.pl, at_of (j := 0) rfl (by rfl), q1, _, rfl, SqT.of P2.q1, rfl, _, _, rfl, _, _, rfl, rfl, ?_⟩
                exact ⟨y, z, d, d2, n1, n2, k1, k2, m1, m2, t2, _, _, _, _, _, _, rfl, T2, M1, M2, P2, .inl ⟨rfl, rfl, rfl, rfl, rfl, rfl⟩, But.trans B1 b11, s11, by omega, lk1, lk2, lm1, lm2⟩
              · refine ⟨pl, _, 1, .ref q2, rfl, rfl, SqL.of P2.pl, at_of (j := 1) rfl (by rfl), q2, _, rfl, SqT.of P2.q2, rfl, _, _, rfl, _, _, rfl, rfl, ?_⟩
                exact ⟨z, y, d2, d, n2, n1, k2, k1, m2, m1, t2, _, _, _, _, _, _, rfl, T2.swap, M2, M1, P2, .inr ⟨rfl, rfl, rfl, rfl, rfl, rfl⟩, But.trans B1 b11, s11, by omega, lk2, lk1, lm2, lm1⟩
            rintro σ11 H11 ⟨c, o, dc, dp, nc, no, kc, ko, mc, mo, t2, x2, x5, x8, x12, x13, x14, rfl, T2, Mc, Mo, P2, fl, B2, S2, ht2, lkc, lko, lmc, lmo⟩
            -- row, word
            refine ⟨_, rfl, _, _, rfl, rfl, ⟨by decide, by decide, by decide⟩, (by show 4 ≤ sizeLine; decide), fun rl hrl => ?_⟩
            have nrl := Same.new (o := .lst [.int 0, .int 7, .int 23, .int (10 ^ (20 : Int).toNat)]) hrl
            refine ⟨p, rl, t2, _, rfl, S2.new hrl, by omega, upd_same, by decide, by decide, S2.ne hrl, fun rv t3 H12 hrv h4 h5 b12 s12 => ?_⟩
            obtain ⟨r, rfl, hr9⟩ : ∃ r : Int, rv = .int r ∧ r ∈ rows := by
              have e20 : (10 : Int) ^ (20 : Int).toNat = 10 ^ 20 := by decide
              have hrv : rv ∈ ([.int 0, .int 7, .int 23, .int (10 ^ (20 : Int).toNat)] : List V) := hrv
              rw [e20] at hrv
              simp only [List.mem_cons, List.not_mem_nil, or_false] at hrv
              rcases hrv with rfl | rfl | rfl | rfl <;> exact ⟨_, rfl, by decide⟩
            obtain ⟨xs2, hx2⟩ := hxs (S2.new (o := .lst [.int 0, .int 7, .int 23, .int (10 ^ (20 : Int).toNat)]) hrl)
            have T3 := (T2.same nrl).src b12 hx2
            have P3 := (P2.same nrl).but b12 hx2 (fun _ => nofun) (Ne.symm hppl)
            refine ⟨_, rfl, p, t3, rfl, s12, by omega, fun u t4 H13 hu h6 h7 b13 s13 => ⟨_, _, rfl, ?_⟩⟩
            obtain ⟨xs3, hx3⟩ := hxs s12
            have T4 := T3.src b13 hx3
            have P4 := P3.but b13 hx3 (fun _ => nofun) (Ne.symm hppl)
            have B4 := But.trans B2 (But.trans (But.ofSame nrl) (But.trans b12 b13))
            -- the way
            refine q_ofKs (ip := 0) (t := t4) (wys := ways r) rfl s13 (by omega) (evks_cons (wy := []) Evl.ea_nil (by decide) (evks_cons (wy := [.inr "return", .inl r]) (Evl.ea_cons Evl.ev_c (Evl.ea_cons (Evl.ev_var (v := .int r) rfl) Evl.ea_nil)) (by show 2 ≤ 1000; decide) (evks_cons (wy := [.inr "fail", .inl r]) (Evl.ea_cons Evl.ev_c (Evl.ea_cons (Evl.ev_var (v := .int r) rfl) Evl.ea_nil)) (by show 2 ≤ 1000; decide) (evks_cons (wy := [.inr "cut", .inl r]) (Evl.ea_cons Evl.ev_c (Evl.ea_cons (Evl.ev_var (v := .int r) rfl) Evl.ea_nil)) (by show 2 ≤ 1000; decide) evks_nil)))) (by show 0 < 4; decide) (by show 4 < 1000; decide) fun wy wa t5 H15 hwy hwa5 h8' h9' b15 s15 => ?_
            obtain ⟨xs5, hx5⟩ := hxs s13
            have T5 := T4.src b15 hx5
            have P5 := P4.but b15 hx5 (fun _ => nofun) (Ne.symm hppl)
            have B5 := But.trans B4 b15
            have hwl5 : (mData (.inr wy)).canLay0 = true := ways_ok hr9 hwy
            -- what is wrong
            refine Evl.q_asgL (el_refusal1 (o := some u) (Evl.ev_var rfl)) fun wr H16 hwr e16 h16 => ?_
            have T6 := T5.same e16
            have P6 := P5.same e16
            have hwa6 := e16 _ _ hwa5
            have B6 := But.trans B5 (But.ofSame e16)
            have s16 := s15.same e16
            refine Evl.q_cut (M := fun σ' H' => ∃ (t : Int), σ' = [some (.ref p), some (.ref l), x2, some (.ref y), x4, some (.str u), some (.ref z), some (.ref n1), x8, some (.ref pl), some (.ref c), some (.ref nc), some (.int r), some (.ref wa), some (.ref wr)] ∧ Two P w A0 H' c o dc dp nc no (dft a1) (dft a2) (dft a3) (if good u then putK kc wy (.str u) else kc) ko mc mo ∧ PlAt H' pl q1 q2 y z n1 n2 ∧ But p H H' ∧ SrcAt H' p t ∧ t ≤ 27 + 7 * i ∧ H' wa = some (.tup (wy.map kV)) ∧ H' wr = some (.lst ((firstBad [u]).toList.map V.str))) ?_ ?_
            · obtain ⟨dxc, hxc, hdc⟩ := id T6.D1
              refine ⟨_, rfl, _, rfl, _, rfl, _, rfl, p, t5, 2, rfl, s16, by omega, by decide, by decide, fun j t6 H17 j0 j1 g2 g3 b17 s17 => ⟨rfl, ?_⟩⟩
              obtain ⟨xs7, hx7⟩ := hxs s16
              have T7 := T6.src b17 hx7
              have P7 := P6.but b17 hx7 (fun _ => nofun) (Ne.symm hppl)
              have hwa7 := b17 _ _ (ne_of hwa6 hx7 nofun) hwa6
              have hpwr : wr ≠ p := by
                intro q
                have hh : H15 p = none := by rw [← q]; exact hwr
                obtain ⟨xs8, hx8⟩ := hxs s15
                rw [hx8] at hh; cases hh
              have h17 := b17 _ _ hpwr h16
              have B7 := But.trans B6 b17
              refine ⟨c, wa, u, _, _, _, dc, kc, wy, _, rfl, T7.D1, hwa7, by omega, fun hg rr H18 b18 h18 hrr => ?_, fun hg rr H18 e18 hrr => ?_⟩
              · have hfb : firstBad [u] = none := by rw [fb_cons, if_pos hg]; rfl
                have hdc7 : H17 dc = some (.dT kc) := b17 _ _ (ne_of hdc hx7 nofun) hdc
                have hwr18 := b18 _ _ (ne_of h17 hdc7 nofun) h17
                rw [show (dft (some u)) = u from rfl] at hwr18
                refine ⟨_, rfl, .ref rr, .ref wr, .list [], rfl, dp_strs (us := []) hrr, dp_strs (us := []) (by rw [hfb] at hwr18; exact hwr18), by decide, by decide, fun H19 e19 => ⟨true, rfl, ?_⟩⟩
                dsimp only
                rw [if_neg (show ¬ (!true) = true by decide)]
                obtain ⟨xs9, hx9⟩ := hxs s17
                refine ⟨t6, rfl, ?_, (P7.but b18 hdc7 (fun _ => nofun) (ne_of P7.pl hdc7 nofun)).same e19, (But.trans ?_ (But.ofSame e19)), ?_, by omega, e19 _ _ (b18 _ _ (ne_of hwa7 hdc7 nofun) hwa7), e19 _ _ hwr18⟩
                · rw [if_pos hg]
                  exact (T7.door b18 h18).same e19
                · intro b o' hb ho'
                  have hc0 : H dc = none := by rcases fl with ⟨_, _, rfl, _⟩ | ⟨_, _, rfl, _⟩ <;> assumption
                  exact b18 b o' (ne_of_none ho' hc0) (B7 b o' hb ho')
                · obtain ⟨⟨dd, mm, r1, r2⟩, r3⟩ := s17
                  exact ⟨⟨dd, mm, e19 _ _ (b18 _ _ (ne_of hx9 hdc7 nofun) r1), r2⟩, r3⟩
              · have hfb : firstBad [u] = some u := by rw [fb_cons, if_neg hg]
                have hwr18 := e18 _ _ h17
                rw [show (dft (some u)) = u from rfl] at hwr18
                refine ⟨_, rfl, .ref rr, .ref wr, .list [.str u], rfl, dp_strs (us := [u]) hrr, dp_strs (us := [u]) (by rw [hfb] at hwr18; exact hwr18), Nat.le_refl 1, rfl, fun H19 e19 => ⟨true, rfl, ?_⟩⟩
                dsimp only
                rw [if_neg (show ¬ (!true) = true by decide)]
                have s9 := Same.trans e18 e19
                refine ⟨t6, rfl, ?_, P7.same s9, But.trans B7 (But.ofSame s9), s17.same s9, by omega, s9 _ _ hwa7, e19 _ _ hwr18⟩
                rw [if_neg hg]
                exact T7.same s9
            rintro σ17 H17 ⟨t6, rfl, T7, P7, B7, S7, ht7, hwa7, hwr7⟩
            have lkN : (if good u then putK kc wy (.str u) else kc).length ≤ i + 1 := by
              split
              · have := length_putK kc wy (.str u); omega
              · omega
            refine Evl.q_cut (M := fun σ' H' => ∃ (mn : List (MK × V)), σ' = [some (.ref p), some (.ref l), x2, some (.ref y), x4, some (.str u), some (.ref z), some (.ref n1), x8, some (.ref pl), some (.ref c), some (.ref nc), some (.int r), some (.ref wa), some (.ref wr)] ∧ Two P w A0 H' c o dc dp nc no (dft a1) (dft a2) (dft a3) (if good u then putK kc wy (.str u) else kc) ko mn mo ∧ Mod mn (dft a1) (dft a2) (dft a3) (if good u then putK kc wy (.str u) else kc) ∧ mn.length ≤ 3 + (i + 1) ∧ PlAt H' pl q1 q2 y z n1 n2 ∧ But p H H' ∧ SrcAt H' p t6) ?_ ?_
            · refine Evl.s_when (b := decide ((firstBad [u]).toList = [])) (Evl.et_test (ev_eqDE (Evl.ev_var rfl) (evd_lst evds_nil (by simp)) (dp_strs hwr7) (sh_list (fun v hv => ?_) (toList_le _)) rfl eqv_nil)) (fun hb H18 e18 => ?_) (fun hb H18 e18 => ?_)
              · rw [fb_cons] at hv
                by_cases hg : good u
                · rw [if_pos hg] at hv; cases hv
                · rw [if_neg hg] at hv
                  rw [show v = u by simpa using hv]; exact hu
              · have hg : good u := (fb_one (o := some u)).mp (of_decide_eq_true hb)
                have T8 := T7.same e18
                refine ⟨_, rfl, _, rfl, _, rfl, nc, mc, .inr wy, wa, rfl, T8.N1, .inr ⟨wy, rfl, rfl, e18 _ _ hwa7⟩, hwl5, Evl.sz_lt (by omega), fun ob hm nt => ?_⟩
                obtain ⟨φ, hφ⟩ := mixh_at T8.N1
                have P8 := P7.same e18
                refine ⟨_, rfl, T8.mod hm, ?_, ?_, P8.but But.upd hφ (fun _ => nofun) (ne_of P8.pl hφ nofun), ?_, ?_⟩
                · rw [if_pos hg]; exact Mc.put wy
                · have := length_putK mc (.inr wy) (.str u); omega
                · intro b o' hb ho'
                  have hc0 : H nc = none := by rcases fl with ⟨_, _, _, _, rfl, _⟩ | ⟨_, _, _, _, rfl, _⟩ <;> assumption
                  rw [upd_ne (ne_of_none ho' hc0)]
                  exact e18 _ _ (B7 b o' hb ho')
                · obtain ⟨⟨dd, mm, r1, r2⟩, r3⟩ := S7.same e18
                  exact ⟨⟨dd, mm, by rw [upd_ne (ne_of r1 hφ nofun)]; exact r1, r2⟩, r3⟩
              · have hg : ¬ good u := fun q => by
                  have := (fb_one (o := some u)).mpr q
                  exact absurd this (of_decide_eq_false hb)
                refine ⟨mc, rfl, T7.same e18, ?_, by omega, P7.same e18, But.trans B7 (But.ofSame e18), S7.same e18⟩
                rw [if_neg hg]; exact Mc
            rintro σ18 H18 ⟨mn, rfl, T8, Mn, lmn, P8, B8, S8⟩
            -- both doors show what they must
            have shows : ∀ (xd nd dd : Addr) (kk : List (List Key × V)) (mm : List (MK × V)) (H' : Hp), DoorAt A0 H' xd (dft a1) (dft a2) (dft a3) dd kk → MixH P w H' nd mm → Mod mm (dft a1) (dft a2) (dft a3) kk → Evl.SpV (spShows P w A0) [.ref xd, .ref nd] H' (.bl true) := fun xd nd dd kk mm H' D N M => fun H1 e1 Q' q' E' => ⟨xd, nd, _, _, _, dd, kk, mm, rfl, D.same e1, N.keep e1, M, fun H2 e2 => q' H2 e2⟩
            have both : Evl.SpV (spShows P w A0) [.ref y, .ref n1] H18 (.bl true) ∧ ∀ H', Same H18 H' → Evl.SpV (spShows P w A0) [.ref z, .ref n2] H' (.bl true) := by
              rcases fl with ⟨rfl, rfl, rfl, rfl, rfl, rfl⟩ | ⟨rfl, rfl, rfl, rfl, rfl, rfl⟩
              · exact ⟨shows _ _ _ _ _ _ T8.D1 T8.N1 Mn, fun H' e => shows _ _ _ _ _ _ (T8.same e).D2 (T8.same e).N2 Mo⟩
              · exact ⟨shows _ _ _ _ _ _ T8.D2 T8.N2 Mo, fun H' e => shows _ _ _ _ _ _ (T8.same e).D1 (T8.same e).N1 Mn⟩
            refine Evl.s_when (b := false) (Evl.et_or (a := false) (b := false) (Evl.et_is (Evl.et_not (a := true) (Evl.et_B (Evl.ev_call (vs := [.ref y, .ref n1]) (Evl.ea_cons (Evl.ev_var rfl) (Evl.ea_cons (Evl.ev_var rfl) Evl.ea_nil)) both.1))) rfl) fun _ => Evl.et_is (Evl.et_not (a := true) (Evl.et_B (Evl.ev_call (vs := [.ref z, .ref n2]) (Evl.ea_cons (Evl.ev_var rfl) (Evl.ea_cons (Evl.ev_op (Evl.ev_op (Evl.ev_var rfl) Evl.ev_c (Evl.rv_ixL (v := .ref q2) (SqL.of P8.pl) (by rfl))) Evl.ev_c (Evl.rv_ixT (v := .ref n2) (SqT.of P8.q2) (by rfl))) Evl.ea_nil)) (both.2 _ (Same.refl _))))) rfl) (fun h => nomatch h) fun _ H19 e19 => ?_
            have T9 := T8.same e19
            rcases fl with ⟨rfl, rfl, rfl, rfl, rfl, rfl⟩ | ⟨rfl, rfl, rfl, rfl, rfl, rfl⟩
            · exact ⟨_, _, _, _, t6, _, _, _, _, _, _, _, _, rfl, T9, Mn, Mo, P8.same e19, But.trans B8 (But.ofSame e19), S8.same e19, by omega, lkN, by omega, lmn, by omega⟩
            · exact ⟨_, _, _, _, t6, _, _, _, _, _, _, _, _, rfl, T9.swap, Mo, Mn, P8.same e19, But.trans B8 (But.ofSame e19), S8.same e19, by omega, by omega, lkN, by omega, lmn⟩
          · rintro σ9 H10 ⟨k1, k2, m1, m2, t, x2, x5, x8, x10, x11, x12, x13, x14, rfl, T1, M1, M2, P1, B1, S1, ht1, lk1, lk2, lm1, lm2⟩
            exact k H10 B1

end
end K36
end
section
set_option Elab.async false
set_option autoImplicit false
set_option linter.all false
set_option maxRecDepth 100000
set_option maxHeartbeats 4000000
namespace K36
open PySem PySem.Spec PyProof.Rows L2 PySem.OxE LawC PySem.MixD
def spLaw (K : PySem.W.Frag) : Sp := fun vs H Q _ => ∃ (a : Addr) (ns : List Int), vs = [.ref a] ∧ SqL K H a (ns.map V.int) ∧ ns.length ≤ 63 ∧ ∀ H', Q (.bl true) H'
section
variable {P : Program} {w : World} {K : PySem.W.Frag} {mg : Str → Option Value} {base : Heap} {A0 : Ad}
theorem ok_law (T : Txt P K mg A0) : FnOk P w K mg base CX0 7 A0.f_law A0.fd_law ["_law_script"] (spLaw K) := by
  have G_source : FnOk P w K mg base CX0 1 A0.f_source A0.fd_source ["_law_script", "_law_place"] (spSource K) := ok_source T
  have G_same : FnOk P w K mg base CX0 2 A0.f_same A0.fd_same ["_law_actual", "_law_due"] (spSame K 1) := ok_same T 1
  have G_holds : FnOk P w K mg base CX0 6 A0.f_holds A0.fd_holds ["_law_source_here"] spHolds := ok_holds T
  refine T.F_law.ok sc_law (fun vs H Q E h => ?_) (fun cdv A outer s H vs Q E hr h => ?_)
  · obtain ⟨a, ns, rfl, _⟩ := h
    rfl
  · obtain ⟨a, ns, rfl, hS, hlen, k⟩ := h
    obtain ⟨u1, c1⟩ := T.v_KEEP
    obtain ⟨u2, c2⟩ := T.v_CLOSE
    obtain ⟨u3, c3⟩ := T.v_CHECK
    obtain ⟨u4, c4⟩ := T.v_DRAIN
    obtain ⟨u5, c5⟩ := T.v_PING
    refine ⟨_, (pss_cons (ps_for PassesOwn.never rfl (pi_range1 rfl T.z_range (pa_cons (pe_callB (call_max2 rfl) (by rfl) T.z_max (by decide +kernel) (pa_cons pe_int (pa_cons (pe_callB (call_min2 rfl) (by rfl) T.z_min (by decide +kernel) (pa_cons pe_int (pa_cons (pe_callB call_len (by rfl) T.z_len PySem.boot_len (pa_cons (pv 0) pa_nil)) pa_nil))) pa_nil))) pa_nil)) (pg_name (i := 1) sc_law.nd rfl (Or.inl rfl))
 (pss_one (ps_if (pt_not (pt_val (pe_call G_holds (hr.mono (by decide)) rfl T.m_holds T.F_holds.kp T.b_holds .nil pass0 (pa_cons (pe_call G_source (hr.mono (by decide)) rfl T.m_source T.F_source.kp T.b_source .nil pass0 (pa_cons (pv 0) (pa_cons (pv 1) pa_nil))) pa_nil))))
 (pss_one (ps_ret pe_bl))
 pss_nil)))
 (pss_cons (ps_set (i := 2) sc_law.nd rfl (Or.inl rfl) (pe_lst (pa_cons (ClX.pe_cval (pe_glob (v := .ref _) rfl T.m_Leave rfl)) (pa_cons (ClX.pe_cval (pe_glob (v := .ref _) rfl T.m_Leave rfl)) (pa_cons (ClX.pe_cval (pe_glob (v := .ref _) rfl T.m_Leave rfl)) (pa_cons (ClX.pe_cval (pe_glob (v := .ref _) rfl T.m_Leave rfl)) (pa_cons (ClX.pe_cval (pe_glob (v := .ref _) rfl T.m_Leave rfl)) pa_nil)))))))
 (pss_one (ps_ret (pe_call G_same (hr.mono (by decide)) rfl T.m_same T.F_same.kp T.b_same .nil pass0 (pa_cons (pv 2) (pa_cons (pe_lst (pa_cons pe_str (pa_cons pe_str (pa_cons pe_str (pa_cons pe_str (pa_cons pe_str pa_nil)))))) pa_nil))))))), ?_⟩
    refine ⟨_, rfl, _, _, rfl, .inl ⟨_, hS, rfl⟩, _, _, rfl, _, _, rfl, _, rfl, ?_, ?_, for_range (lo := 0) (fun i σ H' => ∃ x1 x2 : Option V, σ = [some (.ref a), x1, x2] ∧ Same H H')
      ⟨_, _, rfl, Same.refl H⟩ ?_ ?_⟩
    · split <;> split <;> omega
    · split <;> split <;> omega
    · rintro i σ H' hi ⟨x1, x2, rfl, s0⟩
      have hi5 : i < 5 := by revert hi; split <;> split <;> omega
      refine ⟨_, rfl, _, rfl, a, ns, _, rfl, Evl.ex_l s0 hS, by omega, by omega, fun p H1 hp s1 S1 => ⟨p, rfl, S1, fun H2 b2 => ?_⟩⟩
      refine ⟨true, rfl, ?_⟩
      dsimp only
      rw [if_neg (show ¬ (!true) = true by decide)]
      exact ⟨_, _, rfl, fun b o h => b2 b o (ne_of_none (s0 b o h) hp) (s1 b o (s0 b o h))⟩
    · rintro σ H' ⟨x1, x2, rfl, s0⟩
      refine ⟨A0.c_Leave, A0.mcL, _, _, rfl, T.cr, c1, A0.c_Leave, A0.mcL, _, _, rfl, T.cr, c2, A0.c_Leave, A0.mcL, _, _, rfl, T.cr, c3, A0.c_Leave, A0.mcL, _, _, rfl, T.cr, c4, A0.c_Leave, A0.mcL, _, _, rfl, T.cr, c5, (by show 5 ≤ sizeLine; decide), fun l hl => ?_⟩
      refine ⟨_, rfl, (by show 5 ≤ sizeLine; decide), fun m hm => ?_⟩
      have hl2 := Same.new (o := .lst (W5.map V.str)) hm _ _ (upd_same (H := H') (a := l) (o := .lst (W5.map V.str)))
      exact ⟨.ref l, .ref m, .list (W5.map PyData.str), rfl, dp_strs hl2, dp_strs upd_same, dep_strs _, by decide +kernel, fun H3 _ => k H3⟩
end
end K36
end
section
set_option Elab.async false
set_option autoImplicit false
set_option linter.all false
set_option maxRecDepth 100000
namespace K36
open PySem PySem.Spec PyProof.Rows L2 PySem.OxE
set_option maxHeartbeats 4000000 in
theorem all_mk {l : PySem.W.OpenLaw} {w : World} {K : PySem.W.Frag} {h : Heap} {mg : Str → Option Value} {fa : Addr} (X : K.In h) (G : h.Ns mainGlobals mg) (hfa : mg "law" = some (.ref fa)) {c_B i_B : Addr} {cO cD cL : Addr} {f_Di D_Di : Addr} {od_Di an_Di : Option Addr} {sl_Di : Array (Option Value)} {oc_Di dc_Di pm_Di cd_Di ct_Di u_end u_fail u_cut : Value} {f_Door_getitem : Addr} {od_Door_getitem an_Door_getitem : Option Addr} {sl_Door_getitem : Array (Option Value)} {oc_Door_getitem kV_Door_getitem dc_Door_getitem pm_Door_getitem cd_Door_getitem ct_Door_getitem : Value} {f_Door_setitem : Addr} {od_Door_setitem an_Door_setitem : Option Addr} {sl_Door_setitem : Array (Option Value)} {oc_Door_setitem kV_Door_setitem dc_Door_setitem pm_Door_setitem cd_Door_setitem ct_Door_setitem : Value} {f_Door_change : Addr} {od_Door_change an_Door_change : Option Addr} {sl_Door_change : Array (Option Value)} {oc_Door_change kV_Door_change dc_Door_change pm_Door_change cd_Door_change ct_Door_change : Value} {f_Door_copy : Addr} {od_Door_copy an_Door_copy : Option Addr} {sl_Door_copy : Array (Option Value)} {oc_Door_copy kV_Door_copy dc_Door_copy pm_Door_copy cd_Door_copy ct_Door_copy : Value} {f_reason_of : Addr} {od_reason_of an_reason_of : Option Addr} {sl_reason_of : Array (Option Value)} {oc_reason_of kV_reason_of dc_reason_of pm_reason_of cd_reason_of ct_reason_of : Value} {f_check_word : Addr} {od_check_word an_check_word : Option Addr} {sl_check_word : Array (Option Value)} {oc_check_word kV_check_word dc_check_word pm_check_word cd_check_word ct_check_word : Value} {f_source : Addr} {od_source an_source : Option Addr} {sl_source : Array (Option Value)} {oc_source kV_source dc_source pm_source cd_source ct_source : Value} {f_draw : Addr} {od_draw an_draw : Option Addr} {sl_draw : Array (Option Value)} {oc_draw kV_draw dc_draw pm_draw cd_draw ct_draw : Value} {f_of : Addr} {od_of an_of : Option Addr} {sl_of : Array (Option Value)} {oc_of kV_of dc_of pm_of cd_of ct_of : Value} {f_same : Addr} {od_same an_same : Option Addr} {sl_same : Array (Option Value)} {oc_same kV_same dc_same pm_same cd_same ct_same : Value} {f_made : Addr} {od_made an_made : Option Addr} {sl_made : Array (Option Value)} {oc_made kV_made dc_made pm_made cd_made ct_made : Value} {f_word : Addr} {od_word an_word : Option Addr} {sl_word : Array (Option Value)} {oc_word kV_word dc_word pm_word cd_word ct_word : Value} {f_refusal : Addr} {od_refusal an_refusal : Option Addr} {sl_refusal : Array (Option Value)} {oc_refusal kV_refusal dc_refusal pm_refusal cd_refusal ct_refusal : Value} {f_made_or : Addr} {od_made_or an_made_or : Option Addr} {sl_made_or : Array (Option Value)} {oc_made_or kV_made_or dc_made_or pm_made_or cd_made_or ct_made_or : Value} {f_changed : Addr} {od_changed an_changed : Option Addr} {sl_changed : Array (Option Value)} {oc_changed kV_changed dc_changed pm_changed cd_changed ct_changed : Value} {f_shows : Addr} {od_shows an_shows : Option Addr} {sl_shows : Array (Option Value)} {oc_shows kV_shows dc_shows pm_shows cd_shows ct_shows : Value} {f_holds : Addr} {od_holds an_holds : Option Addr} {sl_holds : Array (Option Value)} {oc_holds kV_holds dc_holds pm_holds cd_holds ct_holds : Value} {f_law : Addr} {od_law an_law : Option Addr} {sl_law : Array (Option Value)} {oc_law kV_law dc_law pm_law cd_law ct_law : Value} {u_KEEP u_CLOSE u_CHECK u_DRAIN u_PING : Value} {aW : Addr} {odW : Option Addr} {itW : Array Value} {nW : Nat} {slW : Array (Option Value)}
    (x_B : ExTxt l.prog K mg "BadDoor" ["word"] c_B i_B)
    (aO : PySem.W.nsIn K mainGlobals "OwedError" = some (some (.ref cO)))
    (eB : PySem.W.exmOne K (.ref c_B) (.ref c_B) = some true)
    (aD : PySem.W.nsIn K mainGlobals "Door" = some (some (.ref cD)))
    (pgD : PySem.W.plainGet K cD Str.empty = true)
    (hdD : PySem.W.hasDictIn K cD = true)
    (poD : PySem.W.plainOver K cD = true)
    (saD : PySem.W.findIn K (.ref cD) "__setattr__" = some (some (.builtin "object.__setattr__")))
    (nsD : PySem.W.noSeq K cD = true)
    (mkD : PySem.W.makesIn K cD = true)
    (kpD : PySem.W.keepIn K (.ref cD) = true)
    (n_end : PySem.W.findIn K (.ref cD) "end" = some none)
    (n_fail : PySem.W.findIn K (.ref cD) "fail" = some none)
    (n_cut : PySem.W.findIn K (.ref cD) "cut" = some none)
    (n_others : PySem.W.findIn K (.ref cD) "others" = some none)
    (a_Di : PySem.W.findIn K (.ref cD) "__init__" = some (some (.ref f_Di)))
    (i_Di : PySem.W.isFn K (.ref f_Di) = true)
    (l_Di : K.lookup f_Di = some ⟨oc_Di, od_Di, .func (PySem.W.fnOf "__init__" "Door.__init__" (defArgs s_Door_init) (defBody s_Door_init) (defScope s_Door_init) .none (.ref D_Di) dc_Di pm_Di an_Di cd_Di ct_Di), sl_Di⟩)
    (c_Di : PySem.W.codeIn K cd_Di "Door.__init__" = true)
    (k_Di : PySem.W.keepIn K (.ref f_Di) = true)
    (d_end : PySem.W.nsIn K D_Di "end" = some (some u_end))
    (r_end : RelV (.str "keep") u_end)
    (d_fail : PySem.W.nsIn K D_Di "fail" = some (some u_fail))
    (r_fail : RelV (.str "keep") u_fail)
    (d_cut : PySem.W.nsIn K D_Di "cut" = some (some u_cut))
    (r_cut : RelV (.str "keep") u_cut)
    (a_Door_getitem : PySem.W.findIn K (.ref cD) "__getitem__" = some (some (.ref f_Door_getitem)))
    (i_Door_getitem : PySem.W.isFn K (.ref f_Door_getitem) = true)
    (l_Door_getitem : K.lookup f_Door_getitem = some ⟨oc_Door_getitem, od_Door_getitem, .func (PySem.W.fnOf "__getitem__" "Door.__getitem__" (defArgs s_Door_getitem) (defBody s_Door_getitem) (defScope s_Door_getitem) .none kV_Door_getitem dc_Door_getitem pm_Door_getitem an_Door_getitem cd_Door_getitem ct_Door_getitem), sl_Door_getitem⟩)
    (c_Door_getitem : PySem.W.codeIn K cd_Door_getitem "Door.__getitem__" = true)
    (k_Door_getitem : PySem.W.keepIn K (.ref f_Door_getitem) = true)
    (n_Door_getitem : PySem.W.fnIn K f_Door_getitem = true)
    (a_Door_setitem : PySem.W.findIn K (.ref cD) "__setitem__" = some (some (.ref f_Door_setitem)))
    (i_Door_setitem : PySem.W.isFn K (.ref f_Door_setitem) = true)
    (l_Door_setitem : K.lookup f_Door_setitem = some ⟨oc_Door_setitem, od_Door_setitem, .func (PySem.W.fnOf "__setitem__" "Door.__setitem__" (defArgs s_Door_setitem) (defBody s_Door_setitem) (defScope s_Door_setitem) .none kV_Door_setitem dc_Door_setitem pm_Door_setitem an_Door_setitem cd_Door_setitem ct_Door_setitem), sl_Door_setitem⟩)
    (c_Door_setitem : PySem.W.codeIn K cd_Door_setitem "Door.__setitem__" = true)
    (k_Door_setitem : PySem.W.keepIn K (.ref f_Door_setitem) = true)
    (n_Door_setitem : PySem.W.fnIn K f_Door_setitem = true)
    (a_Door_change : PySem.W.findIn K (.ref cD) "change" = some (some (.ref f_Door_change)))
    (i_Door_change : PySem.W.isFn K (.ref f_Door_change) = true)
    (l_Door_change : K.lookup f_Door_change = some ⟨oc_Door_change, od_Door_change, .func (PySem.W.fnOf "change" "Door.change" (defArgs s_Door_change) (defBody s_Door_change) (defScope s_Door_change) .none kV_Door_change dc_Door_change pm_Door_change an_Door_change cd_Door_change ct_Door_change), sl_Door_change⟩)
    (c_Door_change : PySem.W.codeIn K cd_Door_change "Door.change" = true)
    (k_Door_change : PySem.W.keepIn K (.ref f_Door_change) = true)
    (a_Door_copy : PySem.W.findIn K (.ref cD) "copy" = some (some (.ref f_Door_copy)))
    (i_Door_copy : PySem.W.isFn K (.ref f_Door_copy) = true)
    (l_Door_copy : K.lookup f_Door_copy = some ⟨oc_Door_copy, od_Door_copy, .func (PySem.W.fnOf "copy" "Door.copy" (defArgs s_Door_copy) (defBody s_Door_copy) (defScope s_Door_copy) .none kV_Door_copy dc_Door_copy pm_Door_copy an_Door_copy cd_Door_copy ct_Door_copy), sl_Door_copy⟩)
    (c_Door_copy : PySem.W.codeIn K cd_Door_copy "Door.copy" = true)
    (k_Door_copy : PySem.W.keepIn K (.ref f_Door_copy) = true)
    (a_reason_of : PySem.W.nsIn K mainGlobals "reason_of" = some (some (.ref f_reason_of)))
    (l_reason_of : K.lookup f_reason_of = some ⟨oc_reason_of, od_reason_of, .func (PySem.W.fnOf "reason_of" "reason_of" (defArgs s_reason_of) (defBody s_reason_of) (defScope s_reason_of) .none kV_reason_of dc_reason_of pm_reason_of an_reason_of cd_reason_of ct_reason_of), sl_reason_of⟩)
    (c_reason_of : PySem.W.codeIn K cd_reason_of "reason_of" = true)
    (k_reason_of : PySem.W.keepIn K (.ref f_reason_of) = true)
    (a_check_word : PySem.W.nsIn K mainGlobals "check_word" = some (some (.ref f_check_word)))
    (l_check_word : K.lookup f_check_word = some ⟨oc_check_word, od_check_word, .func (PySem.W.fnOf "check_word" "check_word" (defArgs s_check_word) (defBody s_check_word) (defScope s_check_word) .none kV_check_word dc_check_word pm_check_word an_check_word cd_check_word ct_check_word), sl_check_word⟩)
    (c_check_word : PySem.W.codeIn K cd_check_word "check_word" = true)
    (k_check_word : PySem.W.keepIn K (.ref f_check_word) = true)
    (a_source : PySem.W.nsIn K mainGlobals "_law_source" = some (some (.ref f_source)))
    (l_source : K.lookup f_source = some ⟨oc_source, od_source, .func (PySem.W.fnOf "_law_source" "_law_source" (defArgs s_source) (defBody s_source) (defScope s_source) .none kV_source dc_source pm_source an_source cd_source ct_source), sl_source⟩)
    (c_source : PySem.W.codeIn K cd_source "_law_source" = true)
    (k_source : PySem.W.keepIn K (.ref f_source) = true)
    (a_draw : PySem.W.nsIn K mainGlobals "_law_draw" = some (some (.ref f_draw)))
    (l_draw : K.lookup f_draw = some ⟨oc_draw, od_draw, .func (PySem.W.fnOf "_law_draw" "_law_draw" (defArgs s_draw) (defBody s_draw) (defScope s_draw) .none kV_draw dc_draw pm_draw an_draw cd_draw ct_draw), sl_draw⟩)
    (c_draw : PySem.W.codeIn K cd_draw "_law_draw" = true)
    (k_draw : PySem.W.keepIn K (.ref f_draw) = true)
    (a_of : PySem.W.nsIn K mainGlobals "_law_of" = some (some (.ref f_of)))
    (l_of : K.lookup f_of = some ⟨oc_of, od_of, .func (PySem.W.fnOf "_law_of" "_law_of" (defArgs s_of) (defBody s_of) (defScope s_of) .none kV_of dc_of pm_of an_of cd_of ct_of), sl_of⟩)
    (c_of : PySem.W.codeIn K cd_of "_law_of" = true)
    (k_of : PySem.W.keepIn K (.ref f_of) = true)
    (a_same : PySem.W.nsIn K mainGlobals "_law_same" = some (some (.ref f_same)))
    (l_same : K.lookup f_same = some ⟨oc_same, od_same, .func (PySem.W.fnOf "_law_same" "_law_same" (defArgs s_same) (defBody s_same) (defScope s_same) .none kV_same dc_same pm_same an_same cd_same ct_same), sl_same⟩)
    (c_same : PySem.W.codeIn K cd_same "_law_same" = true)
    (k_same : PySem.W.keepIn K (.ref f_same) = true)
    (a_made : PySem.W.nsIn K mainGlobals "_law_made" = some (some (.ref f_made)))
    (l_made : K.lookup f_made = some ⟨oc_made, od_made, .func (PySem.W.fnOf "_law_made" "_law_made" (defArgs s_made) (defBody s_made) (defScope s_made) .none kV_made dc_made pm_made an_made cd_made ct_made), sl_made⟩)
    (c_made : PySem.W.codeIn K cd_made "_law_made" = true)
    (k_made : PySem.W.keepIn K (.ref f_made) = true)
    (a_word : PySem.W.nsIn K mainGlobals "_law_word" = some (some (.ref f_word)))
    (l_word : K.lookup f_word = some ⟨oc_word, od_word, .func (PySem.W.fnOf "_law_word" "_law_word" (defArgs s_word) (defBody s_word) (defScope s_word) .none kV_word dc_word pm_word an_word cd_word ct_word), sl_word⟩)
    (c_word : PySem.W.codeIn K cd_word "_law_word" = true)
    (k_word : PySem.W.keepIn K (.ref f_word) = true)
    (a_refusal : PySem.W.nsIn K mainGlobals "_law_refusal" = some (some (.ref f_refusal)))
    (l_refusal : K.lookup f_refusal = some ⟨oc_refusal, od_refusal, .func (PySem.W.fnOf "_law_refusal" "_law_refusal" (defArgs s_refusal) (defBody s_refusal) (defScope s_refusal) .none kV_refusal dc_refusal pm_refusal an_refusal cd_refusal ct_refusal), sl_refusal⟩)
    (c_refusal : PySem.W.codeIn K cd_refusal "_law_refusal" = true)
    (k_refusal : PySem.W.keepIn K (.ref f_refusal) = true)
    (a_made_or : PySem.W.nsIn K mainGlobals "_law_made_or" = some (some (.ref f_made_or)))
    (l_made_or : K.lookup f_made_or = some ⟨oc_made_or, od_made_or, .func (PySem.W.fnOf "_law_made_or" "_law_made_or" (defArgs s_made_or) (defBody s_made_or) (defScope s_made_or) .none kV_made_or dc_made_or pm_made_or an_made_or cd_made_or ct_made_or), sl_made_or⟩)
    (c_made_or : PySem.W.codeIn K cd_made_or "_law_made_or" = true)
    (k_made_or : PySem.W.keepIn K (.ref f_made_or) = true)
    (a_changed : PySem.W.nsIn K mainGlobals "_law_changed" = some (some (.ref f_changed)))
    (l_changed : K.lookup f_changed = some ⟨oc_changed, od_changed, .func (PySem.W.fnOf "_law_changed" "_law_changed" (defArgs s_changed) (defBody s_changed) (defScope s_changed) .none kV_changed dc_changed pm_changed an_changed cd_changed ct_changed), sl_changed⟩)
    (c_changed : PySem.W.codeIn K cd_changed "_law_changed" = true)
    (k_changed : PySem.W.keepIn K (.ref f_changed) = true)
    (a_shows : PySem.W.nsIn K mainGlobals "_law_shows" = some (some (.ref f_shows)))
    (l_shows : K.lookup f_shows = some ⟨oc_shows, od_shows, .func (PySem.W.fnOf "_law_shows" "_law_shows" (defArgs s_shows) (defBody s_shows) (defScope s_shows) .none kV_shows dc_shows pm_shows an_shows cd_shows ct_shows), sl_shows⟩)
    (c_shows : PySem.W.codeIn K cd_shows "_law_shows" = true)
    (k_shows : PySem.W.keepIn K (.ref f_shows) = true)
    (a_holds : PySem.W.nsIn K mainGlobals "_law_holds" = some (some (.ref f_holds)))
    (l_holds : K.lookup f_holds = some ⟨oc_holds, od_holds, .func (PySem.W.fnOf "_law_holds" "_law_holds" (defArgs s_holds) (defBody s_holds) (defScope s_holds) .none kV_holds dc_holds pm_holds an_holds cd_holds ct_holds), sl_holds⟩)
    (c_holds : PySem.W.codeIn K cd_holds "_law_holds" = true)
    (k_holds : PySem.W.keepIn K (.ref f_holds) = true)
    (a_law : PySem.W.nsIn K mainGlobals "law" = some (some (.ref f_law)))
    (l_law : K.lookup f_law = some ⟨oc_law, od_law, .func (PySem.W.fnOf "law" "law" (defArgs s_law) (defBody s_law) (defScope s_law) .none kV_law dc_law pm_law an_law cd_law ct_law), sl_law⟩)
    (c_law : PySem.W.codeIn K cd_law "law" = true)
    (k_law : PySem.W.keepIn K (.ref f_law) = true)
    (aL : PySem.W.nsIn K mainGlobals "Leave" = some (some (.ref cL)))
    (rdL : PySem.W.readsIn K cL (.type "type") = true)
    (gaL : PySem.W.specialIn K (.ref cL) "__getattribute__" = some (some (.builtin "type.__getattribute__")))
    (v_KEEP : PySem.W.findCls K (.ref cL) (.type "type") "KEEP" = some (.val u_KEEP))
    (w_KEEP : RelV (.str "keep") u_KEEP)
    (v_CLOSE : PySem.W.findCls K (.ref cL) (.type "type") "CLOSE" = some (.val u_CLOSE))
    (w_CLOSE : RelV (.str "close") u_CLOSE)
    (v_CHECK : PySem.W.findCls K (.ref cL) (.type "type") "CHECK" = some (.val u_CHECK))
    (w_CHECK : RelV (.str "check") u_CHECK)
    (v_DRAIN : PySem.W.findCls K (.ref cL) (.type "type") "DRAIN" = some (.val u_DRAIN))
    (w_DRAIN : RelV (.str "drain") u_DRAIN)
    (v_PING : PySem.W.findCls K (.ref cL) (.type "type") "PING" = some (.val u_PING))
    (w_PING : RelV (.str "ping") u_PING)
    (mW : PySem.W.nsIn K mainGlobals "WORDS" = some (some (.ref aW)))
    (lW : K.lookup aW = some ⟨.type "tuple", odW, .seq itW nW, slW⟩)
    (zW : itW.size ≤ sizeLine)
    (vW : Vals (W5.map V.str) itW.toList)
    (z_len : PySem.W.nsIn K mainGlobals "len" = some none)
    (z_abs : PySem.W.nsIn K mainGlobals "abs" = some none)
    (z_int : PySem.W.nsIn K mainGlobals "int" = some none)
    (z_range : PySem.W.nsIn K mainGlobals "range" = some none)
    (z_min : PySem.W.nsIn K mainGlobals "min" = some none)
    (z_max : PySem.W.nsIn K mainGlobals "max" = some none)
    (z_isinstance : PySem.W.nsIn K mainGlobals "isinstance" = some none)
    (z_zip : PySem.W.nsIn K mainGlobals "zip" = some none)
    (z_all : PySem.W.nsIn K mainGlobals "all" = some none)
    (z_tuple : PySem.W.nsIn K mainGlobals "tuple" = some none)
    (z_list : PySem.W.nsIn K mainGlobals "list" = some none)
    (z_bool : PySem.W.nsIn K mainGlobals "bool" = some none)
    (z_str : PySem.W.nsIn K mainGlobals "str" = some none)
    (z_dict : PySem.W.nsIn K mainGlobals "dict" = some none) :
    ∃ fd : FuncData, (∀ (s : Shared) (v : Value), BindsTo s fd ⟨[v], []⟩ [("_law_script", v)]) ∧ ∀ base : Heap, K.In base → base.Ns mainGlobals mg → FnOk l.prog w K mg base CX0 7 fa fd ["_law_script"] (spLaw K) := by
  have e := hfa.symm.trans (PySem.W.mg_of X G a_law)
  cases e

  have F_Door_getitem := fun_mk (st := s_Door_getitem) l_Door_getitem c_Door_getitem k_Door_getitem
  have b_Door_getitem := F_Door_getitem.binds (ps := ["self", "way"]) fun _ _ _ _ _ _ us hl => match us, hl with | [_, _], _ => rfl
  have F_Door_setitem := fun_mk (st := s_Door_setitem) l_Door_setitem c_Door_setitem k_Door_setitem
  have b_Door_setitem := F_Door_setitem.binds (ps := ["self", "way", "word"]) fun _ _ _ _ _ _ us hl => match us, hl with | [_, _, _], _ => rfl
  have F_Door_change := fun_mk (st := s_Door_change) l_Door_change c_Door_change k_Door_change
  have b_Door_change := F_Door_change.binds (ps := ["self", "way", "word"]) fun _ _ _ _ _ _ us hl => match us, hl with | [_, _, _], _ => rfl
  have F_Door_copy := fun_mk (st := s_Door_copy) l_Door_copy c_Door_copy k_Door_copy
  have b_Door_copy := F_Door_copy.binds (ps := ["self"]) fun _ _ _ _ _ _ us hl => match us, hl with | [_], _ => rfl
  have F_reason_of := fun_mk (st := s_reason_of) l_reason_of c_reason_of k_reason_of
  have b_reason_of := F_reason_of.binds (ps := ["way"]) fun _ _ _ _ _ _ us hl => match us, hl with | [_], _ => rfl
  have F_check_word := fun_mk (st := s_check_word) l_check_word c_check_word k_check_word
  have b_check_word := F_check_word.binds (ps := ["word"]) fun _ _ _ _ _ _ us hl => match us, hl with | [_], _ => rfl
  have F_source := fun_mk (st := s_source) l_source c_source k_source
  have b_source := F_source.binds (ps := ["_law_script", "_law_place"]) fun _ _ _ _ _ _ us hl => match us, hl with | [_, _], _ => rfl
  have F_draw := fun_mk (st := s_draw) l_draw c_draw k_draw
  have b_draw := F_draw.binds (ps := ["_law_source_here", "_law_many"]) fun _ _ _ _ _ _ us hl => match us, hl with | [_, _], _ => rfl
  have F_of := fun_mk (st := s_of) l_of c_of k_of
  have b_of := F_of.binds (ps := ["_law_source_here", "_law_some"]) fun _ _ _ _ _ _ us hl => match us, hl with | [_, _], _ => rfl
  have F_same := fun_mk (st := s_same) l_same c_same k_same
  have b_same := F_same.binds (ps := ["_law_actual", "_law_due"]) fun _ _ _ _ _ _ us hl => match us, hl with | [_, _], _ => rfl
  have F_made := fun_mk (st := s_made) l_made c_made k_made
  have b_made := F_made.binds (ps := ["_law_one", "_law_two", "_law_three"]) fun _ _ _ _ _ _ us hl => match us, hl with | [_, _, _], _ => rfl
  have F_word := fun_mk (st := s_word) l_word c_word k_word
  have b_word := F_word.binds (ps := ["_law_source_here"]) fun _ _ _ _ _ _ us hl => match us, hl with | [_], _ => rfl
  have F_refusal := fun_mk (st := s_refusal) l_refusal c_refusal k_refusal
  have b_refusal := F_refusal.binds (ps := ["_law_words"]) fun _ _ _ _ _ _ us hl => match us, hl with | [_], _ => rfl
  have F_made_or := fun_mk (st := s_made_or) l_made_or c_made_or k_made_or
  have b_made_or := F_made_or.binds (ps := ["_law_words"]) fun _ _ _ _ _ _ us hl => match us, hl with | [_], _ => rfl
  have F_changed := fun_mk (st := s_changed) l_changed c_changed k_changed
  have b_changed := F_changed.binds (ps := ["_law_door", "_law_way", "_law_word_here", "_law_by_item"]) fun _ _ _ _ _ _ us hl => match us, hl with | [_, _, _, _], _ => rfl
  have F_shows := fun_mk (st := s_shows) l_shows c_shows k_shows
  have b_shows := F_shows.binds (ps := ["_law_door", "_law_now"]) fun _ _ _ _ _ _ us hl => match us, hl with | [_, _], _ => rfl
  have F_holds := fun_mk (st := s_holds) l_holds c_holds k_holds
  have b_holds := F_holds.binds (ps := ["_law_source_here"]) fun _ _ _ _ _ _ us hl => match us, hl with | [_], _ => rfl
  have F_law := fun_mk (st := s_law) l_law c_law k_law
  have b_law := F_law.binds (ps := ["_law_script"]) fun _ _ _ _ _ _ us hl => match us, hl with | [_], _ => rfl
  have T : Txt l.prog K mg ⟨c_B, i_B, cO, cD, cL, aW, .type "type", f_reason_of, PySem.W.fnOf "reason_of" "reason_of" (defArgs s_reason_of) (defBody s_reason_of) (defScope s_reason_of) .none kV_reason_of dc_reason_of pm_reason_of an_reason_of cd_reason_of ct_reason_of, f_check_word, PySem.W.fnOf "check_word" "check_word" (defArgs s_check_word) (defBody s_check_word) (defScope s_check_word) .none kV_check_word dc_check_word pm_check_word an_check_word cd_check_word ct_check_word, f_Di, PySem.W.fnOf "__init__" "Door.__init__" (defArgs s_Door_init) (defBody s_Door_init) (defScope s_Door_init) .none (.ref D_Di) dc_Di pm_Di an_Di cd_Di ct_Di, f_Door_getitem, PySem.W.fnOf "__getitem__" "Door.__getitem__" (defArgs s_Door_getitem) (defBody s_Door_getitem) (defScope s_Door_getitem) .none kV_Door_getitem dc_Door_getitem pm_Door_getitem an_Door_getitem cd_Door_getitem ct_Door_getitem, f_Door_setitem, PySem.W.fnOf "__setitem__" "Door.__setitem__" (defArgs s_Door_setitem) (defBody s_Door_setitem) (defScope s_Door_setitem) .none kV_Door_setitem dc_Door_setitem pm_Door_setitem an_Door_setitem cd_Door_setitem ct_Door_setitem, f_Door_change, PySem.W.fnOf "change" "Door.change" (defArgs s_Door_change) (defBody s_Door_change) (defScope s_Door_change) .none kV_Door_change dc_Door_change pm_Door_change an_Door_change cd_Door_change ct_Door_change, f_Door_copy, PySem.W.fnOf "copy" "Door.copy" (defArgs s_Door_copy) (defBody s_Door_copy) (defScope s_Door_copy) .none kV_Door_copy dc_Door_copy pm_Door_copy an_Door_copy cd_Door_copy ct_Door_copy, f_source, PySem.W.fnOf "_law_source" "_law_source" (defArgs s_source) (defBody s_source) (defScope s_source) .none kV_source dc_source pm_source an_source cd_source ct_source, f_draw, PySem.W.fnOf "_law_draw" "_law_draw" (defArgs s_draw) (defBody s_draw) (defScope s_draw) .none kV_draw dc_draw pm_draw an_draw cd_draw ct_draw, f_of, PySem.W.fnOf "_law_of" "_law_of" (defArgs s_of) (defBody s_of) (defScope s_of) .none kV_of dc_of pm_of an_of cd_of ct_of, f_same, PySem.W.fnOf "_law_same" "_law_same" (defArgs s_same) (defBody s_same) (defScope s_same) .none kV_same dc_same pm_same an_same cd_same ct_same, f_made, PySem.W.fnOf "_law_made" "_law_made" (defArgs s_made) (defBody s_made) (defScope s_made) .none kV_made dc_made pm_made an_made cd_made ct_made, f_word, PySem.W.fnOf "_law_word" "_law_word" (defArgs s_word) (defBody s_word) (defScope s_word) .none kV_word dc_word pm_word an_word cd_word ct_word, f_refusal, PySem.W.fnOf "_law_refusal" "_law_refusal" (defArgs s_refusal) (defBody s_refusal) (defScope s_refusal) .none kV_refusal dc_refusal pm_refusal an_refusal cd_refusal ct_refusal, f_made_or, PySem.W.fnOf "_law_made_or" "_law_made_or" (defArgs s_made_or) (defBody s_made_or) (defScope s_made_or) .none kV_made_or dc_made_or pm_made_or an_made_or cd_made_or ct_made_or, f_changed, PySem.W.fnOf "_law_changed" "_law_changed" (defArgs s_changed) (defBody s_changed) (defScope s_changed) .none kV_changed dc_changed pm_changed an_changed cd_changed ct_changed, f_shows, PySem.W.fnOf "_law_shows" "_law_shows" (defArgs s_shows) (defBody s_shows) (defScope s_shows) .none kV_shows dc_shows pm_shows an_shows cd_shows ct_shows, f_holds, PySem.W.fnOf "_law_holds" "_law_holds" (defArgs s_holds) (defBody s_holds) (defScope s_holds) .none kV_holds dc_holds pm_holds an_holds cd_holds ct_holds, fa, PySem.W.fnOf "law" "law" (defArgs s_law) (defBody s_law) (defScope s_law) .none kV_law dc_law pm_law an_law cd_law ct_law⟩ := {
    x_BadDoor := x_B
    mO := PySem.W.mg_of X G aO
    eB := eB
    m_Door := PySem.W.mg_of X G aD
    cl := ⟨pgD, hdD, poD, saD⟩
    nsq := nsD
    Mk_Door := ⟨mkD, a_Di, i_Di, kpD⟩
    n_end := n_end
    n_fail := n_fail
    n_cut := n_cut
    n_others := n_others
    F_Door_init := ⟨⟨oc_Di, od_Di, _, _, dc_Di, pm_Di, an_Di, cd_Di, ct_Di, sl_Di, rfl, l_Di, c_Di, .inl ⟨rfl, rfl⟩, .inr ⟨D_Di, rfl, fun q hq => by
      simp only [List.mem_cons, List.not_mem_nil, or_false] at hq
      rcases hq with rfl | rfl | rfl
      · exact ⟨u_end, d_end, r_end⟩
      · exact ⟨u_fail, d_fail, r_fail⟩
      · exact ⟨u_cut, d_cut, r_cut⟩⟩⟩, k_Di⟩
    m_Leave := PySem.W.mg_of X G aL
    cr := ⟨rdL, gaL⟩
    m_WORDS := PySem.W.mg_of X G mW
    q_WORDS := fun H => .inr ⟨_, itW, nW, lW, rfl, rfl, zW, vW⟩
    v_KEEP := ⟨u_KEEP, v_KEEP, w_KEEP⟩
    v_CLOSE := ⟨u_CLOSE, v_CLOSE, w_CLOSE⟩
    v_CHECK := ⟨u_CHECK, v_CHECK, w_CHECK⟩
    v_DRAIN := ⟨u_DRAIN, v_DRAIN, w_DRAIN⟩
    v_PING := ⟨u_PING, v_PING, w_PING⟩
    F_Door_getitem := F_Door_getitem
    S_Door_getitem := ⟨a_Door_getitem, i_Door_getitem, n_Door_getitem⟩
    b_Door_getitem := b_Door_getitem
    F_Door_setitem := F_Door_setitem
    S_Door_setitem := ⟨a_Door_setitem, i_Door_setitem, n_Door_setitem⟩
    b_Door_setitem := b_Door_setitem
    F_Door_change := F_Door_change
    M_Door_change := ⟨a_Door_change, i_Door_change, k_Door_change⟩
    b_Door_change := b_Door_change
    F_Door_copy := F_Door_copy
    M_Door_copy := ⟨a_Door_copy, i_Door_copy, k_Door_copy⟩
    b_Door_copy := b_Door_copy
    F_reason_of := F_reason_of
    m_reason_of := PySem.W.mg_of X G a_reason_of
    b_reason_of := b_reason_of
    F_check_word := F_check_word
    m_check_word := PySem.W.mg_of X G a_check_word
    b_check_word := b_check_word
    F_source := F_source
    m_source := PySem.W.mg_of X G a_source
    b_source := b_source
    F_draw := F_draw
    m_draw := PySem.W.mg_of X G a_draw
    b_draw := b_draw
    F_of := F_of
    m_of := PySem.W.mg_of X G a_of
    b_of := b_of
    F_same := F_same
    m_same := PySem.W.mg_of X G a_same
    b_same := b_same
    F_made := F_made
    m_made := PySem.W.mg_of X G a_made
    b_made := b_made
    F_word := F_word
    m_word := PySem.W.mg_of X G a_word
    b_word := b_word
    F_refusal := F_refusal
    m_refusal := PySem.W.mg_of X G a_refusal
    b_refusal := b_refusal
    F_made_or := F_made_or
    m_made_or := PySem.W.mg_of X G a_made_or
    b_made_or := b_made_or
    F_changed := F_changed
    m_changed := PySem.W.mg_of X G a_changed
    b_changed := b_changed
    F_shows := F_shows
    m_shows := PySem.W.mg_of X G a_shows
    b_shows := b_shows
    F_holds := F_holds
    m_holds := PySem.W.mg_of X G a_holds
    b_holds := b_holds
    F_law := F_law
    m_law := PySem.W.mg_of X G a_law
    b_law := b_law
    z_len := PySem.W.mg_none_of X G z_len
    z_abs := PySem.W.mg_none_of X G z_abs
    z_int := PySem.W.mg_none_of X G z_int
    z_range := PySem.W.mg_none_of X G z_range
    z_min := PySem.W.mg_none_of X G z_min
    z_max := PySem.W.mg_none_of X G z_max
    z_isinstance := PySem.W.mg_none_of X G z_isinstance
    z_zip := PySem.W.mg_none_of X G z_zip
    z_all := PySem.W.mg_none_of X G z_all
    z_tuple := PySem.W.mg_none_of X G z_tuple
    z_list := PySem.W.mg_none_of X G z_list
    z_bool := PySem.W.mg_none_of X G z_bool
    z_str := PySem.W.mg_none_of X G z_str
    z_dict := PySem.W.mg_none_of X G z_dict
  }
  exact ⟨PySem.W.fnOf "law" "law" (defArgs s_law) (defBody s_law) (defScope s_law) .none kV_law dc_law pm_law an_law cd_law ct_law, fun s v => .of_eq rfl, fun base _ _ => ok_law T⟩
theorem walk {l : PySem.W.OpenLaw} {q : Program} {loose : List Str} {XP : (Str → Option Value) → Heap → Prop} {YP : World → Heap → Prop} {d : DefRec} {K : Params → PySem.W.Frag} (hn : l.most = some 63) (hdf : d.params.defaults = [])
    (hY : ∀ (w : World) (h : Heap), YP w h → (K w.params).In h)
    (F : ∀ (w : World) (mg : Str → Option Value) (fa : Addr) (h : Heap), (K w.params).In h → h.Ns mainGlobals mg → mg d.name = some (.ref fa) →
      ∃ fd : FuncData, (∀ (s : Shared) (u : Value), BindsTo s fd ⟨[u], []⟩ [("_law_script", u)]) ∧ ∀ base : Heap, (K w.params).In base → base.Ns mainGlobals mg → FnOk l.prog w (K w.params) mg base CX0 7 fa fd ["_law_script"] (spLaw (K w.params))) :
    PySem.W.WalkO q loose XP YP l.row.toRowW d [] (fun f vs => PySem.call f vs) :=
  L2.walk_of (n := 63) (k := 7) (x := "_law_script") (CX := fun _ => CX0) (sp := fun w => spLaw (K w.params)) hn (by decide) hdf ⟨rfl, by decide, by decide⟩ hY F (fun _ _ a ns hl _ hS => ⟨a, ns, rfl, hS, hl, fun _ => rfl⟩) fun _ _ _ _ _ z => z
end K36
end
set_option Elab.async false
set_option autoImplicit false
set_option linter.all false
set_option maxRecDepth 100000
open PySem PySem.W PyProof.Rows PySem.OxE
set_option maxRecDepth 100000 in
set_option maxHeartbeats 0 in
theorem PySem.Challenge.cw_owedanswers_k36_doors_and_ways_holds : PySem.Challenge.rw_owedanswers_k36_doors_and_ways.Holds := by
  w_on; o_law; k_head; (case hw => w_witness2)
  k_fill
  refine K36.walk (l := PySem.Challenge.rw_owedanswers_k36_doors_and_ways) rfl rfl (fun w h Y => PySem.W.kIn_of Y) ?F
  case F =>
    intro w mg fa h KX G hmg
    refine' K36.all_mk KX G hmg ?x_B ?aO ?eB ?aD ?pgD ?hdD ?poD ?saD ?nsD ?mkD ?kpD ?n_end ?n_fail ?n_cut ?n_others ?a_Di ?i_Di ?l_Di ?c_Di ?k_Di ?d_end ?r_end ?d_fail ?r_fail ?d_cut ?r_cut ?a_Door_getitem ?i_Door_getitem ?l_Door_getitem ?c_Door_getitem ?k_Door_getitem ?n_Door_getitem ?a_Door_setitem ?i_Door_setitem ?l_Door_setitem ?c_Door_setitem ?k_Door_setitem ?n_Door_setitem ?a_Door_change ?i_Door_change ?l_Door_change ?c_Door_change ?k_Door_change ?a_Door_copy ?i_Door_copy ?l_Door_copy ?c_Door_copy ?k_Door_copy ?a_reason_of ?l_reason_of ?c_reason_of ?k_reason_of ?a_check_word ?l_check_word ?c_check_word ?k_check_word ?a_source ?l_source ?c_source ?k_source ?a_draw ?l_draw ?c_draw ?k_draw ?a_of ?l_of ?c_of ?k_of ?a_same ?l_same ?c_same ?k_same ?a_made ?l_made ?c_made ?k_made ?a_word ?l_word ?c_word ?k_word ?a_refusal ?l_refusal ?c_refusal ?k_refusal ?a_made_or ?l_made_or ?c_made_or ?k_made_or ?a_changed ?l_changed ?c_changed ?k_changed ?a_shows ?l_shows ?c_shows ?k_shows ?a_holds ?l_holds ?c_holds ?k_holds ?a_law ?l_law ?c_law ?k_law ?aL ?rdL ?gaL ?v_KEEP ?w_KEEP ?v_CLOSE ?w_CLOSE ?v_CHECK ?w_CHECK ?v_DRAIN ?w_DRAIN ?v_PING ?w_PING ?mW ?lW ?zW ?vW ?z_len ?z_abs ?z_int ?z_range ?z_min ?z_max ?z_isinstance ?z_zip ?z_all ?z_tuple ?z_list ?z_bool ?z_str ?z_dict
    (case x_B => (refine' exTxt_mk (by assumption) (by assumption) ?nmd ?aC ?lC ?iC ?lF ?lD ?lc ?hvs ?hfile ?cF ?ln ?sig ?as ?rv ?al ?sa ?ga ?gg ?nn ?tC ?kC ?exC ?veC ?slC ?tyC ?hdC ?sup ?tp ?top; (case nmd => decide); (case aC => k_is); (case lC => k_is); (case iC => k_is); (case lF => k_is); (case lD => k_is); (case lc => k_is); (case hvs => rfl); (case hfile => rfl); (case cF => k_is); (case ln => rfl); (case sig => exact sig_word); (case as => exact (Asgs.cons _ _ _ _ .nil)); (case rv => rfl); (case al => kernel_rfl); (case sa => k_is); (case ga => k_is); (case gg => k_is); (case nn => kernel_rfl); (case tC => k_is); (case kC => k_is); (case exC => k_is); (case veC => k_is); (case slC => k_is); (case tyC => k_is); (case hdC => k_is); (case sup => k_is); (case tp => k_is); (case top => rfl)))
    (case aO => k_is)
    (case eB => first | k_is | kernel_rfl)
    (case aD => k_is)
    (case pgD => k_is)
    (case hdD => k_is)
    (case poD => k_is)
    (case saD => k_is)
    (case nsD => k_is)
    (case mkD => k_is)
    (case kpD => k_is)
    (case n_end => k_is)
    (case n_fail => k_is)
    (case n_cut => k_is)
    (case n_others => k_is)
    (case a_Di => k_is)
    (case i_Di => k_is)
    (case l_Di => k_is)
    (case c_Di => k_is)
    (case k_Di => k_is)
    (case d_end => k_is)
    (case r_end => exact ⟨_, rfl⟩)
    (case d_fail => k_is)
    (case r_fail => exact ⟨_, rfl⟩)
    (case d_cut => k_is)
    (case r_cut => exact ⟨_, rfl⟩)
    (case a_Door_getitem => k_is)
    (case i_Door_getitem => k_is)
    (case l_Door_getitem => k_is)
    (case c_Door_getitem => k_is)
    (case k_Door_getitem => k_is)
    (case n_Door_getitem => k_is)
    (case a_Door_setitem => k_is)
    (case i_Door_setitem => k_is)
    (case l_Door_setitem => k_is)
    (case c_Door_setitem => k_is)
    (case k_Door_setitem => k_is)
    (case n_Door_setitem => k_is)
    (case a_Door_change => k_is)
    (case i_Door_change => k_is)
    (case l_Door_change => k_is)
    (case c_Door_change => k_is)
    (case k_Door_change => k_is)
    (case a_Door_copy => k_is)
    (case i_Door_copy => k_is)
    (case l_Door_copy => k_is)
    (case c_Door_copy => k_is)
    (case k_Door_copy => k_is)
    (case a_reason_of => k_is)
    (case l_reason_of => k_is)
    (case c_reason_of => k_is)
    (case k_reason_of => k_is)
    (case a_check_word => k_is)
    (case l_check_word => k_is)
    (case c_check_word => k_is)
    (case k_check_word => k_is)
    (case a_source => k_is)
    (case l_source => k_is)
    (case c_source => k_is)
    (case k_source => k_is)
    (case a_draw => k_is)
    (case l_draw => k_is)
    (case c_draw => k_is)
    (case k_draw => k_is)
    (case a_of => k_is)
    (case l_of => k_is)
    (case c_of => k_is)
    (case k_of => k_is)
    (case a_same => k_is)
    (case l_same => k_is)
    (case c_same => k_is)
    (case k_same => k_is)
    (case a_made => k_is)
    (case l_made => k_is)
    (case c_made => k_is)
    (case k_made => k_is)
    (case a_word => k_is)
    (case l_word => k_is)
    (case c_word => k_is)
    (case k_word => k_is)
    (case a_refusal => k_is)
    (case l_refusal => k_is)
    (case c_refusal => k_is)
    (case k_refusal => k_is)
    (case a_made_or => k_is)
    (case l_made_or => k_is)
    (case c_made_or => k_is)
    (case k_made_or => k_is)
    (case a_changed => k_is)
    (case l_changed => k_is)
    (case c_changed => k_is)
    (case k_changed => k_is)
    (case a_shows => k_is)
    (case l_shows => k_is)
    (case c_shows => k_is)
    (case k_shows => k_is)
    (case a_holds => k_is)
    (case l_holds => k_is)
    (case c_holds => k_is)
    (case k_holds => k_is)
    (case a_law => k_is)
    (case l_law => k_is)
    (case c_law => k_is)
    (case k_law => k_is)
    (case aL => k_is)
    (case rdL => k_is)
    (case gaL => k_is)
    (case v_KEEP => k_is)
    (case w_KEEP => exact ⟨_, rfl⟩)
    (case v_CLOSE => k_is)
    (case w_CLOSE => exact ⟨_, rfl⟩)
    (case v_CHECK => k_is)
    (case w_CHECK => exact ⟨_, rfl⟩)
    (case v_DRAIN => k_is)
    (case w_DRAIN => exact ⟨_, rfl⟩)
    (case v_PING => k_is)
    (case w_PING => exact ⟨_, rfl⟩)
    (case mW => k_is)
    (case lW => k_is)
    (case zW => decide)
    (case vW => exact .cons ⟨_, rfl⟩ (.cons ⟨_, rfl⟩ (.cons ⟨_, rfl⟩ (.cons ⟨_, rfl⟩ (.cons ⟨_, rfl⟩ .nil)))))
    (case z_len => k_is)
    (case z_abs => k_is)
    (case z_int => k_is)
    (case z_range => k_is)
    (case z_min => k_is)
    (case z_max => k_is)
    (case z_isinstance => k_is)
    (case z_zip => k_is)
    (case z_all => k_is)
    (case z_tuple => k_is)
    (case z_list => k_is)
    (case z_bool => k_is)
    (case z_str => k_is)
    (case z_dict => k_is)

