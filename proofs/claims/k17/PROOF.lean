import PyProof.Rows.All
import Wide.All
import OpenK.AllK
import Wide.FinOn
import KE.KExcSuper
import HandS.ForMost
import HandS.Exc
import HandS.ExcInit
import KE.KExcIs
import HandS.Wide
import HandS.ExcValue
import HandS.Evl
import PySem.Challenge.RW_owedanswers_k17_errors_made
section
set_option Elab.async false
set_option autoImplicit false
set_option linter.all false
set_option maxRecDepth 100000
set_option maxHeartbeats 4000000
namespace PySem
namespace OxE
open PySem.W PySem.Calls PyProof.Rows PySem.HandSPX
/-! an error class of the program: `def __init__(self, f, ..): super().__init__(text); self.f = f; ..` -/
def oxSup (txt : Str) (q0 q1 q2 q3 q4 q5 : Pos) : Stmt := .Expr (.Call (.Attribute (.Call (.Name "super" q0) [] [] q1) "__init__" q2) [.Constant (.str txt) 0 q3] [] q4) q5
inductive Asgs : List Str → List Stmt → Prop
  | nil : Asgs [] []
  | cons {f : Str} {fs : List Str} {ss : List Stmt} (r1 r2 r3 r4 : Pos) : Asgs fs ss → Asgs (f :: fs) (.Assign [.Attribute (.Name "self" r1) f r2] (.Name f r3) r4 :: ss)
/-- the arguments and the scope of such an __init__ with the fields fs -/
structure OxSig (fs : List Str) (params : Arguments) (sc : Scope) : Prop where
  kind : sc.kind = .function
  co : sc.isCoroutine = false
  gen : sc.isGenerator = false
  ncell : ∀ y ∈ sc.names, y.2 ≠ .cell
  hd : (params.posonlyargs ++ params.args).head?.map (·.arg) = some ("self" : Str)
  lself : sc.names.lookup ("self" : Str) = some NameKind.local
  lf : ∀ f ∈ fs, sc.names.lookup f = some NameKind.local
  lsup : sc.names.lookup ("super" : Str) = some NameKind.globalImplicit
  lcls : sc.names.lookup ("__class__" : Str) = some NameKind.free
  nself : ∀ f ∈ fs, f ≠ "self"
  ndbg : ∀ f ∈ fs, (f == ("__debug__" : Str)) = false
  nd : fs.Nodup
  few : 0 < fs.length ∧ fs.length ≤ 20
  bnd : ∀ (q : Str) (body : List Stmt) (doc pm cdv ct : Value) (an : Option Addr) (cc : Addr) (a : Value) (vs : List Value), vs.length = fs.length → bindArgs (ksFn "__init__" q params body sc .none .none doc pm an cdv ct cc) ⟨a :: vs, []⟩ = (pure ((("self" : Str), a) :: fs.zip vs) : Sem (List (Str × Value)))
  bndK : ∀ (q : Str) (body : List Stmt) (doc pm cdv ct : Value) (an : Option Addr) (cc : Addr) (a : Value) (vs : List Value), vs.length = fs.length → bindArgs (ksFn "__init__" q params body sc .none .none doc pm an cdv ct cc) ⟨[a], fs.zip vs⟩ = (pure ((("self" : Str), a) :: fs.zip vs) : Sem (List (Str × Value)))
  sw : ∀ (q txt : Str) (q0 q1 q2 q3 q4 : Pos) (L fI cc : Addr) (cd : Value) (n : Nat), swapsWith (.Call (.Attribute (.Call (.Name "super" q0) [] [] q1) "__init__" q2) [.Constant (.str txt) 0 q3] [] q4) none n (ksEnv q sc L fI cd cc) = pure false
/-- o.name(text), the call on the line of its name -/
theorem ev_meth (o : Expr) (name txt : Str) (apos p3 pos : Pos) (env : Env) (hl : (apos.endLine == pos.line) = true) : eval (.Call (.Attribute o name apos) [.Constant (.str txt) 0 p3] [] pos) env = (do
      let ov ← attributeBase o name env (eval o env)
      standAt apos.atName
      let (g, first) ← holding [ov] (getMethod ov name (do return (← importBound o env).getD true))
      callWith pos g first (backTo pos (starEach [.Constant (.str txt) 0 p3] env)) []) := by
  rw [arm_eval_Call]
  have hform : methodCallForm (([.Constant (.str txt) 0 p3] : List Expr).length + ([] : List Keyword).length) (backTo pos (starEach [.Constant (.str txt) 0 p3] env)) (backToKw pos (keywordEach [] env)) = true := rfl
  have hpos : methodCallPos true o env apos pos = pure pos := by unfold methodCallPos; simp [hl]
  unfold methodCall
  rw [hform]
  unfold calleeOf
  simp only [if_true, hpos, pure_bind]
  rfl
structure ExTxt (P : Program) (K : Frag) (mg : Str → Option Value) (nm : Str) (fs : List Str) (C fI : Addr) : Prop where
  gC : mg nm = some (.ref C)
  nmd : (nm == ("__debug__" : Str)) = false
  cls : ∃ (nm' q : Str) (N : Addr) (bs bm : List Value) (sn : List Str) (sub : List Value) (ab : Bool) (col : Option Bool) (dd : Option Addr) (k0 k1 k2 k3 k5 : Option Value), K.lookup C = some (excClassObj nm' q C N bs bm true sn sub ab col dd k0 k1 k2 k3 k5 "ValueError.__new__") ∧ refsVE bm = true ∧
    alongIn K "__init__" (((Value.ref C :: bm).dropWhile (· != .ref C)).drop 1) = some (some (.builtin "ValueError.__init__"))
  sa : findIn K (.ref C) "__setattr__" = some (some (.builtin "object.__setattr__"))
  ga : findIn K (.ref C) "__getattribute__" = some (some (.builtin "BaseException.__getattribute__"))
  gg : findIn K (.ref C) "__getattr__" = some none
  noN : ∀ f ∈ fs, findIn K (.ref C) f = some none
  iC : findIn K (.ref C) "__init__" = some (some (.ref fI))
  tC : typeIn K (.ref fI) = some (.type "function")
  kC : keepIn K (.ref C) = true
  exC : subIn K (.ref C) (.type "BaseException") = some true
  veC : subIn K (.ref C) (.type "ValueError") = some true
  slC : mroIn K C (.ref C) = some true
  tyC : typeIn K (.ref C) = some (.type "type")
  hdC : hasDictIn K C = true
  fn : ∃ (oc : Value) (od : Option Addr) (doc pm : Value) (an : Option Addr) (ct : Value) (osl : Array (Option Value)) (q txt : Str) (params : Arguments) (sc : Scope) (q0 q1 q2 q3 q4 q5 : Pos) (asgs : List Stmt) (cda cc : Addr) (ccl cl : Value) (cdd cld : Option Addr) (vs : Array Value) (ccs csl : Array (Option Value)) (file : Str) (tf : Tok),
    K.lookup fI = some ⟨oc, od, .func (ksFn "__init__" q params (oxSup txt q0 q1 q2 q3 q4 q5 :: asgs) sc .none .none doc pm an (.ref cda) ct cc), osl⟩ ∧ codeIn K (.ref cda) q = true ∧ (q2.endLine == q4.line) = true ∧ OxSig fs params sc ∧ Asgs fs asgs ∧
    K.lookup cda = some ⟨ccl, cdd, .fields vs, ccs⟩ ∧ vs[2]? = some (.str file tf) ∧ ((P.main.file : Str) == file) = true ∧ K.lookup cc = some ⟨cl, cld, .cell (some (.ref C)), csl⟩
  sup : mg "super" = none
  tp : nsIn K cStatics "thirdparty.any" = some none
  top : (P.main.scope.names.lookup ("super" : Str)).isSome = false
/-- what __init__ leaves of a fresh exception at x -/
structure InitEnd (h h' : Heap) (x C dx t1 : Addr) (fv : List (Str × Value)) : Prop where
  keep : ∀ b o, b ≠ x → h.get? b = some o → h'.get? b = some o
  obj : h'.get? x = some { cls := .ref C, dict := some dx, data := .fields #[.ref t1, .none, .none, .none, .bool false, .none] }
  dbig : h.objs.size ≤ dx
  dne : dx ≠ x
  ns : h'.Ns1 dx (fun y => fv.reverse.lookup y)
theorem lookup_rev_cons {fv : List (Str × Value)} {f y : Str} {v : Value} (m : Str → Option Value) (hm : ∀ z, m z = fv.lookup z) : (fun z => if z = f then some v else m z) y = ((f, v) :: fv).lookup y := by
  show (if y = f then some v else m y) = _
  by_cases h : y = f
  · subst h; simp [List.lookup]
  · have e : (y == f) = false := by simpa using h
    rw [if_neg h, hm]; simp [List.lookup, e]
theorem zip_lookup : ∀ {fs : List Str} {vs : List Value} {i : Nat} {f : Str} {v : Value}, fs.Nodup → fs[i]? = some f → vs[i]? = some v → (fs.zip vs).lookup f = some v
  | [], _, _, _, _, _, h, _ => by simp at h
  | _ :: _, [], _, _, _, _, _, h => by simp at h
  | g :: fs, u :: vs, 0, f, v, nd, h1, h2 => by
    simp at h1 h2; subst h1; subst h2; simp [List.zip_cons_cons, List.lookup]
  | g :: fs, u :: vs, i + 1, f, v, nd, h1, h2 => by
    have hm : f ∈ fs := List.mem_of_getElem? (by simpa using h1)
    have ne : (f == g) = false := by
      rw [beq_eq_false_iff_ne]; intro e; subst e; exact (List.nodup_cons.mp nd).1 hm
    rw [List.zip_cons_cons]
    simp only [List.lookup, ne]
    exact zip_lookup (i := i) (List.nodup_cons.mp nd).2 (by simpa using h1) (by simpa using h2)
theorem mem_lookup {l : List (Str × Value)} {f : Str} {v : Value} (nd : (l.map (·.1)).Nodup) (h : (f, v) ∈ l) : l.reverse.lookup f = some v := by
  have key : ∀ {l : List (Str × Value)}, (l.map (·.1)).Nodup → (f, v) ∈ l → l.lookup f = some v := by
    intro l
    induction l with
    | nil => intro _ h; cases h
    | cons p l ih =>
      obtain ⟨g, u⟩ := p
      intro nd h
      rw [List.map_cons, List.nodup_cons] at nd
      rcases List.mem_cons.mp h with e | h'
      · cases e; simp [List.lookup]
      · have ne : (f == g) = false := by
          rw [beq_eq_false_iff_ne]; intro e; subst e
          exact nd.1 (List.mem_map_of_mem (f := (·.1)) h')
        simp only [List.lookup, ne]
        exact ih nd.2 h'
  refine key ?_ (List.mem_reverse.mpr h)
  rw [List.map_reverse]
  exact (List.reverse_perm _).nodup_iff.mpr nd
section
variable {prog : Program} {w : World} {A : Around} {E : Value → Shared → Prop} {R : Result → Shared → Prop} {s : Shared} {K : Frag} {mg mb : Str → Option Value} {nm : Str} {fs : List Str} {C fI : Addr}
/-- super().__init__(text): the method-wrapper at u called -/
theorem mw_call {u e t : Addr} {rest : List Value} {Q : Value → Shared → Prop} {nm q : Str} {N : Addr} {bs bm : List Value} {hdct : Bool} {sn : List Str} {sub : List Value} {ab : Bool} {col : Option Bool} {dd : Option Addr} {k0 k1 k2 k3 k5 : Option Value}
    (hC : s.heap.get? C = some (excClassObj nm q C N bs bm hdct sn sub ab col dd k0 k1 k2 k3 k5 "ValueError.__new__")) (hu : s.heap.get? u = some (kxs_mw "ValueError.__init__" e)) (he : s.heap.get? e = some (excO C t)) (hz : rest.length ≤ sizeLine)
    (h : ∀ h' t', (∀ b o, b ≠ e → s.heap.get? b = some o → h'.get? b = some o) → h'.get? e = some (excO C t') → Q .none { s with heap := h' }) :
    wpAny (model prog w) A (call (.ref u) rest) Q E s := by
  obtain ⟨hh, g, d, tk, os⟩ := s
  refine wpAny_call (codeAny_of_tree ?_)
  show wpAny _ A.in1 (callAny (.ref u) ⟨rest, []⟩) _ _ _
  simp only [callAny]
  refine wpAny_bind (wpAny_load hu ?_)
  simp only [kxs_mw, show (Value.type "method-wrapper" == Value.type "method" || Value.type "method-wrapper" == Value.type "builtin_function_or_method" || Value.type "method-wrapper" == Value.type "method-wrapper") = true by decide, if_true]
  refine KFB.if_so (by decide) ?_
  refine wpAny_bind (check_bound_init F.excBase_ValueError.toExcCallFacts hC he rfl ?_)
  refine wpAny_bind (wpAny_pure (wpAny_pure ?_))
  refine ⟨plainId_quiet F.excBase_ValueError.init.plain _, codeAny_builtin F.excBase_ValueError.initEntry ?_⟩
  exact exc_init_tree (cls := .ref C) (t0 := t) (dv := none) (c2 := .none) (c3 := .none) (b4 := .bool false) he hz fun h' k e' _ => h h' _ k e'
theorem ldK {M : Model} {s : Shared} {name : Str} {scope : Scope} {L a : Addr} {cd : Value} {cc : Addr} {m : Str → Option Value} {x : Str} {pos : Pos} {v : Value} {Q : Value → Shared → Prop} {A : Around} {E : Value → Shared → Prop} (hn : s.heap.Ns L m) (hv : m x = some v) (h : Q v s)
    (hk : scope.kind = .function) (hl : scope.names.lookup x = some NameKind.local) (hd : (x == ("__debug__" : Str)) = false) :
    wpAny M A (eval (.Name x pos) (ksEnv name scope L a cd cc)) Q E s := wpAny_Name (wpAny_loadName_local hk hl hn hv h) hd
/-- the stores behind the first -/
theorem ox_rest {q : Str} {sc : Scope} {L fI cc x dx : Addr} {cd : Value} {m : Str → Option Value} {fv : Array Value} {Cd : ClassData} {Q : Flow → Shared → Prop} (hk : sc.kind = .function) (hls : sc.names.lookup ("self" : Str) = some NameKind.local) (hms : m "self" = some (.ref x))
    (hcl : clsIn K C = some Cd) (hmro : refsVE Cd.mro = true) (hdct : Cd.hasDict = true) (hsa : findIn K (.ref C) "__setattr__" = some (some (.builtin "object.__setattr__"))) :
    ∀ (gs : List Str) (us : List Value) (ss : List Stmt) (acc : List (Str × Value)) (s : Shared), Asgs gs ss → us.length = gs.length → K.In s.heap → K.lookup dx = none → s.heap.Ns L m → dx ≠ L → s.heap.get? x = some { cls := .ref C, dict := some dx, data := .fields fv } → dx ≠ x →
    s.heap.Ns1 dx (fun y => acc.lookup y) → acc.length + gs.length ≤ 900 → (∀ f ∈ gs, sc.names.lookup f = some NameKind.local ∧ (f == ("__debug__" : Str)) = false ∧ findIn K (.ref C) f = some none) → (∀ p ∈ gs.zip us, m p.1 = some p.2) →
    (∀ h' tk, (∀ b o, b ≠ dx → s.heap.get? b = some o → h'.get? b = some o) → h'.Ns1 dx (fun y => ((gs.zip us).reverse ++ acc).lookup y) → Q .next { s with heap := h', toks := tk }) →
    wpAny (model prog w) A (execs ss (ksEnv q sc L fI cd cc)) Q E s
  | [], us, _, acc, s, .nil, hl, X, hdK, hL, hdL, hx, hdx, hns, hz, hf, hm, hq => by
    refine wpAny_execs_nil ?_
    exact hq s.heap s.toks (fun _ _ _ e => e) (by simpa using hns)
  | g :: gs, u :: us, _, acc, s, .cons r1 r2 r3 r4 as, hl, X, hdK, hL, hdL, hx, hdx, hns, hz, hf, hm, hq => by
    obtain ⟨f1, f2, f3⟩ := hf g List.mem_cons_self
    have mg' : m g = some u := hm (g, u) (by rw [List.zip_cons_cons]; exact List.mem_cons_self)
    refine wpAny_execs_cons (plainObj_wpAny_Assign_Attribute ?_ (by rfl))
    refine ldK (v := u) hL mg' (ldK (v := .ref x) hL hms ?_ hk hls (by decide +kernel)) hk f1 f2
    have hw : Within (fun y => acc.lookup y) (acc.map (·.1)) := fun y hy => by
      have key : ∀ {l : List (Str × Value)}, l.lookup y ≠ none → y ∈ l.map (·.1) := by
        intro l
        induction l with
        | nil => intro h; exact absurd rfl h
        | cons p l ih =>
          intro h
          obtain ⟨f, z⟩ := p
          by_cases e : y = f
          · rw [e]; exact List.mem_cons_self
          · have e' : (y == f) = false := by simpa using e
            simp only [List.lookup, e'] at h
            exact List.mem_cons_of_mem _ (ih h)
      exact key hy
    obtain ⟨oD, _, _, hoD, _, _⟩ := hns.count hw
    obtain ⟨hp, gg, d, t, os⟩ := s
    refine set_plain X (ox := { cls := .ref C, dict := some dx, data := .fields fv }) (od := some oD) ⟨hx, rfl, rfl, hoD⟩ hsa ?_
    refine OEX.osa_old X hx hns hw (by rw [List.length_map]; simp at hz; omega) hcl hmro hdct f3 (fun h' tk' k hn => ?_)
    have X' : K.In h' := fun b o e => k b o (fun z => by rw [z, hdK] at e; cases e) (X b o e)
    have hL' : h'.Ns L m := by
      obtain ⟨oL, es, ep, e1, r⟩ := hL
      exact ⟨oL, es, ep, k _ _ (Ne.symm hdL) e1, r⟩
    have hn' : h'.Ns1 dx (fun y => ((g, u) :: acc).lookup y) := by
      have e : (fun y => if y = g then some u else acc.lookup y) = (fun y => ((g, u) :: acc).lookup y) := funext fun y => lookup_rev_cons (fv := acc) (f := g) (v := u) (fun z => acc.lookup z) (fun _ => rfl)
      rw [← e]; exact hn
    refine ox_rest hk hls hms hcl hmro hdct hsa gs us _ ((g, u) :: acc) ⟨h', gg, d, tk', os⟩ as (by simpa using hl) X' hdK hL' hdL (k _ _ (Ne.symm hdx) hx) hdx hn' (by simp at hz ⊢; omega) (fun f hf' => hf f (List.mem_cons_of_mem _ hf')) (fun p hp => hm p (by rw [List.zip_cons_cons]; exact List.mem_cons_of_mem _ hp)) fun h'' tk k2 hn2 => ?_
    refine hq h'' tk (fun b o hb e => k2 b o hb (k b o hb e)) ?_
    rw [List.zip_cons_cons, List.reverse_cons, List.append_assoc]
    exact hn2
  | _ :: _, [], _, _, _, _, hl, _, _, _, _, _, _, _, _, _, _, _ => by simp at hl
theorem ox_init (T : ExTxt prog K mg nm fs C fI) {x t0 : Addr} {args : Args} {us : List Value} (hlen : us.length = fs.length) (hargs : args = ⟨.ref x :: us, []⟩ ∨ args = ⟨[.ref x], fs.zip us⟩) (X : K.In s.heap) (G : s.heap.Ns mainGlobals mg) (Bn : s.heap.Ns builtinsNs mb) (hbb : ∀ x : Str, x ≠ "__name__" → mb x = bootBuiltins x) (hlim : s.heap.NoLimit) (hx : s.heap.get? x = some (excO C t0)) (hnx : K.lookup x = none) (hroom : A.depth < recursionLimit)
    (hq : ∀ h' tk dx t1, InitEnd s.heap h' x C dx t1 (fs.zip us) → R (.ok (.ret .none)) { s with heap := h', toks := tk }) :
    codeAny (model prog w) A (.call (.ref fI) args) R s := by
  obtain ⟨nm', q, N, bs, bm, sn, sub, ab, col, dd, k0, k1, k2, k3, k5, hC, hbm, hal⟩ := T.cls
  obtain ⟨oc, od, doc, pm, an, ct, osl, qq, txt, params, sc, q0, q1, q2, q3, q4, q5, asgs, cda, cc, ccl, cl, cdd, cld, vs, ccs, csl, file, tf, hfn, hcd, hline, S, hasg, hco, hvs, hfile, hcell⟩ := T.fn
  have hcl : clsIn K C = some { name := nm', bases := bs, mro := .ref C :: bm, ns := N, qualname := q, hasDict := true, slotNames := sn, subclasses := sub, abstract := ab, collection := col, hasDel := false } := by unfold clsIn; rw [hC] <;> rfl
  have hbd : bindArgs (ksFn "__init__" qq params (oxSup txt q0 q1 q2 q3 q4 q5 :: asgs) sc .none .none doc pm an (.ref cda) ct cc) args = (pure ((("self" : Str), .ref x) :: fs.zip us) : Sem (List (Str × Value))) := by
    rcases hargs with e | e
    · rw [e]; exact S.bnd _ _ _ _ _ _ _ _ _ _ hlen
    · rw [e]; exact S.bndK _ _ _ _ _ _ _ _ _ _ hlen
  obtain ⟨ar, har, har2⟩ : ∃ ar, (params.posonlyargs ++ params.args).head? = some ar ∧ ar.arg = ("self" : Str) := by
    have z := S.hd
    cases e : (params.posonlyargs ++ params.args).head? with
    | none => rw [e] at z; cases z
    | some ar => rw [e] at z; exact ⟨ar, rfl, Option.some.inj z⟩
  refine ks_codeAny_call_defAt (fd := ksFn "__init__" qq params (oxSup txt q0 q1 q2 q3 q4 q5 :: asgs) sc .none .none doc pm an (.ref cda) ct cc) (body := oxSup txt q0 q1 q2 q3 q4 q5 :: asgs) (binds := (("self" : Str), .ref x) :: fs.zip us)
    hroom (X _ _ hfn) rfl hlim (codeRec_of X hcd) rfl (BindsTo.of_eq hbd) S.ncell ?hloc (fun h₁ hns k => ?_) S.co S.gen S.kind
  case hloc =>
    intro y hy
    rcases List.mem_cons.mp hy with rfl | hy
    · exact S.lself
    · exact S.lf _ (List.of_mem_zip hy).1
  have X₁ : K.In h₁ := X.keeps k
  have hx₁ := k _ _ hx
  have hC₁ := X₁ _ _ hC
  have hxC : x ≠ C := fun z => by
    rw [z] at hx
    have e := (X _ _ hC).symm.trans hx
    cases e
  have ndk : (((("self" : Str), Value.ref x) :: fs.zip us).map (·.1)).Nodup := by
    rw [List.map_cons, List.map_fst_zip (by omega)]
    exact List.nodup_cons.mpr ⟨fun h => S.nself _ h rfl, S.nd⟩
  have mself : ((("self" : Str), Value.ref x) :: fs.zip us).reverse.lookup ("self" : Str) = some (.ref x) := mem_lookup ndk List.mem_cons_self
  have mf : ∀ p ∈ fs.zip us, ((("self" : Str), Value.ref x) :: fs.zip us).reverse.lookup p.1 = some p.2 := fun p hp => mem_lookup ndk (List.mem_cons_of_mem _ hp)
  show _root_.PySem.wpAt _ _ (.func (oxSup txt q0 q1 q2 q3 q4 q5 :: asgs) (ksEnv qq sc s.heap.objs.size fI (.ref cda) cc)) (execs (oxSup txt q0 q1 q2 q3 q4 q5 :: asgs) (ksEnv qq sc s.heap.objs.size fI (.ref cda) cc)) _ _ _
  refine ks_wpAt_execs_cons (ks_wpAt_Expr_any (ks_wpAt_MethodCall ?_ (ev_meth _ _ _ _ _ _ _ hline)) (by simp [interactive, S.kind]) (S.sw ..))
  have hIve : ∀ h2 : Heap, K.In h2 → h2.get? x = some (excO C t0) → Looks (model prog w) h2 (isInstance (.ref x) (.type "ValueError")) true := fun h2 X2 e2 =>
    (show W.InstAt h2 x (excO C t0) C none from ⟨e2, rfl, rfl, trivial⟩).type.andThen (looks_subIn X2 T.veC)
  refine ks_wpAt_super_base (env := ksEnv qq sc s.heap.objs.size fI (.ref cda) cc) S.lsup S.lcls (by decide +kernel) rfl (X₁ _ _ hfn) rfl har rfl (X₁ _ _ hco) rfl hvs hfile T.top ?_
  refine ks_loadName_global S.kind S.lsup (loadGlobal_builtin (env := ksEnv qq sc s.heap.objs.size fI (.ref cda) cc) (G.keeps k) T.sup (Bn.keeps k) ((hbb _ (by decide +kernel)).trans (by first | boot_by_name | rfl | kernel_rfl)) ⟨rfl, ?_⟩)
  refine wpAny_loadName_free S.kind S.lcls rfl ⟨_, X₁ _ _ hcell, rfl⟩ ?_
  rw [har2]
  refine wpAny_loadName_local S.kind S.lself hns mself ?_
  refine ks_wpAny_isType_cls hC₁ rfl ⟨rfl, ?_⟩
  refine ks_wpAny_call_super hC₁ rfl hx₁ rfl (fun c z => by cases z) (looks_mroIn X₁ T.slC) (fun h₂ e₂ k₂ => ?_)
  have X₂ : K.In h₂ := X₁.keeps k₂
  refine kxs_getMethod kxs_ValueError e₂ (looks_opaque X₂ T.tp) (l₀ := .ref C :: bm) (fun A Q E s k q => wpAny_bind ((looks_clsIn X₂ hcl) A _ E s k (wpAny_pure q))) rfl X₂ hal (hIve h₂ X₂ (k₂ _ _ hx₁)) hxC (by decide +kernel) ?_
  have k₃ : ∀ b o, h₂.get? b = some o → (h₂.push (kxs_mw "ValueError.__init__" x)).get? b = some o := fun b o e => Heap.get?_push_of_some _ e
  have hu : (h₂.push (kxs_mw "ValueError.__init__" x)).get? h₂.objs.size = some (kxs_mw "ValueError.__init__" x) := Heap.get?_push_at rfl rfl
  refine kxs_callWith (i := "ValueError.__init__") (x := x) (by rfl) (evalArgs_plain ?_)
  show wpAny _ _ (spliced ((false, eval (.Constant (.str txt) 0 q3) (ksEnv qq sc s.heap.objs.size fI (.ref cda) cc)) :: backTo q4 (starEach [] (ksEnv qq sc s.heap.objs.size fI (.ref cda) cc)))) _ _ _
  refine Calls.spliced_cons (Calls.Constant_str (Calls.spliced_nil ⟨hu, ?_⟩))
  refine mw_call (X₂.keeps k₃ _ _ hC) hu (k₃ _ _ (k₂ _ _ hx₁)) (by show 1 ≤ sizeLine; rw [sizeLine_eq]; decide) fun h₄ t₄ k₄ e₄ => ?_
  -- self.f = f
  have kx : ∀ b o, b ≠ x → h₁.get? b = some o → h₄.get? b = some o := fun b o hb e => k₄ b o hb (k₃ b o (k₂ b o e))
  have X₄ : K.In h₄ := fun b o e => kx b o (fun z => by rw [z, hnx] at e; cases e) (X₁ b o e)
  have ns₄ : h₄.Ns s.heap.objs.size (fun y => ((("self" : Str), Value.ref x) :: fs.zip us).reverse.lookup y) := by
    obtain ⟨oL, es, ep, hL, r⟩ := hns
    exact ⟨oL, es, ep, kx _ _ (Ne.symm (Nat.ne_of_lt (Heap.lt_size hx))) hL, r⟩
  have big : s.heap.objs.size < h₄.objs.size := by
    obtain ⟨oL, es, ep, hL, r⟩ := ns₄
    exact Heap.lt_size hL
  obtain ⟨few0, few1⟩ := S.few
  have Slf := S.lf
  have Sdb := S.ndbg
  have TnoN := T.noN
  cases hasg with
  | nil => exact absurd few0 (by simp)
  | @cons f gs ss r1 r2 r3 r4 as =>
    cases us with
    | nil => simp at hlen
    | cons u us =>
      refine wpAt_of_wpAny ?_
      refine wpAny_execs_cons (plainObj_wpAny_Assign_Attribute ?_ (by rfl))
      refine ldK (v := u) ns₄ (mf (f, u) (by rw [List.zip_cons_cons]; exact List.mem_cons_self)) (ldK (v := .ref x) ns₄ mself ?_ S.kind S.lself (by decide +kernel)) S.kind (Slf f List.mem_cons_self) (Sdb f List.mem_cons_self)
      refine set_plain X₄ (ox := excO C t₄) (od := none) ⟨e₄, rfl, rfl, trivial⟩ T.sa ?_
      refine exc_osa X₄ e₄ hcl (show refsVE (.ref C :: bm) = true from hbm) rfl (TnoN f List.mem_cons_self) (fun h₅ tk₅ dx k₅ dn dne hx₅ hn₅ => ?_)
      have X₅ : K.In h₅ := fun b o e => k₅ b o (fun z => by rw [z, hnx] at e; cases e) (X₄ b o e)
      have hdK : K.lookup dx = none := by
        cases e : K.lookup dx with
        | none => rfl
        | some o => exact absurd (Nat.lt_of_lt_of_le (Heap.lt_size (X₄ _ _ e)) dn) (Nat.lt_irrefl _)
      have ns₅ : h₅.Ns s.heap.objs.size (fun y => ((("self" : Str), Value.ref x) :: (f :: gs).zip (u :: us)).reverse.lookup y) := by
        obtain ⟨oL, es, ep, hL, r⟩ := ns₄
        exact ⟨oL, es, ep, k₅ _ _ (Ne.symm (Nat.ne_of_lt (Heap.lt_size hx))) hL, r⟩
      have hn₅' : h₅.Ns1 dx (fun y => [(f, u)].lookup y) := by
        have e : (fun y => if y = f then some u else none) = (fun y => [(f, u)].lookup y) := funext fun y => lookup_rev_cons (fv := []) (f := f) (v := u) (fun _ => none) (fun _ => rfl)
        rw [← e]; exact hn₅
      refine ox_rest (L := s.heap.objs.size) (x := x) (dx := dx) S.kind S.lself mself hcl (show refsVE (.ref C :: bm) = true from hbm) rfl T.sa gs us _ [(f, u)] _ as (by simpa using hlen) X₅ hdK ns₅ (Nat.ne_of_gt (Nat.lt_of_lt_of_le big dn)) hx₅ dne hn₅' (by simp at few1 ⊢; omega)
        (fun g hg => ⟨Slf g (List.mem_cons_of_mem _ hg), Sdb g (List.mem_cons_of_mem _ hg), TnoN g (List.mem_cons_of_mem _ hg)⟩) (fun p hp => mf p (by rw [List.zip_cons_cons]; exact List.mem_cons_of_mem _ hp)) fun h₆ tk₆ k₆ hn₆ => ?_
      refine hq h₆ tk₆ dx t₄ ⟨fun b o hb e => k₆ b o (Nat.ne_of_lt (Nat.lt_of_lt_of_le (Heap.lt_size e) (Nat.le_trans (Nat.le_of_lt big) dn))) (k₅ b o hb (kx b o hb (k b o e))), k₆ _ _ (Ne.symm dne) hx₅, Nat.le_trans (Nat.le_of_lt big) dn, dne, ?_⟩
      rw [List.zip_cons_cons, List.reverse_cons]
      exact hn₆
end
end OxE
end PySem
end
section
set_option Elab.async false
set_option autoImplicit false
set_option linter.all false
set_option maxRecDepth 100000
set_option maxHeartbeats 4000000
namespace PySem
namespace OxE
open PySem.W PySem.Calls PyProof.Rows PySem.HandSPX
section
variable {M : Model} {A : Around} {E : Value → Shared → Prop} {h : Heap} {g : Array GenState} {d : Drawn} {t : Nat} {os : OsState}
variable {nm q : Str} {C N : Addr} {bs bm bmB : List Value} {hdct : Bool} {sn : List Str} {sub : List Value} {ab : Bool} {col : Option Bool} {dd : Option Addr} {k0 k1 k2 k3 k5 : Option Value} {B newId initId : String}
theorem check_newK (F : ExcBaseFacts B newId initId bmB) (hT : ∀ X : String, bm.contains (.type X) = bmB.contains (.type X)) {kw : List (Str × Value)} {Q : Unit → Shared → Prop}
    (hC : h.get? C = some (excClassObj nm q C N bs bm hdct sn sub ab col dd k0 k1 k2 k3 k5 newId)) (hq : Q () ⟨h, g, d, t, os⟩) : wpAny M A (checkBuiltinCall newId ⟨[.ref C], kw⟩) Q E ⟨h, g, d, t, os⟩ := by
  have hcont : (Value.ref C :: bm).contains (.type B) = true := by rw [List.contains_cons, hT, F.hasB, Bool.or_true]
  have hstar := F.noStar
  simp only [checkBuiltinCall, F.newKind, F.newSplit, F.newRow]
  repeat (first | refine wpAny_loadPart_at hC ?_ | (refine wpAny_isSubtype_exc hC ?_; rw [hcont]) | refine wpAny_staticBase_exc hC ?_ | refine wpAny_madeBy_exc hC ?_ | simp only [bne_self_eq_false, Bool.false_eq_true, if_false] | wp_step)
  exact hq
end
section
variable {prog : Program} {w : World} {A : Around} {E : Value → Shared → Prop} {R : Result → Shared → Prop} {h : Heap} {g : Array GenState} {d : Drawn} {t : Nat} {os : OsState}
variable {nm q : Str} {C N : Addr} {bs bm bmB : List Value} {hdct : Bool} {sn : List Str} {sub : List Value} {ab : Bool} {col : Option Bool} {dd : Option Addr} {k0 k1 k2 k3 k5 : Option Value} {B newId initId : String}

theorem new_ownK (F : ExcBaseFacts B newId initId bmB) (hT : ∀ X : String, bm.contains (.type X) = bmB.contains (.type X)) {kw : List (Str × Value)}
    (hC : h.get? C = some (excClassObj nm q C N bs bm hdct sn sub ab col dd k0 k1 k2 k3 k5 newId))
    (hq : R (.ok (.ret (.ref (h.objs.size + 1)))) ⟨(h.push { cls := .type "tuple", data := .seq #[] }).push
      { cls := .ref C, data := .fields #[.ref h.objs.size, .none, .none, .none, .bool false, .none] }, g, d, t, os⟩) :
    codeAny (model prog w) A (.builtin newId ⟨[.ref C], kw⟩) R ⟨h, g, d, t, os⟩ := by
  have hends := F.ends
  have hcB : (Value.ref C :: bm).contains (.type B) = true := by rw [List.contains_cons, hT, F.hasB, Bool.or_true]
  have hcA : (Value.ref C :: bm).contains (.type "AttributeError") = false := by rw [List.contains_cons, hT, F.noAttr]; rfl
  have hcN : (Value.ref C :: bm).contains (.type "NameError") = false := by rw [List.contains_cons, hT, F.noName]; rfl
  refine codeAny_builtinAt F.entry ?_
  unfold Builtin.«BaseException.__new__»
  refine wpAt_bind ?_
  show wpAt _ _ _ (stack >>= _) _ _ _
  refine wpAt_bind (wpAt_stack fun p below => wpAt_of_wpAny ?_)
  wp_walk
  refine wpAt_of_wpAny ?_
  rw [F.owner]
  repeat (first | with_reducible refine wpAny_madeHere_exc F.canon hC ?_ | with_reducible refine wpAny_loadPart_at hC ?_ | (with_reducible refine wpAny_isSubtype_exc hC ?_; first | rw [hcB] | rw [hcA] | rw [hcN]) | wp_step)
  show R _ _
  rw [Heap.size_push]
  exact hq

theorem type_call_ownK (F : ExcBaseFacts B newId initId bmB) (hT : ∀ X : String, bm.contains (.type X) = bmB.contains (.type X)) {kw : List (Str × Value)} {fI : Addr} {Q : Fin → Shared → Prop}
    (hC : h.get? C = some (excClassObj nm q C N bs bm hdct sn sub ab col dd k0 k1 k2 k3 k5 newId))
    (hi : W.Looks (model prog w) h (typeLookup (.ref C) "__init__") (some (.ref fI))) (hb : ∀ self, W.Looks (model prog w) h (bindSpecial (.ref fI) self) (.ref fI, [self]))
    (hq : codeAny (model prog w) A (.call (.ref fI) ⟨[.ref (h.objs.size + 1)], kw⟩)
      (fun r s' => match r with | .ok (.ret v) => v = .none ∧ Q (.done (.ret (.ref (h.objs.size + 1)))) s' | .ok _ => False | .error e => E e s')
      ⟨(h.push (W.kdv_tup [])).push (excO C h.objs.size), g, d, t, os⟩) :
    wpAny (model prog w) A (Builtin.«type.__call__» ⟨[.ref C], kw⟩) Q E ⟨h, g, d, t, os⟩ := by
  repeat (first | with_reducible refine wpAny_loadPart_at hC ?_ | with_reducible refine wpAny_madeBy_exc hC ?_ | wp_step)
  refine codeAny_call_builtin_code (Code.quiet_builtin _ F.quiet) (check_newK F hT hC ?_)
  refine new_ownK F hT hC ?_
  show wpAny _ _ _ _ _ _
  have k : ∀ b o, h.get? b = some o → ((h.push (W.kdv_tup [])).push (excO C h.objs.size)).get? b = some o := fun b o e => Heap.get?_push_of_some _ (Heap.get?_push_of_some _ e)
  have hC₁ := k _ _ hC
  have hget : ((h.push (W.kdv_tup [])).push (excO C h.objs.size)).get? (h.objs.size + 1) = some (excO C h.objs.size) := by heap_get
  have hcC : (Value.ref C :: bm).contains (.ref C) = true := by simp
  have i1 := hi.keeps k
  have b1 := (hb (.ref (h.objs.size + 1))).keeps k
  unfold isInstance
  repeat (first | with_reducible refine wpAny_loadPart_at hget ?_ | (with_reducible refine wpAny_isSubtype_exc hC₁ ?_; rw [hcC]) | wp_step)
  show wpAny _ _ (typeLookup (.ref C) _) _ _ _
  refine i1.at ?_
  refine wpAny_holding (wpAny_bind (b1.at ?_))
  refine wpAny_bind (wpAny_call (codeAny_mono hq fun r s' z => ?_))
  rcases r with e | (v | _ | _ | _) <;> first | exact z | exact z.elim | skip
  obtain ⟨rfl, z⟩ := z
  first
    | exact wpAny_pure (wpAny_pure z)
    | (wp_walk; exact z)

theorem call_ownK (F : ExcBaseFacts B newId initId bmB) (hT : ∀ X : String, bm.contains (.type X) = bmB.contains (.type X)) {kw : List (Str × Value)} {fI : Addr}
    (hC : h.get? C = some (excClassObj nm q C N bs bm hdct sn sub ab col dd k0 k1 k2 k3 k5 newId))
    (hi : W.Looks (model prog w) h (typeLookup (.ref C) "__init__") (some (.ref fI))) (hb : ∀ self, W.Looks (model prog w) h (bindSpecial (.ref fI) self) (.ref fI, [self]))
    (hq : codeAny (model prog w) (A.under (.builtin "type.__call__" ⟨[.ref C], kw⟩)) (.call (.ref fI) ⟨[.ref (h.objs.size + 1)], kw⟩) (W.InitBack (h.objs.size + 1) R)
      ⟨(h.push (W.kdv_tup [])).push (excO C h.objs.size), g, d, t, os⟩) :
    codeAny (model prog w) A (.call (.ref C) ⟨[], kw⟩) R ⟨h, g, d, t, os⟩ := by
  have f1 := tc_lookup
  have f2 := tc_bind (.ref C)
  have hTy : (⟨h, g, d, t, os⟩ : Shared).TypeIs (.ref C) "type" := ⟨_, hC, rfl⟩
  refine codeAny_of_tree ?_
  show wpAny _ _ (callAny (.ref C) _) _ _ _
  repeat (any_goals (first | assumption | with_reducible refine wpAny_loadPart_at hC ?_ | wp_step))
  refine ⟨rfl, ?_⟩
  refine codeAny_call_builtin_at (Code.quiet_builtin _ (by decide +kernel)) entry_typeCall (wpAny_check_type_call_sub hC (type_call_ownK F hT hC hi hb ?_))
  refine codeAny_mono hq fun r s' z => ?_
  rcases r with e | (v | _ | _ | _) <;> exact z

end
end OxE
end PySem
end
section
set_option Elab.async false
set_option autoImplicit false
set_option linter.all false
set_option maxRecDepth 100000
set_option maxHeartbeats 4000000
namespace PySem
namespace OxE
open PySem.W PySem.Calls PyProof.Rows PySem.HandSPX
section
variable {prog : Program} {w : World} {A : Around} {E : Value → Shared → Prop} {R : Result → Shared → Prop} {s : Shared} {K : Frag} {mg mb : Str → Option Value} {nm : Str} {fs : List Str} {C fI : Addr}
/-- such an error, made: a new object with its own dict -/
theorem ox_made (T : ExTxt prog K mg nm fs C fI) {args : Args} {us : List Value} (hlen : us.length = fs.length) (hargs : args = ⟨us, []⟩ ∨ args = ⟨[], fs.zip us⟩) (X : K.In s.heap) (G : s.heap.Ns mainGlobals mg) (Bn : s.heap.Ns builtinsNs mb) (hbb : ∀ x : Str, x ≠ "__name__" → mb x = bootBuiltins x) (hlim : s.heap.NoLimit) (hroom : A.depth + 1 < recursionLimit)
    (hq : ∀ h' tk e d t1, (∀ b o, s.heap.get? b = some o → h'.get? b = some o) → s.heap.objs.size ≤ e → h'.get? e = some { cls := .ref C, dict := some d, data := .fields #[.ref t1, .none, .none, .none, .bool false, .none] } → s.heap.objs.size ≤ d → d ≠ e → h'.Ns1 d (fun y => (fs.zip us).reverse.lookup y) → R (.ok (.ret (.ref e))) { s with heap := h', toks := tk }) :
    codeAny (model prog w) A (.call (.ref C) args) R s := by
  obtain ⟨nm', q, N, bs, bm, sn, sub, ab, col, dd, k0, k1, k2, k3, k5, hC, hbm, hal⟩ := T.cls
  have few : us.length ≤ 20 := by
    obtain ⟨_, _, _, _, _, _, _, _, _, _, sc, _, _, _, _, _, _, _, _, _, _, _, _, _, _, _, _, _, _, _, _, _, S, _⟩ := T.fn
    rw [hlen]; exact S.few.2
  have hrest : us.length ≤ sizeLine := by rw [sizeLine_eq]; omega
  obtain ⟨hp, g, dr, tk, os⟩ := s
  -- __init__ over the fresh object
  have main : ∀ (vs : List Value) (A' : Around) (args' : Args), A'.depth < recursionLimit → (args' = ⟨.ref (hp.objs.size + 1) :: us, []⟩ ∨ args' = ⟨[.ref (hp.objs.size + 1)], fs.zip us⟩) →
      codeAny (model prog w) A' (.call (.ref fI) args') (W.InitBack (hp.objs.size + 1) R) ⟨(hp.push (kdv_tup vs)).push (excO C hp.objs.size), g, dr, tk, os⟩ := by
    intro vs A' args' hr ha
    have k : ∀ b o, hp.get? b = some o → ((hp.push (kdv_tup vs)).push (excO C hp.objs.size)).get? b = some o := fun b o e => Heap.get?_push_of_some _ (Heap.get?_push_of_some _ e)
    have hget : ((hp.push (kdv_tup vs)).push (excO C hp.objs.size)).get? (hp.objs.size + 1) = some (excO C hp.objs.size) := by heap_get
    have hnx : K.lookup (hp.objs.size + 1) = none := by
      cases e : K.lookup (hp.objs.size + 1) with
      | none => rfl
      | some o => exact absurd (Nat.lt_of_succ_lt (Heap.lt_size (show hp.get? (hp.objs.size + 1) = some o from X _ _ e))) (Nat.lt_irrefl _)
    refine ox_init (mb := mb) (s := ⟨(hp.push (kdv_tup vs)).push (excO C hp.objs.size), g, dr, tk, os⟩) T hlen ha (X.keeps k) (G.keeps k) (Bn.keeps k) hbb (hlim.keeps k) hget hnx hr fun h' tk' dx t1 D => ?_
    have hsz : ((hp.push (kdv_tup vs)).push (excO C hp.objs.size)).objs.size = hp.objs.size + 1 + 1 := by rw [Heap.size_push, Heap.size_push]
    have big : hp.objs.size ≤ dx := by
      have z := D.dbig
      have z' : ((hp.push (kdv_tup vs)).push (excO C hp.objs.size)).objs.size ≤ dx := z
      rw [hsz] at z'; omega
    exact ⟨rfl, hq h' tk' (hp.objs.size + 1) dx t1 (fun b o e => D.keep b o (Nat.ne_of_lt (Nat.lt_succ_of_lt (Heap.lt_size e))) (k b o e)) (Nat.le_succ _) D.obj big D.dne D.ns⟩
  rcases hargs with e | e
  · subst e
    exact call_own F.excBase_ValueError (fun Y => refsVE_contains Y bm hbm) (X _ _ hC) (looks_findIn X T.iC) (fun self => bind_fn X self T.tC) hrest (main us _ _ (by show A.depth + 1 < _; exact hroom) (.inl rfl))
  · subst e
    exact call_ownK F.excBase_ValueError (fun Y => refsVE_contains Y bm hbm) (X _ _ hC) (looks_findIn X T.iC) (fun self => bind_fn X self T.tC) (main [] _ _ (by show A.depth + 1 < _; exact hroom) (.inr rfl))
end
end OxE
end PySem
namespace L2
open PySem PySem.Spec PyProof.Rows PySem.OxE
theorem relO_zip : ∀ {fs : List Str} {vs : List V} {us : List Value}, Vals vs us → ∀ f, RelO ((fs.zip vs).lookup f) ((fs.zip us).lookup f)
  | [], _, _, _, _ => True.intro
  | _ :: _, _, _, .nil, _ => True.intro
  | g :: fs, _, _, .cons r t, f => by
    rw [List.zip_cons_cons, List.zip_cons_cons]
    by_cases h : f = g
    · subst h; simp only [List.lookup, beq_self_eq_true]; exact r
    · have e : (f == g) = false := by simpa using h
      simp only [List.lookup, e]; exact relO_zip t f
theorem relO_kv : ∀ {l : List (Str × V)} {m : List (Str × Value)}, Paired (fun (p : Str × V) (q : Str × Value) => p.1 = q.1 ∧ RelV p.2 q.2) l m → ∀ f, RelO (l.lookup f) (m.lookup f)
  | _, _, .nil, _ => True.intro
  | (g, v) :: l, (g', u) :: m, .cons r t, f => by
    obtain ⟨e, r⟩ := r
    obtain rfl : g = g' := e
    by_cases h : f = g
    · subst h; simp only [List.lookup, beq_self_eq_true]; exact r
    · have e : (f == g) = false := by simpa using h
      simp only [List.lookup, e]; exact relO_kv t f
theorem paired_snoc {α β : Type} {F : α → β → Prop} : ∀ {l : List α} {m : List β} {a : α} {b : β}, Paired F l m → F a b → Paired F (l ++ [a]) (m ++ [b])
  | _, _, _, _, .nil, h => .cons h .nil
  | _, _, _, _, .cons r t, h => .cons r (paired_snoc t h)
theorem paired_rev {α β : Type} {F : α → β → Prop} : ∀ {l : List α} {m : List β}, Paired F l m → Paired F l.reverse m.reverse
  | _, _, .nil => .nil
  | _, _, .cons r t => by rw [List.reverse_cons, List.reverse_cons]; exact paired_snoc (paired_rev t) r
theorem paired_zip : ∀ {fs : List Str} {vs : List V} {us : List Value}, Vals vs us → Paired (fun (p : Str × V) (q : Str × Value) => p.1 = q.1 ∧ RelV p.2 q.2) (fs.zip vs) (fs.zip us)
  | [], _, _, _ => .nil
  | _ :: _, _, _, .nil => .nil
  | _ :: _, _, _, .cons r t => .cons ⟨rfl, r⟩ (paired_zip t)
/-- the fields of a made error, as they stand in its dict -/
def exF (fs : List Str) (vs : List V) : List (Str × V) := (fs.zip vs).reverse
theorem relO_exF {fs : List Str} {vs : List V} {us : List Value} (r : Vals vs us) (f : Str) : RelO ((exF fs vs).lookup f) ((fs.zip us).reverse.lookup f) := relO_kv (paired_rev (paired_zip r)) f
/-- what is read off an error of the class at C -/
structure ExRd (K : PySem.W.Frag) (C : Addr) : Prop where
  ga : PySem.W.findIn K (.ref C) "__getattribute__" = some (some (.builtin "BaseException.__getattribute__"))
  gg : PySem.W.findIn K (.ref C) "__getattr__" = some none
  exC : PySem.W.subIn K (.ref C) (.type "BaseException") = some true
  hdC : PySem.W.hasDictIn K C = true
theorem _root_.PySem.OxE.ExTxt.rd {P : Program} {K : PySem.W.Frag} {mg : Str → Option Value} {nm : Str} {fs : List Str} {C fI : Addr} (T : ExTxt P K mg nm fs C fI) : ExRd K C := ⟨T.ga, T.gg, T.exC, T.hdC⟩
section
variable {X : Cx} {nm : Str} {fs : List Str} {C fI : Addr} {e : Expr} {es : List Expr} {ta : TA} {p pos : Pos}
/-- C(e, ..) as a value: a new error at e, its dict at d -/
def tOx (C : Addr) (fs : List Str) (ta : TA) : TE := fun σ H Q => ta σ H fun vs H1 => vs.length = fs.length ∧ ∀ e d, H1 e = none → H1 d = none → d ≠ e → Q (.ref e) (upd (upd H1 d (exd d (exF fs vs))) e (exo e C (some d)))
theorem ox_laid {pins : List (Addr × Obj)} {σ : St} {H1 : Hp} {us : List Value} {vs : List V} {hp h' : Heap} {g : Array GenState} {dr : Drawn} {tk tk' : Nat} {os : OsState} {e d t1 : Addr} (I1 : Inv X pins σ H1 ⟨hp, g, dr, tk, os⟩) (r : Vals vs us)
    (k : ∀ b o, hp.get? b = some o → h'.get? b = some o) (he : hp.objs.size ≤ e) (ho : h'.get? e = some { cls := .ref C, dict := some d, data := .fields #[.ref t1, .none, .none, .none, .bool false, .none] }) (hd : hp.objs.size ≤ d) (hde : d ≠ e) (hn : h'.Ns1 d (fun y => (fs.zip us).reverse.lookup y)) :
    Inv X pins σ (upd (upd H1 d (exd d (exF fs vs))) e (exo e C (some d))) ⟨h', g, dr, tk', os⟩ := by
  have n1 : H1 d = none := I1.hok.fresh hd
  have n2 : H1 e = none := I1.hok.fresh he
  refine I1.un (t' := tk') ⟨fun b o q n _ _ => k b o q, fun b o q n _ _ => ⟨o.slots, k b o q⟩, fun b o q n _ => ?_, fun b o q _ => ⟨o, k b o q⟩, fun b xs q => ?_, fun b o u q => ?_, fun b ps q => ⟨#[], ?_⟩⟩ fun b o q => ?_
  · rw [upd_ne (Nat.ne_of_lt (Nat.lt_of_lt_of_le (Heap.lt_size q) he)), upd_ne (Nat.ne_of_lt (Nat.lt_of_lt_of_le (Heap.lt_size q) hd))]; exact n
  · rw [upd_ne (ne_of_none q n2), upd_ne (ne_of_none q n1)]; exact q
  · rw [upd_ne (ne_of_none q n2), upd_ne (ne_of_none q n1)]; exact q
  · rw [upd_ne (ne_of_none q n2), upd_ne (ne_of_none q n1), q]; simp
  · by_cases hb : b = e
    · subst hb; rw [upd_same] at q; cases q; exact exo_ok ho
    · rw [upd_ne hb] at q
      by_cases hb2 : b = d
      · subst hb2; rw [upd_same] at q; cases q; exact exd_ok hn (relO_exF r)
      · rw [upd_ne hb2] at q
        exact (I1.hok b o q).stay (fun c v _ z => k c v z) (fun c hc => by rw [upd_ne (ne_of_none hc n2), upd_ne (ne_of_none hc n1)]; exact hc) fun c xs hc => by rw [upd_ne (ne_of_none hc n2), upd_ne (ne_of_none hc n1)]; exact hc
theorem ox_mod {pins : List (Addr × Obj)} {σ : St} {H : Hp} {s : Shared} (I : Inv X pins σ H s) : ∃ mb, s.heap.Ns mainGlobals X.mg ∧ s.heap.Ns builtinsNs mb ∧ ∀ x : Str, x ≠ "__name__" → mb x = bootBuiltins x := by
  obtain ⟨mb, h1, h2⟩ := I.mod.blt
  exact ⟨mb, I.mod.glob.keeps I.bk, h1.keeps I.bk, h2⟩
theorem pe_ox {k : Nat} (T : ExTxt X.prog X.K X.mg nm fs C fI) (hr : Room k X.A) (hg : Gl X nm) (ha : PA X (e :: es) ta)
    (he : starEach (e :: es) X.env = (false, eval e X.env) :: starEach es X.env := by rfl) (hpl : (backTo pos (starEach es X.env)).any (·.1) = false := by rfl) : PE X (.Call (.Name nm p) (e :: es) [] pos) (tOx C fs ta) := by
  refine ⟨fun pins s σ H Q I h => ?_⟩
  refine wpAny_Call_Name_kw (ld_glob I hg T.gC ?_ T.nmd)
  refine PySem.W.callWith_K (h₀ := X.base) I.ok.mod.kin T.kC (thn (ha.run pos pins s σ H _ I h) fun us s1 ⟨vs, H1, I1, r1, hl, q1⟩ => ⟨I1.kIn, ?_⟩) he hpl
  show wpAny _ _ (call (.ref C) us) _ _ _
  obtain ⟨mb, hg1, hb1, hbb⟩ := ox_mod I1
  have hlim := I1.nolimit
  obtain ⟨hp, g, dr, tk, os⟩ := s1
  refine wpAny_call (ox_made T (us := us) (by rw [← r1.length]; exact hl) (.inl rfl) I1.kIn hg1 hb1 hbb hlim (by have := hr.dp; omega) fun h' tk' e d t1 k2 he' ho hd hde hn => ?_)
  exact ⟨.ref e, _, ox_laid I1 r1 k2 he' ho hd hde hn, rfl, q1 e d (I1.hok.fresh he') (I1.hok.fresh hd) hde⟩
/-- C(f = e, ..): every field by its name, in order -/
theorem pe_oxK {k : Nat} {kws : List Keyword} (T : ExTxt X.prog X.K X.mg nm fs C fI) (hr : Room k X.A) (hg : Gl X nm) (hkw : PK X kws ta)
    (hall : (backToKw pos (keywordEach kws X.env)).all (·.1.isSome) = true := by rfl) (hks : (backToKw pos (keywordEach kws X.env)).filterMap (·.1) = fs := by rfl)
    (hpl : ((backTo pos (starEach [] X.env)).any (·.1) || (backToKw pos (keywordEach kws X.env)).any (·.1.isNone)) = false := by rfl) : PE X (.Call (.Name nm p) [] kws pos) (tOx C fs ta) := by
  refine ⟨fun pins s σ H Q I h => ?_⟩
  refine wpAny_Call_Name_kw (ld_glob I hg T.gC ?_ T.nmd)
  refine PySem.W.callWith_KW0 (h₀ := X.base) I.ok.mod.kin T.kC hall ?_ hpl
  refine thn (hkw.run pos pins s σ H _ I h) fun us s1 ⟨vs, H1, I1, r1, hl, q1⟩ => ⟨I1.kIn, ?_⟩
  rw [hks]
  obtain ⟨mb, hg1, hb1, hbb⟩ := ox_mod I1
  have hlim := I1.nolimit
  obtain ⟨hp, g, dr, tk, os⟩ := s1
  refine wpAny_call (ox_made T (us := us) (by rw [← r1.length]; exact hl) (.inr rfl) I1.kIn hg1 hb1 hbb hlim (by have := hr.dp; omega) fun h' tk' e d t1 k2 he' ho hd hde hn => ?_)
  exact ⟨.ref e, _, ox_laid I1 r1 k2 he' ho hd hde hn, rfl, q1 e d (I1.hok.fresh he') (I1.hok.fresh hd) hde⟩
/-- raise C(e, ..) -/
def tMkOx (C : Addr) (fs : List Str) (ta : TA) : St → Hp → XK → Prop := fun σ H Q => ta σ H fun vs H1 => vs.length = fs.length ∧ ∀ d : Addr, H1 d = none → Q (.ref C) (some d) (upd H1 d (.xd (exF fs vs)))
theorem pmk_ox {k : Nat} (T : ExTxt X.prog X.K X.mg nm fs C fI) (hr : Room k X.A) (hg : Gl X nm) (ha : PA X (e :: es) ta)
    (he : starEach (e :: es) X.env = (false, eval e X.env) :: starEach es X.env := by rfl) (hpl : (backTo pos (starEach es X.env)).any (·.1) = false := by rfl) : PMk X (.Call (.Name nm p) (e :: es) [] pos) (tMkOx C fs ta) := by
  intro pins s σ H Q I h
  refine wpAny_Call_Name_kw (ld_glob I hg T.gC ?_ T.nmd)
  refine PySem.W.callWith_K (h₀ := X.base) I.ok.mod.kin T.kC (thn (ha.run pos pins s σ H _ I h) fun us s1 ⟨vs, H1, I1, r1, hl, q1⟩ => ⟨I1.kIn, ?_⟩) he hpl
  show wpAny _ _ (call (.ref C) us) _ _ _
  obtain ⟨mb, hg1, hb1, hbb⟩ := ox_mod I1
  have hlim := I1.nolimit
  obtain ⟨hp, g, dr, tk, os⟩ := s1
  refine wpAny_call (ox_made T (us := us) (by rw [← r1.length]; exact hl) (.inl rfl) I1.kIn hg1 hb1 hbb hlim (by have := hr.dp; omega) fun h' tk' e d t1 k2 he' ho hd hde hn => ?_)
  show MkP X pins σ Q (.ref e) ⟨h', g, dr, tk', os⟩
  obtain ⟨G', g1, g2⟩ := restrict h' fun b => decide (b ≠ e)
  have gk : ∀ b, b ≠ e → G'.get? b = h'.get? b := fun b hb => g1 b (decide_eq_true hb)
  have ge : G'.get? e = none := g2 e (by simp)
  have old : ∀ b o, hp.get? b = some o → G'.get? b = some o := fun b o q => (gk b (Nat.ne_of_lt (Nat.lt_of_lt_of_le (Heap.lt_size q) he'))).trans (k2 b o q)
  have J : Inv X pins σ (upd H1 d (.xd (exF fs vs))) ⟨G', g, dr, tk', os⟩ := I1.laid (t' := tk') old hd ⟨_, hn.at (fun o q => (gk d hde).trans q), relO_exF r1⟩
  refine ⟨e, _, _, ⟨G', g, dr, tk', os⟩, _, .ref C, some d, rfl, J, fun b o q => ?_, ge, ho, ⟨rfl, rfl⟩, rfl, rfl, ?_, rfl, I1.bare, raises_own T.exC T.tyC, q1 d (I1.hok.fresh hd)⟩
  · by_cases hb : b = e
    · rw [hb, show (⟨G', g, dr, tk', os⟩ : Shared).heap.get? e = none from ge] at q; cases q
    · exact (gk b hb).symm.trans q
  · rw [upd_ne (Ne.symm hde)]; exact I1.hok.fresh he'
def tRaiseOx (C : Addr) (fs : List Str) (W : WX) (ta : TA) : TS := fun _ σ H => tMkOx C fs ta σ H fun cls d H' => W cls d σ H'
theorem ps_raiseOx {W : WX} {k : Nat} {pos2 : Pos} (hc : X.calm = true) (T : ExTxt X.prog X.K X.mg nm fs C fI) (hr : Room k X.A) (tk : Takes X W) (hg : Gl X nm) (ha : PA X (e :: es) ta)
    (he : starEach (e :: es) X.env = (false, eval e X.env) :: starEach es X.env := by rfl) (hpl : (backTo pos (starEach es X.env)).any (·.1) = false := by rfl) :
    PS X (.Raise (some (.Call (.Name nm p) (e :: es) [] pos)) none pos2) (tRaiseOx C fs W ta) := ps_raise hc tk (pmk_ox T hr hg ha he hpl)
end
section
variable {X : Cx} {e : Expr} {te : TE} {f : Str} {pos : Pos}
/-- x.f, x an error that is held as a value -/
def tOxF (K : PySem.W.Frag) (f : Str) (te : TE) : TE := fun σ H Q => te σ H fun x H1 => ∃ (a C d : Addr) (fv : List (Str × V)) (v : V), x = .ref a ∧ H1 a = some (exo a C (some d)) ∧ H1 d = some (exd d fv) ∧ ExRd K C ∧ PySem.W.findIn K (.ref C) f = some none ∧ fv.lookup f = some v ∧ Q v H1
theorem pe_oxF (he : PE X e te) (hb : attributeBase e f X.env (eval e X.env) = eval e X.env) : PE X (.Attribute e f pos) (tOxF X.K f te) := by
  refine ⟨fun pins s σ H Q I h => ?_⟩
  refine attr_of hb (thn (he.run pins s σ H _ I h) fun u s1 ⟨x, H1, I1, rx, a, C, d, fv, v, ex, ea, ed, T, hno, hl, q⟩ => ?_)
  subst ex
  obtain rfl : u = Value.ref a := rx
  obtain ⟨t1, ho⟩ := exo_at I1.hok ea
  obtain ⟨mA, hns, hr⟩ := exd_at I1.hok ed
  obtain ⟨od, hod, hlk⟩ := lookIn_ns hns
  obtain ⟨u, hu, ru⟩ := RelO.some_of (v := v) (o := mA f) (by rw [← hl]; exact hr f)
  have J : PySem.W.InstAt s1.heap a _ C (some od) := ⟨ho, rfl, rfl, hod⟩
  exact PySem.HandSPX.exc_get I1.kIn J T.ga T.gg T.exC (PySem.W.findObj_own T.hdC hno rfl (by rw [hlk, hu])) (handed_of ru) ⟨v, H1, I1.tok _, ru, q⟩
/-- isinstance(x, c), x an error that is held as a value -/
structure ExIs (K : PySem.W.Frag) (C : Addr) : Prop where
  rd : ExRd K C
  cl : (PySem.W.clsIn K C).isSome = true
  ha : PySem.W.findIn K (.ref C) "__class__" = some (some (.builtin "object.__class__"))
  hn : PySem.W.specialIn K (.builtin "object.__class__") "__get__" = some (some (.builtin "getset_descriptor.__get__"))
  ht : PySem.W.takesIn K (.builtin "object.__class__") = some true
  hm : PySem.W.mroIn K C (.type "object") = some true
def rIsOx (K : PySem.W.Frag) : List V → Hp → VK → Prop := fun xs H Q => ∃ (a C d : Addr) (fv : List (Str × V)) (c : V) (cv : Value) (b : Bool), xs = [.ref a, c] ∧ H a = some (exo a C (some d)) ∧ H d = some (exd d fv) ∧ ExIs K C ∧ (∀ u, RelV c u → u = cv) ∧ PySem.W.kitOne K (.ref C) cv = some b ∧ Q (.bl b) H
theorem call_isOx : CallR X (.builtin "isinstance") (rIsOx X.K) := by
  intro pins s σ H xs us Q I r h
  obtain ⟨a, C, d, fv, c, cv, b, rfl, ea, ed, T, hcv, e, q⟩ := h
  cases r with
  | cons rx rr =>
    cases rr with
    | cons rt rr =>
      cases rr
      cases rx
      have ec := hcv _ rt
      subst ec
      obtain ⟨t1, ho⟩ := exo_at I.hok ea
      obtain ⟨mA, hns, hr⟩ := exd_at I.hok ed
      obtain ⟨od, hod, hlk⟩ := lookIn_ns hns
      have J : PySem.W.InstAt s.heap a _ C (some od) := ⟨ho, rfl, rfl, hod⟩
      exact PySem.W.kia_one (PySem.W.kitx_exc T.cl T.rd.ga T.rd.gg T.rd.exC T.ha T.hn T.ht T.hm) I.kIn J e (fun z => nomatch z) fun tk => ⟨.bl b, H, I.kept (t' := tk) fun _ _ z => z, rfl, q⟩
/-- n.f, n the error that the suite holds (at a; its class cls, its dict d) -/
def tByOx (K : PySem.W.Frag) (f : Str) (a : Addr) (cls : Value) (d : Option Addr) (te : TE) : TE := fun σ H Q => te σ H fun x H1 => x = .ref a ∧ ∃ (C dd : Addr) (fv : List (Str × V)) (v : V), cls = .ref C ∧ d = some dd ∧ H1 dd = some (.xd fv) ∧ ExRd K C ∧ PySem.W.findIn K (.ref C) f = some none ∧ fv.lookup f = some v ∧ Q v H1
theorem pe_byOx {a : Addr} {oe : Obj} {cls : Value} {d : Option Addr} {pn : List (Addr × Obj)} (hz : Zc cls d oe) (hf : ∃ vs, oe.data = .fields vs) (he : PE (X.suite a ((a, oe) :: pn)) e te)
    (hb : attributeBase e f X.env (eval e X.env) = eval e X.env := by rfl) : PE (X.suite a ((a, oe) :: pn)) (.Attribute e f pos) (tByOx X.K f a cls d te) := by
  refine ⟨fun pins s σ H Q I h => ?_⟩
  refine attr_of hb (thn (he.run pins s σ H _ I h) fun u s1 ⟨x, H1, I1, rx, ex, C, dd, fv, v, ec, ed, ea, T, hno, hl, q⟩ => ?_)
  subst ex
  obtain rfl : u = Value.ref a := rx
  subst ec ed
  obtain ⟨ha, _⟩ := I1.pin (a, oe) (List.mem_append_left _ List.mem_cons_self)
  obtain ⟨vs, hd⟩ := hf
  obtain ⟨mA, hns, hr⟩ := (show ObjOk X.prog X.w H1 s1.heap dd (.xd fv) from I1.hok dd _ ea)
  obtain ⟨od, ho, hlk⟩ := lookIn_ns hns
  obtain ⟨u, hu, ru⟩ := RelO.some_of (v := v) (o := mA f) (by rw [← hl]; exact hr f)
  have J : PySem.W.InstAt s1.heap a oe C (some od) := ⟨ha, hz.1, by unfold PySem.W.notCls; rw [hd] <;> rfl, by rw [hz.2]; exact ho⟩
  exact PySem.HandSPX.exc_get I1.kIn J T.ga T.gg T.exC (PySem.W.findObj_own T.hdC hno rfl (by rw [hlk, hu])) (handed_of ru) ⟨v, H1, I1.tok _, ru, q⟩
end
end L2
end
section
set_option Elab.async false
set_option autoImplicit false
set_option linter.all false
set_option maxRecDepth 100000
set_option maxHeartbeats 4000000
namespace PySem
namespace OxE
open PySem.W PySem.Calls PyProof.Rows PySem.HandSPX
theorem sig_symbol {p0 p1 : Pos} : OxSig ["symbol"] { posonlyargs := [], args := [{ arg := "self", annotation := none, pos := p0 }, { arg := "symbol", annotation := none, pos := p1 }], vararg := none, kwonlyargs := [], kw_defaults := [], kwarg := none, defaults := [] }
    { kind := .function, names := [(PySem.Str.ofString "self", .local), (PySem.Str.ofString "symbol", .local), (PySem.Str.ofString "__class__", .free), (PySem.Str.ofString "super", .globalImplicit)], isGenerator := false, isCoroutine := false, more := [] } where
  kind := rfl
  co := rfl
  gen := rfl
  ncell := by decide +kernel
  hd := rfl
  lself := by decide +kernel
  lf := by decide +kernel
  lsup := by decide +kernel
  lcls := by decide +kernel
  nself := by decide +kernel
  ndbg := by decide +kernel
  nd := by decide +kernel
  few := by decide
  bnd := fun q body doc pm cdv ct an cc a vs hl => match vs, hl with | [_], _ => rfl
  bndK := fun q body doc pm cdv ct an cc a vs hl => match vs, hl with | [_], _ => rfl
  sw := fun q txt q0 q1 q2 q3 q4 L fI cc cd n => rfl
theorem sig_row {p0 p1 : Pos} : OxSig ["row"] { posonlyargs := [], args := [{ arg := "self", annotation := none, pos := p0 }, { arg := "row", annotation := none, pos := p1 }], vararg := none, kwonlyargs := [], kw_defaults := [], kwarg := none, defaults := [] }
    { kind := .function, names := [(PySem.Str.ofString "self", .local), (PySem.Str.ofString "row", .local), (PySem.Str.ofString "__class__", .free), (PySem.Str.ofString "super", .globalImplicit)], isGenerator := false, isCoroutine := false, more := [] } where
  kind := rfl
  co := rfl
  gen := rfl
  ncell := by decide +kernel
  hd := rfl
  lself := by decide +kernel
  lf := by decide +kernel
  lsup := by decide +kernel
  lcls := by decide +kernel
  nself := by decide +kernel
  ndbg := by decide +kernel
  nd := by decide +kernel
  few := by decide
  bnd := fun q body doc pm cdv ct an cc a vs hl => match vs, hl with | [_], _ => rfl
  bndK := fun q body doc pm cdv ct an cc a vs hl => match vs, hl with | [_], _ => rfl
  sw := fun q txt q0 q1 q2 q3 q4 L fI cc cd n => rfl
theorem sig_what {p0 p1 : Pos} : OxSig ["what"] { posonlyargs := [], args := [{ arg := "self", annotation := none, pos := p0 }, { arg := "what", annotation := none, pos := p1 }], vararg := none, kwonlyargs := [], kw_defaults := [], kwarg := none, defaults := [] }
    { kind := .function, names := [(PySem.Str.ofString "self", .local), (PySem.Str.ofString "what", .local), (PySem.Str.ofString "__class__", .free), (PySem.Str.ofString "super", .globalImplicit)], isGenerator := false, isCoroutine := false, more := [] } where
  kind := rfl
  co := rfl
  gen := rfl
  ncell := by decide +kernel
  hd := rfl
  lself := by decide +kernel
  lf := by decide +kernel
  lsup := by decide +kernel
  lcls := by decide +kernel
  nself := by decide +kernel
  ndbg := by decide +kernel
  nd := by decide +kernel
  few := by decide
  bnd := fun q body doc pm cdv ct an cc a vs hl => match vs, hl with | [_], _ => rfl
  bndK := fun q body doc pm cdv ct an cc a vs hl => match vs, hl with | [_], _ => rfl
  sw := fun q txt q0 q1 q2 q3 q4 L fI cc cd n => rfl
theorem sig_half {p0 p1 : Pos} : OxSig ["half"] { posonlyargs := [], args := [{ arg := "self", annotation := none, pos := p0 }, { arg := "half", annotation := none, pos := p1 }], vararg := none, kwonlyargs := [], kw_defaults := [], kwarg := none, defaults := [] }
    { kind := .function, names := [(PySem.Str.ofString "self", .local), (PySem.Str.ofString "half", .local), (PySem.Str.ofString "__class__", .free), (PySem.Str.ofString "super", .globalImplicit)], isGenerator := false, isCoroutine := false, more := [] } where
  kind := rfl
  co := rfl
  gen := rfl
  ncell := by decide +kernel
  hd := rfl
  lself := by decide +kernel
  lf := by decide +kernel
  lsup := by decide +kernel
  lcls := by decide +kernel
  nself := by decide +kernel
  ndbg := by decide +kernel
  nd := by decide +kernel
  few := by decide
  bnd := fun q body doc pm cdv ct an cc a vs hl => match vs, hl with | [_], _ => rfl
  bndK := fun q body doc pm cdv ct an cc a vs hl => match vs, hl with | [_], _ => rfl
  sw := fun q txt q0 q1 q2 q3 q4 L fI cc cd n => rfl
theorem sig_number {p0 p1 : Pos} : OxSig ["number"] { posonlyargs := [], args := [{ arg := "self", annotation := none, pos := p0 }, { arg := "number", annotation := none, pos := p1 }], vararg := none, kwonlyargs := [], kw_defaults := [], kwarg := none, defaults := [] }
    { kind := .function, names := [(PySem.Str.ofString "self", .local), (PySem.Str.ofString "number", .local), (PySem.Str.ofString "__class__", .free), (PySem.Str.ofString "super", .globalImplicit)], isGenerator := false, isCoroutine := false, more := [] } where
  kind := rfl
  co := rfl
  gen := rfl
  ncell := by decide +kernel
  hd := rfl
  lself := by decide +kernel
  lf := by decide +kernel
  lsup := by decide +kernel
  lcls := by decide +kernel
  nself := by decide +kernel
  ndbg := by decide +kernel
  nd := by decide +kernel
  few := by decide
  bnd := fun q body doc pm cdv ct an cc a vs hl => match vs, hl with | [_], _ => rfl
  bndK := fun q body doc pm cdv ct an cc a vs hl => match vs, hl with | [_], _ => rfl
  sw := fun q txt q0 q1 q2 q3 q4 L fI cc cd n => rfl
theorem sig_word {p0 p1 : Pos} : OxSig ["word"] { posonlyargs := [], args := [{ arg := "self", annotation := none, pos := p0 }, { arg := "word", annotation := none, pos := p1 }], vararg := none, kwonlyargs := [], kw_defaults := [], kwarg := none, defaults := [] }
    { kind := .function, names := [(PySem.Str.ofString "self", .local), (PySem.Str.ofString "word", .local), (PySem.Str.ofString "__class__", .free), (PySem.Str.ofString "super", .globalImplicit)], isGenerator := false, isCoroutine := false, more := [] } where
  kind := rfl
  co := rfl
  gen := rfl
  ncell := by decide +kernel
  hd := rfl
  lself := by decide +kernel
  lf := by decide +kernel
  lsup := by decide +kernel
  lcls := by decide +kernel
  nself := by decide +kernel
  ndbg := by decide +kernel
  nd := by decide +kernel
  few := by decide
  bnd := fun q body doc pm cdv ct an cc a vs hl => match vs, hl with | [_], _ => rfl
  bndK := fun q body doc pm cdv ct an cc a vs hl => match vs, hl with | [_], _ => rfl
  sw := fun q txt q0 q1 q2 q3 q4 L fI cc cd n => rfl
theorem sig_name {p0 p1 : Pos} : OxSig ["name"] { posonlyargs := [], args := [{ arg := "self", annotation := none, pos := p0 }, { arg := "name", annotation := none, pos := p1 }], vararg := none, kwonlyargs := [], kw_defaults := [], kwarg := none, defaults := [] }
    { kind := .function, names := [(PySem.Str.ofString "self", .local), (PySem.Str.ofString "name", .local), (PySem.Str.ofString "__class__", .free), (PySem.Str.ofString "super", .globalImplicit)], isGenerator := false, isCoroutine := false, more := [] } where
  kind := rfl
  co := rfl
  gen := rfl
  ncell := by decide +kernel
  hd := rfl
  lself := by decide +kernel
  lf := by decide +kernel
  lsup := by decide +kernel
  lcls := by decide +kernel
  nself := by decide +kernel
  ndbg := by decide +kernel
  nd := by decide +kernel
  few := by decide
  bnd := fun q body doc pm cdv ct an cc a vs hl => match vs, hl with | [_], _ => rfl
  bndK := fun q body doc pm cdv ct an cc a vs hl => match vs, hl with | [_], _ => rfl
  sw := fun q txt q0 q1 q2 q3 q4 L fI cc cd n => rfl
theorem sig_at {p0 p1 : Pos} : OxSig ["at"] { posonlyargs := [], args := [{ arg := "self", annotation := none, pos := p0 }, { arg := "at", annotation := none, pos := p1 }], vararg := none, kwonlyargs := [], kw_defaults := [], kwarg := none, defaults := [] }
    { kind := .function, names := [(PySem.Str.ofString "self", .local), (PySem.Str.ofString "at", .local), (PySem.Str.ofString "__class__", .free), (PySem.Str.ofString "super", .globalImplicit)], isGenerator := false, isCoroutine := false, more := [] } where
  kind := rfl
  co := rfl
  gen := rfl
  ncell := by decide +kernel
  hd := rfl
  lself := by decide +kernel
  lf := by decide +kernel
  lsup := by decide +kernel
  lcls := by decide +kernel
  nself := by decide +kernel
  ndbg := by decide +kernel
  nd := by decide +kernel
  few := by decide
  bnd := fun q body doc pm cdv ct an cc a vs hl => match vs, hl with | [_], _ => rfl
  bndK := fun q body doc pm cdv ct an cc a vs hl => match vs, hl with | [_], _ => rfl
  sw := fun q txt q0 q1 q2 q3 q4 L fI cc cd n => rfl
theorem sig_kind_lengths_moves {p0 p1 p2 p3 : Pos} : OxSig ["kind", "lengths", "moves"] { posonlyargs := [], args := [{ arg := "self", annotation := none, pos := p0 }, { arg := "kind", annotation := none, pos := p1 }, { arg := "lengths", annotation := none, pos := p2 }, { arg := "moves", annotation := none, pos := p3 }], vararg := none, kwonlyargs := [], kw_defaults := [], kwarg := none, defaults := [] }
    { kind := .function, names := [(PySem.Str.ofString "self", .local), (PySem.Str.ofString "kind", .local), (PySem.Str.ofString "lengths", .local), (PySem.Str.ofString "moves", .local), (PySem.Str.ofString "__class__", .free), (PySem.Str.ofString "super", .globalImplicit)], isGenerator := false, isCoroutine := false, more := [] } where
  kind := rfl
  co := rfl
  gen := rfl
  ncell := by decide +kernel
  hd := rfl
  lself := by decide +kernel
  lf := by decide +kernel
  lsup := by decide +kernel
  lcls := by decide +kernel
  nself := by decide +kernel
  ndbg := by decide +kernel
  nd := by decide +kernel
  few := by decide
  bnd := fun q body doc pm cdv ct an cc a vs hl => match vs, hl with | [_, _, _], _ => rfl
  bndK := fun q body doc pm cdv ct an cc a vs hl => match vs, hl with | [_, _, _], _ => rfl
  sw := fun q txt q0 q1 q2 q3 q4 L fI cc cd n => rfl
theorem exTxt_mk {P : Program} {K : Frag} {mg : Str → Option Value} {nm : Str} {fs : List Str} {C fI : Addr} {h : Heap} (X : K.In h) (G : h.Ns mainGlobals mg)
    {nm' q q2 txt : Str} {N cda cc : Addr} {bs bm : List Value} {sn : List Str} {sub : List Value} {ab : Bool} {col : Option Bool} {dd od an cdd cld : Option Addr} {k0 k1 k2 k3 k5 : Option Value} {oc doc pm ct ccl cl : Value} {osl ccs csl : Array (Option Value)} {params : Arguments} {sc : Scope} {q0 q1 q2' q3 q4 q5 : Pos} {asgs : List Stmt} {vs : Array Value} {file : Str} {tf : Tok}
    (nmd : (nm == ("__debug__" : Str)) = false)
    (aC : nsIn K mainGlobals nm = some (some (.ref C)))
    (lC : K.lookup C = some (excClassObj nm' q C N bs bm true sn sub ab col dd k0 k1 k2 k3 k5 "ValueError.__new__"))
    (iC : findIn K (.ref C) "__init__" = some (some (.ref fI)))
    (lF : K.lookup fI = some ⟨oc, od, .func (ksFn "__init__" q2 params (oxSup txt q0 q1 q2' q3 q4 q5 :: asgs) sc .none .none doc pm an (.ref cda) ct cc), osl⟩)
    (lD : K.lookup cda = some ⟨ccl, cdd, .fields vs, ccs⟩)
    (lc : K.lookup cc = some ⟨cl, cld, .cell (some (.ref C)), csl⟩)
    (hvs : vs[2]? = some (.str file tf))
    (hfile : ((P.main.file : Str) == file) = true)
    (cF : codeIn K (.ref cda) q2 = true)
    (ln : (q2'.endLine == q4.line) = true) (sig : OxSig fs params sc) (as : Asgs fs asgs)
    (rv : refsVE bm = true)
    (al : alongIn K "__init__" (((Value.ref C :: bm).dropWhile (· != .ref C)).drop 1) = some (some (.builtin "ValueError.__init__")))
    (sa : findIn K (.ref C) "__setattr__" = some (some (.builtin "object.__setattr__"))) (ga : findIn K (.ref C) "__getattribute__" = some (some (.builtin "BaseException.__getattribute__"))) (gg : findIn K (.ref C) "__getattr__" = some none)
    (nn : (fs.all fun f => findIn K (.ref C) f == some none) = true)
    (tC : typeIn K (.ref fI) = some (.type "function")) (kC : keepIn K (.ref C) = true) (exC : subIn K (.ref C) (.type "BaseException") = some true) (veC : subIn K (.ref C) (.type "ValueError") = some true) (slC : mroIn K C (.ref C) = some true)
    (tyC : typeIn K (.ref C) = some (.type "type")) (hdC : hasDictIn K C = true) (sup : nsIn K mainGlobals "super" = some none) (tp : nsIn K cStatics "thirdparty.any" = some none) (top : (P.main.scope.names.lookup ("super" : Str)).isSome = false) : ExTxt P K mg nm fs C fI where
  gC := mg_of X G aC
  nmd := nmd
  cls := ⟨nm', q, N, bs, bm, sn, sub, ab, col, dd, k0, k1, k2, k3, k5, lC, rv, al⟩
  sa := sa
  ga := ga
  gg := gg
  noN := fun f hf => beq_iff_eq.mp (List.all_eq_true.mp nn f hf)
  iC := iC
  tC := tC
  kC := kC
  exC := exC
  veC := veC
  slC := slC
  tyC := tyC
  hdC := hdC
  fn := ⟨oc, od, doc, pm, an, ct, osl, q2, txt, params, sc, q0, q1, q2', q3, q4, q5, asgs, cda, cc, ccl, cl, cdd, cld, vs, ccs, csl, file, tf, lF, cF, ln, sig, as, lD, hvs, hfile, lc⟩
  sup := mg_none_of X G sup
  tp := tp
  top := top
end OxE
end PySem
end
section
set_option Elab.async false
set_option autoImplicit false
set_option linter.all false
set_option maxRecDepth 100000
set_option maxHeartbeats 4000000
namespace L2
open PySem PySem.Spec PyProof.Rows PySem.OxE
/-! errors held as values -/
def IsEx (H : Hp) (v : V) (C : Addr) (fv : List (Str × V)) : Prop := ∃ e d, v = .ref e ∧ H e = some (exo e C (some d)) ∧ H d = some (exd d fv)
def IsX (K : PySem.W.Frag) (H : Hp) (v : V) (t : Addr) : Prop := (∃ fv, IsEx H v t fv ∧ ExIs K t) ∨ (∃ e, v = .ref e ∧ H e = some (ExO (.ref t) e) ∧ ExIs K t)
theorem IsEx.mono {H H' : Hp} {v : V} {C : Addr} {fv : List (Str × V)} (s : Same H H') (h : IsEx H v C fv) : IsEx H' v C fv := by
  obtain ⟨e, d, h1, h2, h3⟩ := h
  exact ⟨e, d, h1, s _ _ h2, s _ _ h3⟩
theorem IsX.mono {K : PySem.W.Frag} {H H' : Hp} {v : V} {t : Addr} (s : Same H H') (h : IsX K H v t) : IsX K H' v t := by
  rcases h with ⟨fv, h, i⟩ | ⟨e, h1, h2, i⟩
  · exact .inl ⟨fv, h.mono s, i⟩
  · exact .inr ⟨e, h1, s _ _ h2, i⟩
theorem Same.new {H : Hp} {p : Addr} {o : HO} (h : H p = none) : Same H (upd H p o) := fun b u e => by rw [upd_ne (ne_of_none e h)]; exact e
/-- all but the object at p is as it was -/
def But (p : Addr) (H H' : Hp) : Prop := ∀ b o, b ≠ p → H b = some o → H' b = some o
theorem But.upd {p : Addr} {H : Hp} {o : HO} : But p H (upd H p o) := fun b u h e => by rw [upd_ne h]; exact e
theorem But.trans {p : Addr} {H H1 H2 : Hp} (a : But p H H1) (b : But p H1 H2) : But p H H2 := fun c o h e => b c o h (a c o h e)
theorem But.same {p : Addr} {H H1 H2 : Hp} (s : Same H H1) (b : But p H1 H2) (h : H p = none) : Same H H2 := fun c o e => b c o (fun z => by rw [z, h] at e; cases e) (s c o e)
theorem mk_step {H : Hp} {e d C : Addr} {fv : List (Str × V)} (he : H e = none) (hd : H d = none) (hde : d ≠ e) : Same H (upd (upd H d (exd d fv)) e (exo e C (some d))) ∧ IsEx (upd (upd H d (exd d fv)) e (exo e C (some d))) (.ref e) C fv :=
  ⟨fun b u q => by rw [upd_ne (ne_of_none q he), upd_ne (ne_of_none q hd)]; exact q, e, d, rfl, upd_same, by rw [upd_ne hde, upd_same]⟩
def rIsX (K : PySem.W.Frag) : List V → Hp → VK → Prop := fun xs H Q => ∃ v c t cv b, xs = [v, c] ∧ IsX K H v t ∧ (∀ u, RelV c u → u = cv) ∧ PySem.W.kitOne K (.ref t) cv = some b ∧ Q (.bl b) H
theorem call_isX {X : Cx} : CallR X (.builtin "isinstance") (rIsX X.K) := by
  intro pins s σ H xs us Q I r h
  obtain ⟨v, c, t, cv, b, rfl, hx, hcv, e, q⟩ := h
  rcases hx with ⟨fv, ⟨a, d, rfl, ea, ed⟩, T⟩ | ⟨a, rfl, ea, T⟩
  · exact call_isOx pins s σ H _ us Q I r ⟨a, t, d, fv, c, cv, b, rfl, ea, ed, T, hcv, e, q⟩
  · cases r with
    | cons rx rr =>
      cases rr with
      | cons rt rr =>
        cases rr
        cases rx
        have ec := hcv _ rt
        subst ec
        obtain ⟨⟨oe, vs, ho, hz, hd, _⟩, _, _⟩ := I.hok a _ ea
        have J : PySem.W.InstAt s.heap a oe t none := ⟨ho, hz.1, by unfold PySem.W.notCls; rw [hd] <;> rfl, by rw [hz.2]; trivial⟩
        exact PySem.W.kia_one (PySem.W.kitx_exc T.cl T.rd.ga T.rd.gg T.rd.exC T.ha T.hn T.ht T.hm) I.kIn J e (fun z => nomatch z) fun tk => ⟨.bl b, H, I.kept (t' := tk) fun _ _ z => z, rfl, q⟩
theorem isx_use {K : PySem.W.Frag} {H : Hp} {Q : VK} {v : V} {t C : Addr} {b : Bool} (h : IsX K H v t) (hk : PySem.W.kitOne K (.ref t) (.ref C) = some b) (q : Q (.bl b) H) : rIsX K [v, .ref C] H Q :=
  ⟨v, .ref C, t, .ref C, b, rfl, h, fun u r => r, hk, q⟩
theorem isx_useT {K : PySem.W.Frag} {H : Hp} {Q : VK} {v : V} {t : Addr} {n : String} {b : Bool} (h : IsX K H v t) (hk : PySem.W.kitOne K (.ref t) (.type n) = some b) (q : Q (.bl b) H) : rIsX K [v, .ty n] H Q :=
  ⟨v, .ty n, t, .type n, b, rfl, h, fun u r => r, hk, q⟩
section
variable {P : Program} {K : PySem.W.Frag} {mg : Str → Option Value} {nm f : Str} {fs : List Str} {C fI : Addr} {ta tb te : TE} {tA : TA} {σ : St} {H : Hp} {Q : VK}
theorem tox_use {vs : List V} (h : Evl.EvA tA σ H vs) (hl : vs.length = fs.length) (q : ∀ v H2, Same H H2 → IsEx H2 v C (exF fs vs) → Q v H2) : tOx C fs tA σ H Q :=
  h H (Evl.Ex.refl H) _ fun H1 e1 => ⟨hl, fun e d he hd hde => by
    obtain ⟨s, x⟩ := mk_step (C := C) (fv := exF fs vs) he hd hde
    exact q _ _ (Same.trans e1 s) x⟩
theorem q_ox {vs : List V} {i : Nat} {tz : TS} {D : Ends} (h : Evl.EvA tA σ H vs) (hl : vs.length = fs.length) (q : ∀ v H2, Same H H2 → IsEx H2 v C (exF fs vs) → tz D (σ.set i (some v)) H2) : tSeq (tAsg (tOx C fs tA) (gName i)) tz D σ H := tox_use (Q := fun v H2 => tz D (σ.set i (some v)) H2) h hl q
theorem oxv_use {v u : V} {fv : List (Str × V)} (T : ExTxt P K mg nm fs C fI) (hf : f ∈ fs) (x : IsEx H v C fv) (hl : fv.lookup f = some u) (q : Q u H) :
    ∃ (a C d : Addr) (fv : List (Str × V)) (u : V), v = .ref a ∧ H a = some (exo a C (some d)) ∧ H d = some (exd d fv) ∧ ExRd K C ∧ PySem.W.findIn K (.ref C) f = some none ∧ fv.lookup f = some u ∧ Q u H := by
  obtain ⟨e, d, h1, h2, h3⟩ := x
  exact ⟨e, C, d, fv, u, h1, h2, h3, T.rd, T.noN f hf, hl, q⟩
/-- C(e).f | C(f = e).f -/
theorem ev_oxf {vs : List V} {u : V} (T : ExTxt P K mg nm fs C fI) (hf : f ∈ fs) (h : Evl.EvA tA σ H vs) (hl : vs.length = fs.length) (hu : (exF fs vs).lookup f = some u) : Evl.Ev (tOxF K f (tOx C fs tA)) σ H u := fun H1 e1 Q q =>
  tox_use (h.mono e1) hl fun v H2 s x => oxv_use T hf x hu (q H2 s)
/-- v.f -/
theorem ev_oxv {v u : V} {fv : List (Str × V)} (T : ExTxt P K mg nm fs C fI) (hf : f ∈ fs) (he : Evl.Ev te σ H v) (x : IsEx H v C fv) (hu : fv.lookup f = some u) : Evl.Ev (tOxF K f te) σ H u := fun H1 e1 Q q =>
  he H1 e1 _ fun H2 e2 => oxv_use T hf ((x.mono e1).mono e2) hu (q H2 e2)
theorem el_cat {p : Addr} {xs ys : List V} (ha : Evl.Ev ta σ H (.ref p)) (hp : H p = some (.lst xs)) (hb : Evl.EvL tb σ H ys) (hz : xs.length + ys.length ≤ 100000) : Evl.EvL (tOp rCat ta tb) σ H (xs ++ ys) := fun H1 e1 Q q =>
  ha H1 e1 _ fun H2 e2 => hb H2 (e1.trans e2) _ fun b H3 hb0 e3 hb3 => ⟨p, b, xs, ys, rfl, rfl, e3 _ _ (e2 _ _ (e1 _ _ hp)), hb3, Evl.sz_of hz, fun r hr => q r _ (Evl.fresh_back e2 (Evl.fresh_back e3 hr)) ((e2.trans e3).trans (Evl.Ex.new hr)) upd_same⟩
theorem el_rep {v : V} {n : Nat} (ha : Evl.Ev ta σ H v) (hn : n ≤ 1000) : Evl.EvL (tOp rRep (tLst (tCons ta tNil)) (tC (.int (n : Int)))) σ H (List.replicate n v) := fun H1 e1 Q q =>
  ha H1 e1 _ fun H2 e2 => ⟨by show 1 ≤ sizeLine; decide, fun p hp => ⟨p, n, [v], rfl, rfl, upd_same, by omega, by omega, by
    have : ([v] : List V).length * (n : Int).toNat = n := by simp
    rw [this]; exact Evl.sz_of (by omega), fun r hr => by
    have e : (List.replicate (n : Int).toNat [v]).flatten = List.replicate n v := by
      rw [Int.toNat_natCast]; simp
    rw [e]
    exact q r _ (Evl.fresh_back e2 (Evl.fresh_back (Evl.Ex.new hp) hr)) ((e2.trans (Evl.Ex.new hp)).trans (Evl.Ex.new hr)) upd_same⟩⟩
/-! data: what a value is worth (HandS's Dp), kept by an extension -/
mutual
theorem Dp.mono {H H' : Hp} (s : Same H H') : ∀ {v : V} {d : PyData}, Dp K H v d → Dp K H' v d
  | _, _, .non => .non
  | _, _, .bl b => .bl b
  | _, _, .int i => .int i
  | _, _, .str x => .str x
  | _, _, .lst h t => .lst (Evl.ex_l s h) (DpAll.mono s t)
  | _, _, .tup h t => .tup (Evl.ex_t s h) (DpAll.mono s t)
theorem DpAll.mono {H H' : Hp} (s : Same H H') : ∀ {vs : List V} {ds : List PyData}, DpAll K H vs ds → DpAll K H' vs ds
  | _, _, .nil => .nil
  | _, _, .cons h t => .cons (Dp.mono s h) (DpAll.mono s t)
end
theorem dpAll_rep {v : V} {d : PyData} (h : Dp K H v d) : ∀ n, DpAll K H (List.replicate n v) (List.replicate n d)
  | 0 => .nil
  | n + 1 => .cons h (dpAll_rep h n)
theorem ev_eqD {x y : V} {d e : PyData} {b : Bool} (ha : Evl.Ev ta σ H x) (hb : Evl.Ev tb σ H y) (dx : Dp K H x d) (dy : Dp K H y e) (sx : SeqAt.shaped d = true) (sy : SeqAt.shaped e = true) (hd : PyData.eqv d e = b) : Evl.Ev (tOp (rEqD K) ta tb) σ H (.bl b) := fun H1 e1 Q q =>
  ha H1 e1 _ fun H2 e2 => hb H2 (e1.trans e2) _ fun H3 e3 => ⟨d, e, dx.mono ((e1.trans e2).trans e3), dy.mono ((e1.trans e2).trans e3), sx, sy, by rw [hd]; exact q H3 (e2.trans e3)⟩
/-- == of a list that stands and a new one -/
theorem ev_eqDL {x : V} {ys : List V} {d e : PyData} {b : Bool} (ha : Evl.Ev ta σ H x) (hb : Evl.EvL tb σ H ys) (dx : Dp K H x d) (dy : ∀ p H1, Same H H1 → H1 p = some (.lst ys) → Dp K H1 (.ref p) e) (sx : SeqAt.shaped d = true) (sy : SeqAt.shaped e = true) (hd : PyData.eqv d e = b) : Evl.Ev (tOp (rEqD K) ta tb) σ H (.bl b) := fun H1 e1 Q q =>
  ha H1 e1 _ fun H2 e2 => hb H2 (e1.trans e2) _ fun p H3 hp e3 h3 => ⟨d, e, dx.mono ((e1.trans e2).trans e3), dy p H3 ((e1.trans e2).trans e3) h3, sx, sy, by rw [hd]; exact q H3 (e2.trans e3)⟩
theorem eqv_self {d : PyData} (h : SeqAt.shaped d = true) : PyData.eqv d d = true := SeqAt.eqv_refl d (SeqAt.canLay_of_shaped h)
end
/-- what is evaluated to data -/
def EvD (K : PySem.W.Frag) (te : TE) (σ : St) (H : Hp) (d : PyData) : Prop := ∀ H1, Evl.Ex H H1 → ∀ Q : VK, (∀ v H2, Evl.Ex H1 H2 → Dp K H2 v d → Q v H2) → te σ H1 Q
def EvDs (K : PySem.W.Frag) (ta : TA) (σ : St) (H : Hp) (ds : List PyData) : Prop := ∀ H1, Evl.Ex H H1 → ∀ Q : List V → Hp → Prop, (∀ vs H2, Evl.Ex H1 H2 → DpAll K H2 vs ds → Q vs H2) → ta σ H1 Q
section
variable {K : PySem.W.Frag} {ta tb te : TE} {tA tr : TA} {σ : St} {H : Hp}
theorem evd_of {v : V} {d : PyData} (h : Evl.Ev te σ H v) (hd : Dp K H v d) : EvD K te σ H d := fun H1 e1 Q q => h H1 e1 Q fun H2 e2 => q v H2 e2 (hd.mono (Same.trans e1 e2))
theorem evd_var {i : Nat} {v : V} {d : PyData} (h : σ[i]? = some (some v)) (hd : Dp K H v d) : EvD K (tVar i) σ H d := evd_of (Evl.ev_var h) hd
theorem evd_int {i : Int} : EvD K (tC (.int i)) σ H (.int i) := evd_of Evl.ev_c (.int i)
theorem evd_str {x : Str} : EvD K (tC (.str x)) σ H (.str x) := evd_of Evl.ev_c (.str x)
theorem evds_nil : EvDs K tNil σ H [] := fun H1 _ Q q => q [] H1 (Evl.Ex.refl H1) .nil
theorem evds_cons {d : PyData} {ds : List PyData} (h : EvD K te σ H d) (hr : EvDs K tr σ H ds) : EvDs K (tCons te tr) σ H (d :: ds) := fun H1 e1 Q q =>
  h H1 e1 _ fun v H2 e2 hv => hr H2 (e1.trans e2) _ fun vs H3 e3 hvs => q _ H3 (e2.trans e3) (.cons (hv.mono e3) hvs)
theorem DpAll.length {H : Hp} : ∀ {vs : List V} {ds : List PyData}, DpAll K H vs ds → vs.length = ds.length
  | _, _, .nil => rfl
  | _, _, .cons _ t => by rw [List.length_cons, List.length_cons, DpAll.length t]
theorem evd_tup {ds : List PyData} (h : EvDs K tA σ H ds) (hz : ds.length ≤ 10000) : EvD K (tTup tA) σ H (.tuple ds) := fun H1 e1 Q q =>
  h H1 e1 _ fun vs H2 e2 hvs => ⟨Evl.sz_of (by rw [DpAll.length hvs]; omega), fun p hp => q _ _ (e2.trans (Evl.Ex.new hp)) (.tup (SqT.of upd_same) (hvs.mono (Same.new hp)))⟩
theorem evd_lst {ds : List PyData} (h : EvDs K tA σ H ds) (hz : ds.length ≤ 10000) : EvD K (tLst tA) σ H (.list ds) := fun H1 e1 Q q =>
  h H1 e1 _ fun vs H2 e2 hvs => ⟨Evl.sz_of (by rw [DpAll.length hvs]; omega), fun p hp => q _ _ (e2.trans (Evl.Ex.new hp)) (.lst (SqL.of upd_same) (hvs.mono (Same.new hp)))⟩
theorem evd_abs {n : Int} (h : EvD K te σ H (.int n)) : EvD K (tCB (fun xs H Q => ∃ i, xs = [.int i] ∧ Q (.int (if i < 0 then -i else i)) H) (tCons te tNil)) σ H (.int (if n < 0 then -n else n)) := fun H1 e1 Q q =>
  h H1 e1 _ fun v H2 e2 hv => by
    cases hv
    exact ⟨n, rfl, q _ H2 e2 (.int _)⟩
theorem q_parD {i j : Nat} {d e : PyData} {tz : TS} {D : Ends} (h : EvDs K tA σ H [d, e]) (k : ∀ v u H1, Same H H1 → Dp K H1 v d → Dp K H1 u e → tz D ((σ.set i (some v)).set j (some u)) H1) : tSeq (tPar i j tA) tz D σ H :=
  h H (Evl.Ex.refl H) _ fun vs H1 e1 hvs => by
    cases hvs with
    | cons a t => cases t with
      | cons b t => cases t; exact ⟨_, _, rfl, k _ _ H1 e1 a b⟩
theorem Dp.int_inv {H : Hp} {v : V} {n : Int} (h : Dp K H v (.int n)) : v = .int n := by cases h; rfl
theorem Dp.tup_inv {H : Hp} {v : V} {ds : List PyData} (h : Dp K H v (.tuple ds)) : ∃ a, v = .ref a := by cases h; exact ⟨_, rfl⟩
end
def ExAll (H : Hp) (vs : List V) (sp : List (Addr × List (Str × V))) : Prop := Paired (fun v (s : Addr × List (Str × V)) => IsEx H v s.1 s.2) vs sp
theorem ExAll.mono {H H' : Hp} {vs : List V} {sp : List (Addr × List (Str × V))} (s : Same H H') (h : ExAll H vs sp) : ExAll H' vs sp := Paired.mapP h fun _ _ x => x.mono s
theorem ExAll.append {H : Hp} : ∀ {vs us : List V} {sp sq : List (Addr × List (Str × V))}, ExAll H vs sp → ExAll H us sq → ExAll H (vs ++ us) (sp ++ sq)
  | _, _, _, _, .nil, h => h
  | _, _, _, _, .cons r t, h => .cons r (ExAll.append t h)
theorem ExAll.get {H : Hp} : ∀ {vs : List V} {sp : List (Addr × List (Str × V))} {k : Nat} {C : Addr} {fv : List (Str × V)}, ExAll H vs sp → sp[k]? = some (C, fv) → ∃ v, vs[k]? = some v ∧ IsEx H v C fv
  | _, _, _, _, _, .nil, e => by simp at e
  | _, _, 0, _, _, .cons r _, e => by
    have e' := Option.some.inj (by simpa using e)
    exact ⟨_, rfl, by rw [e'] at r; exact r⟩
  | _, _, k + 1, _, _, .cons _ t, e => ExAll.get (k := k) t (by simpa using e)
/-- a list of errors made in a row -/
def EvAX (t : TA) (σ : St) (H : Hp) (sp : List (Addr × List (Str × V))) : Prop := ∀ H1, Evl.Ex H H1 → ∀ Q : List V → Hp → Prop, (∀ vs H2, Evl.Ex H1 H2 → ExAll H2 vs sp → Q vs H2) → t σ H1 Q
theorem eax_nil {σ : St} {H : Hp} : EvAX tNil σ H [] := fun H1 _ Q q => q [] H1 (Evl.Ex.refl H1) .nil
theorem eax_cons {σ : St} {H : Hp} {tA tr : TA} {C : Addr} {fs : List Str} {us : List V} {sp : List (Addr × List (Str × V))} (h : Evl.EvA tA σ H us) (hl : us.length = fs.length) (hr : EvAX tr σ H sp) : EvAX (tCons (tOx C fs tA) tr) σ H ((C, exF fs us) :: sp) := fun H1 e1 Q q =>
  tox_use (h.mono e1) hl fun v H2 s x => hr H2 (e1.trans s) _ fun vs H3 e3 xs => q _ H3 (Same.trans s e3) (.cons (x.mono e3) xs)
theorem q_lstX {σ : St} {H : Hp} {t : TA} {i : Nat} {tz : TS} {D : Ends} {sp : List (Addr × List (Str × V))} (h : EvAX t σ H sp) (hz : sp.length ≤ 1000) (q : ∀ p vs H1, H p = none → Same H H1 → H1 p = some (.lst vs) → ExAll H1 vs sp → tz D (σ.set i (some (.ref p))) H1) : tSeq (tAsg (tLst t) (gName i)) tz D σ H :=
  h H (Evl.Ex.refl H) _ fun vs H1 e1 x => ⟨Evl.sz_of (by have := Paired.length x; omega), fun p hp => q p vs _ (Evl.fresh_back e1 hp) (Same.trans e1 (Same.new hp)) upd_same (x.mono (Same.new hp))⟩
theorem q_catX {σ : St} {H : Hp} {ta : TE} {t : TA} {i : Nat} {tz : TS} {D : Ends} {l : Addr} {xs : List V} {sp : List (Addr × List (Str × V))} (ha : Evl.Ev ta σ H (.ref l)) (hl : H l = some (.lst xs)) (h : EvAX t σ H sp) (hz : xs.length + sp.length ≤ 1000)
    (q : ∀ p vs H1, H p = none → Same H H1 → H1 p = some (.lst (xs ++ vs)) → ExAll H1 vs sp → tz D (σ.set i (some (.ref p))) H1) : tSeq (tAsg (tOp rCat ta (tLst t)) (gName i)) tz D σ H :=
  ha H (Evl.Ex.refl H) _ fun H1 e1 => h H1 e1 _ fun vs H2 e2 x => ⟨Evl.sz_of (by have := Paired.length x; omega), fun p hp =>
    ⟨l, p, xs, vs, rfl, rfl, Same.new hp _ _ (e2 _ _ (e1 _ _ hl)), upd_same, Evl.sz_of (by have := Paired.length x; omega), fun r hr =>
      q r vs _ (Evl.fresh_back e1 (Evl.fresh_back e2 (Evl.fresh_back (Evl.Ex.new hp) hr))) (Same.trans (Same.trans e1 e2) (Same.trans (Same.new hp) (Same.new hr))) upd_same (x.mono (Same.trans (Same.new hp) (Same.new hr)))⟩⟩
end L2
namespace K17
open PySem PySem.Spec PyProof.Rows L2 PySem.OxE
def top (i : Nat) : Stmt := PySem.Challenge.pw_owedanswers_k17_errors_made.main.body.getD i (.Pass ⟨0, 0, 0, 0⟩)
abbrev s_bag : Stmt := top 18
theorem sc_bag : FnScope ["_law_script", "_law_place", "_law_cell", "_law_digits"] ["_law_script", "_law_place"] (defScope s_bag) := ⟨rfl, rfl, rfl, by decide +kernel, rfl, by decide +kernel, by decide +kernel⟩
abbrev s_take : Stmt := top 19
theorem sc_take : FnScope ["_law_bag_here", "_law_many", "_law_digit", "_law_mixed"] ["_law_bag_here", "_law_many"] (defScope s_take) := ⟨rfl, rfl, rfl, by decide +kernel, rfl, by decide +kernel, by decide +kernel⟩
abbrev s_of : Stmt := top 20
theorem sc_of : FnScope ["_law_bag_here", "_law_some"] ["_law_bag_here", "_law_some"] (defScope s_of) := ⟨rfl, rfl, rfl, by decide +kernel, rfl, by decide +kernel, by decide +kernel⟩
abbrev s_number : Stmt := top 21
theorem sc_number : FnScope ["_law_bag_here"] ["_law_bag_here"] (defScope s_number) := ⟨rfl, rfl, rfl, by decide +kernel, rfl, by decide +kernel, by decide +kernel⟩
abbrev s_fields : Stmt := top 22
theorem sc_fields : FnScope ["_law_count", "_law_text", "_law_sizes", "_law_pairs", "_law_one", "_law_fields_here", "_law_counts", "_law_rest"] ["_law_count", "_law_text", "_law_sizes", "_law_pairs"] (defScope s_fields) := ⟨rfl, rfl, rfl, by decide +kernel, rfl, by decide +kernel, by decide +kernel⟩
abbrev s_made : Stmt := top 23
theorem sc_made : FnScope ["_law_count", "_law_text", "_law_made_here"] ["_law_count", "_law_text"] (defScope s_made) := ⟨rfl, rfl, rfl, by decide +kernel, rfl, by decide +kernel, by decide +kernel⟩
abbrev s_classes : Stmt := top 24
theorem sc_classes : FnScope ["_law_e", "_law_found"] ["_law_e"] (defScope s_classes) := ⟨rfl, rfl, rfl, by decide +kernel, rfl, by decide +kernel, by decide +kernel⟩
abbrev s_law : Stmt := top 25
theorem sc_law : FnScope ["_law_script", "_law_place", "_law_bag_here", "_law_count", "_law_text", "_law_sizes", "_law_pairs", "_law_made_here", "_law_k", "_law_one", "_law_bare"] ["_law_script"] (defScope s_law) := ⟨rfl, rfl, rfl, by decide +kernel, rfl, by decide +kernel, by decide +kernel⟩
/-- the draws' source, at p -/
def bagV (d m c : Int) : HO := .lst [.int d, .int m, .int c]
def BM : Int := 11529215046068600000
def spBag (K : PySem.W.Frag) : Sp := fun vs H Q _ => ∃ (a : Addr) (ns : List Int) (pl : Int), vs = [.ref a, .int pl] ∧ SqL K H a (ns.map V.int) ∧ 0 ≤ pl ∧ pl < 12 ∧
  ∀ (p : Addr) (d m : Int) (H' : Hp), H p = none → 0 ≤ d → 0 ≤ m → m < BM → Same H H' → H' p = some (bagV d m 0) → Q (.ref p) H'
def spTake : Sp := fun vs H Q _ => ∃ (p : Addr) (d m c n : Int), vs = [.ref p, .int n] ∧ H p = some (bagV d m c) ∧ 0 ≤ d ∧ 0 ≤ m ∧ m < BM ∧ 0 ≤ c ∧ c < 1000 ∧ 0 < n ∧ n.natAbs < 2 ^ 100 ∧
  ∀ (k d' c' : Int) (H' : Hp), 0 ≤ k → k < n → 0 ≤ d' → c ≤ c' → c' ≤ c + 1 → But p H H' → H' p = some (bagV d' m c') → Q (.int k) H'
local macro_rules | `(tactic| walk_at "sz") => `(tactic| first | decide | (simp only [List.length_cons, List.length_nil, List.length_append]; omega) | (simp; done))
local macro_rules | `(tactic| walk_at "pow") => `(tactic| exact ⟨by decide, by decide, by first | decide | omega⟩)
local macro_rules | `(tactic| walk_at "mul") => `(tactic| first | exact .inl ⟨by decide, by decide⟩ | exact .inr ⟨by decide, by decide⟩ | exact .inl ⟨by omega, by omega⟩ | exact .inr ⟨by omega, by omega⟩)
local macro_rules | `(tactic| walk_at "pos") => `(tactic| first | (show (0 : Int) < _; decide) | (show (0 : Int) < _; omega))
local macro_rules | `(tactic| walk_at "fdiv") => `(tactic| exact wide_div (b := 100) (by first | decide | omega) (by first | decide | omega) (by decide) (by walk_at "sz"))
theorem rem0 {a n : Int} (h : 0 < n) : 0 ≤ a % n := Int.emod_nonneg a (by omega)
theorem rem1 {a n : Int} (h : 0 < n) : a % n < n := Int.emod_lt_of_pos a h
theorem div0 {a n : Int} (h : 0 < n) (ha : 0 ≤ a) : 0 ≤ a / n := Int.ediv_nonneg ha (by omega)
structure Ad where
  c : Nat → Addr
  i : Nat → Addr
  cO : Addr
  f_bag : Addr
  fd_bag : FuncData
  f_take : Addr
  fd_take : FuncData
  f_of : Addr
  fd_of : FuncData
  f_number : Addr
  fd_number : FuncData
  f_fields : Addr
  fd_fields : FuncData
  f_made : Addr
  fd_made : FuncData
  f_classes : Addr
  fd_classes : FuncData
  f_law : Addr
  fd_law : FuncData
structure Txt (P : Program) (K : PySem.W.Frag) (mg : Str → Option Value) (A : Ad) : Prop where
  x_BadSymbol : ExTxt P K mg "BadSymbol" ["symbol"] (A.c 0) (A.i 0)
  x_BadDomain : ExTxt P K mg "BadDomain" ["symbol"] (A.c 1) (A.i 1)
  x_BadFunction : ExTxt P K mg "BadFunction" ["row"] (A.c 2) (A.i 2)
  x_TooMany : ExTxt P K mg "TooMany" ["what"] (A.c 3) (A.i 3)
  x_NotCut : ExTxt P K mg "NotCut" ["row"] (A.c 4) (A.i 4)
  x_Amid : ExTxt P K mg "Amid" ["half"] (A.c 5) (A.i 5)
  x_Closed : ExTxt P K mg "Closed" ["number"] (A.c 6) (A.i 6)
  x_Starved : ExTxt P K mg "Starved" ["number"] (A.c 7) (A.i 7)
  x_Failed : ExTxt P K mg "Failed" ["row"] (A.c 8) (A.i 8)
  x_Cut : ExTxt P K mg "Cut" ["row"] (A.c 9) (A.i 9)
  x_BadDoor : ExTxt P K mg "BadDoor" ["word"] (A.c 10) (A.i 10)
  x_BadName : ExTxt P K mg "BadName" ["name"] (A.c 11) (A.i 11)
  x_NotLent : ExTxt P K mg "NotLent" ["number"] (A.c 12) (A.i 12)
  x_BadMove : ExTxt P K mg "BadMove" ["at"] (A.c 13) (A.i 13)
  x_Faulty : ExTxt P K mg "Faulty" ["kind", "lengths", "moves"] (A.c 14) (A.i 14)
  mO : mg "OwedError" = some (.ref A.cO)
  xO : PySem.W.excIn K A.cO PySem.HandSPX.veTail "ValueError.__new__" = true
  kO : PySem.W.keepIn K (.ref A.cO) = true
  isx : ∀ k, k < 15 → ExIs K (A.c k)
  isO : ExIs K A.cO
  kit : ∀ i j, i < 15 → j < 15 → PySem.W.kitOne K (.ref (A.c i)) (.ref (A.c j)) = some (decide (i = j))
  kitO : ∀ i, i < 15 → PySem.W.kitOne K (.ref (A.c i)) (.ref A.cO) = some true
  kitV : ∀ i, i < 15 → PySem.W.kitOne K (.ref (A.c i)) (.type "ValueError") = some true
  kitN : ∀ j, j < 15 → PySem.W.kitOne K (.ref A.cO) (.ref (A.c j)) = some false
  kitW : PySem.W.kitOne K (.ref A.cO) (.type "ValueError") = some true
  F_bag : Fun K "_law_bag" "_law_bag" s_bag A.f_bag A.fd_bag
  m_bag : mg "_law_bag" = some (.ref A.f_bag)
  b_bag : Binds K A.fd_bag ["_law_script", "_law_place"] []
  F_take : Fun K "_law_take" "_law_take" s_take A.f_take A.fd_take
  m_take : mg "_law_take" = some (.ref A.f_take)
  b_take : Binds K A.fd_take ["_law_bag_here", "_law_many"] []
  F_of : Fun K "_law_of" "_law_of" s_of A.f_of A.fd_of
  m_of : mg "_law_of" = some (.ref A.f_of)
  b_of : Binds K A.fd_of ["_law_bag_here", "_law_some"] []
  F_number : Fun K "_law_number" "_law_number" s_number A.f_number A.fd_number
  m_number : mg "_law_number" = some (.ref A.f_number)
  b_number : Binds K A.fd_number ["_law_bag_here"] []
  F_fields : Fun K "_law_fields" "_law_fields" s_fields A.f_fields A.fd_fields
  m_fields : mg "_law_fields" = some (.ref A.f_fields)
  b_fields : Binds K A.fd_fields ["_law_count", "_law_text", "_law_sizes", "_law_pairs"] []
  F_made : Fun K "_law_made" "_law_made" s_made A.f_made A.fd_made
  m_made : mg "_law_made" = some (.ref A.f_made)
  b_made : Binds K A.fd_made ["_law_count", "_law_text"] []
  F_classes : Fun K "_law_classes" "_law_classes" s_classes A.f_classes A.fd_classes
  m_classes : mg "_law_classes" = some (.ref A.f_classes)
  b_classes : Binds K A.fd_classes ["_law_e"] []
  F_law : Fun K "law" "law" s_law A.f_law A.fd_law
  m_law : mg "law" = some (.ref A.f_law)
  z_len : mg "len" = none
  z_abs : mg "abs" = none
  z_int : mg "int" = none
  z_range : mg "range" = none
  z_min : mg "min" = none
  z_max : mg "max" = none
  z_isinstance : mg "isinstance" = none
  z_ValueError : mg "ValueError" = none
section
variable {P : Program} {w : World} {K : PySem.W.Frag} {mg : Str → Option Value} {base : Heap} {A0 : Ad}
theorem ok_bag (T : Txt P K mg A0) : FnOk P w K mg base CX0 1 A0.f_bag A0.fd_bag ["_law_script", "_law_place"] (spBag K) := by
  refine T.F_bag.ok sc_bag (fun vs H Q E h => ?_) (fun cdv A outer s H vs Q E hr h => ?_)
  · obtain ⟨a, ns, pl, rfl, _⟩ := h
    rfl
  · obtain ⟨a, ns, pl, rfl, hS, hp0, hp1, k⟩ := h
    refine ⟨_, (pss_cons (ps_set (i := 2) sc_bag.nd rfl (Or.inl rfl) (pe_ifExp (pt_cmpR op_lt (pv 1) (pe_callB call_len (by rfl) T.z_len PySem.boot_len (pa_cons (pv 0) pa_nil)) (nomark _)) (pe_ix ix_list (pv 0) (pv 1) (fun _ _ => rfl)) pe_int))
 (pss_cons (ps_set (i := 3) sc_bag.nd rfl (Or.inl rfl) (pe_ifExp (pt_cmpR op_ge (pe_callB call_abs (by rfl) T.z_abs (by decide +kernel) (pa_cons (pv 2) pa_nil)) (pe_op op_pow pe_int pe_int) (nomark _)) (pe_callB call_abs (by rfl) T.z_abs (by decide +kernel) (pa_cons (pv 2) pa_nil)) pe_int))
 (pss_one (ps_ret (pe_lst (pa_cons (pv 3) (pa_cons (pe_op op_add (pe_op op_add (pe_op op_mul (pe_op op_mod (pe_callTy call_int1 (by rfl) T.z_int (by decide +kernel) (pa_cons (pv 2) pa_nil)) pe_int) pe_int) (pe_op op_mul pe_int (pv 1))) pe_int) (pa_cons pe_int pa_nil)))))))), ?_⟩
    -- from the cell on
    have rest : ∀ (cell : Int) (D : Int), 0 ≤ D → ∀ p, H p = none → Q (.ref p) (upd H p (.lst [.int D, .int (cell % 2305843009213693951 * 5 + 6151 * pl + 2969), .int 0])) := fun cell D hD p hp => by
      have e0 := rem0 (a := cell) (n := 2305843009213693951) (by decide)
      have e1 := rem1 (a := cell) (n := 2305843009213693951) (by decide)
      exact k p D _ _ hp hD (by omega) (by unfold BM; omega) (Same.new hp) upd_same
    refine ⟨_, rfl, _, rfl, _, _, rfl, .inl ⟨_, hS, rfl⟩, _, _, rfl, rfl, _, rfl, ?_⟩
    rw [List.length_map]
    refine ite2 (fun c43 => ?_) (fun c43 => ?_)
    · have hlt : pl.toNat < ns.length := by have := of_decide_eq_true c43; omega
      refine ⟨_, rfl, _, rfl, _, _, _, .int ns[pl.toNat], rfl, rfl, hS, at_of (j := pl.toNat) (by omega) (by simp [hlt]), ?_⟩
      refine ⟨_, rfl, _, rfl, _, _, rfl, rfl, (by walk_at "pow"), _, _, rfl, rfl, _, rfl, ?_⟩
      refine ite2 (fun c36 => ?_) (fun c36 => ?_)
      · refine ⟨_, rfl, _, rfl, ?_⟩
        refine ⟨_, rfl, _, rfl, ?_⟩
        refine .inl ⟨_, rfl, ?_⟩
        refine ⟨_, _, rfl, rfl, (by walk_at "pos"), _, _, rfl, rfl, (by walk_at "mul"), _, rfl, _, _, rfl, rfl, (by walk_at "mul"), _, _, rfl, rfl, _, _, rfl, rfl, (by show 3 ≤ sizeLine; decide), fun p11 hp11 => ?_⟩
        exact rest _ _ (by split <;> omega) p11 hp11
      · refine ⟨_, rfl, _, rfl, ?_⟩
        refine .inl ⟨_, rfl, ?_⟩
        refine ⟨_, _, rfl, rfl, (by walk_at "pos"), _, _, rfl, rfl, (by walk_at "mul"), _, rfl, _, _, rfl, rfl, (by walk_at "mul"), _, _, rfl, rfl, _, _, rfl, rfl, (by show 3 ≤ sizeLine; decide), fun p11 hp11 => ?_⟩
        exact rest _ _ (by decide) p11 hp11
    · refine ⟨_, rfl, _, rfl, _, _, rfl, rfl, (by walk_at "pow"), _, _, rfl, rfl, _, rfl, ?_⟩
      refine ite2 (fun c36 => ?_) (fun c36 => ?_)
      · refine ⟨_, rfl, _, rfl, ?_⟩
        refine ⟨_, rfl, _, rfl, ?_⟩
        refine .inl ⟨_, rfl, ?_⟩
        refine ⟨_, _, rfl, rfl, (by walk_at "pos"), _, _, rfl, rfl, (by walk_at "mul"), _, rfl, _, _, rfl, rfl, (by walk_at "mul"), _, _, rfl, rfl, _, _, rfl, rfl, (by show 3 ≤ sizeLine; decide), fun p11 hp11 => ?_⟩
        exact rest _ _ (by decide) p11 hp11
      · refine ⟨_, rfl, _, rfl, ?_⟩
        refine .inl ⟨_, rfl, ?_⟩
        refine ⟨_, _, rfl, rfl, (by walk_at "pos"), _, _, rfl, rfl, (by walk_at "mul"), _, rfl, _, _, rfl, rfl, (by walk_at "mul"), _, _, rfl, rfl, _, _, rfl, rfl, (by show 3 ≤ sizeLine; decide), fun p11 hp11 => ?_⟩
        exact rest _ _ (by decide) p11 hp11
theorem ok_take (T : Txt P K mg A0) : FnOk P w K mg base CX0 1 A0.f_take A0.fd_take ["_law_bag_here", "_law_many"] spTake := by
  refine T.F_take.ok sc_take (fun vs H Q E h => ?_) (fun cdv A outer s H vs Q E hr h => ?_)
  · obtain ⟨p, d, m, c, n, rfl, _⟩ := h
    rfl
  · obtain ⟨p, d, m, c, n, rfl, hp, hd, hm0, hm1, hc0, hc1, hn0, hn1, k⟩ := h
    unfold BM at hm1
    refine ⟨_, (pss_cons (ps_if (pt_cmpR op_gt (pe_ix ix_list (pv 0) pe_int (fun _ _ => rfl)) pe_int (nomark _))
 (pss_cons (ps_set (i := 2) sc_take.nd rfl (Or.inl rfl) (pe_op op_mod (pe_callTy call_int1 (by rfl) T.z_int (by decide +kernel) (pa_cons (pe_ix ix_list (pv 0) pe_int (fun _ _ => rfl)) pa_nil)) (pv 1)))
 (pss_cons (ps_asg (pe_op op_fdivW (pe_ix ix_list (pv 0) pe_int (fun _ _ => rfl)) (pv 1)) (pg_sub (pv 0) pe_int set_list))
 (pss_one (ps_ret (pv 2)))))
 pss_nil)
 (pss_cons (ps_asg (pe_op op_add (pe_ix ix_list (pv 0) pe_int (fun _ _ => rfl)) pe_int) (pg_sub (pv 0) pe_int set_list))
 (pss_cons (ps_set (i := 3) sc_take.nd rfl (Or.inl rfl) (pe_op op_mod (pe_callTy call_int1 (by rfl) T.z_int (by decide +kernel) (pa_cons (pe_op op_pow (pe_op op_add (pe_ix ix_list (pv 0) pe_int (fun _ _ => rfl)) (pe_op op_mul pe_int (pe_ix ix_list (pv 0) pe_int (fun _ _ => rfl)))) pe_int) pa_nil)) pe_int))
 (pss_cons (ps_set (i := 3) sc_take.nd rfl (Or.inl rfl) (pe_op op_mod (pe_callTy call_int1 (by rfl) T.z_int (by decide +kernel) (pa_cons (pe_op op_pow (pe_op op_add (pv 3) (pe_op op_mul pe_int (pe_ix ix_list (pv 0) pe_int (fun _ _ => rfl)))) pe_int) pa_nil)) pe_int))
 (pss_one (ps_ret (pe_op op_mod (pe_callTy call_int1 (by rfl) T.z_int (by decide +kernel) (pa_cons (pe_op op_fdivW (pv 3) pe_int) pa_nil)) (pv 1)))))))), ?_⟩
    refine ⟨_, rfl, _, _, _, .int d, rfl, rfl, (SqL.of hp), (by rfl), _, _, rfl, rfl, _, rfl, ?_⟩
    refine ite2 (fun c7 => ?_) (fun c7 => ?_)
    · refine ⟨_, rfl, _, _, _, .int d, rfl, rfl, (SqL.of hp), (by rfl), ?_⟩
      refine .inl ⟨_, rfl, ?_⟩
      refine ⟨_, rfl, _, _, rfl, rfl, (by walk_at "pos"), ?_⟩
      refine ⟨_, rfl, _, _, _, .int d, rfl, rfl, (SqL.of hp), (by rfl), _, rfl, _, _, rfl, rfl, (by walk_at "fdiv"), _, rfl, _, _, _, _, rfl, rfl, hp, (by rfl), ?_⟩
      refine ⟨_, rfl, ?_⟩
      exact k _ (d / n) c _ (rem0 hn0) (rem1 hn0) (div0 hn0 hd) (Int.le_refl _) (by omega) But.upd upd_same
    · refine ⟨_, rfl, _, _, _, .int c, rfl, rfl, (SqL.of hp), (by rfl), _, _, rfl, rfl, _, rfl, _, _, _, _, rfl, rfl, hp, (by rfl), ?_⟩
      have hp' : upd H p (.lst ([V.int d, .int m, .int c].set 2 (.int (c + 1)))) p = some (bagV d m (c + 1)) := upd_same
      refine ⟨_, rfl, _, _, _, .int m, rfl, rfl, (SqL.of hp'), (by rfl), _, rfl, _, _, _, .int (c + 1), rfl, rfl, (SqL.of hp'), (by rfl), _, _, rfl, rfl, (by walk_at "mul"), _, _, rfl, rfl, _, _, rfl, rfl, (by walk_at "pow"), ?_⟩
      refine .inl ⟨_, rfl, ?_⟩
      refine ⟨_, _, rfl, rfl, (by walk_at "pos"), ?_⟩
      have e0 := rem0 (a := (m + 15485863 * (c + 1)) ^ (3 : Int).toNat) (n := 2305843009213693921) (by decide)
      have e1 := rem1 (a := (m + 15485863 * (c + 1)) ^ (3 : Int).toNat) (n := 2305843009213693921) (by decide)
      generalize (m + 15485863 * (c + 1)) ^ (3 : Int).toNat % 2305843009213693921 = y at e0 e1
      refine ⟨_, rfl, _, rfl, _, _, _, .int (c + 1), rfl, rfl, (SqL.of hp'), (by rfl), _, _, rfl, rfl, (by walk_at "mul"), _, _, rfl, rfl, _, _, rfl, rfl, (by walk_at "pow"), ?_⟩
      refine .inl ⟨_, rfl, ?_⟩
      refine ⟨_, _, rfl, rfl, (by walk_at "pos"), ?_⟩
      refine ⟨_, rfl, _, _, rfl, rfl, (by walk_at "fdiv"), ?_⟩
      refine .inl ⟨_, rfl, ?_⟩
      refine ⟨_, rfl, _, _, rfl, rfl, (by walk_at "pos"), ?_⟩
      exact k _ d (c + 1) _ (rem0 hn0) (rem1 hn0) hd (by omega) (Int.le_refl _) But.upd upd_same

def spOf : Sp := fun vs H Q _ => ∃ (p l : Addr) (d m c : Int) (xs : List V), vs = [.ref p, .ref l] ∧ H p = some (bagV d m c) ∧ 0 ≤ d ∧ 0 ≤ m ∧ m < BM ∧ 0 ≤ c ∧ c < 1000 ∧ H l = some (.lst xs) ∧ 0 < xs.length ∧ xs.length < 1000 ∧ p ≠ l ∧
  ∀ (v : V) (d' c' : Int) (H' : Hp), v ∈ xs → 0 ≤ d' → c ≤ c' → c' ≤ c + 1 → But p H H' → H' p = some (bagV d' m c') → Q v H'
def spNumber : Sp := fun vs H Q _ => ∃ (p : Addr) (d m c : Int), vs = [.ref p] ∧ H p = some (bagV d m c) ∧ 0 ≤ d ∧ 0 ≤ m ∧ m < BM ∧ 0 ≤ c ∧ c < 500 ∧
  ∀ (n d' c' : Int) (H' : Hp), -10 ^ 26 < n → n < 10 ^ 26 → 0 ≤ d' → c ≤ c' → c' ≤ c + 2 → But p H H' → H' p = some (bagV d' m c') → Q (.int n) H'
theorem ok_of (T : Txt P K mg A0) : FnOk P w K mg base CX0 2 A0.f_of A0.fd_of ["_law_bag_here", "_law_some"] spOf := by
  have G_take : FnOk P w K mg base CX0 1 A0.f_take A0.fd_take ["_law_bag_here", "_law_many"] spTake := ok_take T
  refine T.F_of.ok sc_of (fun vs H Q E h => ?_) (fun cdv A outer s H vs Q E hr h => ?_)
  · obtain ⟨p, l, d, m, c, xs, rfl, _⟩ := h
    rfl
  · obtain ⟨p, l, d, m, c, xs, rfl, hp, hd, hm0, hm1, hc0, hc1, hl, hx0, hx1, hne, k⟩ := h
    refine ⟨_, (pss_one (ps_ret (pe_ix ix_list (pv 1) (pe_call G_take (hr.mono (by decide)) rfl T.m_take T.F_take.kp T.b_take .nil pass0 (pa_cons (pv 0) (pa_cons (pe_callB call_len (by rfl) T.z_len PySem.boot_len (pa_cons (pv 1) pa_nil)) pa_nil))) (fun _ _ => rfl)))), ?_⟩
    refine ⟨_, rfl, _, rfl, _, rfl, _, _, rfl, .inl ⟨_, SqL.of hl, rfl⟩, p, d, m, c, _, rfl, hp, hd, hm0, hm1, hc0, hc1, by omega, by omega, fun i d' c' H1 h0 h1 h2 h3 h4 h5 h6 => ?_⟩
    have hi : i.toNat < xs.length := by omega
    refine ⟨l, xs, i, xs[i.toNat], rfl, rfl, SqL.of (h5 l _ (Ne.symm hne) hl), at_of (j := i.toNat) (by omega) (by simp [hi]), ?_⟩
    exact k _ d' c' _ (List.getElem_mem hi) h2 h3 h4 h5 h6
theorem ok_number (T : Txt P K mg A0) : FnOk P w K mg base CX0 2 A0.f_number A0.fd_number ["_law_bag_here"] spNumber := by
  have G_take : FnOk P w K mg base CX0 1 A0.f_take A0.fd_take ["_law_bag_here", "_law_many"] spTake := ok_take T
  refine T.F_number.ok sc_number (fun vs H Q E h => ?_) (fun cdv A outer s H vs Q E hr h => ?_)
  · obtain ⟨p, d, m, c, rfl, _⟩ := h
    rfl
  · obtain ⟨p, d, m, c, rfl, hp, hd, hm0, hm1, hc0, hc1, k⟩ := h
    refine ⟨_, (pss_cons (ps_if (pt_cmpR op_gt (pe_call G_take (hr.mono (by decide)) rfl T.m_take T.F_take.kp T.b_take .nil pass0 (pa_cons (pv 0) (pa_cons pe_int pa_nil))) pe_int (nomark _))
 (pss_one (ps_ret (pe_op op_sub (pe_call G_take (hr.mono (by decide)) rfl T.m_take T.F_take.kp T.b_take .nil pass0 (pa_cons (pv 0) (pa_cons pe_int pa_nil))) pe_int)))
 pss_nil)
 (pss_one (ps_ret (pe_op op_sub (pe_call G_take (hr.mono (by decide)) rfl T.m_take T.F_take.kp T.b_take .nil pass0 (pa_cons (pv 0) (pa_cons (pe_op op_add (pe_op op_mul pe_int (pe_op op_pow pe_int pe_int)) pe_int) pa_nil))) (pe_op op_pow pe_int pe_int))))), ?_⟩
    refine ⟨_, rfl, p, d, m, c, _, rfl, hp, hd, hm0, hm1, hc0, by omega, by decide, by decide, fun i d' c' H1 h0 h1 h2 h3 h4 h5 h6 => ?_⟩
    refine ⟨_, _, rfl, rfl, _, rfl, ?_⟩
    refine ite2 (fun c7 => ?_) (fun c7 => ?_)
    · refine ⟨_, rfl, p, d', m, c', _, rfl, h6, h2, hm0, hm1, by omega, by omega, by decide, by decide, fun i2 d2 c2 H2 g0 g1 g2 g3 g4 g5 g6 => ?_⟩
      refine ⟨_, _, rfl, rfl, ?_⟩
      exact k _ d2 c2 _ (by omega) (by omega) g2 (by omega) (by omega) (h5.trans g5) g6
    · refine ⟨_, rfl, _, _, rfl, rfl, (by walk_at "pow"), _, _, rfl, rfl, (by walk_at "mul"), _, _, rfl, rfl, p, d', m, c', _, rfl, h6, h2, hm0, hm1, by omega, by omega, by decide, by decide, fun i2 d2 c2 H2 g0 g1 g2 g3 g4 g5 g6 => ?_⟩
      refine ⟨_, _, rfl, rfl, (by walk_at "pow"), _, _, rfl, rfl, ?_⟩
      have e25 : (10 : Int) ^ (25 : Int).toNat = 10000000000000000000000000 := by decide
      rw [e25] at g1 ⊢
      exact k _ d2 c2 _ (by omega) (by omega) g2 (by omega) (by omega) (h5.trans g5) g6
def spFields (K : PySem.W.Frag) : Sp := fun vs H Q _ => ∃ (n : Int) (t : Str) (a b : Addr) (d e : PyData), vs = [.int n, .str t, .ref a, .ref b] ∧ Dp K H (.ref a) d ∧ Dp K H (.ref b) e ∧ SeqAt.shaped d = true ∧ SeqAt.shaped e = true ∧ SeqAt.shaped (.list (List.replicate 7 (.str t))) = true ∧
  ∀ H', Same H H' → Q (.bl true) H'
theorem ok_fields (T : Txt P K mg A0) : FnOk P w K mg base CX0 1 A0.f_fields A0.fd_fields ["_law_count", "_law_text", "_law_sizes", "_law_pairs"] (spFields K) := by
  refine T.F_fields.ok sc_fields (fun vs H Q E h => ?_) (fun cdv A outer s H vs Q E hr h => ?_)
  · obtain ⟨n, t, a, b, d, e, rfl, _⟩ := h
    rfl
  · obtain ⟨n, t, a, b, d, e, rfl, dd, de, sd, se, st, k⟩ := h
    refine ⟨_, (pss_cons (ps_set (i := 4) sc_fields.nd rfl (Or.inl rfl) (pe_oxK T.x_Faulty hr rfl (pk_cons (pv 1) (pk_cons (pv 2) (pk_cons (pv 3) pk_nil)))))
 (pss_cons (ps_set (i := 5) sc_fields.nd rfl (Or.inl rfl) (pe_lst (pa_cons (pe_oxF (pe_oxK T.x_BadSymbol hr rfl (pk_cons (pv 1) pk_nil)) rfl) (pa_cons (pe_oxF (pe_oxK T.x_BadDomain hr rfl (pk_cons (pv 1) pk_nil)) rfl) (pa_cons (pe_oxF (pe_oxK T.x_TooMany hr rfl (pk_cons (pv 1) pk_nil)) rfl) pa_nil)))))
 (pss_cons (ps_set (i := 5) sc_fields.nd rfl (Or.inl rfl) (pe_op op_cat (pv 5) (pe_lst (pa_cons (pe_oxF (pe_oxK T.x_Amid hr rfl (pk_cons (pv 1) pk_nil)) rfl) (pa_cons (pe_oxF (pe_oxK T.x_BadDoor hr rfl (pk_cons (pv 1) pk_nil)) rfl) (pa_cons (pe_oxF (pe_oxK T.x_BadName hr rfl (pk_cons (pv 1) pk_nil)) rfl) (pa_cons (pe_oxF (pv 4) rfl) pa_nil)))))))
 (pss_cons (ps_set (i := 6) sc_fields.nd rfl (Or.inl rfl) (pe_lst (pa_cons (pe_oxF (pe_oxK T.x_BadFunction hr rfl (pk_cons (pv 0) pk_nil)) rfl) (pa_cons (pe_oxF (pe_oxK T.x_NotCut hr rfl (pk_cons (pv 0) pk_nil)) rfl) (pa_cons (pe_oxF (pe_oxK T.x_Closed hr rfl (pk_cons (pv 0) pk_nil)) rfl) pa_nil)))))
 (pss_cons (ps_set (i := 6) sc_fields.nd rfl (Or.inl rfl) (pe_op op_cat (pv 6) (pe_lst (pa_cons (pe_oxF (pe_oxK T.x_Starved hr rfl (pk_cons (pv 0) pk_nil)) rfl) (pa_cons (pe_oxF (pe_oxK T.x_Failed hr rfl (pk_cons (pv 0) pk_nil)) rfl) (pa_cons (pe_oxF (pe_oxK T.x_Cut hr rfl (pk_cons (pv 0) pk_nil)) rfl) pa_nil))))))
 (pss_cons (ps_set (i := 6) sc_fields.nd rfl (Or.inl rfl) (pe_op op_cat (pv 6) (pe_lst (pa_cons (pe_oxF (pe_oxK T.x_NotLent hr rfl (pk_cons (pv 0) pk_nil)) rfl) (pa_cons (pe_oxF (pe_oxK T.x_BadMove hr rfl (pk_cons (pv 0) pk_nil)) rfl) pa_nil)))))
 (pss_cons (ps_set (i := 7) sc_fields.nd rfl (Or.inl rfl) (pe_and (pe_cmpR (op_eqD hr.units) (pe_oxF (pv 4) rfl) (pv 2) (nomark _)) (pe_one (pe_cmpR (op_eqD hr.units) (pe_oxF (pv 4) rfl) (pv 3) (nomark _)))))
 (pss_one (ps_ret (pe_and (pe_cmpR (op_eqD hr.units) (pv 5) (pe_op op_rep (pe_lst (pa_cons (pv 1) pa_nil)) pe_int) (nomark _)) (pe_and (pe_cmpR (op_eqD hr.units) (pv 6) (pe_op op_rep (pe_lst (pa_cons (pv 0) pa_nil)) pe_int) (nomark _)) (pe_one (pv 7))))))))))))), ?_⟩
    refine q_ox (Evl.ea_cons (Evl.ev_var (i := 1) rfl) (Evl.ea_cons (Evl.ev_var (i := 2) rfl) (Evl.ea_cons (Evl.ev_var (i := 3) rfl) Evl.ea_nil))) (by rfl) fun v0 H0 s0 x0 => ?_
    refine Evl.q_asgL (Evl.el_lst (Evl.ea_cons (ev_oxf T.x_BadSymbol (by decide +kernel) (Evl.ea_cons (Evl.ev_var (i := 1) rfl) Evl.ea_nil) (by rfl) (by rfl)) (Evl.ea_cons (ev_oxf T.x_BadDomain (by decide +kernel) (Evl.ea_cons (Evl.ev_var (i := 1) rfl) Evl.ea_nil) (by rfl) (by rfl)) (Evl.ea_cons (ev_oxf T.x_TooMany (by decide +kernel) (Evl.ea_cons (Evl.ev_var (i := 1) rfl) Evl.ea_nil) (by rfl) (by rfl)) Evl.ea_nil))) (by walk_at "sz")) fun p1 H1 hp1 e1 h1 => ?_
    refine Evl.q_asgL (el_cat (Evl.ev_var (i := 5) rfl) h1 (Evl.el_lst (Evl.ea_cons (ev_oxf T.x_Amid (by decide +kernel) (Evl.ea_cons (Evl.ev_var (i := 1) rfl) Evl.ea_nil) (by rfl) (by rfl)) (Evl.ea_cons (ev_oxf T.x_BadDoor (by decide +kernel) (Evl.ea_cons (Evl.ev_var (i := 1) rfl) Evl.ea_nil) (by rfl) (by rfl)) (Evl.ea_cons (ev_oxf T.x_BadName (by decide +kernel) (Evl.ea_cons (Evl.ev_var (i := 1) rfl) Evl.ea_nil) (by rfl) (by rfl)) (Evl.ea_cons (ev_oxv T.x_Faulty (by decide +kernel) (Evl.ev_var (i := 4) rfl) (x0.mono e1) (by rfl)) Evl.ea_nil)))) (by walk_at "sz")) (by walk_at "sz")) fun p2 H2 hp2 e2 h2 => ?_
    refine Evl.q_asgL (Evl.el_lst (Evl.ea_cons (ev_oxf T.x_BadFunction (by decide +kernel) (Evl.ea_cons (Evl.ev_var (i := 0) rfl) Evl.ea_nil) (by rfl) (by rfl)) (Evl.ea_cons (ev_oxf T.x_NotCut (by decide +kernel) (Evl.ea_cons (Evl.ev_var (i := 0) rfl) Evl.ea_nil) (by rfl) (by rfl)) (Evl.ea_cons (ev_oxf T.x_Closed (by decide +kernel) (Evl.ea_cons (Evl.ev_var (i := 0) rfl) Evl.ea_nil) (by rfl) (by rfl)) Evl.ea_nil))) (by walk_at "sz")) fun p3 H3 hp3 e3 h3 => ?_
    refine Evl.q_asgL (el_cat (Evl.ev_var (i := 6) rfl) h3 (Evl.el_lst (Evl.ea_cons (ev_oxf T.x_Starved (by decide +kernel) (Evl.ea_cons (Evl.ev_var (i := 0) rfl) Evl.ea_nil) (by rfl) (by rfl)) (Evl.ea_cons (ev_oxf T.x_Failed (by decide +kernel) (Evl.ea_cons (Evl.ev_var (i := 0) rfl) Evl.ea_nil) (by rfl) (by rfl)) (Evl.ea_cons (ev_oxf T.x_Cut (by decide +kernel) (Evl.ea_cons (Evl.ev_var (i := 0) rfl) Evl.ea_nil) (by rfl) (by rfl)) Evl.ea_nil))) (by walk_at "sz")) (by walk_at "sz")) fun p4 H4 hp4 e4 h4 => ?_
    refine Evl.q_asgL (el_cat (Evl.ev_var (i := 6) rfl) h4 (Evl.el_lst (Evl.ea_cons (ev_oxf T.x_NotLent (by decide +kernel) (Evl.ea_cons (Evl.ev_var (i := 0) rfl) Evl.ea_nil) (by rfl) (by rfl)) (Evl.ea_cons (ev_oxf T.x_BadMove (by decide +kernel) (Evl.ea_cons (Evl.ev_var (i := 0) rfl) Evl.ea_nil) (by rfl) (by rfl)) Evl.ea_nil)) (by walk_at "sz")) (by walk_at "sz")) fun p5 H5 hp5 e5 h5 => ?_
    have f5 : Same H0 H5 := (((e1.trans e2).trans e3).trans e4).trans e5
    have g5 : Same H H5 := s0.trans f5
    refine Evl.q_asg (v := .bl true) (Evl.ev_andV (a := true) (b := true) (ev_eqD (ev_oxv T.x_Faulty (by decide +kernel) (Evl.ev_var (i := 4) rfl) (x0.mono f5) (by rfl)) (Evl.ev_var (i := 2) rfl) (dd.mono g5) (dd.mono g5) sd sd (eqv_self sd))
      fun _ => (ev_eqD (ev_oxv T.x_Faulty (by decide +kernel) (Evl.ev_var (i := 4) rfl) (x0.mono f5) (by rfl)) (Evl.ev_var (i := 3) rfl) (de.mono g5) (de.mono g5) se se (eqv_self se))) fun H6 e6 => ?_
    have h2' : H6 p2 = some (.lst (List.replicate 7 (.str t))) := e6 _ _ (e5 _ _ (e4 _ _ (e3 _ _ h2)))
    have h5' : H6 p5 = some (.lst (List.replicate 8 (.int n))) := e6 _ _ h5
    have si : SeqAt.shaped (.list (List.replicate 8 (.int n))) = true := rfl
    refine Evl.s_ret (v := .bl true) (Evl.ev_andV (a := true) (b := true) (ev_eqDL (Evl.ev_var (i := 5) rfl) (el_rep (n := 7) (Evl.ev_var (i := 1) rfl) (by walk_at "sz")) (.lst (SqL.of h2') (dpAll_rep (.str t) 7)) (fun p H1 _ h => .lst (SqL.of h) (dpAll_rep (.str t) 7)) st st (eqv_self st))
      fun _ => (Evl.ev_andV (a := true) (b := true) (ev_eqDL (Evl.ev_var (i := 6) rfl) (el_rep (n := 8) (Evl.ev_var (i := 0) rfl) (by walk_at "sz")) (.lst (SqL.of h5') (dpAll_rep (.int n) 8)) (fun p H1 _ h => .lst (SqL.of h) (dpAll_rep (.int n) 8)) si si (eqv_self si))
      fun _ => Evl.ev_var (i := 7) rfl)) fun H7 e7 => k H7 ((g5.trans e6).trans e7)
def specs (A0 : Ad) (n : Int) (t : Str) (x y : Addr) : List (Addr × List (Str × V)) := [(A0.c 0, exF ["symbol"] [.str t]), (A0.c 1, exF ["symbol"] [.str t]), (A0.c 2, exF ["row"] [.int n]), (A0.c 3, exF ["what"] [.str t]), (A0.c 4, exF ["row"] [.int n]), (A0.c 5, exF ["half"] [.str t]), (A0.c 6, exF ["number"] [.int n]), (A0.c 7, exF ["number"] [.int n]), (A0.c 8, exF ["row"] [.int n]), (A0.c 9, exF ["row"] [.int n]), (A0.c 10, exF ["word"] [.str t]), (A0.c 11, exF ["name"] [.str t]), (A0.c 12, exF ["number"] [.int n]), (A0.c 13, exF ["at"] [.int n]), (A0.c 14, exF ["kind", "lengths", "moves"] [.str t, .ref x, .ref y])]
def spMade (A0 : Ad) : Sp := fun vs H Q _ => ∃ (n : Int) (t : Str), vs = [.int n, .str t] ∧
  ∀ (p x y z : Addr) (ws : List V) (H' : Hp), Same H H' → H' p = some (.lst ws) → ExAll H' ws (specs A0 n t x y) → H' x = some (.tup [.int n]) → H' y = some (.tup [.ref z]) → H' z = some (.tup [.int n, .str t]) → Q (.ref p) H'
theorem ok_made (T : Txt P K mg A0) : FnOk P w K mg base CX0 1 A0.f_made A0.fd_made ["_law_count", "_law_text"] (spMade A0) := by
  refine T.F_made.ok sc_made (fun vs H Q E h => ?_) (fun cdv A outer s H vs Q E hr h => ?_)
  · obtain ⟨n, t, rfl, _⟩ := h
    rfl
  · obtain ⟨n, t, rfl, k⟩ := h
    refine ⟨_, (pss_cons (ps_set (i := 2) sc_made.nd rfl (Or.inl rfl) (pe_lst (pa_cons (pe_ox T.x_BadSymbol hr rfl (pa_cons (pv 1) pa_nil)) (pa_cons (pe_ox T.x_BadDomain hr rfl (pa_cons (pv 1) pa_nil)) (pa_cons (pe_ox T.x_BadFunction hr rfl (pa_cons (pv 0) pa_nil)) (pa_cons (pe_ox T.x_TooMany hr rfl (pa_cons (pv 1) pa_nil)) (pa_cons (pe_ox T.x_NotCut hr rfl (pa_cons (pv 0) pa_nil)) (pa_cons (pe_ox T.x_Amid hr rfl (pa_cons (pv 1) pa_nil)) pa_nil))))))))
 (pss_cons (ps_set (i := 2) sc_made.nd rfl (Or.inl rfl) (pe_op op_cat (pv 2) (pe_lst (pa_cons (pe_ox T.x_Closed hr rfl (pa_cons (pv 0) pa_nil)) (pa_cons (pe_ox T.x_Starved hr rfl (pa_cons (pv 0) pa_nil)) (pa_cons (pe_ox T.x_Failed hr rfl (pa_cons (pv 0) pa_nil)) (pa_cons (pe_ox T.x_Cut hr rfl (pa_cons (pv 0) pa_nil)) (pa_cons (pe_ox T.x_BadDoor hr rfl (pa_cons (pv 1) pa_nil)) (pa_cons (pe_ox T.x_BadName hr rfl (pa_cons (pv 1) pa_nil)) pa_nil)))))))))
 (pss_one (ps_ret (pe_op op_cat (pv 2) (pe_lst (pa_cons (pe_ox T.x_NotLent hr rfl (pa_cons (pv 0) pa_nil)) (pa_cons (pe_ox T.x_BadMove hr rfl (pa_cons (pv 0) pa_nil)) (pa_cons (pe_ox T.x_Faulty hr rfl (pa_cons (pv 1) (pa_cons (pe_tup (pa_cons (pv 0) pa_nil)) (pa_cons (pe_tup (pa_cons (pe_tup (pa_cons (pv 0) (pa_cons (pv 1) pa_nil))) pa_nil)) pa_nil)))) pa_nil))))))))), ?_⟩
    refine q_lstX (eax_cons (Evl.ea_cons (Evl.ev_var (i := 1) rfl) Evl.ea_nil) (by rfl) (eax_cons (Evl.ea_cons (Evl.ev_var (i := 1) rfl) Evl.ea_nil) (by rfl) (eax_cons (Evl.ea_cons (Evl.ev_var (i := 0) rfl) Evl.ea_nil) (by rfl) (eax_cons (Evl.ea_cons (Evl.ev_var (i := 1) rfl) Evl.ea_nil) (by rfl) (eax_cons (Evl.ea_cons (Evl.ev_var (i := 0) rfl) Evl.ea_nil) (by rfl) (eax_cons (Evl.ea_cons (Evl.ev_var (i := 1) rfl) Evl.ea_nil) (by rfl) eax_nil)))))) (by walk_at "sz") fun p1 w1 H1 hp1 e1 h1 x1 => ?_
    have l1 := Paired.length x1
    refine q_catX (Evl.ev_var (i := 2) rfl) h1 (eax_cons (Evl.ea_cons (Evl.ev_var (i := 0) rfl) Evl.ea_nil) (by rfl) (eax_cons (Evl.ea_cons (Evl.ev_var (i := 0) rfl) Evl.ea_nil) (by rfl) (eax_cons (Evl.ea_cons (Evl.ev_var (i := 0) rfl) Evl.ea_nil) (by rfl) (eax_cons (Evl.ea_cons (Evl.ev_var (i := 0) rfl) Evl.ea_nil) (by rfl) (eax_cons (Evl.ea_cons (Evl.ev_var (i := 1) rfl) Evl.ea_nil) (by rfl) (eax_cons (Evl.ea_cons (Evl.ev_var (i := 1) rfl) Evl.ea_nil) (by rfl) eax_nil)))))) (by rw [l1]; walk_at "sz") fun p2 w2 H2 hp2 e2 h2 x2 => ?_
    have l2 := Paired.length x2
    -- the last list: NotLent, BadMove, Faulty
    refine ⟨_, rfl, ?_⟩
    refine ⟨_, rfl, rfl, fun a3 d3 ha3 hd3 hne3 => ?_⟩
    obtain ⟨e3, x3⟩ := mk_step (C := A0.c 12) (fv := exF ["number"] [.int n]) ha3 hd3 hne3
    refine ⟨_, rfl, rfl, fun a4 d4 ha4 hd4 hne4 => ?_⟩
    obtain ⟨e4, x4⟩ := mk_step (C := A0.c 13) (fv := exF ["at"] [.int n]) ha4 hd4 hne4
    refine ⟨_, rfl, _, rfl, (by show 1 ≤ sizeLine; decide), fun x hx => ⟨_, rfl, _, rfl, (by show 2 ≤ sizeLine; decide), fun z hz => ⟨by show 1 ≤ sizeLine; decide, fun y hy => ⟨rfl, fun e d he hd hde => ?_⟩⟩⟩⟩
    obtain ⟨s5, x5⟩ := mk_step (C := A0.c 14) (fv := exF ["kind", "lengths", "moves"] [.str t, .ref x, .ref y]) he hd hde
    have nx := Same.new (o := .tup [.int n]) hx
    have nz := Same.new (o := .tup [.int n, .str t]) hz
    have ny := Same.new (o := .tup [.ref z]) hy
    refine ⟨by show 3 ≤ sizeLine; decide, fun p3 hp3 => ?_⟩
    have np := Same.new (o := .lst [.ref a3, .ref a4, .ref e]) hp3
    have s34 := Same.trans (Same.trans (Same.trans (Same.trans (Same.trans e4 nx) nz) ny) s5) np
    have s44 := Same.trans (Same.trans (Same.trans (Same.trans nx nz) ny) s5) np
    have s24 := Same.trans e3 s34
    refine ⟨p2, p3, w1 ++ w2, _, rfl, rfl, s24 _ _ h2, upd_same, Evl.sz_of (by rw [List.length_append, l1, l2]; walk_at "sz"), fun r hr => ?_⟩
    have nr := Same.new (o := .lst ((w1 ++ w2) ++ [.ref a3, .ref a4, .ref e])) hr
    refine k r x y z _ _ (Same.trans (Same.trans e1 e2) (Same.trans s24 nr)) upd_same ?_ ?_ ?_ ?_
    · exact ExAll.append (ExAll.append (x1.mono (Same.trans e2 (Same.trans s24 nr))) (x2.mono (Same.trans s24 nr))) (.cons (x3.mono (Same.trans s34 nr)) (.cons (x4.mono (Same.trans s44 nr)) (.cons (x5.mono (Same.trans np nr)) .nil)))
    · exact nr _ _ (np _ _ (s5 _ _ (ny _ _ (nz _ _ upd_same))))
    · exact nr _ _ (np _ _ (s5 _ _ upd_same))
    · exact nr _ _ (np _ _ (s5 _ _ (ny _ _ upd_same)))
def spClasses (K : PySem.W.Frag) (A0 : Ad) : Sp := fun vs H Q _ => ∃ (v : V) (t : Addr) (b : Nat → Bool), vs = [v] ∧ IsX K H v t ∧ (∀ j, j < 15 → PySem.W.kitOne K (.ref t) (.ref (A0.c j)) = some (b j)) ∧
  ∀ (p : Addr) (H' : Hp), H p = none → Same H H' → H' p = some (.lst ((List.range 15).map fun j => .bl (b j))) → Q (.ref p) H'
theorem ok_classes (T : Txt P K mg A0) : FnOk P w K mg base CX0 1 A0.f_classes A0.fd_classes ["_law_e"] (spClasses K A0) := by
  refine T.F_classes.ok sc_classes (fun vs H Q E h => ?_) (fun cdv A outer s H vs Q E hr h => ?_)
  · obtain ⟨v, t, b, rfl, _⟩ := h
    rfl
  · obtain ⟨v, t, b, rfl, hx, hb, k⟩ := h
    refine ⟨_, (pss_cons (ps_set (i := 1) sc_classes.nd rfl (Or.inl rfl) (pe_lst (pa_cons (pe_callB call_isX (by rfl) T.z_isinstance (by decide +kernel) (pa_cons (pv 0) (pa_cons (pe_glob (v := .ref _) rfl T.x_BadSymbol.gC rfl) pa_nil))) (pa_cons (pe_callB call_isX (by rfl) T.z_isinstance (by decide +kernel) (pa_cons (pv 0) (pa_cons (pe_glob (v := .ref _) rfl T.x_BadDomain.gC rfl) pa_nil))) (pa_cons (pe_callB call_isX (by rfl) T.z_isinstance (by decide +kernel) (pa_cons (pv 0) (pa_cons (pe_glob (v := .ref _) rfl T.x_BadFunction.gC rfl) pa_nil))) (pa_cons (pe_callB call_isX (by rfl) T.z_isinstance (by decide +kernel) (pa_cons (pv 0) (pa_cons (pe_glob (v := .ref _) rfl T.x_TooMany.gC rfl) pa_nil))) pa_nil))))))
 (pss_cons (ps_set (i := 1) sc_classes.nd rfl (Or.inl rfl) (pe_op op_cat (pv 1) (pe_lst (pa_cons (pe_callB call_isX (by rfl) T.z_isinstance (by decide +kernel) (pa_cons (pv 0) (pa_cons (pe_glob (v := .ref _) rfl T.x_NotCut.gC rfl) pa_nil))) (pa_cons (pe_callB call_isX (by rfl) T.z_isinstance (by decide +kernel) (pa_cons (pv 0) (pa_cons (pe_glob (v := .ref _) rfl T.x_Amid.gC rfl) pa_nil))) (pa_cons (pe_callB call_isX (by rfl) T.z_isinstance (by decide +kernel) (pa_cons (pv 0) (pa_cons (pe_glob (v := .ref _) rfl T.x_Closed.gC rfl) pa_nil))) (pa_cons (pe_callB call_isX (by rfl) T.z_isinstance (by decide +kernel) (pa_cons (pv 0) (pa_cons (pe_glob (v := .ref _) rfl T.x_Starved.gC rfl) pa_nil))) pa_nil)))))))
 (pss_cons (ps_set (i := 1) sc_classes.nd rfl (Or.inl rfl) (pe_op op_cat (pv 1) (pe_lst (pa_cons (pe_callB call_isX (by rfl) T.z_isinstance (by decide +kernel) (pa_cons (pv 0) (pa_cons (pe_glob (v := .ref _) rfl T.x_Failed.gC rfl) pa_nil))) (pa_cons (pe_callB call_isX (by rfl) T.z_isinstance (by decide +kernel) (pa_cons (pv 0) (pa_cons (pe_glob (v := .ref _) rfl T.x_Cut.gC rfl) pa_nil))) (pa_cons (pe_callB call_isX (by rfl) T.z_isinstance (by decide +kernel) (pa_cons (pv 0) (pa_cons (pe_glob (v := .ref _) rfl T.x_BadDoor.gC rfl) pa_nil))) (pa_cons (pe_callB call_isX (by rfl) T.z_isinstance (by decide +kernel) (pa_cons (pv 0) (pa_cons (pe_glob (v := .ref _) rfl T.x_BadName.gC rfl) pa_nil))) pa_nil)))))))
 (pss_one (ps_ret (pe_op op_cat (pv 1) (pe_lst (pa_cons (pe_callB call_isX (by rfl) T.z_isinstance (by decide +kernel) (pa_cons (pv 0) (pa_cons (pe_glob (v := .ref _) rfl T.x_NotLent.gC rfl) pa_nil))) (pa_cons (pe_callB call_isX (by rfl) T.z_isinstance (by decide +kernel) (pa_cons (pv 0) (pa_cons (pe_glob (v := .ref _) rfl T.x_BadMove.gC rfl) pa_nil))) (pa_cons (pe_callB call_isX (by rfl) T.z_isinstance (by decide +kernel) (pa_cons (pv 0) (pa_cons (pe_glob (v := .ref _) rfl T.x_Faulty.gC rfl) pa_nil))) pa_nil)))))))))), ?_⟩
    refine ⟨_, rfl, _, _, t, _, _, rfl, hx, fun u r => r, hb 0 (by decide), ⟨_, rfl, _, _, t, _, _, rfl, hx, fun u r => r, hb 1 (by decide), ⟨_, rfl, _, _, t, _, _, rfl, hx, fun u r => r, hb 2 (by decide), ⟨_, rfl, _, _, t, _, _, rfl, hx, fun u r => r, hb 3 (by decide), ⟨by show 4 ≤ sizeLine; decide, fun p1 hp1 => ?_⟩⟩⟩⟩⟩
    have n1 := Same.new (o := .lst [.bl (b 0), .bl (b 1), .bl (b 2), .bl (b 3)]) hp1
    have hx1 := hx.mono n1
    refine ⟨_, rfl, ?_⟩
    refine ⟨_, rfl, _, _, t, _, _, rfl, hx1, fun u r => r, hb 4 (by decide), ⟨_, rfl, _, _, t, _, _, rfl, hx1, fun u r => r, hb 5 (by decide), ⟨_, rfl, _, _, t, _, _, rfl, hx1, fun u r => r, hb 6 (by decide), ⟨_, rfl, _, _, t, _, _, rfl, hx1, fun u r => r, hb 7 (by decide), ⟨by show 4 ≤ sizeLine; decide, fun p2 hp2 => ?_⟩⟩⟩⟩⟩
    have n2 := Same.new (o := .lst [.bl (b 4), .bl (b 5), .bl (b 6), .bl (b 7)]) hp2
    refine ⟨p1, p2, [.bl (b 0), .bl (b 1), .bl (b 2), .bl (b 3)], _, rfl, rfl, n2 _ _ upd_same, upd_same, (by show 8 ≤ sizeLine; decide), fun p3 hp3 => ?_⟩
    have n3 := Same.new (o := .lst [.bl (b 0), .bl (b 1), .bl (b 2), .bl (b 3), .bl (b 4), .bl (b 5), .bl (b 6), .bl (b 7)]) hp3
    have hx2 := (hx1.mono n2).mono n3
    refine ⟨_, rfl, ?_⟩
    refine ⟨_, rfl, _, _, t, _, _, rfl, hx2, fun u r => r, hb 8 (by decide), ⟨_, rfl, _, _, t, _, _, rfl, hx2, fun u r => r, hb 9 (by decide), ⟨_, rfl, _, _, t, _, _, rfl, hx2, fun u r => r, hb 10 (by decide), ⟨_, rfl, _, _, t, _, _, rfl, hx2, fun u r => r, hb 11 (by decide), ⟨by show 4 ≤ sizeLine; decide, fun p4 hp4 => ?_⟩⟩⟩⟩⟩
    have n4 := Same.new (o := .lst [.bl (b 8), .bl (b 9), .bl (b 10), .bl (b 11)]) hp4
    refine ⟨p3, p4, [.bl (b 0), .bl (b 1), .bl (b 2), .bl (b 3), .bl (b 4), .bl (b 5), .bl (b 6), .bl (b 7)], _, rfl, rfl, n4 _ _ upd_same, upd_same, (by show 12 ≤ sizeLine; decide), fun p5 hp5 => ?_⟩
    have n5 := Same.new (o := .lst [.bl (b 0), .bl (b 1), .bl (b 2), .bl (b 3), .bl (b 4), .bl (b 5), .bl (b 6), .bl (b 7), .bl (b 8), .bl (b 9), .bl (b 10), .bl (b 11)]) hp5
    have hx3 := (hx2.mono n4).mono n5
    refine ⟨_, rfl, ?_⟩
    refine ⟨_, rfl, _, _, t, _, _, rfl, hx3, fun u r => r, hb 12 (by decide), ⟨_, rfl, _, _, t, _, _, rfl, hx3, fun u r => r, hb 13 (by decide), ⟨_, rfl, _, _, t, _, _, rfl, hx3, fun u r => r, hb 14 (by decide), ⟨by show 3 ≤ sizeLine; decide, fun p6 hp6 => ?_⟩⟩⟩⟩
    have n6 := Same.new (o := .lst [.bl (b 12), .bl (b 13), .bl (b 14)]) hp6
    refine ⟨p5, p6, [.bl (b 0), .bl (b 1), .bl (b 2), .bl (b 3), .bl (b 4), .bl (b 5), .bl (b 6), .bl (b 7), .bl (b 8), .bl (b 9), .bl (b 10), .bl (b 11)], _, rfl, rfl, n6 _ _ upd_same, upd_same, (by show 15 ≤ sizeLine; decide), fun p7 hp7 => ?_⟩
    have sA := Same.trans (Same.trans (Same.trans (Same.trans (Same.trans n1 n2) n3) n4) n5) n6
    exact k p7 _ (Evl.fresh_back sA hp7) (Same.trans sA (Same.new hp7)) upd_same
end
end K17
end
section
set_option Elab.async false
set_option autoImplicit false
set_option linter.all false
set_option maxRecDepth 100000
set_option maxHeartbeats 4000000
namespace K17
open PySem PySem.Spec PyProof.Rows L2 PySem.OxE
section
variable {P : Program} {w : World} {K : PySem.W.Frag} {mg : Str → Option Value} {base : Heap} {A0 : Ad}
def spLaw (K : PySem.W.Frag) : Sp := fun vs H Q _ => ∃ (a : Addr) (ns : List Int), vs = [.ref a] ∧ SqL K H a (ns.map V.int) ∧ ns.length ≤ 63 ∧ ∀ H', Q (.bl true) H'
theorem specs_get (A0 : Ad) (n : Int) (t : Str) (x y : Addr) {k : Nat} (h : k < 15) : ∃ fv, (specs A0 n t x y)[k]? = some (A0.c k, fv) := by
  have h : k = 0 ∨ k = 1 ∨ k = 2 ∨ k = 3 ∨ k = 4 ∨ k = 5 ∨ k = 6 ∨ k = 7 ∨ k = 8 ∨ k = 9 ∨ k = 10 ∨ k = 11 ∨ k = 12 ∨ k = 13 ∨ k = 14 := by omega
  rcases h with rfl | rfl | rfl | rfl | rfl | rfl | rfl | rfl | rfl | rfl | rfl | rfl | rfl | rfl | rfl <;> exact ⟨_, rfl⟩
theorem ev_neDLL {K : PySem.W.Frag} {ta tb : TE} {σ : L2.St} {H : Hp} {xs : List V} {d : PyData} (ha : Evl.EvL ta σ H xs) (hb : Evl.EvL tb σ H xs) (dy : ∀ p H1, H1 p = some (.lst xs) → Dp K H1 (.ref p) d) (sx : SeqAt.shaped d = true) : Evl.Ev (tOp (rNeD K) ta tb) σ H (.bl false) := fun H1 e1 Q q =>
  ha H1 e1 _ fun p H2 hp e2 h2 => hb H2 (e1.trans e2) _ fun r H3 hr e3 h3 => ⟨d, d, dy p H3 (e3 _ _ h2), dy r H3 h3, sx, sx, by rw [eqv_self sx]; exact q H3 (e2.trans e3)⟩
/-- != of a value and new data, alike -/
theorem ev_neDD {K : PySem.W.Frag} {ta tb : TE} {σ : L2.St} {H : Hp} {v : V} {d : PyData} (ha : Evl.Ev ta σ H v) (hb : EvD K tb σ H d) (dv : Dp K H v d) (sx : SeqAt.shaped d = true) : Evl.Ev (tOp (rNeD K) ta tb) σ H (.bl false) := fun H1 e1 Q q =>
  ha H1 e1 _ fun H2 e2 => hb H2 (e1.trans e2) _ fun u H3 e3 du => ⟨d, d, (dv.mono ((e1.trans e2).trans e3)), du, sx, sx, by rw [eqv_self sx]; exact q H3 (e2.trans e3)⟩
def blsD (n : Nat) (b : Nat → Bool) : PyData := .list ((List.range n).map fun j => .bool (b j))
theorem dp_bls {K : PySem.W.Frag} {H : Hp} {p : Addr} {b : Nat → Bool} {n : Nat} (h : H p = some (.lst ((List.range n).map fun j => .bl (b j)))) : Dp K H (.ref p) (blsD n b) := .lst (SqL.of h) (by
  generalize List.range n = l
  induction l with
  | nil => exact .nil
  | cons x t ih => exact .cons (.bl _) ih)
theorem sh_bls (b : Nat → Bool) : SeqAt.shaped (blsD 15 b) = true := by
  show SeqAt.shaped (.list [.bool _, .bool _, .bool _, .bool _, .bool _, .bool _, .bool _, .bool _, .bool _, .bool _, .bool _, .bool _, .bool _, .bool _, .bool _]) = true
  rfl
theorem given_all {n : Nat} {v : Nat → V} : Evl.given n (fun _ => true) v = (List.range n).map v := by
  unfold Evl.given
  rw [List.filter_eq_self.mpr (fun _ _ => rfl)]
theorem ev_isx {K : PySem.W.Frag} {ta : TE} {σ : L2.St} {H : Hp} {v : V} {t C : Addr} {b : Bool} (ha : Evl.Ev ta σ H v) (h : IsX K H v t) (hk : PySem.W.kitOne K (.ref t) (.ref C) = some b) : Evl.Ev (tCB (rIsX K) (tCons ta (tCons (tC (.ref C)) tNil))) σ H (.bl b) :=
  Evl.ev_cb (Evl.ea_cons ha (Evl.ea_cons Evl.ev_c Evl.ea_nil)) fun H1 e1 Q q => isx_use (h.mono e1) hk (q H1 (Evl.Ex.refl H1))
theorem ev_isxT {K : PySem.W.Frag} {ta : TE} {σ : L2.St} {H : Hp} {v : V} {t : Addr} {n : String} {b : Bool} (ha : Evl.Ev ta σ H v) (h : IsX K H v t) (hk : PySem.W.kitOne K (.ref t) (.type n) = some b) : Evl.Ev (tCB (rIsX K) (tCons ta (tCons (tC (.ty n)) tNil))) σ H (.bl b) :=
  Evl.ev_cb (Evl.ea_cons ha (Evl.ea_cons Evl.ev_c Evl.ea_nil)) fun H1 e1 Q q => isx_useT (h.mono e1) hk (q H1 (Evl.Ex.refl H1))
theorem el_classes {K : PySem.W.Frag} {A0 : Ad} {ta : TE} {σ : L2.St} {H : Hp} {v : V} {t : Addr} {b : Nat → Bool} (ha : Evl.Ev ta σ H v) (h : IsX K H v t) (hb : ∀ j, j < 15 → PySem.W.kitOne K (.ref t) (.ref (A0.c j)) = some (b j)) : Evl.EvL (tCall (spClasses K A0) [] E0 (tCons ta tNil)) σ H ((List.range 15).map fun j => .bl (b j)) :=
  Evl.el_call (vs := [v]) (Evl.ea_cons ha Evl.ea_nil) fun H1 e1 Q q E => ⟨v, t, b, rfl, h.mono e1, hb, fun p H2 hp e2 h2 => q p H2 hp e2 h2⟩
theorem menu_str {v : V} (h : v ∈ ([.str "", .str "out", .str "both", .str "zz9", .str "rows", .str "stale"] : List V)) : ∃ t, v = .str t ∧ SeqAt.shaped (.list (List.replicate 7 (.str t))) = true ∧ (∀ m : Int, SeqAt.shaped (.tuple [.tuple [.int 3, .str "go"], .tuple [.int m, .str t]]) = true) ∧ (∀ m : Int, SeqAt.shaped (.tuple [.tuple [.int m, .str t]]) = true) := by
  simp only [List.mem_cons, List.not_mem_nil, or_false] at h
  rcases h with rfl | rfl | rfl | rfl | rfl | rfl <;> exact ⟨_, rfl, by decide +kernel, fun m => by kernel_rfl, fun m => by kernel_rfl⟩
theorem ok_law (T : Txt P K mg A0) : FnOk P w K mg base CX0 3 A0.f_law A0.fd_law ["_law_script"] (spLaw K) := by
  have G_bag : FnOk P w K mg base CX0 1 A0.f_bag A0.fd_bag ["_law_script", "_law_place"] (spBag K) := ok_bag T
  have G_of : FnOk P w K mg base CX0 2 A0.f_of A0.fd_of ["_law_bag_here", "_law_some"] spOf := ok_of T
  have G_number : FnOk P w K mg base CX0 2 A0.f_number A0.fd_number ["_law_bag_here"] spNumber := ok_number T
  have G_fields : FnOk P w K mg base CX0 1 A0.f_fields A0.fd_fields ["_law_count", "_law_text", "_law_sizes", "_law_pairs"] (spFields K) := ok_fields T
  have G_made : FnOk P w K mg base CX0 1 A0.f_made A0.fd_made ["_law_count", "_law_text"] (spMade A0) := ok_made T
  have G_classes : FnOk P w K mg base CX0 1 A0.f_classes A0.fd_classes ["_law_e"] (spClasses K A0) := ok_classes T
  refine T.F_law.ok sc_law (fun vs H Q E h => ?_) (fun cdv A outer s H vs Q E hr h => ?_)
  · obtain ⟨a, ns, rfl, _⟩ := h
    rfl
  · obtain ⟨a, ns, rfl, hS, hlen, k⟩ := h
    refine ⟨_, (pss_cons (ps_for PassesOwn.never rfl (pi_range1 rfl T.z_range (pa_cons (pe_callB (call_max2 rfl) (by rfl) T.z_max (by decide +kernel) (pa_cons pe_int (pa_cons (pe_callB (call_min2 rfl) (by rfl) T.z_min (by decide +kernel) (pa_cons pe_int (pa_cons (pe_callB call_len (by rfl) T.z_len PySem.boot_len (pa_cons (pv 0) pa_nil)) pa_nil))) pa_nil))) pa_nil)) (pg_name (i := 1) sc_law.nd rfl (Or.inl rfl))
 (pss_cons (ps_set (i := 2) sc_law.nd rfl (Or.inl rfl) (pe_call G_bag (hr.mono (by decide)) rfl T.m_bag T.F_bag.kp T.b_bag .nil pass0 (pa_cons (pv 0) (pa_cons (pv 1) pa_nil))))
 (pss_cons (ps_par (i := 3) (j := 4) (by rfl) sc_law.nd rfl rfl (by decide) rfl rfl (pa_cons (pe_call G_number (hr.mono (by decide)) rfl T.m_number T.F_number.kp T.b_number .nil pass0 (pa_cons (pv 2) pa_nil)) (pa_cons (pe_call G_of (hr.mono (by decide)) rfl T.m_of T.F_of.kp T.b_of .nil pass0 (pa_cons (pv 2) (pa_cons (pe_lst (pa_cons pe_str (pa_cons pe_str (pa_cons pe_str (pa_cons pe_str (pa_cons pe_str (pa_cons pe_str pa_nil))))))) pa_nil))) pa_nil)) (by rfl))
 (pss_cons (ps_par (i := 5) (j := 6) (by rfl) sc_law.nd rfl rfl (by decide) rfl rfl (pa_cons (pe_tup (pa_cons (pe_callB call_abs (by rfl) T.z_abs (by decide +kernel) (pa_cons (pv 3) pa_nil)) (pa_cons pe_int pa_nil))) (pa_cons (pe_tup (pa_cons (pe_tup (pa_cons pe_int (pa_cons pe_str pa_nil))) (pa_cons (pe_tup (pa_cons (pe_callB call_abs (by rfl) T.z_abs (by decide +kernel) (pa_cons (pv 3) pa_nil)) (pa_cons (pv 4) pa_nil))) pa_nil))) pa_nil)) (by rfl))
 (pss_cons (ps_if (pt_not (pt_val (pe_call G_fields (hr.mono (by decide)) rfl T.m_fields T.F_fields.kp T.b_fields .nil pass0 (pa_cons (pv 3) (pa_cons (pv 4) (pa_cons (pv 5) (pa_cons (pv 6) pa_nil)))))))
 (pss_one (ps_ret pe_bl))
 pss_nil)
 (pss_cons (ps_set (i := 7) sc_law.nd rfl (Or.inl rfl) (pe_call G_made (hr.mono (by decide)) rfl T.m_made T.F_made.kp T.b_made .nil pass0 (pa_cons (pv 3) (pa_cons (pv 4) pa_nil))))
 (pss_cons (ps_for PassesOwn.never rfl (pi_range1 rfl T.z_range (pa_cons pe_int pa_nil)) (pg_name (i := 8) sc_law.nd rfl (Or.inr rfl))
 (pss_cons (ps_if (pt_cmpR (op_neD hr.units) (pe_call G_classes (hr.mono (by decide)) rfl T.m_classes T.F_classes.kp T.b_classes .nil pass0 (pa_cons (pe_ix ix_list (pv 7) (pv 8) (fun _ _ => rfl)) pa_nil)) (pe_lc (own := [("_law_one", 9)]) (g := gName 9) (tt := tYes) (by rfl) sc_law.nd (pi_range1 rfl T.z_range (pa_cons pe_int pa_nil)) (blkOk_by (N := ["_law_script", "_law_place", "_law_bag_here", "_law_count", "_law_text", "_law_sizes", "_law_pairs", "_law_made_here", "_law_k", "_law_one", "_law_bare"]) (sc := defScope s_law) (by decide +kernel)) (fun _ _ _ _ _ => (pg_name (i := 9) sc_law.nd rfl (Or.inl rfl))) (fun _ _ _ _ _ => pts_nil) (fun _ _ _ _ _ => (pe_cmpR op_eq (pv 9) (pv 8) (nomark _)))) (nomark _))
 (pss_one (ps_ret pe_bl))
 pss_nil)
 (pss_one (ps_if (PW.pt (pw_or (pt_not (pt_val (pe_callB call_isX (by rfl) T.z_isinstance (by decide +kernel) (pa_cons (pe_ix ix_list (pv 7) (pv 8) (fun _ _ => rfl)) (pa_cons (pe_glob (v := .ref _) rfl T.mO rfl) pa_nil))))) (pw_or1 (pt_not (pt_val (pe_callB call_isX (by rfl) T.z_isinstance (by decide +kernel) (pa_cons (pe_ix ix_list (pv 7) (pv 8) (fun _ _ => rfl)) (pa_cons (pe_bltn (v := .ty "ValueError") (by rfl) T.z_ValueError (by decide +kernel) rfl) pa_nil))))))))
 (pss_one (ps_ret pe_bl))
 pss_nil))))
 (pss_cons (ps_if (PW.pt (pw_or (pt_cmpR op_ne (pe_oxF (pe_ix ix_list (pv 7) pe_int (fun _ _ => rfl)) rfl) (pv 4) (nomark _)) (pw_or (pt_cmpR op_ne (pe_oxF (pe_ix ix_list (pv 7) pe_int (fun _ _ => rfl)) rfl) (pv 4) (nomark _)) (pw_or1 (pt_cmpR op_ne (pe_oxF (pe_ix ix_list (pv 7) pe_int (fun _ _ => rfl)) rfl) (pv 3) (nomark _))))))
 (pss_one (ps_ret pe_bl))
 pss_nil)
 (pss_cons (ps_if (PW.pt (pw_or (pt_cmpR op_ne (pe_oxF (pe_ix ix_list (pv 7) pe_int (fun _ _ => rfl)) rfl) (pv 4) (nomark _)) (pw_or (pt_cmpR (op_neD hr.units) (pe_oxF (pe_ix ix_list (pv 7) pe_int (fun _ _ => rfl)) rfl) (pe_tup (pa_cons (pv 3) pa_nil)) (nomark _)) (pw_or1 (pt_cmpR (op_neD hr.units) (pe_oxF (pe_ix ix_list (pv 7) pe_int (fun _ _ => rfl)) rfl) (pe_tup (pa_cons (pe_tup (pa_cons (pv 3) (pa_cons (pv 4) pa_nil))) pa_nil)) (nomark _))))))
 (pss_one (ps_ret pe_bl))
 pss_nil)
 (pss_cons (ps_set (i := 10) sc_law.nd rfl (Or.inl rfl) (pe_exc1 PySem.F.excBase_ValueError T.xO T.mO T.kO (by rfl) (pe_str)))
 (pss_one (ps_if (PW.pt (pw_or (pt_cmpR op_in_seq pe_bl (pe_call G_classes (hr.mono (by decide)) rfl T.m_classes T.F_classes.kp T.b_classes .nil pass0 (pa_cons (pv 10) pa_nil)) (by first | rfl | with_unfolding_all rfl)) (pw_or1 (pt_not (pt_val (pe_callB call_isX (by rfl) T.z_isinstance (by decide +kernel) (pa_cons (pv 10) (pa_cons (pe_bltn (v := .ty "ValueError") (by rfl) T.z_ValueError (by decide +kernel) rfl) pa_nil))))))))
 (pss_one (ps_ret pe_bl))
 pss_nil))))))))))))
 (pss_one (ps_ret pe_bl))), ?_⟩
    refine ⟨_, rfl, _, _, rfl, .inl ⟨_, hS, rfl⟩, _, _, rfl, _, _, rfl, _, rfl, ?_, ?_, for_range (lo := 0) (fun i σ H' => ∃ x1 x2 x3 x4 x5 x6 x7 x8 x9 x10 : Option V, σ = [some (.ref a), x1, x2, x3, x4, x5, x6, x7, x8, x9, x10] ∧ Same H H')
      ⟨_, _, _, _, _, _, _, _, _, _, rfl, Same.refl H⟩ ?_ ?_⟩
    · split <;> split <;> omega
    · split <;> split <;> omega
    · rintro i σ H' hi ⟨x1, x2, x3, x4, x5, x6, x7, x8, x9, x10, rfl, s0⟩
      have hi12 : i < 12 := by revert hi; split <;> split <;> omega
      -- the bag
      refine ⟨_, rfl, _, rfl, a, ns, _, rfl, Evl.ex_l s0 hS, (by omega), (by omega), fun p d m H1 hp hd hm0 hm1 s1 hp1 => ?_⟩
      refine ⟨_, rfl, p, d, m, 0, rfl, hp1, hd, hm0, hm1, by decide, by decide, fun n d1 c1 H2 hn0 hn1 hd1 hc1 hc2 b2 hp2 => ?_⟩
      refine ⟨_, rfl, (by show 6 ≤ sizeLine; decide), fun l hl => ?_⟩
      have hpl : p ≠ l := ne_of_none hp2 hl
      refine ⟨p, l, d1, m, c1, _, rfl, by rw [upd_ne hpl, hp2], hd1, hm0, hm1, by omega, by omega, upd_same, by decide, by decide, hpl, fun tv d2 c2 H3 htv hd2 _ _ b3 hp3 => ?_⟩
      obtain ⟨t, rfl, st, st1, st2⟩ := menu_str htv
      have s3 : Same H' H3 := But.same s1 (b2.trans (But.trans (fun b o _ e => Same.new hl b o e) b3)) hp
      have s3 := Same.trans s0 s3
      refine ⟨_, _, rfl, ?_⟩
      refine q_parD (K := K) (evds_cons (evd_tup (evds_cons (evd_abs (evd_var (i := 3) rfl (.int n))) (evds_cons evd_int evds_nil)) (by simp)) (evds_cons (evd_tup (evds_cons (evd_tup (evds_cons evd_int (evds_cons evd_str evds_nil)) (by simp)) (evds_cons (evd_tup (evds_cons (evd_abs (evd_var (i := 3) rfl (.int n))) (evds_cons (evd_var (i := 4) rfl (.str t)) evds_nil)) (by simp)) evds_nil)) (by simp)) evds_nil)) fun v u H4 e4 dv du => ?_
      obtain ⟨av, rfl⟩ := Dp.tup_inv dv
      obtain ⟨au, rfl⟩ := Dp.tup_inv du
      have hs0 := Same.trans s3 e4
      -- fields
      refine Evl.q_when (b := false) (Evl.et_is (Evl.et_not (a := true) (Evl.et_B (Evl.ev_call (vs := [.int n, .str t, .ref av, .ref au]) (Evl.ea_cons (Evl.ev_var (i := 3) rfl) (Evl.ea_cons (Evl.ev_var (i := 4) rfl) (Evl.ea_cons (Evl.ev_var (i := 5) rfl) (Evl.ea_cons (Evl.ev_var (i := 6) rfl) Evl.ea_nil)))) (fun H5 e5 Q q E => ⟨n, t, av, au, _, _, rfl, dv.mono e5, du.mono e5, by rfl, st1 _, st, fun H6 e6 => q H6 e6⟩)))) rfl) (fun h => nomatch h) fun _ H5 e5 => ?_
      have hs5 := Same.trans hs0 e5
      -- made
      refine ⟨_, rfl, _, rfl, n, t, rfl, fun pl x y z ws H6 e6 hpl ex hx hy hz => ?_⟩
      have hs6 := Same.trans hs5 e6
      have hlw : ws.length = 15 := Paired.length ex
      refine Evl.q_forR1 (n := 15) (Evl.ea_cons Evl.ev_c Evl.ea_nil) (by decide) (fun _ σ H7 => ∃ y8 y9 : Option V, σ = [some (.ref a), some (.int (0 + i)), some (.ref p), some (.int n), some (.str t), some (.ref av), some (.ref au), some (.ref pl), y8, y9, x10] ∧ Same H6 H7) (fun H7 e7 => ⟨_, _, rfl, e7⟩) ?_ ?_
      · rintro k σ H7 hk ⟨y8, y9, rfl, e7⟩
        have hk' : k < 15 := by omega
        obtain ⟨fv, hfv⟩ := specs_get A0 n t x y hk'
        obtain ⟨v, hv, hx⟩ := ExAll.get (ex.mono e7) hfv
        have hX : IsX K H7 v (A0.c k) := .inl ⟨fv, hx, T.isx k hk'⟩
        have hat : ∀ H8, Same H7 H8 → Evl.Ev (tOp (rIxL K) (tVar 7) (tVar 8)) [some (.ref a), some (.int (0 + i)), some (.ref p), some (.int n), some (.str t), some (.ref av), some (.ref au), some (.ref pl), some (.int k), y9, x10] H8 v := fun H8 e8 => Evl.ev_op (Evl.ev_var rfl) (Evl.ev_var rfl) (Evl.rv_ixL (SqL.of (e8 _ _ (e7 _ _ hpl))) (at_of rfl hv))
        refine Evl.q_when (b := false) (Evl.et_test (ev_neDLL (d := blsD 15 fun j => decide (k = j)) (el_classes (hat _ (Same.refl H7)) hX (fun j hj => T.kit k j hk' hj)) (by
          rw [← given_all]
          refine Evl.el_lcR1 (n := 15) (fun _ => true) (fun i => .bl (decide (k = i))) (Evl.ea_cons Evl.ev_c Evl.ea_nil) (by decide) (fun x => rfl) (fun j H8 e8 hj H9 e9 Q q => q H9 (Evl.Ex.refl _)) (fun j H8 e8 hj _ => Evl.ev_is (Evl.ev_op (x := .int j) (y := .int k) (Evl.ev_var rfl) (Evl.ev_var rfl) (Evl.rv_eq rfl)) ?_)
          by_cases hjk : k = j
          · subst hjk; simp
          · have : ¬ ((j : Int) = (k : Int)) := by omega
            simp [hjk, this]) (fun p H1 h => dp_bls h) (sh_bls _))) (fun h => nomatch h) fun _ H8 e8 => ?_
        refine Evl.s_when (b := false) (Evl.et_or (a := false) (b := false) (Evl.et_is (Evl.et_not (a := true) (Evl.et_B (ev_isx (hat _ e8) (hX.mono e8) (T.kitO k hk')))) rfl) fun _ => Evl.et_is (Evl.et_not (a := true) (Evl.et_B (ev_isxT (hat _ e8) (hX.mono e8) (T.kitV k hk')))) rfl) (fun h => nomatch h) fun _ H9 e9 => ?_
        exact ⟨_, _, rfl, Same.trans (Same.trans e7 e8) e9⟩
      · rintro σ H7 ⟨y8, y9, rfl, e7⟩
        have hat : ∀ (k : Nat) (C : Addr) (fv : List (Str × V)), (specs A0 n t x y)[k]? = some (C, fv) → ∃ v, IsEx H7 v C fv ∧ ∀ H8, Same H7 H8 → Evl.Ev (tOp (rIxL K) (tVar 7) (tC (.int (k : Int)))) [some (.ref a), some (.int (0 + i)), some (.ref p), some (.int n), some (.str t), some (.ref av), some (.ref au), some (.ref pl), y8, y9, x10] H8 v := fun k C fv h => by
          obtain ⟨v, hv, hx⟩ := ExAll.get (ex.mono e7) h
          exact ⟨v, hx, fun H8 e8 => Evl.ev_op (Evl.ev_var rfl) Evl.ev_c (Evl.rv_ixL (SqL.of (e8 _ _ (e7 _ _ hpl))) (at_of rfl hv))⟩
        obtain ⟨v3, x3', g3⟩ := hat 3 _ _ rfl
        obtain ⟨v5, x5', g5⟩ := hat 5 _ _ rfl
        obtain ⟨v9, x9', g9⟩ := hat 9 _ _ rfl
        obtain ⟨v14, x14, g14⟩ := hat 14 _ _ rfl
        refine Evl.q_when (b := false) (Evl.et_or (a := false) (b := false) (Evl.et_test (Evl.ev_is (Evl.ev_op (ev_oxv (u := .str t) T.x_TooMany (by decide +kernel) (g3 _ (Same.refl _)) x3' (by rfl)) (Evl.ev_var rfl) (Evl.rv_ne rfl)) (by simp))) fun _ => Evl.et_or (a := false) (b := false) (Evl.et_test (Evl.ev_is (Evl.ev_op (ev_oxv (u := .str t) T.x_Amid (by decide +kernel) (g5 _ (Same.refl _)) x5' (by rfl)) (Evl.ev_var rfl) (Evl.rv_ne rfl)) (by simp))) fun _ => (Evl.et_test (Evl.ev_is (Evl.ev_op (ev_oxv (u := .int n) T.x_Cut (by decide +kernel) (g9 _ (Same.refl _)) x9' (by rfl)) (Evl.ev_var rfl) (Evl.rv_ne rfl)) (by simp)))) (fun h => nomatch h) fun _ H8 e8 => ?_
        have dx : Dp K H8 (.ref x) (.tuple [.int n]) := .tup (SqT.of (e8 _ _ (e7 _ _ hx))) (.cons (.int n) .nil)
        have dy : Dp K H8 (.ref y) (.tuple [.tuple [.int n, .str t]]) := .tup (SqT.of (e8 _ _ (e7 _ _ hy))) (.cons (.tup (SqT.of (e8 _ _ (e7 _ _ hz))) (.cons (.int n) (.cons (.str t) .nil))) .nil)
        refine Evl.q_when (b := false) (Evl.et_or (a := false) (b := false) (Evl.et_test (Evl.ev_is (Evl.ev_op (ev_oxv (u := .str t) T.x_Faulty (by decide +kernel) (g14 _ e8) (x14.mono e8) (by rfl)) (Evl.ev_var rfl) (Evl.rv_ne rfl)) (by simp))) fun _ => Evl.et_or (a := false) (b := false)
          (Evl.et_test (ev_neDD (d := .tuple [.int n]) (ev_oxv (f := "lengths") (u := .ref x) T.x_Faulty (by decide +kernel) (g14 _ e8) (x14.mono e8) (by rfl)) (evd_tup (evds_cons (evd_var rfl (.int n)) evds_nil) (by simp)) dx (by rfl))) fun _ =>
          (Evl.et_test (ev_neDD (d := .tuple [.tuple [.int n, .str t]]) (ev_oxv (f := "moves") (u := .ref y) T.x_Faulty (by decide +kernel) (g14 _ e8) (x14.mono e8) (by rfl)) (evd_tup (evds_cons (evd_tup (evds_cons (evd_var rfl (.int n)) (evds_cons (evd_var rfl (.str t)) evds_nil)) (by simp)) evds_nil) (by simp)) dy (st2 n)))) (fun h => nomatch h) fun _ H9 e9 => ?_
        -- the bare one
        refine fun r hr => ?_
        have nr := Same.new (o := ExO (.ref A0.cO) r) hr
        have hX : IsX K (upd H9 r (ExO (.ref A0.cO) r)) (.ref r) A0.cO := .inr ⟨r, rfl, upd_same, T.isO⟩
        refine Evl.s_when (b := false) (Evl.et_or (a := false) (b := false) (Evl.et_test (Evl.ev_is (Evl.ev_opL (x := .bl true) (xs := (List.range 15).map fun j => .bl false) Evl.ev_c (el_classes (Evl.ev_var rfl) hX (fun j hj => T.kitN j hj)) (fun p H1 h1 e1 => Evl.rv_isL (Evl.sq_of h1) rfl (by rfl))) (by rfl))) fun _ => Evl.et_is (Evl.et_not (a := true) (Evl.et_B (ev_isxT (Evl.ev_var rfl) hX T.kitW))) rfl) (fun h => nomatch h) fun _ H10 e10 => ?_
        exact ⟨_, _, _, _, _, _, _, _, _, _, rfl, Same.trans (Same.trans (Same.trans (Same.trans (Same.trans (Same.trans hs6 e7) e8) e9) nr) e10) (Same.refl _)⟩
    · rintro σ H' ⟨x1, x2, x3, x4, x5, x6, x7, x8, x9, x10, rfl, s0⟩
      exact k H'
end
end K17
end
section
set_option Elab.async false
set_option autoImplicit false
set_option linter.all false
set_option maxRecDepth 100000
namespace K17
open PySem PySem.Spec PyProof.Rows L2 PySem.OxE
theorem all15 {p : Nat → Prop} [DecidablePred p] (h : ((List.range 15).all fun i => decide (p i)) = true) : ∀ i, i < 15 → p i := fun i hi => by
  have := List.all_eq_true.mp h i (List.mem_range.mpr hi)
  exact of_decide_eq_true this
set_option maxHeartbeats 4000000 in
theorem all_mk {l : PySem.W.OpenLaw} {w : World} {K : PySem.W.Frag} {h : Heap} {mg : Str → Option Value} {fa : Addr} (X : K.In h) (G : h.Ns mainGlobals mg) (hfa : mg "law" = some (.ref fa)) {c_0 i_0 : Addr} {c_1 i_1 : Addr} {c_2 i_2 : Addr} {c_3 i_3 : Addr} {c_4 i_4 : Addr} {c_5 i_5 : Addr} {c_6 i_6 : Addr} {c_7 i_7 : Addr} {c_8 i_8 : Addr} {c_9 i_9 : Addr} {c_10 i_10 : Addr} {c_11 i_11 : Addr} {c_12 i_12 : Addr} {c_13 i_13 : Addr} {c_14 i_14 : Addr} {cO : Addr} {f_bag : Addr} {od_bag an_bag : Option Addr} {sl_bag : Array (Option Value)} {oc_bag kV_bag dc_bag pm_bag cd_bag ct_bag : Value} {f_take : Addr} {od_take an_take : Option Addr} {sl_take : Array (Option Value)} {oc_take kV_take dc_take pm_take cd_take ct_take : Value} {f_of : Addr} {od_of an_of : Option Addr} {sl_of : Array (Option Value)} {oc_of kV_of dc_of pm_of cd_of ct_of : Value} {f_number : Addr} {od_number an_number : Option Addr} {sl_number : Array (Option Value)} {oc_number kV_number dc_number pm_number cd_number ct_number : Value} {f_fields : Addr} {od_fields an_fields : Option Addr} {sl_fields : Array (Option Value)} {oc_fields kV_fields dc_fields pm_fields cd_fields ct_fields : Value} {f_made : Addr} {od_made an_made : Option Addr} {sl_made : Array (Option Value)} {oc_made kV_made dc_made pm_made cd_made ct_made : Value} {f_classes : Addr} {od_classes an_classes : Option Addr} {sl_classes : Array (Option Value)} {oc_classes kV_classes dc_classes pm_classes cd_classes ct_classes : Value} {f_law : Addr} {od_law an_law : Option Addr} {sl_law : Array (Option Value)} {oc_law kV_law dc_law pm_law cd_law ct_law : Value}
    (x_0 : ExTxt l.prog K mg "BadSymbol" ["symbol"] c_0 i_0)
    (x_1 : ExTxt l.prog K mg "BadDomain" ["symbol"] c_1 i_1)
    (x_2 : ExTxt l.prog K mg "BadFunction" ["row"] c_2 i_2)
    (x_3 : ExTxt l.prog K mg "TooMany" ["what"] c_3 i_3)
    (x_4 : ExTxt l.prog K mg "NotCut" ["row"] c_4 i_4)
    (x_5 : ExTxt l.prog K mg "Amid" ["half"] c_5 i_5)
    (x_6 : ExTxt l.prog K mg "Closed" ["number"] c_6 i_6)
    (x_7 : ExTxt l.prog K mg "Starved" ["number"] c_7 i_7)
    (x_8 : ExTxt l.prog K mg "Failed" ["row"] c_8 i_8)
    (x_9 : ExTxt l.prog K mg "Cut" ["row"] c_9 i_9)
    (x_10 : ExTxt l.prog K mg "BadDoor" ["word"] c_10 i_10)
    (x_11 : ExTxt l.prog K mg "BadName" ["name"] c_11 i_11)
    (x_12 : ExTxt l.prog K mg "NotLent" ["number"] c_12 i_12)
    (x_13 : ExTxt l.prog K mg "BadMove" ["at"] c_13 i_13)
    (x_14 : ExTxt l.prog K mg "Faulty" ["kind", "lengths", "moves"] c_14 i_14)
    (aO : PySem.W.nsIn K mainGlobals "OwedError" = some (some (.ref cO)))
    (xO : PySem.W.excIn K cO PySem.HandSPX.veTail "ValueError.__new__" = true)
    (kO : PySem.W.keepIn K (.ref cO) = true)
    (chk : ([cO, c_0, c_1, c_2, c_3, c_4, c_5, c_6, c_7, c_8, c_9, c_10, c_11, c_12, c_13, c_14].all fun c => ((PySem.W.clsIn K c).isSome && (PySem.W.findIn K (.ref c) "__class__" == some (some (.builtin "object.__class__")) && (PySem.W.mroIn K c (.type "object") == some true && (PySem.W.kitOne K (.ref c) (.type "ValueError") == some true && PySem.W.kitOne K (.ref c) (.ref cO) == some true)))) ) = true)
    (hn : PySem.W.specialIn K (.builtin "object.__class__") "__get__" = some (some (.builtin "getset_descriptor.__get__")))
    (ht : PySem.W.takesIn K (.builtin "object.__class__") = some true)
    (kit : (((List.range 15).all fun i => (List.range 15).all fun j => PySem.W.kitOne K (.ref ([c_0, c_1, c_2, c_3, c_4, c_5, c_6, c_7, c_8, c_9, c_10, c_11, c_12, c_13, c_14].getD i cO)) (.ref ([c_0, c_1, c_2, c_3, c_4, c_5, c_6, c_7, c_8, c_9, c_10, c_11, c_12, c_13, c_14].getD j cO)) == some (decide (i = j))) && ((List.range 15).all fun j => PySem.W.kitOne K (.ref cO) (.ref ([c_0, c_1, c_2, c_3, c_4, c_5, c_6, c_7, c_8, c_9, c_10, c_11, c_12, c_13, c_14].getD j cO)) == some false)) = true)
    (gaO : PySem.W.findIn K (.ref cO) "__getattribute__" = some (some (.builtin "BaseException.__getattribute__")))
    (ggO : PySem.W.findIn K (.ref cO) "__getattr__" = some none)
    (exO : PySem.W.subIn K (.ref cO) (.type "BaseException") = some true)
    (hdO : PySem.W.hasDictIn K cO = true)
    (a_bag : PySem.W.nsIn K mainGlobals "_law_bag" = some (some (.ref f_bag)))
    (l_bag : K.lookup f_bag = some ⟨oc_bag, od_bag, .func (PySem.W.fnOf "_law_bag" "_law_bag" (defArgs s_bag) (defBody s_bag) (defScope s_bag) .none kV_bag dc_bag pm_bag an_bag cd_bag ct_bag), sl_bag⟩)
    (c_bag : PySem.W.codeIn K cd_bag "_law_bag" = true)
    (k_bag : PySem.W.keepIn K (.ref f_bag) = true)
    (a_take : PySem.W.nsIn K mainGlobals "_law_take" = some (some (.ref f_take)))
    (l_take : K.lookup f_take = some ⟨oc_take, od_take, .func (PySem.W.fnOf "_law_take" "_law_take" (defArgs s_take) (defBody s_take) (defScope s_take) .none kV_take dc_take pm_take an_take cd_take ct_take), sl_take⟩)
    (c_take : PySem.W.codeIn K cd_take "_law_take" = true)
    (k_take : PySem.W.keepIn K (.ref f_take) = true)
    (a_of : PySem.W.nsIn K mainGlobals "_law_of" = some (some (.ref f_of)))
    (l_of : K.lookup f_of = some ⟨oc_of, od_of, .func (PySem.W.fnOf "_law_of" "_law_of" (defArgs s_of) (defBody s_of) (defScope s_of) .none kV_of dc_of pm_of an_of cd_of ct_of), sl_of⟩)
    (c_of : PySem.W.codeIn K cd_of "_law_of" = true)
    (k_of : PySem.W.keepIn K (.ref f_of) = true)
    (a_number : PySem.W.nsIn K mainGlobals "_law_number" = some (some (.ref f_number)))
    (l_number : K.lookup f_number = some ⟨oc_number, od_number, .func (PySem.W.fnOf "_law_number" "_law_number" (defArgs s_number) (defBody s_number) (defScope s_number) .none kV_number dc_number pm_number an_number cd_number ct_number), sl_number⟩)
    (c_number : PySem.W.codeIn K cd_number "_law_number" = true)
    (k_number : PySem.W.keepIn K (.ref f_number) = true)
    (a_fields : PySem.W.nsIn K mainGlobals "_law_fields" = some (some (.ref f_fields)))
    (l_fields : K.lookup f_fields = some ⟨oc_fields, od_fields, .func (PySem.W.fnOf "_law_fields" "_law_fields" (defArgs s_fields) (defBody s_fields) (defScope s_fields) .none kV_fields dc_fields pm_fields an_fields cd_fields ct_fields), sl_fields⟩)
    (c_fields : PySem.W.codeIn K cd_fields "_law_fields" = true)
    (k_fields : PySem.W.keepIn K (.ref f_fields) = true)
    (a_made : PySem.W.nsIn K mainGlobals "_law_made" = some (some (.ref f_made)))
    (l_made : K.lookup f_made = some ⟨oc_made, od_made, .func (PySem.W.fnOf "_law_made" "_law_made" (defArgs s_made) (defBody s_made) (defScope s_made) .none kV_made dc_made pm_made an_made cd_made ct_made), sl_made⟩)
    (c_made : PySem.W.codeIn K cd_made "_law_made" = true)
    (k_made : PySem.W.keepIn K (.ref f_made) = true)
    (a_classes : PySem.W.nsIn K mainGlobals "_law_classes" = some (some (.ref f_classes)))
    (l_classes : K.lookup f_classes = some ⟨oc_classes, od_classes, .func (PySem.W.fnOf "_law_classes" "_law_classes" (defArgs s_classes) (defBody s_classes) (defScope s_classes) .none kV_classes dc_classes pm_classes an_classes cd_classes ct_classes), sl_classes⟩)
    (c_classes : PySem.W.codeIn K cd_classes "_law_classes" = true)
    (k_classes : PySem.W.keepIn K (.ref f_classes) = true)
    (a_law : PySem.W.nsIn K mainGlobals "law" = some (some (.ref f_law)))
    (l_law : K.lookup f_law = some ⟨oc_law, od_law, .func (PySem.W.fnOf "law" "law" (defArgs s_law) (defBody s_law) (defScope s_law) .none kV_law dc_law pm_law an_law cd_law ct_law), sl_law⟩)
    (c_law : PySem.W.codeIn K cd_law "law" = true)
    (k_law : PySem.W.keepIn K (.ref f_law) = true)
    (z_len : PySem.W.nsIn K mainGlobals "len" = some none)
    (z_abs : PySem.W.nsIn K mainGlobals "abs" = some none)
    (z_int : PySem.W.nsIn K mainGlobals "int" = some none)
    (z_range : PySem.W.nsIn K mainGlobals "range" = some none)
    (z_min : PySem.W.nsIn K mainGlobals "min" = some none)
    (z_max : PySem.W.nsIn K mainGlobals "max" = some none)
    (z_isinstance : PySem.W.nsIn K mainGlobals "isinstance" = some none)
    (z_ValueError : PySem.W.nsIn K mainGlobals "ValueError" = some none) :
    ∃ fd : FuncData, (∀ (s : Shared) (v : Value), BindsTo s fd ⟨[v], []⟩ [("_law_script", v)]) ∧ ∀ base : Heap, K.In base → base.Ns mainGlobals mg → FnOk l.prog w K mg base CX0 3 fa fd ["_law_script"] (spLaw K) := by
  have e := hfa.symm.trans (PySem.W.mg_of X G a_law)
  cases e

  have F_bag := fun_mk (st := s_bag) l_bag c_bag k_bag
  have b_bag := F_bag.binds (ps := ["_law_script", "_law_place"]) fun _ _ _ _ _ _ us hl => match us, hl with | [_, _], _ => rfl
  have F_take := fun_mk (st := s_take) l_take c_take k_take
  have b_take := F_take.binds (ps := ["_law_bag_here", "_law_many"]) fun _ _ _ _ _ _ us hl => match us, hl with | [_, _], _ => rfl
  have F_of := fun_mk (st := s_of) l_of c_of k_of
  have b_of := F_of.binds (ps := ["_law_bag_here", "_law_some"]) fun _ _ _ _ _ _ us hl => match us, hl with | [_, _], _ => rfl
  have F_number := fun_mk (st := s_number) l_number c_number k_number
  have b_number := F_number.binds (ps := ["_law_bag_here"]) fun _ _ _ _ _ _ us hl => match us, hl with | [_], _ => rfl
  have F_fields := fun_mk (st := s_fields) l_fields c_fields k_fields
  have b_fields := F_fields.binds (ps := ["_law_count", "_law_text", "_law_sizes", "_law_pairs"]) fun _ _ _ _ _ _ us hl => match us, hl with | [_, _, _, _], _ => rfl
  have F_made := fun_mk (st := s_made) l_made c_made k_made
  have b_made := F_made.binds (ps := ["_law_count", "_law_text"]) fun _ _ _ _ _ _ us hl => match us, hl with | [_, _], _ => rfl
  have F_classes := fun_mk (st := s_classes) l_classes c_classes k_classes
  have b_classes := F_classes.binds (ps := ["_law_e"]) fun _ _ _ _ _ _ us hl => match us, hl with | [_], _ => rfl
  have F_law := fun_mk (st := s_law) l_law c_law k_law
  have b_law := F_law.binds (ps := ["_law_script"]) fun _ _ _ _ _ _ us hl => match us, hl with | [_], _ => rfl
  simp only [List.all_cons, List.all_nil, Bool.and_eq_true, Bool.and_true, beq_iff_eq] at chk
  obtain ⟨⟨vO, haO, hmO, kW, _⟩, ⟨v0, ha0, hm0, kV0, kO0⟩, ⟨v1, ha1, hm1, kV1, kO1⟩, ⟨v2, ha2, hm2, kV2, kO2⟩, ⟨v3, ha3, hm3, kV3, kO3⟩, ⟨v4, ha4, hm4, kV4, kO4⟩, ⟨v5, ha5, hm5, kV5, kO5⟩, ⟨v6, ha6, hm6, kV6, kO6⟩, ⟨v7, ha7, hm7, kV7, kO7⟩, ⟨v8, ha8, hm8, kV8, kO8⟩, ⟨v9, ha9, hm9, kV9, kO9⟩, ⟨v10, ha10, hm10, kV10, kO10⟩, ⟨v11, ha11, hm11, kV11, kO11⟩, ⟨v12, ha12, hm12, kV12, kO12⟩, ⟨v13, ha13, hm13, kV13, kO13⟩, ⟨v14, ha14, hm14, kV14, kO14⟩⟩ := chk
  have kit1 := (Bool.and_eq_true _ _ ▸ kit).1
  have kit2 := (Bool.and_eq_true _ _ ▸ kit).2
  have kit' : ∀ i j, i < 15 → j < 15 → PySem.W.kitOne K (.ref ([c_0, c_1, c_2, c_3, c_4, c_5, c_6, c_7, c_8, c_9, c_10, c_11, c_12, c_13, c_14].getD i cO)) (.ref ([c_0, c_1, c_2, c_3, c_4, c_5, c_6, c_7, c_8, c_9, c_10, c_11, c_12, c_13, c_14].getD j cO)) = some (decide (i = j)) := fun i j hi hj => by
    have a := List.all_eq_true.mp kit1 i (List.mem_range.mpr hi)
    exact beq_iff_eq.mp (List.all_eq_true.mp a j (List.mem_range.mpr hj))
  have kitN' : ∀ j, j < 15 → PySem.W.kitOne K (.ref cO) (.ref ([c_0, c_1, c_2, c_3, c_4, c_5, c_6, c_7, c_8, c_9, c_10, c_11, c_12, c_13, c_14].getD j cO)) = some false := fun j hj => beq_iff_eq.mp (List.all_eq_true.mp kit2 j (List.mem_range.mpr hj))
  have rd : ∀ k, k < 15 → ExIs K ([c_0, c_1, c_2, c_3, c_4, c_5, c_6, c_7, c_8, c_9, c_10, c_11, c_12, c_13, c_14].getD k cO) ∧ PySem.W.kitOne K (.ref ([c_0, c_1, c_2, c_3, c_4, c_5, c_6, c_7, c_8, c_9, c_10, c_11, c_12, c_13, c_14].getD k cO)) (.type "ValueError") = some true ∧ PySem.W.kitOne K (.ref ([c_0, c_1, c_2, c_3, c_4, c_5, c_6, c_7, c_8, c_9, c_10, c_11, c_12, c_13, c_14].getD k cO)) (.ref cO) = some true := fun k hk => by
    have h : k = 0 ∨ k = 1 ∨ k = 2 ∨ k = 3 ∨ k = 4 ∨ k = 5 ∨ k = 6 ∨ k = 7 ∨ k = 8 ∨ k = 9 ∨ k = 10 ∨ k = 11 ∨ k = 12 ∨ k = 13 ∨ k = 14 := by omega
    rcases h with rfl | rfl | rfl | rfl | rfl | rfl | rfl | rfl | rfl | rfl | rfl | rfl | rfl | rfl | rfl
    · exact ⟨⟨x_0.rd, v0, ha0, hn, ht, hm0⟩, kV0, kO0⟩
    · exact ⟨⟨x_1.rd, v1, ha1, hn, ht, hm1⟩, kV1, kO1⟩
    · exact ⟨⟨x_2.rd, v2, ha2, hn, ht, hm2⟩, kV2, kO2⟩
    · exact ⟨⟨x_3.rd, v3, ha3, hn, ht, hm3⟩, kV3, kO3⟩
    · exact ⟨⟨x_4.rd, v4, ha4, hn, ht, hm4⟩, kV4, kO4⟩
    · exact ⟨⟨x_5.rd, v5, ha5, hn, ht, hm5⟩, kV5, kO5⟩
    · exact ⟨⟨x_6.rd, v6, ha6, hn, ht, hm6⟩, kV6, kO6⟩
    · exact ⟨⟨x_7.rd, v7, ha7, hn, ht, hm7⟩, kV7, kO7⟩
    · exact ⟨⟨x_8.rd, v8, ha8, hn, ht, hm8⟩, kV8, kO8⟩
    · exact ⟨⟨x_9.rd, v9, ha9, hn, ht, hm9⟩, kV9, kO9⟩
    · exact ⟨⟨x_10.rd, v10, ha10, hn, ht, hm10⟩, kV10, kO10⟩
    · exact ⟨⟨x_11.rd, v11, ha11, hn, ht, hm11⟩, kV11, kO11⟩
    · exact ⟨⟨x_12.rd, v12, ha12, hn, ht, hm12⟩, kV12, kO12⟩
    · exact ⟨⟨x_13.rd, v13, ha13, hn, ht, hm13⟩, kV13, kO13⟩
    · exact ⟨⟨x_14.rd, v14, ha14, hn, ht, hm14⟩, kV14, kO14⟩
  have T : Txt l.prog K mg ⟨fun k => [c_0, c_1, c_2, c_3, c_4, c_5, c_6, c_7, c_8, c_9, c_10, c_11, c_12, c_13, c_14].getD k cO, fun k => [i_0, i_1, i_2, i_3, i_4, i_5, i_6, i_7, i_8, i_9, i_10, i_11, i_12, i_13, i_14].getD k cO, cO, f_bag, PySem.W.fnOf "_law_bag" "_law_bag" (defArgs s_bag) (defBody s_bag) (defScope s_bag) .none kV_bag dc_bag pm_bag an_bag cd_bag ct_bag, f_take, PySem.W.fnOf "_law_take" "_law_take" (defArgs s_take) (defBody s_take) (defScope s_take) .none kV_take dc_take pm_take an_take cd_take ct_take, f_of, PySem.W.fnOf "_law_of" "_law_of" (defArgs s_of) (defBody s_of) (defScope s_of) .none kV_of dc_of pm_of an_of cd_of ct_of, f_number, PySem.W.fnOf "_law_number" "_law_number" (defArgs s_number) (defBody s_number) (defScope s_number) .none kV_number dc_number pm_number an_number cd_number ct_number, f_fields, PySem.W.fnOf "_law_fields" "_law_fields" (defArgs s_fields) (defBody s_fields) (defScope s_fields) .none kV_fields dc_fields pm_fields an_fields cd_fields ct_fields, f_made, PySem.W.fnOf "_law_made" "_law_made" (defArgs s_made) (defBody s_made) (defScope s_made) .none kV_made dc_made pm_made an_made cd_made ct_made, f_classes, PySem.W.fnOf "_law_classes" "_law_classes" (defArgs s_classes) (defBody s_classes) (defScope s_classes) .none kV_classes dc_classes pm_classes an_classes cd_classes ct_classes, fa, PySem.W.fnOf "law" "law" (defArgs s_law) (defBody s_law) (defScope s_law) .none kV_law dc_law pm_law an_law cd_law ct_law⟩ := {
    x_BadSymbol := x_0
    x_BadDomain := x_1
    x_BadFunction := x_2
    x_TooMany := x_3
    x_NotCut := x_4
    x_Amid := x_5
    x_Closed := x_6
    x_Starved := x_7
    x_Failed := x_8
    x_Cut := x_9
    x_BadDoor := x_10
    x_BadName := x_11
    x_NotLent := x_12
    x_BadMove := x_13
    x_Faulty := x_14
    mO := PySem.W.mg_of X G aO
    xO := xO
    kO := kO
    isx := fun k hk => (rd k hk).1
    isO := ⟨⟨gaO, ggO, exO, hdO⟩, vO, haO, hn, ht, hmO⟩
    kit := kit'
    kitO := fun i hi => (rd i hi).2.2
    kitV := fun i hi => (rd i hi).2.1
    kitN := kitN'
    kitW := kW
    F_bag := F_bag
    m_bag := PySem.W.mg_of X G a_bag
    b_bag := b_bag
    F_take := F_take
    m_take := PySem.W.mg_of X G a_take
    b_take := b_take
    F_of := F_of
    m_of := PySem.W.mg_of X G a_of
    b_of := b_of
    F_number := F_number
    m_number := PySem.W.mg_of X G a_number
    b_number := b_number
    F_fields := F_fields
    m_fields := PySem.W.mg_of X G a_fields
    b_fields := b_fields
    F_made := F_made
    m_made := PySem.W.mg_of X G a_made
    b_made := b_made
    F_classes := F_classes
    m_classes := PySem.W.mg_of X G a_classes
    b_classes := b_classes
    F_law := F_law
    m_law := PySem.W.mg_of X G a_law
    z_len := PySem.W.mg_none_of X G z_len
    z_abs := PySem.W.mg_none_of X G z_abs
    z_int := PySem.W.mg_none_of X G z_int
    z_range := PySem.W.mg_none_of X G z_range
    z_min := PySem.W.mg_none_of X G z_min
    z_max := PySem.W.mg_none_of X G z_max
    z_isinstance := PySem.W.mg_none_of X G z_isinstance
    z_ValueError := PySem.W.mg_none_of X G z_ValueError
  }
  exact ⟨PySem.W.fnOf "law" "law" (defArgs s_law) (defBody s_law) (defScope s_law) .none kV_law dc_law pm_law an_law cd_law ct_law, fun s v => .of_eq rfl, fun base _ _ => ok_law T⟩
theorem walk {l : PySem.W.OpenLaw} {q : Program} {loose : List Str} {XP : (Str → Option Value) → Heap → Prop} {YP : World → Heap → Prop} {d : DefRec} {K : Params → PySem.W.Frag} (hn : l.most = some 63) (hdf : d.params.defaults = [])
    (hY : ∀ (w : World) (h : Heap), YP w h → (K w.params).In h)
    (F : ∀ (w : World) (mg : Str → Option Value) (fa : Addr) (h : Heap), (K w.params).In h → h.Ns mainGlobals mg → mg d.name = some (.ref fa) →
      ∃ fd : FuncData, (∀ (s : Shared) (u : Value), BindsTo s fd ⟨[u], []⟩ [("_law_script", u)]) ∧ ∀ base : Heap, (K w.params).In base → base.Ns mainGlobals mg → FnOk l.prog w (K w.params) mg base CX0 3 fa fd ["_law_script"] (spLaw (K w.params))) :
    PySem.W.WalkO q loose XP YP l.row.toRowW d [] (fun f vs => PySem.call f vs) :=
  L2.walk_of (n := 63) (k := 3) (x := "_law_script") (CX := fun _ => CX0) (sp := fun w => spLaw (K w.params)) hn (by decide) hdf ⟨rfl, by decide, by decide⟩ hY F (fun _ _ a ns hl _ hS => ⟨a, ns, rfl, hS, hl, fun _ => rfl⟩) fun _ _ _ _ _ z => z
end K17
end
set_option Elab.async false
set_option autoImplicit false
set_option linter.all false
set_option maxRecDepth 100000
open PySem PySem.W PyProof.Rows PySem.OxE
set_option maxRecDepth 100000 in
set_option maxHeartbeats 0 in
theorem PySem.Challenge.cw_owedanswers_k17_errors_made_holds : PySem.Challenge.rw_owedanswers_k17_errors_made.Holds := by
  w_on; o_law; k_head; (case hw => w_witness2)
  k_fill
  refine K17.walk (l := PySem.Challenge.rw_owedanswers_k17_errors_made) rfl rfl (fun w h Y => PySem.W.kIn_of Y) ?F
  case F =>
    intro w mg fa h KX G hmg
    refine' K17.all_mk KX G hmg ?x_0 ?x_1 ?x_2 ?x_3 ?x_4 ?x_5 ?x_6 ?x_7 ?x_8 ?x_9 ?x_10 ?x_11 ?x_12 ?x_13 ?x_14 ?aO ?xO ?kO ?chk ?hn ?ht ?kit ?gaO ?ggO ?exO ?hdO ?a_bag ?l_bag ?c_bag ?k_bag ?a_take ?l_take ?c_take ?k_take ?a_of ?l_of ?c_of ?k_of ?a_number ?l_number ?c_number ?k_number ?a_fields ?l_fields ?c_fields ?k_fields ?a_made ?l_made ?c_made ?k_made ?a_classes ?l_classes ?c_classes ?k_classes ?a_law ?l_law ?c_law ?k_law ?z_len ?z_abs ?z_int ?z_range ?z_min ?z_max ?z_isinstance ?z_ValueError
    (case x_0 => (refine' exTxt_mk (by assumption) (by assumption) ?nmd ?aC ?lC ?iC ?lF ?lD ?lc ?hvs ?hfile ?cF ?ln ?sig ?as ?rv ?al ?sa ?ga ?gg ?nn ?tC ?kC ?exC ?veC ?slC ?tyC ?hdC ?sup ?tp ?top; (case nmd => decide); (case aC => k_is); (case lC => k_is); (case iC => k_is); (case lF => k_is); (case lD => k_is); (case lc => k_is); (case hvs => rfl); (case hfile => rfl); (case cF => k_is); (case ln => rfl); (case sig => exact sig_symbol); (case as => exact (Asgs.cons _ _ _ _ .nil)); (case rv => rfl); (case al => kernel_rfl); (case sa => k_is); (case ga => k_is); (case gg => k_is); (case nn => kernel_rfl); (case tC => k_is); (case kC => k_is); (case exC => k_is); (case veC => k_is); (case slC => k_is); (case tyC => k_is); (case hdC => k_is); (case sup => k_is); (case tp => k_is); (case top => rfl)))
    (case x_1 => (refine' exTxt_mk (by assumption) (by assumption) ?nmd ?aC ?lC ?iC ?lF ?lD ?lc ?hvs ?hfile ?cF ?ln ?sig ?as ?rv ?al ?sa ?ga ?gg ?nn ?tC ?kC ?exC ?veC ?slC ?tyC ?hdC ?sup ?tp ?top; (case nmd => decide); (case aC => k_is); (case lC => k_is); (case iC => k_is); (case lF => k_is); (case lD => k_is); (case lc => k_is); (case hvs => rfl); (case hfile => rfl); (case cF => k_is); (case ln => rfl); (case sig => exact sig_symbol); (case as => exact (Asgs.cons _ _ _ _ .nil)); (case rv => rfl); (case al => kernel_rfl); (case sa => k_is); (case ga => k_is); (case gg => k_is); (case nn => kernel_rfl); (case tC => k_is); (case kC => k_is); (case exC => k_is); (case veC => k_is); (case slC => k_is); (case tyC => k_is); (case hdC => k_is); (case sup => k_is); (case tp => k_is); (case top => rfl)))
    (case x_2 => (refine' exTxt_mk (by assumption) (by assumption) ?nmd ?aC ?lC ?iC ?lF ?lD ?lc ?hvs ?hfile ?cF ?ln ?sig ?as ?rv ?al ?sa ?ga ?gg ?nn ?tC ?kC ?exC ?veC ?slC ?tyC ?hdC ?sup ?tp ?top; (case nmd => decide); (case aC => k_is); (case lC => k_is); (case iC => k_is); (case lF => k_is); (case lD => k_is); (case lc => k_is); (case hvs => rfl); (case hfile => rfl); (case cF => k_is); (case ln => rfl); (case sig => exact sig_row); (case as => exact (Asgs.cons _ _ _ _ .nil)); (case rv => rfl); (case al => kernel_rfl); (case sa => k_is); (case ga => k_is); (case gg => k_is); (case nn => kernel_rfl); (case tC => k_is); (case kC => k_is); (case exC => k_is); (case veC => k_is); (case slC => k_is); (case tyC => k_is); (case hdC => k_is); (case sup => k_is); (case tp => k_is); (case top => rfl)))
    (case x_3 => (refine' exTxt_mk (by assumption) (by assumption) ?nmd ?aC ?lC ?iC ?lF ?lD ?lc ?hvs ?hfile ?cF ?ln ?sig ?as ?rv ?al ?sa ?ga ?gg ?nn ?tC ?kC ?exC ?veC ?slC ?tyC ?hdC ?sup ?tp ?top; (case nmd => decide); (case aC => k_is); (case lC => k_is); (case iC => k_is); (case lF => k_is); (case lD => k_is); (case lc => k_is); (case hvs => rfl); (case hfile => rfl); (case cF => k_is); (case ln => rfl); (case sig => exact sig_what); (case as => exact (Asgs.cons _ _ _ _ .nil)); (case rv => rfl); (case al => kernel_rfl); (case sa => k_is); (case ga => k_is); (case gg => k_is); (case nn => kernel_rfl); (case tC => k_is); (case kC => k_is); (case exC => k_is); (case veC => k_is); (case slC => k_is); (case tyC => k_is); (case hdC => k_is); (case sup => k_is); (case tp => k_is); (case top => rfl)))
    (case x_4 => (refine' exTxt_mk (by assumption) (by assumption) ?nmd ?aC ?lC ?iC ?lF ?lD ?lc ?hvs ?hfile ?cF ?ln ?sig ?as ?rv ?al ?sa ?ga ?gg ?nn ?tC ?kC ?exC ?veC ?slC ?tyC ?hdC ?sup ?tp ?top; (case nmd => decide); (case aC => k_is); (case lC => k_is); (case iC => k_is); (case lF => k_is); (case lD => k_is); (case lc => k_is); (case hvs => rfl); (case hfile => rfl); (case cF => k_is); (case ln => rfl); (case sig => exact sig_row); (case as => exact (Asgs.cons _ _ _ _ .nil)); (case rv => rfl); (case al => kernel_rfl); (case sa => k_is); (case ga => k_is); (case gg => k_is); (case nn => kernel_rfl); (case tC => k_is); (case kC => k_is); (case exC => k_is); (case veC => k_is); (case slC => k_is); (case tyC => k_is); (case hdC => k_is); (case sup => k_is); (case tp => k_is); (case top => rfl)))
    (case x_5 => (refine' exTxt_mk (by assumption) (by assumption) ?nmd ?aC ?lC ?iC ?lF ?lD ?lc ?hvs ?hfile ?cF ?ln ?sig ?as ?rv ?al ?sa ?ga ?gg ?nn ?tC ?kC ?exC ?veC ?slC ?tyC ?hdC ?sup ?tp ?top; (case nmd => decide); (case aC => k_is); (case lC => k_is); (case iC => k_is); (case lF => k_is); (case lD => k_is); (case lc => k_is); (case hvs => rfl); (case hfile => rfl); (case cF => k_is); (case ln => rfl); (case sig => exact sig_half); (case as => exact (Asgs.cons _ _ _ _ .nil)); (case rv => rfl); (case al => kernel_rfl); (case sa => k_is); (case ga => k_is); (case gg => k_is); (case nn => kernel_rfl); (case tC => k_is); (case kC => k_is); (case exC => k_is); (case veC => k_is); (case slC => k_is); (case tyC => k_is); (case hdC => k_is); (case sup => k_is); (case tp => k_is); (case top => rfl)))
    (case x_6 => (refine' exTxt_mk (by assumption) (by assumption) ?nmd ?aC ?lC ?iC ?lF ?lD ?lc ?hvs ?hfile ?cF ?ln ?sig ?as ?rv ?al ?sa ?ga ?gg ?nn ?tC ?kC ?exC ?veC ?slC ?tyC ?hdC ?sup ?tp ?top; (case nmd => decide); (case aC => k_is); (case lC => k_is); (case iC => k_is); (case lF => k_is); (case lD => k_is); (case lc => k_is); (case hvs => rfl); (case hfile => rfl); (case cF => k_is); (case ln => rfl); (case sig => exact sig_number); (case as => exact (Asgs.cons _ _ _ _ .nil)); (case rv => rfl); (case al => kernel_rfl); (case sa => k_is); (case ga => k_is); (case gg => k_is); (case nn => kernel_rfl); (case tC => k_is); (case kC => k_is); (case exC => k_is); (case veC => k_is); (case slC => k_is); (case tyC => k_is); (case hdC => k_is); (case sup => k_is); (case tp => k_is); (case top => rfl)))
    (case x_7 => (refine' exTxt_mk (by assumption) (by assumption) ?nmd ?aC ?lC ?iC ?lF ?lD ?lc ?hvs ?hfile ?cF ?ln ?sig ?as ?rv ?al ?sa ?ga ?gg ?nn ?tC ?kC ?exC ?veC ?slC ?tyC ?hdC ?sup ?tp ?top; (case nmd => decide); (case aC => k_is); (case lC => k_is); (case iC => k_is); (case lF => k_is); (case lD => k_is); (case lc => k_is); (case hvs => rfl); (case hfile => rfl); (case cF => k_is); (case ln => rfl); (case sig => exact sig_number); (case as => exact (Asgs.cons _ _ _ _ .nil)); (case rv => rfl); (case al => kernel_rfl); (case sa => k_is); (case ga => k_is); (case gg => k_is); (case nn => kernel_rfl); (case tC => k_is); (case kC => k_is); (case exC => k_is); (case veC => k_is); (case slC => k_is); (case tyC => k_is); (case hdC => k_is); (case sup => k_is); (case tp => k_is); (case top => rfl)))
    (case x_8 => (refine' exTxt_mk (by assumption) (by assumption) ?nmd ?aC ?lC ?iC ?lF ?lD ?lc ?hvs ?hfile ?cF ?ln ?sig ?as ?rv ?al ?sa ?ga ?gg ?nn ?tC ?kC ?exC ?veC ?slC ?tyC ?hdC ?sup ?tp ?top; (case nmd => decide); (case aC => k_is); (case lC => k_is); (case iC => k_is); (case lF => k_is); (case lD => k_is); (case lc => k_is); (case hvs => rfl); (case hfile => rfl); (case cF => k_is); (case ln => rfl); (case sig => exact sig_row); (case as => exact (Asgs.cons _ _ _ _ .nil)); (case rv => rfl); (case al => kernel_rfl); (case sa => k_is); (case ga => k_is); (case gg => k_is); (case nn => kernel_rfl); (case tC => k_is); (case kC => k_is); (case exC => k_is); (case veC => k_is); (case slC => k_is); (case tyC => k_is); (case hdC => k_is); (case sup => k_is); (case tp => k_is); (case top => rfl)))
    (case x_9 => (refine' exTxt_mk (by assumption) (by assumption) ?nmd ?aC ?lC ?iC ?lF ?lD ?lc ?hvs ?hfile ?cF ?ln ?sig ?as ?rv ?al ?sa ?ga ?gg ?nn ?tC ?kC ?exC ?veC ?slC ?tyC ?hdC ?sup ?tp ?top; (case nmd => decide); (case aC => k_is); (case lC => k_is); (case iC => k_is); (case lF => k_is); (case lD => k_is); (case lc => k_is); (case hvs => rfl); (case hfile => rfl); (case cF => k_is); (case ln => rfl); (case sig => exact sig_row); (case as => exact (Asgs.cons _ _ _ _ .nil)); (case rv => rfl); (case al => kernel_rfl); (case sa => k_is); (case ga => k_is); (case gg => k_is); (case nn => kernel_rfl); (case tC => k_is); (case kC => k_is); (case exC => k_is); (case veC => k_is); (case slC => k_is); (case tyC => k_is); (case hdC => k_is); (case sup => k_is); (case tp => k_is); (case top => rfl)))
    (case x_10 => (refine' exTxt_mk (by assumption) (by assumption) ?nmd ?aC ?lC ?iC ?lF ?lD ?lc ?hvs ?hfile ?cF ?ln ?sig ?as ?rv ?al ?sa ?ga ?gg ?nn ?tC ?kC ?exC ?veC ?slC ?tyC ?hdC ?sup ?tp ?top; (case nmd => decide); (case aC => k_is); (case lC => k_is); (case iC => k_is); (case lF => k_is); (case lD => k_is); (case lc => k_is); (case hvs => rfl); (case hfile => rfl); (case cF => k_is); (case ln => rfl); (case sig => exact sig_word); (case as => exact (Asgs.cons _ _ _ _ .nil)); (case rv => rfl); (case al => kernel_rfl); (case sa => k_is); (case ga => k_is); (case gg => k_is); (case nn => kernel_rfl); (case tC => k_is); (case kC => k_is); (case exC => k_is); (case veC => k_is); (case slC => k_is); (case tyC => k_is); (case hdC => k_is); (case sup => k_is); (case tp => k_is); (case top => rfl)))
    (case x_11 => (refine' exTxt_mk (by assumption) (by assumption) ?nmd ?aC ?lC ?iC ?lF ?lD ?lc ?hvs ?hfile ?cF ?ln ?sig ?as ?rv ?al ?sa ?ga ?gg ?nn ?tC ?kC ?exC ?veC ?slC ?tyC ?hdC ?sup ?tp ?top; (case nmd => decide); (case aC => k_is); (case lC => k_is); (case iC => k_is); (case lF => k_is); (case lD => k_is); (case lc => k_is); (case hvs => rfl); (case hfile => rfl); (case cF => k_is); (case ln => rfl); (case sig => exact sig_name); (case as => exact (Asgs.cons _ _ _ _ .nil)); (case rv => rfl); (case al => kernel_rfl); (case sa => k_is); (case ga => k_is); (case gg => k_is); (case nn => kernel_rfl); (case tC => k_is); (case kC => k_is); (case exC => k_is); (case veC => k_is); (case slC => k_is); (case tyC => k_is); (case hdC => k_is); (case sup => k_is); (case tp => k_is); (case top => rfl)))
    (case x_12 => (refine' exTxt_mk (by assumption) (by assumption) ?nmd ?aC ?lC ?iC ?lF ?lD ?lc ?hvs ?hfile ?cF ?ln ?sig ?as ?rv ?al ?sa ?ga ?gg ?nn ?tC ?kC ?exC ?veC ?slC ?tyC ?hdC ?sup ?tp ?top; (case nmd => decide); (case aC => k_is); (case lC => k_is); (case iC => k_is); (case lF => k_is); (case lD => k_is); (case lc => k_is); (case hvs => rfl); (case hfile => rfl); (case cF => k_is); (case ln => rfl); (case sig => exact sig_number); (case as => exact (Asgs.cons _ _ _ _ .nil)); (case rv => rfl); (case al => kernel_rfl); (case sa => k_is); (case ga => k_is); (case gg => k_is); (case nn => kernel_rfl); (case tC => k_is); (case kC => k_is); (case exC => k_is); (case veC => k_is); (case slC => k_is); (case tyC => k_is); (case hdC => k_is); (case sup => k_is); (case tp => k_is); (case top => rfl)))
    (case x_13 => (refine' exTxt_mk (by assumption) (by assumption) ?nmd ?aC ?lC ?iC ?lF ?lD ?lc ?hvs ?hfile ?cF ?ln ?sig ?as ?rv ?al ?sa ?ga ?gg ?nn ?tC ?kC ?exC ?veC ?slC ?tyC ?hdC ?sup ?tp ?top; (case nmd => decide); (case aC => k_is); (case lC => k_is); (case iC => k_is); (case lF => k_is); (case lD => k_is); (case lc => k_is); (case hvs => rfl); (case hfile => rfl); (case cF => k_is); (case ln => rfl); (case sig => exact sig_at); (case as => exact (Asgs.cons _ _ _ _ .nil)); (case rv => rfl); (case al => kernel_rfl); (case sa => k_is); (case ga => k_is); (case gg => k_is); (case nn => kernel_rfl); (case tC => k_is); (case kC => k_is); (case exC => k_is); (case veC => k_is); (case slC => k_is); (case tyC => k_is); (case hdC => k_is); (case sup => k_is); (case tp => k_is); (case top => rfl)))
    (case x_14 => (refine' exTxt_mk (by assumption) (by assumption) ?nmd ?aC ?lC ?iC ?lF ?lD ?lc ?hvs ?hfile ?cF ?ln ?sig ?as ?rv ?al ?sa ?ga ?gg ?nn ?tC ?kC ?exC ?veC ?slC ?tyC ?hdC ?sup ?tp ?top; (case nmd => decide); (case aC => k_is); (case lC => k_is); (case iC => k_is); (case lF => k_is); (case lD => k_is); (case lc => k_is); (case hvs => rfl); (case hfile => rfl); (case cF => k_is); (case ln => rfl); (case sig => exact sig_kind_lengths_moves); (case as => exact (Asgs.cons _ _ _ _ (Asgs.cons _ _ _ _ (Asgs.cons _ _ _ _ .nil)))); (case rv => rfl); (case al => kernel_rfl); (case sa => k_is); (case ga => k_is); (case gg => k_is); (case nn => kernel_rfl); (case tC => k_is); (case kC => k_is); (case exC => k_is); (case veC => k_is); (case slC => k_is); (case tyC => k_is); (case hdC => k_is); (case sup => k_is); (case tp => k_is); (case top => rfl)))
    (case aO => k_is)
    (case xO => first | k_exc | kernel_rfl)
    (case kO => k_is)
    (case chk => kernel_rfl)
    (case hn => k_is)
    (case ht => k_is)
    (case kit => kernel_rfl)
    (case gaO => k_is)
    (case ggO => k_is)
    (case exO => k_is)
    (case hdO => k_is)
    (case a_bag => k_is)
    (case l_bag => k_is)
    (case c_bag => k_is)
    (case k_bag => k_is)
    (case a_take => k_is)
    (case l_take => k_is)
    (case c_take => k_is)
    (case k_take => k_is)
    (case a_of => k_is)
    (case l_of => k_is)
    (case c_of => k_is)
    (case k_of => k_is)
    (case a_number => k_is)
    (case l_number => k_is)
    (case c_number => k_is)
    (case k_number => k_is)
    (case a_fields => k_is)
    (case l_fields => k_is)
    (case c_fields => k_is)
    (case k_fields => k_is)
    (case a_made => k_is)
    (case l_made => k_is)
    (case c_made => k_is)
    (case k_made => k_is)
    (case a_classes => k_is)
    (case l_classes => k_is)
    (case c_classes => k_is)
    (case k_classes => k_is)
    (case a_law => k_is)
    (case l_law => k_is)
    (case c_law => k_is)
    (case k_law => k_is)
    (case z_len => k_is)
    (case z_abs => k_is)
    (case z_int => k_is)
    (case z_range => k_is)
    (case z_min => k_is)
    (case z_max => k_is)
    (case z_isinstance => k_is)
    (case z_ValueError => k_is)

