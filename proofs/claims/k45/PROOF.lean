import PyProof.Rows.All
import Wide.All
import OpenK.AllK
import Wide.FinOn
import KE.KExcSuper
import HandS.ForMost
import HandS.Exc
import HandS.ExcInit
import KE.KExcIs
import HandS.Wide
import HandS.ExcValue
import HandS.Evl
import HandS.OwnEq
import HandS.ExcOwn
import KE.KOpsOwn
import HandS.TryMany
import HandS.IsInst
import HandS.Walk
import HandS.Zip
import HandS.MakeKwOnly
import HandS.WordsExc
import HandS.Star
import HandS.Property
import PyProof.AutoSeq1
import OpenK.KOps
import HandS.GenList
import HandS.Style
import PySem.Challenge.RW_owedanswers_k45_faults_end_a_walk
import HandS.DictComp
import HandS.SetBool
import HandS.Strs
import HandS.Dict
import HandS.TupAny
import HandS.Text
import HandS.SetTxt0
import PyProof.Rows.IntBool
section
set_option Elab.async false
set_option autoImplicit false
set_option linter.all false
set_option maxRecDepth 100000
set_option maxHeartbeats 4000000
namespace PySem
namespace OxE
open PySem.W PySem.Calls PyProof.Rows PySem.HandSPX
/-! an error class of the program: `def __init__(self, f, ..): super().__init__(text); self.f = f; ..` -/
def oxSup (txt : Str) (q0 q1 q2 q3 q4 q5 : Pos) : Stmt := .Expr (.Call (.Attribute (.Call (.Name "super" q0) [] [] q1) "__init__" q2) [.Constant (.str txt) 0 q3] [] q4) q5
inductive Asgs : List Str → List Stmt → Prop
  | nil : Asgs [] []
  | cons {f : Str} {fs : List Str} {ss : List Stmt} (r1 r2 r3 r4 : Pos) : Asgs fs ss → Asgs (f :: fs) (.Assign [.Attribute (.Name "self" r1) f r2] (.Name f r3) r4 :: ss)
/-- the arguments and the scope of such an __init__ with the fields fs -/
structure OxSig (fs : List Str) (params : Arguments) (sc : Scope) : Prop where
  kind : sc.kind = .function
  co : sc.isCoroutine = false
  gen : sc.isGenerator = false
  ncell : ∀ y ∈ sc.names, y.2 ≠ .cell
  hd : (params.posonlyargs ++ params.args).head?.map (·.arg) = some ("self" : Str)
  lself : sc.names.lookup ("self" : Str) = some NameKind.local
  lf : ∀ f ∈ fs, sc.names.lookup f = some NameKind.local
  lsup : sc.names.lookup ("super" : Str) = some NameKind.globalImplicit
  lcls : sc.names.lookup ("__class__" : Str) = some NameKind.free
  nself : ∀ f ∈ fs, f ≠ "self"
  ndbg : ∀ f ∈ fs, (f == ("__debug__" : Str)) = false
  nd : fs.Nodup
  few : 0 < fs.length ∧ fs.length ≤ 20
  bnd : ∀ (q : Str) (body : List Stmt) (doc pm cdv ct : Value) (an : Option Addr) (cc : Addr) (a : Value) (vs : List Value), vs.length = fs.length → bindArgs (ksFn "__init__" q params body sc .none .none doc pm an cdv ct cc) ⟨a :: vs, []⟩ = (pure ((("self" : Str), a) :: fs.zip vs) : Sem (List (Str × Value)))
  bndK : ∀ (q : Str) (body : List Stmt) (doc pm cdv ct : Value) (an : Option Addr) (cc : Addr) (a : Value) (vs : List Value), vs.length = fs.length → bindArgs (ksFn "__init__" q params body sc .none .none doc pm an cdv ct cc) ⟨[a], fs.zip vs⟩ = (pure ((("self" : Str), a) :: fs.zip vs) : Sem (List (Str × Value)))
  sw : ∀ (q txt : Str) (q0 q1 q2 q3 q4 : Pos) (L fI cc : Addr) (cd : Value) (n : Nat), swapsWith (.Call (.Attribute (.Call (.Name "super" q0) [] [] q1) "__init__" q2) [.Constant (.str txt) 0 q3] [] q4) none n (ksEnv q sc L fI cd cc) = pure false
/-- o.name(text), the call on the line of its name -/
theorem ev_meth (o : Expr) (name txt : Str) (apos p3 pos : Pos) (env : Env) (hl : (apos.endLine == pos.line) = true) : eval (.Call (.Attribute o name apos) [.Constant (.str txt) 0 p3] [] pos) env = (do
      let ov ← attributeBase o name env (eval o env)
      standAt apos.atName
      let (g, first) ← holding [ov] (getMethod ov name (do return (← importBound o env).getD true))
      callWith pos g first (backTo pos (starEach [.Constant (.str txt) 0 p3] env)) []) := by
  rw [arm_eval_Call]
  have hform : methodCallForm (([.Constant (.str txt) 0 p3] : List Expr).length + ([] : List Keyword).length) (backTo pos (starEach [.Constant (.str txt) 0 p3] env)) (backToKw pos (keywordEach [] env)) = true := rfl
  have hpos : methodCallPos true o env apos pos = pure pos := by unfold methodCallPos; simp [hl]
  unfold methodCall
  rw [hform]
  unfold calleeOf
  simp only [if_true, hpos, pure_bind]
  rfl
structure ExTxt (P : Program) (K : Frag) (mg : Str → Option Value) (nm : Str) (fs : List Str) (C fI : Addr) : Prop where
  gC : mg nm = some (.ref C)
  nmd : (nm == ("__debug__" : Str)) = false
  cls : ∃ (nm' q : Str) (N : Addr) (bs bm : List Value) (sn : List Str) (sub : List Value) (ab : Bool) (col : Option Bool) (dd : Option Addr) (k0 k1 k2 k3 k5 : Option Value), K.lookup C = some (excClassObj nm' q C N bs bm true sn sub ab col dd k0 k1 k2 k3 k5 "ValueError.__new__") ∧ refsVE bm = true ∧
    alongIn K "__init__" (((Value.ref C :: bm).dropWhile (· != .ref C)).drop 1) = some (some (.builtin "ValueError.__init__"))
  sa : findIn K (.ref C) "__setattr__" = some (some (.builtin "object.__setattr__"))
  ga : findIn K (.ref C) "__getattribute__" = some (some (.builtin "BaseException.__getattribute__"))
  gg : findIn K (.ref C) "__getattr__" = some none
  noN : ∀ f ∈ fs, findIn K (.ref C) f = some none
  iC : findIn K (.ref C) "__init__" = some (some (.ref fI))
  tC : typeIn K (.ref fI) = some (.type "function")
  kC : keepIn K (.ref C) = true
  exC : subIn K (.ref C) (.type "BaseException") = some true
  veC : subIn K (.ref C) (.type "ValueError") = some true
  slC : mroIn K C (.ref C) = some true
  tyC : typeIn K (.ref C) = some (.type "type")
  hdC : hasDictIn K C = true
  fn : ∃ (oc : Value) (od : Option Addr) (doc pm : Value) (an : Option Addr) (ct : Value) (osl : Array (Option Value)) (q txt : Str) (params : Arguments) (sc : Scope) (q0 q1 q2 q3 q4 q5 : Pos) (asgs : List Stmt) (cda cc : Addr) (ccl cl : Value) (cdd cld : Option Addr) (vs : Array Value) (ccs csl : Array (Option Value)) (file : Str) (tf : Tok),
    K.lookup fI = some ⟨oc, od, .func (ksFn "__init__" q params (oxSup txt q0 q1 q2 q3 q4 q5 :: asgs) sc .none .none doc pm an (.ref cda) ct cc), osl⟩ ∧ codeIn K (.ref cda) q = true ∧ (q2.endLine == q4.line) = true ∧ OxSig fs params sc ∧ Asgs fs asgs ∧
    K.lookup cda = some ⟨ccl, cdd, .fields vs, ccs⟩ ∧ vs[2]? = some (.str file tf) ∧ ((P.main.file : Str) == file) = true ∧ K.lookup cc = some ⟨cl, cld, .cell (some (.ref C)), csl⟩
  sup : mg "super" = none
  tp : nsIn K cStatics "thirdparty.any" = some none
  top : (P.main.scope.names.lookup ("super" : Str)).isSome = false
/-- what __init__ leaves of a fresh exception at x -/
structure InitEnd (h h' : Heap) (x C dx t1 : Addr) (fv : List (Str × Value)) : Prop where
  keep : ∀ b o, b ≠ x → h.get? b = some o → h'.get? b = some o
  obj : h'.get? x = some { cls := .ref C, dict := some dx, data := .fields #[.ref t1, .none, .none, .none, .bool false, .none] }
  dbig : h.objs.size ≤ dx
  dne : dx ≠ x
  ns : h'.Ns1 dx (fun y => fv.reverse.lookup y)
theorem lookup_rev_cons {fv : List (Str × Value)} {f y : Str} {v : Value} (m : Str → Option Value) (hm : ∀ z, m z = fv.lookup z) : (fun z => if z = f then some v else m z) y = ((f, v) :: fv).lookup y := by
  show (if y = f then some v else m y) = _
  by_cases h : y = f
  · subst h; simp [List.lookup]
  · have e : (y == f) = false := by simpa using h
    rw [if_neg h, hm]; simp [List.lookup, e]
theorem zip_lookup : ∀ {fs : List Str} {vs : List Value} {i : Nat} {f : Str} {v : Value}, fs.Nodup → fs[i]? = some f → vs[i]? = some v → (fs.zip vs).lookup f = some v
  | [], _, _, _, _, _, h, _ => by simp at h
  | _ :: _, [], _, _, _, _, _, h => by simp at h
  | g :: fs, u :: vs, 0, f, v, nd, h1, h2 => by
    simp at h1 h2; subst h1; subst h2; simp [List.zip_cons_cons, List.lookup]
  | g :: fs, u :: vs, i + 1, f, v, nd, h1, h2 => by
    have hm : f ∈ fs := List.mem_of_getElem? (by simpa using h1)
    have ne : (f == g) = false := by
      rw [beq_eq_false_iff_ne]; intro e; subst e; exact (List.nodup_cons.mp nd).1 hm
    rw [List.zip_cons_cons]
    simp only [List.lookup, ne]
    exact zip_lookup (i := i) (List.nodup_cons.mp nd).2 (by simpa using h1) (by simpa using h2)
theorem mem_lookup {l : List (Str × Value)} {f : Str} {v : Value} (nd : (l.map (·.1)).Nodup) (h : (f, v) ∈ l) : l.reverse.lookup f = some v := by
  have key : ∀ {l : List (Str × Value)}, (l.map (·.1)).Nodup → (f, v) ∈ l → l.lookup f = some v := by
    intro l
    induction l with
    | nil => intro _ h; cases h
    | cons p l ih =>
      obtain ⟨g, u⟩ := p
      intro nd h
      rw [List.map_cons, List.nodup_cons] at nd
      rcases List.mem_cons.mp h with e | h'
      · cases e; simp [List.lookup]
      · have ne : (f == g) = false := by
          rw [beq_eq_false_iff_ne]; intro e; subst e
          exact nd.1 (List.mem_map_of_mem (f := (·.1)) h')
        simp only [List.lookup, ne]
        exact ih nd.2 h'
  refine key ?_ (List.mem_reverse.mpr h)
  rw [List.map_reverse]
  exact (List.reverse_perm _).nodup_iff.mpr nd
section
variable {prog : Program} {w : World} {A : Around} {E : Value → Shared → Prop} {R : Result → Shared → Prop} {s : Shared} {K : Frag} {mg mb : Str → Option Value} {nm : Str} {fs : List Str} {C fI : Addr}
/-- super().__init__(text): the method-wrapper at u called -/
theorem mw_call {u e t : Addr} {rest : List Value} {Q : Value → Shared → Prop} {nm q : Str} {N : Addr} {bs bm : List Value} {hdct : Bool} {sn : List Str} {sub : List Value} {ab : Bool} {col : Option Bool} {dd : Option Addr} {k0 k1 k2 k3 k5 : Option Value}
    (hC : s.heap.get? C = some (excClassObj nm q C N bs bm hdct sn sub ab col dd k0 k1 k2 k3 k5 "ValueError.__new__")) (hu : s.heap.get? u = some (kxs_mw "ValueError.__init__" e)) (he : s.heap.get? e = some (excO C t)) (hz : rest.length ≤ sizeLine)
    (h : ∀ h' t', (∀ b o, b ≠ e → s.heap.get? b = some o → h'.get? b = some o) → h'.get? e = some (excO C t') → Q .none { s with heap := h' }) :
    wpAny (model prog w) A (call (.ref u) rest) Q E s := by
  obtain ⟨hh, g, d, tk, os⟩ := s
  refine wpAny_call (codeAny_of_tree ?_)
  show wpAny _ A.in1 (callAny (.ref u) ⟨rest, []⟩) _ _ _
  simp only [callAny]
  refine wpAny_bind (wpAny_load hu ?_)
  simp only [kxs_mw, show (Value.type "method-wrapper" == Value.type "method" || Value.type "method-wrapper" == Value.type "builtin_function_or_method" || Value.type "method-wrapper" == Value.type "method-wrapper") = true by decide, if_true]
  refine KFB.if_so (by decide) ?_
  refine wpAny_bind (check_bound_init F.excBase_ValueError.toExcCallFacts hC he rfl ?_)
  refine wpAny_bind (wpAny_pure (wpAny_pure ?_))
  refine ⟨plainId_quiet F.excBase_ValueError.init.plain _, codeAny_builtin F.excBase_ValueError.initEntry ?_⟩
  exact exc_init_tree (cls := .ref C) (t0 := t) (dv := none) (c2 := .none) (c3 := .none) (b4 := .bool false) he hz fun h' k e' _ => h h' _ k e'
theorem ldK {M : Model} {s : Shared} {name : Str} {scope : Scope} {L a : Addr} {cd : Value} {cc : Addr} {m : Str → Option Value} {x : Str} {pos : Pos} {v : Value} {Q : Value → Shared → Prop} {A : Around} {E : Value → Shared → Prop} (hn : s.heap.Ns L m) (hv : m x = some v) (h : Q v s)
    (hk : scope.kind = .function) (hl : scope.names.lookup x = some NameKind.local) (hd : (x == ("__debug__" : Str)) = false) :
    wpAny M A (eval (.Name x pos) (ksEnv name scope L a cd cc)) Q E s := wpAny_Name (wpAny_loadName_local hk hl hn hv h) hd
/-- the stores behind the first -/
theorem ox_rest {q : Str} {sc : Scope} {L fI cc x dx : Addr} {cd : Value} {m : Str → Option Value} {fv : Array Value} {Cd : ClassData} {Q : Flow → Shared → Prop} (hk : sc.kind = .function) (hls : sc.names.lookup ("self" : Str) = some NameKind.local) (hms : m "self" = some (.ref x))
    (hcl : clsIn K C = some Cd) (hmro : refsVE Cd.mro = true) (hdct : Cd.hasDict = true) (hsa : findIn K (.ref C) "__setattr__" = some (some (.builtin "object.__setattr__"))) :
    ∀ (gs : List Str) (us : List Value) (ss : List Stmt) (acc : List (Str × Value)) (s : Shared), Asgs gs ss → us.length = gs.length → K.In s.heap → K.lookup dx = none → s.heap.Ns L m → dx ≠ L → s.heap.get? x = some { cls := .ref C, dict := some dx, data := .fields fv } → dx ≠ x →
    s.heap.Ns1 dx (fun y => acc.lookup y) → acc.length + gs.length ≤ 900 → (∀ f ∈ gs, sc.names.lookup f = some NameKind.local ∧ (f == ("__debug__" : Str)) = false ∧ findIn K (.ref C) f = some none) → (∀ p ∈ gs.zip us, m p.1 = some p.2) →
    (∀ h' tk, (∀ b o, b ≠ dx → s.heap.get? b = some o → h'.get? b = some o) → h'.Ns1 dx (fun y => ((gs.zip us).reverse ++ acc).lookup y) → Q .next { s with heap := h', toks := tk }) →
    wpAny (model prog w) A (execs ss (ksEnv q sc L fI cd cc)) Q E s
  | [], us, _, acc, s, .nil, hl, X, hdK, hL, hdL, hx, hdx, hns, hz, hf, hm, hq => by
    refine wpAny_execs_nil ?_
    exact hq s.heap s.toks (fun _ _ _ e => e) (by simpa using hns)
  | g :: gs, u :: us, _, acc, s, .cons r1 r2 r3 r4 as, hl, X, hdK, hL, hdL, hx, hdx, hns, hz, hf, hm, hq => by
    obtain ⟨f1, f2, f3⟩ := hf g List.mem_cons_self
    have mg' : m g = some u := hm (g, u) (by rw [List.zip_cons_cons]; exact List.mem_cons_self)
    refine wpAny_execs_cons (plainObj_wpAny_Assign_Attribute ?_ (by rfl))
    refine ldK (v := u) hL mg' (ldK (v := .ref x) hL hms ?_ hk hls (by decide +kernel)) hk f1 f2
    have hw : Within (fun y => acc.lookup y) (acc.map (·.1)) := fun y hy => by
      have key : ∀ {l : List (Str × Value)}, l.lookup y ≠ none → y ∈ l.map (·.1) := by
        intro l
        induction l with
        | nil => intro h; exact absurd rfl h
        | cons p l ih =>
          intro h
          obtain ⟨f, z⟩ := p
          by_cases e : y = f
          · rw [e]; exact List.mem_cons_self
          · have e' : (y == f) = false := by simpa using e
            simp only [List.lookup, e'] at h
            exact List.mem_cons_of_mem _ (ih h)
      exact key hy
    obtain ⟨oD, _, _, hoD, _, _⟩ := hns.count hw
    obtain ⟨hp, gg, d, t, os⟩ := s
    refine set_plain X (ox := { cls := .ref C, dict := some dx, data := .fields fv }) (od := some oD) ⟨hx, rfl, rfl, hoD⟩ hsa ?_
    refine OEX.osa_old X hx hns hw (by rw [List.length_map]; simp at hz; omega) hcl hmro hdct f3 (fun h' tk' k hn => ?_)
    have X' : K.In h' := fun b o e => k b o (fun z => by rw [z, hdK] at e; cases e) (X b o e)
    have hL' : h'.Ns L m := by
      obtain ⟨oL, es, ep, e1, r⟩ := hL
      exact ⟨oL, es, ep, k _ _ (Ne.symm hdL) e1, r⟩
    have hn' : h'.Ns1 dx (fun y => ((g, u) :: acc).lookup y) := by
      have e : (fun y => if y = g then some u else acc.lookup y) = (fun y => ((g, u) :: acc).lookup y) := funext fun y => lookup_rev_cons (fv := acc) (f := g) (v := u) (fun z => acc.lookup z) (fun _ => rfl)
      rw [← e]; exact hn
    refine ox_rest hk hls hms hcl hmro hdct hsa gs us _ ((g, u) :: acc) ⟨h', gg, d, tk', os⟩ as (by simpa using hl) X' hdK hL' hdL (k _ _ (Ne.symm hdx) hx) hdx hn' (by simp at hz ⊢; omega) (fun f hf' => hf f (List.mem_cons_of_mem _ hf')) (fun p hp => hm p (by rw [List.zip_cons_cons]; exact List.mem_cons_of_mem _ hp)) fun h'' tk k2 hn2 => ?_
    refine hq h'' tk (fun b o hb e => k2 b o hb (k b o hb e)) ?_
    rw [List.zip_cons_cons, List.reverse_cons, List.append_assoc]
    exact hn2
  | _ :: _, [], _, _, _, _, hl, _, _, _, _, _, _, _, _, _, _, _ => by simp at hl
theorem ox_init (T : ExTxt prog K mg nm fs C fI) {x t0 : Addr} {args : Args} {us : List Value} (hlen : us.length = fs.length) (hargs : args = ⟨.ref x :: us, []⟩ ∨ args = ⟨[.ref x], fs.zip us⟩) (X : K.In s.heap) (G : s.heap.Ns mainGlobals mg) (Bn : s.heap.Ns builtinsNs mb) (hbb : ∀ x : Str, x ≠ "__name__" → mb x = bootBuiltins x) (hlim : s.heap.NoLimit) (hx : s.heap.get? x = some (excO C t0)) (hnx : K.lookup x = none) (hroom : A.depth < recursionLimit)
    (hq : ∀ h' tk dx t1, InitEnd s.heap h' x C dx t1 (fs.zip us) → R (.ok (.ret .none)) { s with heap := h', toks := tk }) :
    codeAny (model prog w) A (.call (.ref fI) args) R s := by
  obtain ⟨nm', q, N, bs, bm, sn, sub, ab, col, dd, k0, k1, k2, k3, k5, hC, hbm, hal⟩ := T.cls
  obtain ⟨oc, od, doc, pm, an, ct, osl, qq, txt, params, sc, q0, q1, q2, q3, q4, q5, asgs, cda, cc, ccl, cl, cdd, cld, vs, ccs, csl, file, tf, hfn, hcd, hline, S, hasg, hco, hvs, hfile, hcell⟩ := T.fn
  have hcl : clsIn K C = some { name := nm', bases := bs, mro := .ref C :: bm, ns := N, qualname := q, hasDict := true, slotNames := sn, subclasses := sub, abstract := ab, collection := col, hasDel := false } := by unfold clsIn; rw [hC] <;> rfl
  have hbd : bindArgs (ksFn "__init__" qq params (oxSup txt q0 q1 q2 q3 q4 q5 :: asgs) sc .none .none doc pm an (.ref cda) ct cc) args = (pure ((("self" : Str), .ref x) :: fs.zip us) : Sem (List (Str × Value))) := by
    rcases hargs with e | e
    · rw [e]; exact S.bnd _ _ _ _ _ _ _ _ _ _ hlen
    · rw [e]; exact S.bndK _ _ _ _ _ _ _ _ _ _ hlen
  obtain ⟨ar, har, har2⟩ : ∃ ar, (params.posonlyargs ++ params.args).head? = some ar ∧ ar.arg = ("self" : Str) := by
    have z := S.hd
    cases e : (params.posonlyargs ++ params.args).head? with
    | none => rw [e] at z; cases z
    | some ar => rw [e] at z; exact ⟨ar, rfl, Option.some.inj z⟩
  refine ks_codeAny_call_defAt (fd := ksFn "__init__" qq params (oxSup txt q0 q1 q2 q3 q4 q5 :: asgs) sc .none .none doc pm an (.ref cda) ct cc) (body := oxSup txt q0 q1 q2 q3 q4 q5 :: asgs) (binds := (("self" : Str), .ref x) :: fs.zip us)
    hroom (X _ _ hfn) rfl hlim (codeRec_of X hcd) rfl (BindsTo.of_eq hbd) S.ncell ?hloc (fun h₁ hns k => ?_) S.co S.gen S.kind
  case hloc =>
    intro y hy
    rcases List.mem_cons.mp hy with rfl | hy
    · exact S.lself
    · exact S.lf _ (List.of_mem_zip hy).1
  have X₁ : K.In h₁ := X.keeps k
  have hx₁ := k _ _ hx
  have hC₁ := X₁ _ _ hC
  have hxC : x ≠ C := fun z => by
    rw [z] at hx
    have e := (X _ _ hC).symm.trans hx
    cases e
  have ndk : (((("self" : Str), Value.ref x) :: fs.zip us).map (·.1)).Nodup := by
    rw [List.map_cons, List.map_fst_zip (by omega)]
    exact List.nodup_cons.mpr ⟨fun h => S.nself _ h rfl, S.nd⟩
  have mself : ((("self" : Str), Value.ref x) :: fs.zip us).reverse.lookup ("self" : Str) = some (.ref x) := mem_lookup ndk List.mem_cons_self
  have mf : ∀ p ∈ fs.zip us, ((("self" : Str), Value.ref x) :: fs.zip us).reverse.lookup p.1 = some p.2 := fun p hp => mem_lookup ndk (List.mem_cons_of_mem _ hp)
  show _root_.PySem.wpAt _ _ (.func (oxSup txt q0 q1 q2 q3 q4 q5 :: asgs) (ksEnv qq sc s.heap.objs.size fI (.ref cda) cc)) (execs (oxSup txt q0 q1 q2 q3 q4 q5 :: asgs) (ksEnv qq sc s.heap.objs.size fI (.ref cda) cc)) _ _ _
  refine ks_wpAt_execs_cons (ks_wpAt_Expr_any (ks_wpAt_MethodCall ?_ (ev_meth _ _ _ _ _ _ _ hline)) (by simp [interactive, S.kind]) (S.sw ..))
  have hIve : ∀ h2 : Heap, K.In h2 → h2.get? x = some (excO C t0) → Looks (model prog w) h2 (isInstance (.ref x) (.type "ValueError")) true := fun h2 X2 e2 =>
    (show W.InstAt h2 x (excO C t0) C none from ⟨e2, rfl, rfl, trivial⟩).type.andThen (looks_subIn X2 T.veC)
  refine ks_wpAt_super_base (env := ksEnv qq sc s.heap.objs.size fI (.ref cda) cc) S.lsup S.lcls (by decide +kernel) rfl (X₁ _ _ hfn) rfl har rfl (X₁ _ _ hco) rfl hvs hfile T.top ?_
  refine ks_loadName_global S.kind S.lsup (loadGlobal_builtin (env := ksEnv qq sc s.heap.objs.size fI (.ref cda) cc) (G.keeps k) T.sup (Bn.keeps k) ((hbb _ (by decide +kernel)).trans (by first | boot_by_name | rfl | kernel_rfl)) ⟨rfl, ?_⟩)
  refine wpAny_loadName_free S.kind S.lcls rfl ⟨_, X₁ _ _ hcell, rfl⟩ ?_
  rw [har2]
  refine wpAny_loadName_local S.kind S.lself hns mself ?_
  refine ks_wpAny_isType_cls hC₁ rfl ⟨rfl, ?_⟩
  refine ks_wpAny_call_super hC₁ rfl hx₁ rfl (fun c z => by cases z) (looks_mroIn X₁ T.slC) (fun h₂ e₂ k₂ => ?_)
  have X₂ : K.In h₂ := X₁.keeps k₂
  refine kxs_getMethod kxs_ValueError e₂ (looks_opaque X₂ T.tp) (l₀ := .ref C :: bm) (fun A Q E s k q => wpAny_bind ((looks_clsIn X₂ hcl) A _ E s k (wpAny_pure q))) rfl X₂ hal (hIve h₂ X₂ (k₂ _ _ hx₁)) hxC (by decide +kernel) ?_
  have k₃ : ∀ b o, h₂.get? b = some o → (h₂.push (kxs_mw "ValueError.__init__" x)).get? b = some o := fun b o e => Heap.get?_push_of_some _ e
  have hu : (h₂.push (kxs_mw "ValueError.__init__" x)).get? h₂.objs.size = some (kxs_mw "ValueError.__init__" x) := Heap.get?_push_at rfl rfl
  refine kxs_callWith (i := "ValueError.__init__") (x := x) (by rfl) (evalArgs_plain ?_)
  show wpAny _ _ (spliced ((false, eval (.Constant (.str txt) 0 q3) (ksEnv qq sc s.heap.objs.size fI (.ref cda) cc)) :: backTo q4 (starEach [] (ksEnv qq sc s.heap.objs.size fI (.ref cda) cc)))) _ _ _
  refine Calls.spliced_cons (Calls.Constant_str (Calls.spliced_nil ⟨hu, ?_⟩))
  refine mw_call (X₂.keeps k₃ _ _ hC) hu (k₃ _ _ (k₂ _ _ hx₁)) (by show 1 ≤ sizeLine; rw [sizeLine_eq]; decide) fun h₄ t₄ k₄ e₄ => ?_
  -- self.f = f
  have kx : ∀ b o, b ≠ x → h₁.get? b = some o → h₄.get? b = some o := fun b o hb e => k₄ b o hb (k₃ b o (k₂ b o e))
  have X₄ : K.In h₄ := fun b o e => kx b o (fun z => by rw [z, hnx] at e; cases e) (X₁ b o e)
  have ns₄ : h₄.Ns s.heap.objs.size (fun y => ((("self" : Str), Value.ref x) :: fs.zip us).reverse.lookup y) := by
    obtain ⟨oL, es, ep, hL, r⟩ := hns
    exact ⟨oL, es, ep, kx _ _ (Ne.symm (Nat.ne_of_lt (Heap.lt_size hx))) hL, r⟩
  have big : s.heap.objs.size < h₄.objs.size := by
    obtain ⟨oL, es, ep, hL, r⟩ := ns₄
    exact Heap.lt_size hL
  obtain ⟨few0, few1⟩ := S.few
  have Slf := S.lf
  have Sdb := S.ndbg
  have TnoN := T.noN
  cases hasg with
  | nil => exact absurd few0 (by simp)
  | @cons f gs ss r1 r2 r3 r4 as =>
    cases us with
    | nil => simp at hlen
    | cons u us =>
      refine wpAt_of_wpAny ?_
      refine wpAny_execs_cons (plainObj_wpAny_Assign_Attribute ?_ (by rfl))
      refine ldK (v := u) ns₄ (mf (f, u) (by rw [List.zip_cons_cons]; exact List.mem_cons_self)) (ldK (v := .ref x) ns₄ mself ?_ S.kind S.lself (by decide +kernel)) S.kind (Slf f List.mem_cons_self) (Sdb f List.mem_cons_self)
      refine set_plain X₄ (ox := excO C t₄) (od := none) ⟨e₄, rfl, rfl, trivial⟩ T.sa ?_
      refine exc_osa X₄ e₄ hcl (show refsVE (.ref C :: bm) = true from hbm) rfl (TnoN f List.mem_cons_self) (fun h₅ tk₅ dx k₅ dn dne hx₅ hn₅ => ?_)
      have X₅ : K.In h₅ := fun b o e => k₅ b o (fun z => by rw [z, hnx] at e; cases e) (X₄ b o e)
      have hdK : K.lookup dx = none := by
        cases e : K.lookup dx with
        | none => rfl
        | some o => exact absurd (Nat.lt_of_lt_of_le (Heap.lt_size (X₄ _ _ e)) dn) (Nat.lt_irrefl _)
      have ns₅ : h₅.Ns s.heap.objs.size (fun y => ((("self" : Str), Value.ref x) :: (f :: gs).zip (u :: us)).reverse.lookup y) := by
        obtain ⟨oL, es, ep, hL, r⟩ := ns₄
        exact ⟨oL, es, ep, k₅ _ _ (Ne.symm (Nat.ne_of_lt (Heap.lt_size hx))) hL, r⟩
      have hn₅' : h₅.Ns1 dx (fun y => [(f, u)].lookup y) := by
        have e : (fun y => if y = f then some u else none) = (fun y => [(f, u)].lookup y) := funext fun y => lookup_rev_cons (fv := []) (f := f) (v := u) (fun _ => none) (fun _ => rfl)
        rw [← e]; exact hn₅
      refine ox_rest (L := s.heap.objs.size) (x := x) (dx := dx) S.kind S.lself mself hcl (show refsVE (.ref C :: bm) = true from hbm) rfl T.sa gs us _ [(f, u)] _ as (by simpa using hlen) X₅ hdK ns₅ (Nat.ne_of_gt (Nat.lt_of_lt_of_le big dn)) hx₅ dne hn₅' (by simp at few1 ⊢; omega)
        (fun g hg => ⟨Slf g (List.mem_cons_of_mem _ hg), Sdb g (List.mem_cons_of_mem _ hg), TnoN g (List.mem_cons_of_mem _ hg)⟩) (fun p hp => mf p (by rw [List.zip_cons_cons]; exact List.mem_cons_of_mem _ hp)) fun h₆ tk₆ k₆ hn₆ => ?_
      refine hq h₆ tk₆ dx t₄ ⟨fun b o hb e => k₆ b o (Nat.ne_of_lt (Nat.lt_of_lt_of_le (Heap.lt_size e) (Nat.le_trans (Nat.le_of_lt big) dn))) (k₅ b o hb (kx b o hb (k b o e))), k₆ _ _ (Ne.symm dne) hx₅, Nat.le_trans (Nat.le_of_lt big) dn, dne, ?_⟩
      rw [List.zip_cons_cons, List.reverse_cons]
      exact hn₆
end
end OxE
end PySem
end
section
set_option Elab.async false
set_option autoImplicit false
set_option linter.all false
set_option maxRecDepth 100000
set_option maxHeartbeats 4000000
namespace PySem
namespace OxE
open PySem.W PySem.Calls PyProof.Rows PySem.HandSPX
section
variable {M : Model} {A : Around} {E : Value → Shared → Prop} {h : Heap} {g : Array GenState} {d : Drawn} {t : Nat} {os : OsState}
variable {nm q : Str} {C N : Addr} {bs bm bmB : List Value} {hdct : Bool} {sn : List Str} {sub : List Value} {ab : Bool} {col : Option Bool} {dd : Option Addr} {k0 k1 k2 k3 k5 : Option Value} {B newId initId : String}
theorem check_newK (F : ExcBaseFacts B newId initId bmB) (hT : ∀ X : String, bm.contains (.type X) = bmB.contains (.type X)) {kw : List (Str × Value)} {Q : Unit → Shared → Prop}
    (hC : h.get? C = some (excClassObj nm q C N bs bm hdct sn sub ab col dd k0 k1 k2 k3 k5 newId)) (hq : Q () ⟨h, g, d, t, os⟩) : wpAny M A (checkBuiltinCall newId ⟨[.ref C], kw⟩) Q E ⟨h, g, d, t, os⟩ := by
  have hcont : (Value.ref C :: bm).contains (.type B) = true := by rw [List.contains_cons, hT, F.hasB, Bool.or_true]
  have hstar := F.noStar
  simp only [checkBuiltinCall, F.newKind, F.newSplit, F.newRow]
  repeat (first | refine wpAny_loadPart_at hC ?_ | (refine wpAny_isSubtype_exc hC ?_; rw [hcont]) | refine wpAny_staticBase_exc hC ?_ | refine wpAny_madeBy_exc hC ?_ | simp only [bne_self_eq_false, Bool.false_eq_true, if_false] | wp_step)
  exact hq
end
section
variable {prog : Program} {w : World} {A : Around} {E : Value → Shared → Prop} {R : Result → Shared → Prop} {h : Heap} {g : Array GenState} {d : Drawn} {t : Nat} {os : OsState}
variable {nm q : Str} {C N : Addr} {bs bm bmB : List Value} {hdct : Bool} {sn : List Str} {sub : List Value} {ab : Bool} {col : Option Bool} {dd : Option Addr} {k0 k1 k2 k3 k5 : Option Value} {B newId initId : String}

theorem new_ownK (F : ExcBaseFacts B newId initId bmB) (hT : ∀ X : String, bm.contains (.type X) = bmB.contains (.type X)) {kw : List (Str × Value)}
    (hC : h.get? C = some (excClassObj nm q C N bs bm hdct sn sub ab col dd k0 k1 k2 k3 k5 newId))
    (hq : R (.ok (.ret (.ref (h.objs.size + 1)))) ⟨(h.push { cls := .type "tuple", data := .seq #[] }).push
      { cls := .ref C, data := .fields #[.ref h.objs.size, .none, .none, .none, .bool false, .none] }, g, d, t, os⟩) :
    codeAny (model prog w) A (.builtin newId ⟨[.ref C], kw⟩) R ⟨h, g, d, t, os⟩ := by
  have hends := F.ends
  have hcB : (Value.ref C :: bm).contains (.type B) = true := by rw [List.contains_cons, hT, F.hasB, Bool.or_true]
  have hcA : (Value.ref C :: bm).contains (.type "AttributeError") = false := by rw [List.contains_cons, hT, F.noAttr]; rfl
  have hcN : (Value.ref C :: bm).contains (.type "NameError") = false := by rw [List.contains_cons, hT, F.noName]; rfl
  refine codeAny_builtinAt F.entry ?_
  unfold Builtin.«BaseException.__new__»
  refine wpAt_bind ?_
  show wpAt _ _ _ (stack >>= _) _ _ _
  refine wpAt_bind (wpAt_stack fun p below => wpAt_of_wpAny ?_)
  wp_walk
  refine wpAt_of_wpAny ?_
  rw [F.owner]
  repeat (first | with_reducible refine wpAny_madeHere_exc F.canon hC ?_ | with_reducible refine wpAny_loadPart_at hC ?_ | (with_reducible refine wpAny_isSubtype_exc hC ?_; first | rw [hcB] | rw [hcA] | rw [hcN]) | wp_step)
  show R _ _
  rw [Heap.size_push]
  exact hq

theorem type_call_ownK (F : ExcBaseFacts B newId initId bmB) (hT : ∀ X : String, bm.contains (.type X) = bmB.contains (.type X)) {kw : List (Str × Value)} {fI : Addr} {Q : Fin → Shared → Prop}
    (hC : h.get? C = some (excClassObj nm q C N bs bm hdct sn sub ab col dd k0 k1 k2 k3 k5 newId))
    (hi : W.Looks (model prog w) h (typeLookup (.ref C) "__init__") (some (.ref fI))) (hb : ∀ self, W.Looks (model prog w) h (bindSpecial (.ref fI) self) (.ref fI, [self]))
    (hq : codeAny (model prog w) A (.call (.ref fI) ⟨[.ref (h.objs.size + 1)], kw⟩)
      (fun r s' => match r with | .ok (.ret v) => v = .none ∧ Q (.done (.ret (.ref (h.objs.size + 1)))) s' | .ok _ => False | .error e => E e s')
      ⟨(h.push (W.kdv_tup [])).push (excO C h.objs.size), g, d, t, os⟩) :
    wpAny (model prog w) A (Builtin.«type.__call__» ⟨[.ref C], kw⟩) Q E ⟨h, g, d, t, os⟩ := by
  repeat (first | with_reducible refine wpAny_loadPart_at hC ?_ | with_reducible refine wpAny_madeBy_exc hC ?_ | wp_step)
  refine codeAny_call_builtin_code (Code.quiet_builtin _ F.quiet) (check_newK F hT hC ?_)
  refine new_ownK F hT hC ?_
  show wpAny _ _ _ _ _ _
  have k : ∀ b o, h.get? b = some o → ((h.push (W.kdv_tup [])).push (excO C h.objs.size)).get? b = some o := fun b o e => Heap.get?_push_of_some _ (Heap.get?_push_of_some _ e)
  have hC₁ := k _ _ hC
  have hget : ((h.push (W.kdv_tup [])).push (excO C h.objs.size)).get? (h.objs.size + 1) = some (excO C h.objs.size) := by heap_get
  have hcC : (Value.ref C :: bm).contains (.ref C) = true := by simp
  have i1 := hi.keeps k
  have b1 := (hb (.ref (h.objs.size + 1))).keeps k
  unfold isInstance
  repeat (first | with_reducible refine wpAny_loadPart_at hget ?_ | (with_reducible refine wpAny_isSubtype_exc hC₁ ?_; rw [hcC]) | wp_step)
  show wpAny _ _ (typeLookup (.ref C) _) _ _ _
  refine i1.at ?_
  refine wpAny_holding (wpAny_bind (b1.at ?_))
  refine wpAny_bind (wpAny_call (codeAny_mono hq fun r s' z => ?_))
  rcases r with e | (v | _ | _ | _) <;> first | exact z | exact z.elim | skip
  obtain ⟨rfl, z⟩ := z
  first
    | exact wpAny_pure (wpAny_pure z)
    | (wp_walk; exact z)

theorem call_ownK (F : ExcBaseFacts B newId initId bmB) (hT : ∀ X : String, bm.contains (.type X) = bmB.contains (.type X)) {kw : List (Str × Value)} {fI : Addr}
    (hC : h.get? C = some (excClassObj nm q C N bs bm hdct sn sub ab col dd k0 k1 k2 k3 k5 newId))
    (hi : W.Looks (model prog w) h (typeLookup (.ref C) "__init__") (some (.ref fI))) (hb : ∀ self, W.Looks (model prog w) h (bindSpecial (.ref fI) self) (.ref fI, [self]))
    (hq : codeAny (model prog w) (A.under (.builtin "type.__call__" ⟨[.ref C], kw⟩)) (.call (.ref fI) ⟨[.ref (h.objs.size + 1)], kw⟩) (W.InitBack (h.objs.size + 1) R)
      ⟨(h.push (W.kdv_tup [])).push (excO C h.objs.size), g, d, t, os⟩) :
    codeAny (model prog w) A (.call (.ref C) ⟨[], kw⟩) R ⟨h, g, d, t, os⟩ := by
  have f1 := tc_lookup
  have f2 := tc_bind (.ref C)
  have hTy : (⟨h, g, d, t, os⟩ : Shared).TypeIs (.ref C) "type" := ⟨_, hC, rfl⟩
  refine codeAny_of_tree ?_
  show wpAny _ _ (callAny (.ref C) _) _ _ _
  repeat (any_goals (first | assumption | with_reducible refine wpAny_loadPart_at hC ?_ | wp_step))
  refine ⟨rfl, ?_⟩
  refine codeAny_call_builtin_at (Code.quiet_builtin _ (by decide +kernel)) entry_typeCall (wpAny_check_type_call_sub hC (type_call_ownK F hT hC hi hb ?_))
  refine codeAny_mono hq fun r s' z => ?_
  rcases r with e | (v | _ | _ | _) <;> exact z

end
end OxE
end PySem
end
section
set_option Elab.async false
set_option autoImplicit false
set_option linter.all false
set_option maxRecDepth 100000
set_option maxHeartbeats 4000000
namespace PySem
namespace OxE
open PySem.W PySem.Calls PyProof.Rows PySem.HandSPX
section
variable {prog : Program} {w : World} {A : Around} {E : Value → Shared → Prop} {R : Result → Shared → Prop} {s : Shared} {K : Frag} {mg mb : Str → Option Value} {nm : Str} {fs : List Str} {C fI : Addr}
/-- such an error, made: a new object with its own dict -/
theorem ox_made (T : ExTxt prog K mg nm fs C fI) {args : Args} {us : List Value} (hlen : us.length = fs.length) (hargs : args = ⟨us, []⟩ ∨ args = ⟨[], fs.zip us⟩) (X : K.In s.heap) (G : s.heap.Ns mainGlobals mg) (Bn : s.heap.Ns builtinsNs mb) (hbb : ∀ x : Str, x ≠ "__name__" → mb x = bootBuiltins x) (hlim : s.heap.NoLimit) (hroom : A.depth + 1 < recursionLimit)
    (hq : ∀ h' tk e d t1, (∀ b o, s.heap.get? b = some o → h'.get? b = some o) → s.heap.objs.size ≤ e → h'.get? e = some { cls := .ref C, dict := some d, data := .fields #[.ref t1, .none, .none, .none, .bool false, .none] } → s.heap.objs.size ≤ d → d ≠ e → h'.Ns1 d (fun y => (fs.zip us).reverse.lookup y) → R (.ok (.ret (.ref e))) { s with heap := h', toks := tk }) :
    codeAny (model prog w) A (.call (.ref C) args) R s := by
  obtain ⟨nm', q, N, bs, bm, sn, sub, ab, col, dd, k0, k1, k2, k3, k5, hC, hbm, hal⟩ := T.cls
  have few : us.length ≤ 20 := by
    obtain ⟨_, _, _, _, _, _, _, _, _, _, sc, _, _, _, _, _, _, _, _, _, _, _, _, _, _, _, _, _, _, _, _, _, S, _⟩ := T.fn
    rw [hlen]; exact S.few.2
  have hrest : us.length ≤ sizeLine := by rw [sizeLine_eq]; omega
  obtain ⟨hp, g, dr, tk, os⟩ := s
  -- __init__ over the fresh object
  have main : ∀ (vs : List Value) (A' : Around) (args' : Args), A'.depth < recursionLimit → (args' = ⟨.ref (hp.objs.size + 1) :: us, []⟩ ∨ args' = ⟨[.ref (hp.objs.size + 1)], fs.zip us⟩) →
      codeAny (model prog w) A' (.call (.ref fI) args') (W.InitBack (hp.objs.size + 1) R) ⟨(hp.push (kdv_tup vs)).push (excO C hp.objs.size), g, dr, tk, os⟩ := by
    intro vs A' args' hr ha
    have k : ∀ b o, hp.get? b = some o → ((hp.push (kdv_tup vs)).push (excO C hp.objs.size)).get? b = some o := fun b o e => Heap.get?_push_of_some _ (Heap.get?_push_of_some _ e)
    have hget : ((hp.push (kdv_tup vs)).push (excO C hp.objs.size)).get? (hp.objs.size + 1) = some (excO C hp.objs.size) := by heap_get
    have hnx : K.lookup (hp.objs.size + 1) = none := by
      cases e : K.lookup (hp.objs.size + 1) with
      | none => rfl
      | some o => exact absurd (Nat.lt_of_succ_lt (Heap.lt_size (show hp.get? (hp.objs.size + 1) = some o from X _ _ e))) (Nat.lt_irrefl _)
    refine ox_init (mb := mb) (s := ⟨(hp.push (kdv_tup vs)).push (excO C hp.objs.size), g, dr, tk, os⟩) T hlen ha (X.keeps k) (G.keeps k) (Bn.keeps k) hbb (hlim.keeps k) hget hnx hr fun h' tk' dx t1 D => ?_
    have hsz : ((hp.push (kdv_tup vs)).push (excO C hp.objs.size)).objs.size = hp.objs.size + 1 + 1 := by rw [Heap.size_push, Heap.size_push]
    have big : hp.objs.size ≤ dx := by
      have z := D.dbig
      have z' : ((hp.push (kdv_tup vs)).push (excO C hp.objs.size)).objs.size ≤ dx := z
      rw [hsz] at z'; omega
    exact ⟨rfl, hq h' tk' (hp.objs.size + 1) dx t1 (fun b o e => D.keep b o (Nat.ne_of_lt (Nat.lt_succ_of_lt (Heap.lt_size e))) (k b o e)) (Nat.le_succ _) D.obj big D.dne D.ns⟩
  rcases hargs with e | e
  · subst e
    exact call_own F.excBase_ValueError (fun Y => refsVE_contains Y bm hbm) (X _ _ hC) (looks_findIn X T.iC) (fun self => bind_fn X self T.tC) hrest (main us _ _ (by show A.depth + 1 < _; exact hroom) (.inl rfl))
  · subst e
    exact call_ownK F.excBase_ValueError (fun Y => refsVE_contains Y bm hbm) (X _ _ hC) (looks_findIn X T.iC) (fun self => bind_fn X self T.tC) (main [] _ _ (by show A.depth + 1 < _; exact hroom) (.inr rfl))
end
end OxE
end PySem
namespace L2
open PySem PySem.Spec PyProof.Rows PySem.OxE
theorem relO_zip : ∀ {fs : List Str} {vs : List V} {us : List Value}, Vals vs us → ∀ f, RelO ((fs.zip vs).lookup f) ((fs.zip us).lookup f)
  | [], _, _, _, _ => True.intro
  | _ :: _, _, _, .nil, _ => True.intro
  | g :: fs, _, _, .cons r t, f => by
    rw [List.zip_cons_cons, List.zip_cons_cons]
    by_cases h : f = g
    · subst h; simp only [List.lookup, beq_self_eq_true]; exact r
    · have e : (f == g) = false := by simpa using h
      simp only [List.lookup, e]; exact relO_zip t f
theorem relO_kv : ∀ {l : List (Str × V)} {m : List (Str × Value)}, Paired (fun (p : Str × V) (q : Str × Value) => p.1 = q.1 ∧ RelV p.2 q.2) l m → ∀ f, RelO (l.lookup f) (m.lookup f)
  | _, _, .nil, _ => True.intro
  | (g, v) :: l, (g', u) :: m, .cons r t, f => by
    obtain ⟨e, r⟩ := r
    obtain rfl : g = g' := e
    by_cases h : f = g
    · subst h; simp only [List.lookup, beq_self_eq_true]; exact r
    · have e : (f == g) = false := by simpa using h
      simp only [List.lookup, e]; exact relO_kv t f
theorem paired_snoc {α β : Type} {F : α → β → Prop} : ∀ {l : List α} {m : List β} {a : α} {b : β}, Paired F l m → F a b → Paired F (l ++ [a]) (m ++ [b])
  | _, _, _, _, .nil, h => .cons h .nil
  | _, _, _, _, .cons r t, h => .cons r (paired_snoc t h)
theorem paired_rev {α β : Type} {F : α → β → Prop} : ∀ {l : List α} {m : List β}, Paired F l m → Paired F l.reverse m.reverse
  | _, _, .nil => .nil
  | _, _, .cons r t => by rw [List.reverse_cons, List.reverse_cons]; exact paired_snoc (paired_rev t) r
theorem paired_zip : ∀ {fs : List Str} {vs : List V} {us : List Value}, Vals vs us → Paired (fun (p : Str × V) (q : Str × Value) => p.1 = q.1 ∧ RelV p.2 q.2) (fs.zip vs) (fs.zip us)
  | [], _, _, _ => .nil
  | _ :: _, _, _, .nil => .nil
  | _ :: _, _, _, .cons r t => .cons ⟨rfl, r⟩ (paired_zip t)
/-- the fields of a made error, as they stand in its dict -/
def exF (fs : List Str) (vs : List V) : List (Str × V) := (fs.zip vs).reverse
theorem relO_exF {fs : List Str} {vs : List V} {us : List Value} (r : Vals vs us) (f : Str) : RelO ((exF fs vs).lookup f) ((fs.zip us).reverse.lookup f) := relO_kv (paired_rev (paired_zip r)) f
/-- what is read off an error of the class at C -/
structure ExRd (K : PySem.W.Frag) (C : Addr) : Prop where
  ga : PySem.W.findIn K (.ref C) "__getattribute__" = some (some (.builtin "BaseException.__getattribute__"))
  gg : PySem.W.findIn K (.ref C) "__getattr__" = some none
  exC : PySem.W.subIn K (.ref C) (.type "BaseException") = some true
  hdC : PySem.W.hasDictIn K C = true
theorem _root_.PySem.OxE.ExTxt.rd {P : Program} {K : PySem.W.Frag} {mg : Str → Option Value} {nm : Str} {fs : List Str} {C fI : Addr} (T : ExTxt P K mg nm fs C fI) : ExRd K C := ⟨T.ga, T.gg, T.exC, T.hdC⟩
section
variable {X : Cx} {nm : Str} {fs : List Str} {C fI : Addr} {e : Expr} {es : List Expr} {ta : TA} {p pos : Pos}
/-- C(e, ..) as a value: a new error at e, its dict at d -/
def tOx (C : Addr) (fs : List Str) (ta : TA) : TE := fun σ H Q => ta σ H fun vs H1 => vs.length = fs.length ∧ ∀ e d, H1 e = none → H1 d = none → d ≠ e → Q (.ref e) (upd (upd H1 d (exd d (exF fs vs))) e (exo e C (some d)))
theorem ox_laid {pins : List (Addr × Obj)} {σ : St} {H1 : Hp} {us : List Value} {vs : List V} {hp h' : Heap} {g : Array GenState} {dr : Drawn} {tk tk' : Nat} {os : OsState} {e d t1 : Addr} (I1 : Inv X pins σ H1 ⟨hp, g, dr, tk, os⟩) (r : Vals vs us)
    (k : ∀ b o, hp.get? b = some o → h'.get? b = some o) (he : hp.objs.size ≤ e) (ho : h'.get? e = some { cls := .ref C, dict := some d, data := .fields #[.ref t1, .none, .none, .none, .bool false, .none] }) (hd : hp.objs.size ≤ d) (hde : d ≠ e) (hn : h'.Ns1 d (fun y => (fs.zip us).reverse.lookup y)) :
    Inv X pins σ (upd (upd H1 d (exd d (exF fs vs))) e (exo e C (some d))) ⟨h', g, dr, tk', os⟩ := by
  have n1 : H1 d = none := I1.hok.fresh hd
  have n2 : H1 e = none := I1.hok.fresh he
  refine I1.un (t' := tk') ⟨fun b o q n _ _ => k b o q, fun b o q n _ _ => ⟨o.slots, k b o q⟩, fun b o q n _ => ?_, fun b o q _ => ⟨o, k b o q⟩, fun b xs q => ?_, fun b o u q => ?_, fun b ps q => ⟨#[], ?_⟩⟩ fun b o q => ?_
  · rw [upd_ne (Nat.ne_of_lt (Nat.lt_of_lt_of_le (Heap.lt_size q) he)), upd_ne (Nat.ne_of_lt (Nat.lt_of_lt_of_le (Heap.lt_size q) hd))]; exact n
  · rw [upd_ne (ne_of_none q n2), upd_ne (ne_of_none q n1)]; exact q
  · rw [upd_ne (ne_of_none q n2), upd_ne (ne_of_none q n1)]; exact q
  · rw [upd_ne (ne_of_none q n2), upd_ne (ne_of_none q n1), q]; simp
  · by_cases hb : b = e
    · subst hb; rw [upd_same] at q; cases q; exact exo_ok ho
    · rw [upd_ne hb] at q
      by_cases hb2 : b = d
      · subst hb2; rw [upd_same] at q; cases q; exact exd_ok hn (relO_exF r)
      · rw [upd_ne hb2] at q
        exact (I1.hok b o q).stay (fun c v _ z => k c v z) (fun c hc => by rw [upd_ne (ne_of_none hc n2), upd_ne (ne_of_none hc n1)]; exact hc) fun c xs hc => by rw [upd_ne (ne_of_none hc n2), upd_ne (ne_of_none hc n1)]; exact hc
theorem ox_mod {pins : List (Addr × Obj)} {σ : St} {H : Hp} {s : Shared} (I : Inv X pins σ H s) : ∃ mb, s.heap.Ns mainGlobals X.mg ∧ s.heap.Ns builtinsNs mb ∧ ∀ x : Str, x ≠ "__name__" → mb x = bootBuiltins x := by
  obtain ⟨mb, h1, h2⟩ := I.mod.blt
  exact ⟨mb, I.mod.glob.keeps I.bk, h1.keeps I.bk, h2⟩
theorem pe_ox {k : Nat} (T : ExTxt X.prog X.K X.mg nm fs C fI) (hr : Room k X.A) (hg : Gl X nm) (ha : PA X (e :: es) ta)
    (he : starEach (e :: es) X.env = (false, eval e X.env) :: starEach es X.env := by rfl) (hpl : (backTo pos (starEach es X.env)).any (·.1) = false := by rfl) : PE X (.Call (.Name nm p) (e :: es) [] pos) (tOx C fs ta) := by
  refine ⟨fun pins s σ H Q I h => ?_⟩
  refine wpAny_Call_Name_kw (ld_glob I hg T.gC ?_ T.nmd)
  refine PySem.W.callWith_K (h₀ := X.base) I.ok.mod.kin T.kC (thn (ha.run pos pins s σ H _ I h) fun us s1 ⟨vs, H1, I1, r1, hl, q1⟩ => ⟨I1.kIn, ?_⟩) he hpl
  show wpAny _ _ (call (.ref C) us) _ _ _
  obtain ⟨mb, hg1, hb1, hbb⟩ := ox_mod I1
  have hlim := I1.nolimit
  obtain ⟨hp, g, dr, tk, os⟩ := s1
  refine wpAny_call (ox_made T (us := us) (by rw [← r1.length]; exact hl) (.inl rfl) I1.kIn hg1 hb1 hbb hlim (by have := hr.dp; omega) fun h' tk' e d t1 k2 he' ho hd hde hn => ?_)
  exact ⟨.ref e, _, ox_laid I1 r1 k2 he' ho hd hde hn, rfl, q1 e d (I1.hok.fresh he') (I1.hok.fresh hd) hde⟩
/-- C(f = e, ..): every field by its name, in order -/
theorem pe_oxK {k : Nat} {kws : List Keyword} (T : ExTxt X.prog X.K X.mg nm fs C fI) (hr : Room k X.A) (hg : Gl X nm) (hkw : PK X kws ta)
    (hall : (backToKw pos (keywordEach kws X.env)).all (·.1.isSome) = true := by rfl) (hks : (backToKw pos (keywordEach kws X.env)).filterMap (·.1) = fs := by rfl)
    (hpl : ((backTo pos (starEach [] X.env)).any (·.1) || (backToKw pos (keywordEach kws X.env)).any (·.1.isNone)) = false := by rfl) : PE X (.Call (.Name nm p) [] kws pos) (tOx C fs ta) := by
  refine ⟨fun pins s σ H Q I h => ?_⟩
  refine wpAny_Call_Name_kw (ld_glob I hg T.gC ?_ T.nmd)
  refine PySem.W.callWith_KW0 (h₀ := X.base) I.ok.mod.kin T.kC hall ?_ hpl
  refine thn (hkw.run pos pins s σ H _ I h) fun us s1 ⟨vs, H1, I1, r1, hl, q1⟩ => ⟨I1.kIn, ?_⟩
  rw [hks]
  obtain ⟨mb, hg1, hb1, hbb⟩ := ox_mod I1
  have hlim := I1.nolimit
  obtain ⟨hp, g, dr, tk, os⟩ := s1
  refine wpAny_call (ox_made T (us := us) (by rw [← r1.length]; exact hl) (.inr rfl) I1.kIn hg1 hb1 hbb hlim (by have := hr.dp; omega) fun h' tk' e d t1 k2 he' ho hd hde hn => ?_)
  exact ⟨.ref e, _, ox_laid I1 r1 k2 he' ho hd hde hn, rfl, q1 e d (I1.hok.fresh he') (I1.hok.fresh hd) hde⟩
/-- raise C(e, ..) -/
def tMkOx (C : Addr) (fs : List Str) (ta : TA) : St → Hp → XK → Prop := fun σ H Q => ta σ H fun vs H1 => vs.length = fs.length ∧ ∀ d : Addr, H1 d = none → Q (.ref C) (some d) (upd H1 d (.xd (exF fs vs)))
theorem pmk_ox {k : Nat} (T : ExTxt X.prog X.K X.mg nm fs C fI) (hr : Room k X.A) (hg : Gl X nm) (ha : PA X (e :: es) ta)
    (he : starEach (e :: es) X.env = (false, eval e X.env) :: starEach es X.env := by rfl) (hpl : (backTo pos (starEach es X.env)).any (·.1) = false := by rfl) : PMk X (.Call (.Name nm p) (e :: es) [] pos) (tMkOx C fs ta) := by
  intro pins s σ H Q I h
  refine wpAny_Call_Name_kw (ld_glob I hg T.gC ?_ T.nmd)
  refine PySem.W.callWith_K (h₀ := X.base) I.ok.mod.kin T.kC (thn (ha.run pos pins s σ H _ I h) fun us s1 ⟨vs, H1, I1, r1, hl, q1⟩ => ⟨I1.kIn, ?_⟩) he hpl
  show wpAny _ _ (call (.ref C) us) _ _ _
  obtain ⟨mb, hg1, hb1, hbb⟩ := ox_mod I1
  have hlim := I1.nolimit
  obtain ⟨hp, g, dr, tk, os⟩ := s1
  refine wpAny_call (ox_made T (us := us) (by rw [← r1.length]; exact hl) (.inl rfl) I1.kIn hg1 hb1 hbb hlim (by have := hr.dp; omega) fun h' tk' e d t1 k2 he' ho hd hde hn => ?_)
  show MkP X pins σ Q (.ref e) ⟨h', g, dr, tk', os⟩
  obtain ⟨G', g1, g2⟩ := restrict h' fun b => decide (b ≠ e)
  have gk : ∀ b, b ≠ e → G'.get? b = h'.get? b := fun b hb => g1 b (decide_eq_true hb)
  have ge : G'.get? e = none := g2 e (by simp)
  have old : ∀ b o, hp.get? b = some o → G'.get? b = some o := fun b o q => (gk b (Nat.ne_of_lt (Nat.lt_of_lt_of_le (Heap.lt_size q) he'))).trans (k2 b o q)
  have J : Inv X pins σ (upd H1 d (.xd (exF fs vs))) ⟨G', g, dr, tk', os⟩ := I1.laid (t' := tk') old hd ⟨_, hn.at (fun o q => (gk d hde).trans q), relO_exF r1⟩
  refine ⟨e, _, _, ⟨G', g, dr, tk', os⟩, _, .ref C, some d, rfl, J, fun b o q => ?_, ge, ho, ⟨rfl, rfl⟩, rfl, rfl, ?_, rfl, I1.bare, raises_own T.exC T.tyC, q1 d (I1.hok.fresh hd)⟩
  · by_cases hb : b = e
    · rw [hb, show (⟨G', g, dr, tk', os⟩ : Shared).heap.get? e = none from ge] at q; cases q
    · exact (gk b hb).symm.trans q
  · rw [upd_ne (Ne.symm hde)]; exact I1.hok.fresh he'
def tRaiseOx (C : Addr) (fs : List Str) (W : WX) (ta : TA) : TS := fun _ σ H => tMkOx C fs ta σ H fun cls d H' => W cls d σ H'
theorem ps_raiseOx {W : WX} {k : Nat} {pos2 : Pos} (hc : X.calm = true) (T : ExTxt X.prog X.K X.mg nm fs C fI) (hr : Room k X.A) (tk : Takes X W) (hg : Gl X nm) (ha : PA X (e :: es) ta)
    (he : starEach (e :: es) X.env = (false, eval e X.env) :: starEach es X.env := by rfl) (hpl : (backTo pos (starEach es X.env)).any (·.1) = false := by rfl) :
    PS X (.Raise (some (.Call (.Name nm p) (e :: es) [] pos)) none pos2) (tRaiseOx C fs W ta) := ps_raise hc tk (pmk_ox T hr hg ha he hpl)
end
section
variable {X : Cx} {e : Expr} {te : TE} {f : Str} {pos : Pos}
/-- x.f, x an error that is held as a value -/
def tOxF (K : PySem.W.Frag) (f : Str) (te : TE) : TE := fun σ H Q => te σ H fun x H1 => ∃ (a C d : Addr) (fv : List (Str × V)) (v : V), x = .ref a ∧ H1 a = some (exo a C (some d)) ∧ H1 d = some (exd d fv) ∧ ExRd K C ∧ PySem.W.findIn K (.ref C) f = some none ∧ fv.lookup f = some v ∧ Q v H1
theorem pe_oxF (he : PE X e te) (hb : attributeBase e f X.env (eval e X.env) = eval e X.env) : PE X (.Attribute e f pos) (tOxF X.K f te) := by
  refine ⟨fun pins s σ H Q I h => ?_⟩
  refine attr_of hb (thn (he.run pins s σ H _ I h) fun u s1 ⟨x, H1, I1, rx, a, C, d, fv, v, ex, ea, ed, T, hno, hl, q⟩ => ?_)
  subst ex
  obtain rfl : u = Value.ref a := rx
  obtain ⟨t1, ho⟩ := exo_at I1.hok ea
  obtain ⟨mA, hns, hr⟩ := exd_at I1.hok ed
  obtain ⟨od, hod, hlk⟩ := lookIn_ns hns
  obtain ⟨u, hu, ru⟩ := RelO.some_of (v := v) (o := mA f) (by rw [← hl]; exact hr f)
  have J : PySem.W.InstAt s1.heap a _ C (some od) := ⟨ho, rfl, rfl, hod⟩
  exact PySem.HandSPX.exc_get I1.kIn J T.ga T.gg T.exC (PySem.W.findObj_own T.hdC hno rfl (by rw [hlk, hu])) (handed_of ru) ⟨v, H1, I1.tok _, ru, q⟩
/-- isinstance(x, c), x an error that is held as a value -/
structure ExIs (K : PySem.W.Frag) (C : Addr) : Prop where
  rd : ExRd K C
  cl : (PySem.W.clsIn K C).isSome = true
  ha : PySem.W.findIn K (.ref C) "__class__" = some (some (.builtin "object.__class__"))
  hn : PySem.W.specialIn K (.builtin "object.__class__") "__get__" = some (some (.builtin "getset_descriptor.__get__"))
  ht : PySem.W.takesIn K (.builtin "object.__class__") = some true
  hm : PySem.W.mroIn K C (.type "object") = some true
def rIsOx (K : PySem.W.Frag) : List V → Hp → VK → Prop := fun xs H Q => ∃ (a C d : Addr) (fv : List (Str × V)) (c : V) (cv : Value) (b : Bool), xs = [.ref a, c] ∧ H a = some (exo a C (some d)) ∧ H d = some (exd d fv) ∧ ExIs K C ∧ (∀ u, RelV c u → u = cv) ∧ PySem.W.kitOne K (.ref C) cv = some b ∧ Q (.bl b) H
theorem call_isOx : CallR X (.builtin "isinstance") (rIsOx X.K) := by
  intro pins s σ H xs us Q I r h
  obtain ⟨a, C, d, fv, c, cv, b, rfl, ea, ed, T, hcv, e, q⟩ := h
  cases r with
  | cons rx rr =>
    cases rr with
    | cons rt rr =>
      cases rr
      cases rx
      have ec := hcv _ rt
      subst ec
      obtain ⟨t1, ho⟩ := exo_at I.hok ea
      obtain ⟨mA, hns, hr⟩ := exd_at I.hok ed
      obtain ⟨od, hod, hlk⟩ := lookIn_ns hns
      have J : PySem.W.InstAt s.heap a _ C (some od) := ⟨ho, rfl, rfl, hod⟩
      exact PySem.W.kia_one (PySem.W.kitx_exc T.cl T.rd.ga T.rd.gg T.rd.exC T.ha T.hn T.ht T.hm) I.kIn J e (fun z => nomatch z) fun tk => ⟨.bl b, H, I.kept (t' := tk) fun _ _ z => z, rfl, q⟩
/-- n.f, n the error that the suite holds (at a; its class cls, its dict d) -/
def tByOx (K : PySem.W.Frag) (f : Str) (a : Addr) (cls : Value) (d : Option Addr) (te : TE) : TE := fun σ H Q => te σ H fun x H1 => x = .ref a ∧ ∃ (C dd : Addr) (fv : List (Str × V)) (v : V), cls = .ref C ∧ d = some dd ∧ H1 dd = some (.xd fv) ∧ ExRd K C ∧ PySem.W.findIn K (.ref C) f = some none ∧ fv.lookup f = some v ∧ Q v H1
theorem pe_byOx {a : Addr} {oe : Obj} {cls : Value} {d : Option Addr} {pn : List (Addr × Obj)} (hz : Zc cls d oe) (hf : ∃ vs, oe.data = .fields vs) (he : PE (X.suite a ((a, oe) :: pn)) e te)
    (hb : attributeBase e f X.env (eval e X.env) = eval e X.env := by rfl) : PE (X.suite a ((a, oe) :: pn)) (.Attribute e f pos) (tByOx X.K f a cls d te) := by
  refine ⟨fun pins s σ H Q I h => ?_⟩
  refine attr_of hb (thn (he.run pins s σ H _ I h) fun u s1 ⟨x, H1, I1, rx, ex, C, dd, fv, v, ec, ed, ea, T, hno, hl, q⟩ => ?_)
  subst ex
  obtain rfl : u = Value.ref a := rx
  subst ec ed
  obtain ⟨ha, _⟩ := I1.pin (a, oe) (List.mem_append_left _ List.mem_cons_self)
  obtain ⟨vs, hd⟩ := hf
  obtain ⟨mA, hns, hr⟩ := (show ObjOk X.prog X.w H1 s1.heap dd (.xd fv) from I1.hok dd _ ea)
  obtain ⟨od, ho, hlk⟩ := lookIn_ns hns
  obtain ⟨u, hu, ru⟩ := RelO.some_of (v := v) (o := mA f) (by rw [← hl]; exact hr f)
  have J : PySem.W.InstAt s1.heap a oe C (some od) := ⟨ha, hz.1, by unfold PySem.W.notCls; rw [hd] <;> rfl, by rw [hz.2]; exact ho⟩
  exact PySem.HandSPX.exc_get I1.kIn J T.ga T.gg T.exC (PySem.W.findObj_own T.hdC hno rfl (by rw [hlk, hu])) (handed_of ru) ⟨v, H1, I1.tok _, ru, q⟩
end
end L2
end
section
set_option Elab.async false
set_option autoImplicit false
set_option linter.all false
set_option maxRecDepth 100000
set_option maxHeartbeats 4000000
namespace PySem
namespace OxE
open PySem.W PySem.Calls PyProof.Rows PySem.HandSPX
theorem sig_symbol {p0 p1 : Pos} : OxSig ["symbol"] { posonlyargs := [], args := [{ arg := "self", annotation := none, pos := p0 }, { arg := "symbol", annotation := none, pos := p1 }], vararg := none, kwonlyargs := [], kw_defaults := [], kwarg := none, defaults := [] }
    { kind := .function, names := [(PySem.Str.ofString "self", .local), (PySem.Str.ofString "symbol", .local), (PySem.Str.ofString "__class__", .free), (PySem.Str.ofString "super", .globalImplicit)], isGenerator := false, isCoroutine := false, more := [] } where
  kind := rfl
  co := rfl
  gen := rfl
  ncell := by decide +kernel
  hd := rfl
  lself := by decide +kernel
  lf := by decide +kernel
  lsup := by decide +kernel
  lcls := by decide +kernel
  nself := by decide +kernel
  ndbg := by decide +kernel
  nd := by decide +kernel
  few := by decide
  bnd := fun q body doc pm cdv ct an cc a vs hl => match vs, hl with | [_], _ => rfl
  bndK := fun q body doc pm cdv ct an cc a vs hl => match vs, hl with | [_], _ => rfl
  sw := fun q txt q0 q1 q2 q3 q4 L fI cc cd n => rfl
theorem sig_row {p0 p1 : Pos} : OxSig ["row"] { posonlyargs := [], args := [{ arg := "self", annotation := none, pos := p0 }, { arg := "row", annotation := none, pos := p1 }], vararg := none, kwonlyargs := [], kw_defaults := [], kwarg := none, defaults := [] }
    { kind := .function, names := [(PySem.Str.ofString "self", .local), (PySem.Str.ofString "row", .local), (PySem.Str.ofString "__class__", .free), (PySem.Str.ofString "super", .globalImplicit)], isGenerator := false, isCoroutine := false, more := [] } where
  kind := rfl
  co := rfl
  gen := rfl
  ncell := by decide +kernel
  hd := rfl
  lself := by decide +kernel
  lf := by decide +kernel
  lsup := by decide +kernel
  lcls := by decide +kernel
  nself := by decide +kernel
  ndbg := by decide +kernel
  nd := by decide +kernel
  few := by decide
  bnd := fun q body doc pm cdv ct an cc a vs hl => match vs, hl with | [_], _ => rfl
  bndK := fun q body doc pm cdv ct an cc a vs hl => match vs, hl with | [_], _ => rfl
  sw := fun q txt q0 q1 q2 q3 q4 L fI cc cd n => rfl
theorem sig_what {p0 p1 : Pos} : OxSig ["what"] { posonlyargs := [], args := [{ arg := "self", annotation := none, pos := p0 }, { arg := "what", annotation := none, pos := p1 }], vararg := none, kwonlyargs := [], kw_defaults := [], kwarg := none, defaults := [] }
    { kind := .function, names := [(PySem.Str.ofString "self", .local), (PySem.Str.ofString "what", .local), (PySem.Str.ofString "__class__", .free), (PySem.Str.ofString "super", .globalImplicit)], isGenerator := false, isCoroutine := false, more := [] } where
  kind := rfl
  co := rfl
  gen := rfl
  ncell := by decide +kernel
  hd := rfl
  lself := by decide +kernel
  lf := by decide +kernel
  lsup := by decide +kernel
  lcls := by decide +kernel
  nself := by decide +kernel
  ndbg := by decide +kernel
  nd := by decide +kernel
  few := by decide
  bnd := fun q body doc pm cdv ct an cc a vs hl => match vs, hl with | [_], _ => rfl
  bndK := fun q body doc pm cdv ct an cc a vs hl => match vs, hl with | [_], _ => rfl
  sw := fun q txt q0 q1 q2 q3 q4 L fI cc cd n => rfl
theorem sig_half {p0 p1 : Pos} : OxSig ["half"] { posonlyargs := [], args := [{ arg := "self", annotation := none, pos := p0 }, { arg := "half", annotation := none, pos := p1 }], vararg := none, kwonlyargs := [], kw_defaults := [], kwarg := none, defaults := [] }
    { kind := .function, names := [(PySem.Str.ofString "self", .local), (PySem.Str.ofString "half", .local), (PySem.Str.ofString "__class__", .free), (PySem.Str.ofString "super", .globalImplicit)], isGenerator := false, isCoroutine := false, more := [] } where
  kind := rfl
  co := rfl
  gen := rfl
  ncell := by decide +kernel
  hd := rfl
  lself := by decide +kernel
  lf := by decide +kernel
  lsup := by decide +kernel
  lcls := by decide +kernel
  nself := by decide +kernel
  ndbg := by decide +kernel
  nd := by decide +kernel
  few := by decide
  bnd := fun q body doc pm cdv ct an cc a vs hl => match vs, hl with | [_], _ => rfl
  bndK := fun q body doc pm cdv ct an cc a vs hl => match vs, hl with | [_], _ => rfl
  sw := fun q txt q0 q1 q2 q3 q4 L fI cc cd n => rfl
theorem sig_number {p0 p1 : Pos} : OxSig ["number"] { posonlyargs := [], args := [{ arg := "self", annotation := none, pos := p0 }, { arg := "number", annotation := none, pos := p1 }], vararg := none, kwonlyargs := [], kw_defaults := [], kwarg := none, defaults := [] }
    { kind := .function, names := [(PySem.Str.ofString "self", .local), (PySem.Str.ofString "number", .local), (PySem.Str.ofString "__class__", .free), (PySem.Str.ofString "super", .globalImplicit)], isGenerator := false, isCoroutine := false, more := [] } where
  kind := rfl
  co := rfl
  gen := rfl
  ncell := by decide +kernel
  hd := rfl
  lself := by decide +kernel
  lf := by decide +kernel
  lsup := by decide +kernel
  lcls := by decide +kernel
  nself := by decide +kernel
  ndbg := by decide +kernel
  nd := by decide +kernel
  few := by decide
  bnd := fun q body doc pm cdv ct an cc a vs hl => match vs, hl with | [_], _ => rfl
  bndK := fun q body doc pm cdv ct an cc a vs hl => match vs, hl with | [_], _ => rfl
  sw := fun q txt q0 q1 q2 q3 q4 L fI cc cd n => rfl
theorem sig_word {p0 p1 : Pos} : OxSig ["word"] { posonlyargs := [], args := [{ arg := "self", annotation := none, pos := p0 }, { arg := "word", annotation := none, pos := p1 }], vararg := none, kwonlyargs := [], kw_defaults := [], kwarg := none, defaults := [] }
    { kind := .function, names := [(PySem.Str.ofString "self", .local), (PySem.Str.ofString "word", .local), (PySem.Str.ofString "__class__", .free), (PySem.Str.ofString "super", .globalImplicit)], isGenerator := false, isCoroutine := false, more := [] } where
  kind := rfl
  co := rfl
  gen := rfl
  ncell := by decide +kernel
  hd := rfl
  lself := by decide +kernel
  lf := by decide +kernel
  lsup := by decide +kernel
  lcls := by decide +kernel
  nself := by decide +kernel
  ndbg := by decide +kernel
  nd := by decide +kernel
  few := by decide
  bnd := fun q body doc pm cdv ct an cc a vs hl => match vs, hl with | [_], _ => rfl
  bndK := fun q body doc pm cdv ct an cc a vs hl => match vs, hl with | [_], _ => rfl
  sw := fun q txt q0 q1 q2 q3 q4 L fI cc cd n => rfl
theorem sig_name {p0 p1 : Pos} : OxSig ["name"] { posonlyargs := [], args := [{ arg := "self", annotation := none, pos := p0 }, { arg := "name", annotation := none, pos := p1 }], vararg := none, kwonlyargs := [], kw_defaults := [], kwarg := none, defaults := [] }
    { kind := .function, names := [(PySem.Str.ofString "self", .local), (PySem.Str.ofString "name", .local), (PySem.Str.ofString "__class__", .free), (PySem.Str.ofString "super", .globalImplicit)], isGenerator := false, isCoroutine := false, more := [] } where
  kind := rfl
  co := rfl
  gen := rfl
  ncell := by decide +kernel
  hd := rfl
  lself := by decide +kernel
  lf := by decide +kernel
  lsup := by decide +kernel
  lcls := by decide +kernel
  nself := by decide +kernel
  ndbg := by decide +kernel
  nd := by decide +kernel
  few := by decide
  bnd := fun q body doc pm cdv ct an cc a vs hl => match vs, hl with | [_], _ => rfl
  bndK := fun q body doc pm cdv ct an cc a vs hl => match vs, hl with | [_], _ => rfl
  sw := fun q txt q0 q1 q2 q3 q4 L fI cc cd n => rfl
theorem sig_at {p0 p1 : Pos} : OxSig ["at"] { posonlyargs := [], args := [{ arg := "self", annotation := none, pos := p0 }, { arg := "at", annotation := none, pos := p1 }], vararg := none, kwonlyargs := [], kw_defaults := [], kwarg := none, defaults := [] }
    { kind := .function, names := [(PySem.Str.ofString "self", .local), (PySem.Str.ofString "at", .local), (PySem.Str.ofString "__class__", .free), (PySem.Str.ofString "super", .globalImplicit)], isGenerator := false, isCoroutine := false, more := [] } where
  kind := rfl
  co := rfl
  gen := rfl
  ncell := by decide +kernel
  hd := rfl
  lself := by decide +kernel
  lf := by decide +kernel
  lsup := by decide +kernel
  lcls := by decide +kernel
  nself := by decide +kernel
  ndbg := by decide +kernel
  nd := by decide +kernel
  few := by decide
  bnd := fun q body doc pm cdv ct an cc a vs hl => match vs, hl with | [_], _ => rfl
  bndK := fun q body doc pm cdv ct an cc a vs hl => match vs, hl with | [_], _ => rfl
  sw := fun q txt q0 q1 q2 q3 q4 L fI cc cd n => rfl
theorem sig_kind_lengths_moves {p0 p1 p2 p3 : Pos} : OxSig ["kind", "lengths", "moves"] { posonlyargs := [], args := [{ arg := "self", annotation := none, pos := p0 }, { arg := "kind", annotation := none, pos := p1 }, { arg := "lengths", annotation := none, pos := p2 }, { arg := "moves", annotation := none, pos := p3 }], vararg := none, kwonlyargs := [], kw_defaults := [], kwarg := none, defaults := [] }
    { kind := .function, names := [(PySem.Str.ofString "self", .local), (PySem.Str.ofString "kind", .local), (PySem.Str.ofString "lengths", .local), (PySem.Str.ofString "moves", .local), (PySem.Str.ofString "__class__", .free), (PySem.Str.ofString "super", .globalImplicit)], isGenerator := false, isCoroutine := false, more := [] } where
  kind := rfl
  co := rfl
  gen := rfl
  ncell := by decide +kernel
  hd := rfl
  lself := by decide +kernel
  lf := by decide +kernel
  lsup := by decide +kernel
  lcls := by decide +kernel
  nself := by decide +kernel
  ndbg := by decide +kernel
  nd := by decide +kernel
  few := by decide
  bnd := fun q body doc pm cdv ct an cc a vs hl => match vs, hl with | [_, _, _], _ => rfl
  bndK := fun q body doc pm cdv ct an cc a vs hl => match vs, hl with | [_, _, _], _ => rfl
  sw := fun q txt q0 q1 q2 q3 q4 L fI cc cd n => rfl
theorem exTxt_mk {P : Program} {K : Frag} {mg : Str → Option Value} {nm : Str} {fs : List Str} {C fI : Addr} {h : Heap} (X : K.In h) (G : h.Ns mainGlobals mg)
    {nm' q q2 txt : Str} {N cda cc : Addr} {bs bm : List Value} {sn : List Str} {sub : List Value} {ab : Bool} {col : Option Bool} {dd od an cdd cld : Option Addr} {k0 k1 k2 k3 k5 : Option Value} {oc doc pm ct ccl cl : Value} {osl ccs csl : Array (Option Value)} {params : Arguments} {sc : Scope} {q0 q1 q2' q3 q4 q5 : Pos} {asgs : List Stmt} {vs : Array Value} {file : Str} {tf : Tok}
    (nmd : (nm == ("__debug__" : Str)) = false)
    (aC : nsIn K mainGlobals nm = some (some (.ref C)))
    (lC : K.lookup C = some (excClassObj nm' q C N bs bm true sn sub ab col dd k0 k1 k2 k3 k5 "ValueError.__new__"))
    (iC : findIn K (.ref C) "__init__" = some (some (.ref fI)))
    (lF : K.lookup fI = some ⟨oc, od, .func (ksFn "__init__" q2 params (oxSup txt q0 q1 q2' q3 q4 q5 :: asgs) sc .none .none doc pm an (.ref cda) ct cc), osl⟩)
    (lD : K.lookup cda = some ⟨ccl, cdd, .fields vs, ccs⟩)
    (lc : K.lookup cc = some ⟨cl, cld, .cell (some (.ref C)), csl⟩)
    (hvs : vs[2]? = some (.str file tf))
    (hfile : ((P.main.file : Str) == file) = true)
    (cF : codeIn K (.ref cda) q2 = true)
    (ln : (q2'.endLine == q4.line) = true) (sig : OxSig fs params sc) (as : Asgs fs asgs)
    (rv : refsVE bm = true)
    (al : alongIn K "__init__" (((Value.ref C :: bm).dropWhile (· != .ref C)).drop 1) = some (some (.builtin "ValueError.__init__")))
    (sa : findIn K (.ref C) "__setattr__" = some (some (.builtin "object.__setattr__"))) (ga : findIn K (.ref C) "__getattribute__" = some (some (.builtin "BaseException.__getattribute__"))) (gg : findIn K (.ref C) "__getattr__" = some none)
    (nn : (fs.all fun f => findIn K (.ref C) f == some none) = true)
    (tC : typeIn K (.ref fI) = some (.type "function")) (kC : keepIn K (.ref C) = true) (exC : subIn K (.ref C) (.type "BaseException") = some true) (veC : subIn K (.ref C) (.type "ValueError") = some true) (slC : mroIn K C (.ref C) = some true)
    (tyC : typeIn K (.ref C) = some (.type "type")) (hdC : hasDictIn K C = true) (sup : nsIn K mainGlobals "super" = some none) (tp : nsIn K cStatics "thirdparty.any" = some none) (top : (P.main.scope.names.lookup ("super" : Str)).isSome = false) : ExTxt P K mg nm fs C fI where
  gC := mg_of X G aC
  nmd := nmd
  cls := ⟨nm', q, N, bs, bm, sn, sub, ab, col, dd, k0, k1, k2, k3, k5, lC, rv, al⟩
  sa := sa
  ga := ga
  gg := gg
  noN := fun f hf => beq_iff_eq.mp (List.all_eq_true.mp nn f hf)
  iC := iC
  tC := tC
  kC := kC
  exC := exC
  veC := veC
  slC := slC
  tyC := tyC
  hdC := hdC
  fn := ⟨oc, od, doc, pm, an, ct, osl, q2, txt, params, sc, q0, q1, q2', q3, q4, q5, asgs, cda, cc, ccl, cl, cdd, cld, vs, ccs, csl, file, tf, lF, cF, ln, sig, as, lD, hvs, hfile, lc⟩
  sup := mg_none_of X G sup
  tp := tp
  top := top
end OxE
end PySem
end
section
set_option Elab.async false
set_option autoImplicit false
set_option linter.all false
set_option maxRecDepth 100000
set_option maxHeartbeats 4000000
namespace L2
open PySem PySem.Spec PyProof.Rows PySem.OxE
/-! errors held as values -/
def IsEx (H : Hp) (v : V) (C : Addr) (fv : List (Str × V)) : Prop := ∃ e d, v = .ref e ∧ H e = some (exo e C (some d)) ∧ H d = some (exd d fv)
def IsX (K : PySem.W.Frag) (H : Hp) (v : V) (t : Addr) : Prop := (∃ fv, IsEx H v t fv ∧ ExIs K t) ∨ (∃ e, v = .ref e ∧ H e = some (ExO (.ref t) e) ∧ ExIs K t)
theorem IsEx.mono {H H' : Hp} {v : V} {C : Addr} {fv : List (Str × V)} (s : Same H H') (h : IsEx H v C fv) : IsEx H' v C fv := by
  obtain ⟨e, d, h1, h2, h3⟩ := h
  exact ⟨e, d, h1, s _ _ h2, s _ _ h3⟩
theorem IsX.mono {K : PySem.W.Frag} {H H' : Hp} {v : V} {t : Addr} (s : Same H H') (h : IsX K H v t) : IsX K H' v t := by
  rcases h with ⟨fv, h, i⟩ | ⟨e, h1, h2, i⟩
  · exact .inl ⟨fv, h.mono s, i⟩
  · exact .inr ⟨e, h1, s _ _ h2, i⟩
theorem Same.new {H : Hp} {p : Addr} {o : HO} (h : H p = none) : Same H (upd H p o) := fun b u e => by rw [upd_ne (ne_of_none e h)]; exact e
/-- all but the object at p is as it was -/
def But (p : Addr) (H H' : Hp) : Prop := ∀ b o, b ≠ p → H b = some o → H' b = some o
theorem But.upd {p : Addr} {H : Hp} {o : HO} : But p H (upd H p o) := fun b u h e => by rw [upd_ne h]; exact e
theorem But.trans {p : Addr} {H H1 H2 : Hp} (a : But p H H1) (b : But p H1 H2) : But p H H2 := fun c o h e => b c o h (a c o h e)
theorem But.same {p : Addr} {H H1 H2 : Hp} (s : Same H H1) (b : But p H1 H2) (h : H p = none) : Same H H2 := fun c o e => b c o (fun z => by rw [z, h] at e; cases e) (s c o e)
theorem mk_step {H : Hp} {e d C : Addr} {fv : List (Str × V)} (he : H e = none) (hd : H d = none) (hde : d ≠ e) : Same H (upd (upd H d (exd d fv)) e (exo e C (some d))) ∧ IsEx (upd (upd H d (exd d fv)) e (exo e C (some d))) (.ref e) C fv :=
  ⟨fun b u q => by rw [upd_ne (ne_of_none q he), upd_ne (ne_of_none q hd)]; exact q, e, d, rfl, upd_same, by rw [upd_ne hde, upd_same]⟩
def rIsX (K : PySem.W.Frag) : List V → Hp → VK → Prop := fun xs H Q => ∃ v c t cv b, xs = [v, c] ∧ IsX K H v t ∧ (∀ u, RelV c u → u = cv) ∧ PySem.W.kitOne K (.ref t) cv = some b ∧ Q (.bl b) H
theorem call_isX {X : Cx} : CallR X (.builtin "isinstance") (rIsX X.K) := by
  intro pins s σ H xs us Q I r h
  obtain ⟨v, c, t, cv, b, rfl, hx, hcv, e, q⟩ := h
  rcases hx with ⟨fv, ⟨a, d, rfl, ea, ed⟩, T⟩ | ⟨a, rfl, ea, T⟩
  · exact call_isOx pins s σ H _ us Q I r ⟨a, t, d, fv, c, cv, b, rfl, ea, ed, T, hcv, e, q⟩
  · cases r with
    | cons rx rr =>
      cases rr with
      | cons rt rr =>
        cases rr
        cases rx
        have ec := hcv _ rt
        subst ec
        obtain ⟨⟨oe, vs, ho, hz, hd, _⟩, _, _⟩ := I.hok a _ ea
        have J : PySem.W.InstAt s.heap a oe t none := ⟨ho, hz.1, by unfold PySem.W.notCls; rw [hd] <;> rfl, by rw [hz.2]; trivial⟩
        exact PySem.W.kia_one (PySem.W.kitx_exc T.cl T.rd.ga T.rd.gg T.rd.exC T.ha T.hn T.ht T.hm) I.kIn J e (fun z => nomatch z) fun tk => ⟨.bl b, H, I.kept (t' := tk) fun _ _ z => z, rfl, q⟩
theorem isx_use {K : PySem.W.Frag} {H : Hp} {Q : VK} {v : V} {t C : Addr} {b : Bool} (h : IsX K H v t) (hk : PySem.W.kitOne K (.ref t) (.ref C) = some b) (q : Q (.bl b) H) : rIsX K [v, .ref C] H Q :=
  ⟨v, .ref C, t, .ref C, b, rfl, h, fun u r => r, hk, q⟩
theorem isx_useT {K : PySem.W.Frag} {H : Hp} {Q : VK} {v : V} {t : Addr} {n : String} {b : Bool} (h : IsX K H v t) (hk : PySem.W.kitOne K (.ref t) (.type n) = some b) (q : Q (.bl b) H) : rIsX K [v, .ty n] H Q :=
  ⟨v, .ty n, t, .type n, b, rfl, h, fun u r => r, hk, q⟩
section
variable {P : Program} {K : PySem.W.Frag} {mg : Str → Option Value} {nm f : Str} {fs : List Str} {C fI : Addr} {ta tb te : TE} {tA : TA} {σ : St} {H : Hp} {Q : VK}
theorem tox_use {vs : List V} (h : Evl.EvA tA σ H vs) (hl : vs.length = fs.length) (q : ∀ v H2, Same H H2 → IsEx H2 v C (exF fs vs) → Q v H2) : tOx C fs tA σ H Q :=
  h H (Evl.Ex.refl H) _ fun H1 e1 => ⟨hl, fun e d he hd hde => by
    obtain ⟨s, x⟩ := mk_step (C := C) (fv := exF fs vs) he hd hde
    exact q _ _ (Same.trans e1 s) x⟩
theorem q_ox {vs : List V} {i : Nat} {tz : TS} {D : Ends} (h : Evl.EvA tA σ H vs) (hl : vs.length = fs.length) (q : ∀ v H2, Same H H2 → IsEx H2 v C (exF fs vs) → tz D (σ.set i (some v)) H2) : tSeq (tAsg (tOx C fs tA) (gName i)) tz D σ H := tox_use (Q := fun v H2 => tz D (σ.set i (some v)) H2) h hl q
theorem oxv_use {v u : V} {fv : List (Str × V)} (T : ExTxt P K mg nm fs C fI) (hf : f ∈ fs) (x : IsEx H v C fv) (hl : fv.lookup f = some u) (q : Q u H) :
    ∃ (a C d : Addr) (fv : List (Str × V)) (u : V), v = .ref a ∧ H a = some (exo a C (some d)) ∧ H d = some (exd d fv) ∧ ExRd K C ∧ PySem.W.findIn K (.ref C) f = some none ∧ fv.lookup f = some u ∧ Q u H := by
  obtain ⟨e, d, h1, h2, h3⟩ := x
  exact ⟨e, C, d, fv, u, h1, h2, h3, T.rd, T.noN f hf, hl, q⟩
/-- C(e).f | C(f = e).f -/
theorem ev_oxf {vs : List V} {u : V} (T : ExTxt P K mg nm fs C fI) (hf : f ∈ fs) (h : Evl.EvA tA σ H vs) (hl : vs.length = fs.length) (hu : (exF fs vs).lookup f = some u) : Evl.Ev (tOxF K f (tOx C fs tA)) σ H u := fun H1 e1 Q q =>
  tox_use (h.mono e1) hl fun v H2 s x => oxv_use T hf x hu (q H2 s)
/-- v.f -/
theorem ev_oxv {v u : V} {fv : List (Str × V)} (T : ExTxt P K mg nm fs C fI) (hf : f ∈ fs) (he : Evl.Ev te σ H v) (x : IsEx H v C fv) (hu : fv.lookup f = some u) : Evl.Ev (tOxF K f te) σ H u := fun H1 e1 Q q =>
  he H1 e1 _ fun H2 e2 => oxv_use T hf ((x.mono e1).mono e2) hu (q H2 e2)
theorem el_cat {p : Addr} {xs ys : List V} (ha : Evl.Ev ta σ H (.ref p)) (hp : H p = some (.lst xs)) (hb : Evl.EvL tb σ H ys) (hz : xs.length + ys.length ≤ 100000) : Evl.EvL (tOp rCat ta tb) σ H (xs ++ ys) := fun H1 e1 Q q =>
  ha H1 e1 _ fun H2 e2 => hb H2 (e1.trans e2) _ fun b H3 hb0 e3 hb3 => ⟨p, b, xs, ys, rfl, rfl, e3 _ _ (e2 _ _ (e1 _ _ hp)), hb3, Evl.sz_of hz, fun r hr => q r _ (Evl.fresh_back e2 (Evl.fresh_back e3 hr)) ((e2.trans e3).trans (Evl.Ex.new hr)) upd_same⟩
theorem el_rep {v : V} {n : Nat} (ha : Evl.Ev ta σ H v) (hn : n ≤ 1000) : Evl.EvL (tOp rRep (tLst (tCons ta tNil)) (tC (.int (n : Int)))) σ H (List.replicate n v) := fun H1 e1 Q q =>
  ha H1 e1 _ fun H2 e2 => ⟨by show 1 ≤ sizeLine; decide, fun p hp => ⟨p, n, [v], rfl, rfl, upd_same, by omega, by omega, by
    have : ([v] : List V).length * (n : Int).toNat = n := by simp
    rw [this]; exact Evl.sz_of (by omega), fun r hr => by
    have e : (List.replicate (n : Int).toNat [v]).flatten = List.replicate n v := by
      rw [Int.toNat_natCast]; simp
    rw [e]
    exact q r _ (Evl.fresh_back e2 (Evl.fresh_back (Evl.Ex.new hp) hr)) ((e2.trans (Evl.Ex.new hp)).trans (Evl.Ex.new hr)) upd_same⟩⟩
/-! data: what a value is worth (HandS's Dp), kept by an extension -/
mutual
theorem Dp.mono {H H' : Hp} (s : Same H H') : ∀ {v : V} {d : PyData}, Dp K H v d → Dp K H' v d
  | _, _, .non => .non
  | _, _, .bl b => .bl b
  | _, _, .int i => .int i
  | _, _, .str x => .str x
  | _, _, .lst h t => .lst (Evl.ex_l s h) (DpAll.mono s t)
  | _, _, .tup h t => .tup (Evl.ex_t s h) (DpAll.mono s t)
theorem DpAll.mono {H H' : Hp} (s : Same H H') : ∀ {vs : List V} {ds : List PyData}, DpAll K H vs ds → DpAll K H' vs ds
  | _, _, .nil => .nil
  | _, _, .cons h t => .cons (Dp.mono s h) (DpAll.mono s t)
end
theorem dpAll_rep {v : V} {d : PyData} (h : Dp K H v d) : ∀ n, DpAll K H (List.replicate n v) (List.replicate n d)
  | 0 => .nil
  | n + 1 => .cons h (dpAll_rep h n)
theorem ev_eqD {x y : V} {d e : PyData} {b : Bool} (ha : Evl.Ev ta σ H x) (hb : Evl.Ev tb σ H y) (dx : Dp K H x d) (dy : Dp K H y e) (sx : SeqAt.shaped d = true) (sy : SeqAt.shaped e = true) (hd : PyData.eqv d e = b) : Evl.Ev (tOp (rEqD K) ta tb) σ H (.bl b) := fun H1 e1 Q q =>
  ha H1 e1 _ fun H2 e2 => hb H2 (e1.trans e2) _ fun H3 e3 => ⟨d, e, dx.mono ((e1.trans e2).trans e3), dy.mono ((e1.trans e2).trans e3), sx, sy, by rw [hd]; exact q H3 (e2.trans e3)⟩
/-- == of a list that stands and a new one -/
theorem ev_eqDL {x : V} {ys : List V} {d e : PyData} {b : Bool} (ha : Evl.Ev ta σ H x) (hb : Evl.EvL tb σ H ys) (dx : Dp K H x d) (dy : ∀ p H1, Same H H1 → H1 p = some (.lst ys) → Dp K H1 (.ref p) e) (sx : SeqAt.shaped d = true) (sy : SeqAt.shaped e = true) (hd : PyData.eqv d e = b) : Evl.Ev (tOp (rEqD K) ta tb) σ H (.bl b) := fun H1 e1 Q q =>
  ha H1 e1 _ fun H2 e2 => hb H2 (e1.trans e2) _ fun p H3 hp e3 h3 => ⟨d, e, dx.mono ((e1.trans e2).trans e3), dy p H3 ((e1.trans e2).trans e3) h3, sx, sy, by rw [hd]; exact q H3 (e2.trans e3)⟩
theorem eqv_self {d : PyData} (h : SeqAt.shaped d = true) : PyData.eqv d d = true := SeqAt.eqv_refl d (SeqAt.canLay_of_shaped h)
end
/-- what is evaluated to data -/
def EvD (K : PySem.W.Frag) (te : TE) (σ : St) (H : Hp) (d : PyData) : Prop := ∀ H1, Evl.Ex H H1 → ∀ Q : VK, (∀ v H2, Evl.Ex H1 H2 → Dp K H2 v d → Q v H2) → te σ H1 Q
def EvDs (K : PySem.W.Frag) (ta : TA) (σ : St) (H : Hp) (ds : List PyData) : Prop := ∀ H1, Evl.Ex H H1 → ∀ Q : List V → Hp → Prop, (∀ vs H2, Evl.Ex H1 H2 → DpAll K H2 vs ds → Q vs H2) → ta σ H1 Q
section
variable {K : PySem.W.Frag} {ta tb te : TE} {tA tr : TA} {σ : St} {H : Hp}
theorem evd_of {v : V} {d : PyData} (h : Evl.Ev te σ H v) (hd : Dp K H v d) : EvD K te σ H d := fun H1 e1 Q q => h H1 e1 Q fun H2 e2 => q v H2 e2 (hd.mono (Same.trans e1 e2))
theorem evd_var {i : Nat} {v : V} {d : PyData} (h : σ[i]? = some (some v)) (hd : Dp K H v d) : EvD K (tVar i) σ H d := evd_of (Evl.ev_var h) hd
theorem evd_int {i : Int} : EvD K (tC (.int i)) σ H (.int i) := evd_of Evl.ev_c (.int i)
theorem evd_str {x : Str} : EvD K (tC (.str x)) σ H (.str x) := evd_of Evl.ev_c (.str x)
theorem evds_nil : EvDs K tNil σ H [] := fun H1 _ Q q => q [] H1 (Evl.Ex.refl H1) .nil
theorem evds_cons {d : PyData} {ds : List PyData} (h : EvD K te σ H d) (hr : EvDs K tr σ H ds) : EvDs K (tCons te tr) σ H (d :: ds) := fun H1 e1 Q q =>
  h H1 e1 _ fun v H2 e2 hv => hr H2 (e1.trans e2) _ fun vs H3 e3 hvs => q _ H3 (e2.trans e3) (.cons (hv.mono e3) hvs)
theorem DpAll.length {H : Hp} : ∀ {vs : List V} {ds : List PyData}, DpAll K H vs ds → vs.length = ds.length
  | _, _, .nil => rfl
  | _, _, .cons _ t => by rw [List.length_cons, List.length_cons, DpAll.length t]
theorem evd_tup {ds : List PyData} (h : EvDs K tA σ H ds) (hz : ds.length ≤ 10000) : EvD K (tTup tA) σ H (.tuple ds) := fun H1 e1 Q q =>
  h H1 e1 _ fun vs H2 e2 hvs => ⟨Evl.sz_of (by rw [DpAll.length hvs]; omega), fun p hp => q _ _ (e2.trans (Evl.Ex.new hp)) (.tup (SqT.of upd_same) (hvs.mono (Same.new hp)))⟩
theorem evd_lst {ds : List PyData} (h : EvDs K tA σ H ds) (hz : ds.length ≤ 10000) : EvD K (tLst tA) σ H (.list ds) := fun H1 e1 Q q =>
  h H1 e1 _ fun vs H2 e2 hvs => ⟨Evl.sz_of (by rw [DpAll.length hvs]; omega), fun p hp => q _ _ (e2.trans (Evl.Ex.new hp)) (.lst (SqL.of upd_same) (hvs.mono (Same.new hp)))⟩
theorem evd_abs {n : Int} (h : EvD K te σ H (.int n)) : EvD K (tCB (fun xs H Q => ∃ i, xs = [.int i] ∧ Q (.int (if i < 0 then -i else i)) H) (tCons te tNil)) σ H (.int (if n < 0 then -n else n)) := fun H1 e1 Q q =>
  h H1 e1 _ fun v H2 e2 hv => by
    cases hv
    exact ⟨n, rfl, q _ H2 e2 (.int _)⟩
theorem q_parD {i j : Nat} {d e : PyData} {tz : TS} {D : Ends} (h : EvDs K tA σ H [d, e]) (k : ∀ v u H1, Same H H1 → Dp K H1 v d → Dp K H1 u e → tz D ((σ.set i (some v)).set j (some u)) H1) : tSeq (tPar i j tA) tz D σ H :=
  h H (Evl.Ex.refl H) _ fun vs H1 e1 hvs => by
    cases hvs with
    | cons a t => cases t with
      | cons b t => cases t; exact ⟨_, _, rfl, k _ _ H1 e1 a b⟩
theorem Dp.int_inv {H : Hp} {v : V} {n : Int} (h : Dp K H v (.int n)) : v = .int n := by cases h; rfl
theorem Dp.tup_inv {H : Hp} {v : V} {ds : List PyData} (h : Dp K H v (.tuple ds)) : ∃ a, v = .ref a := by cases h; exact ⟨_, rfl⟩
end
def ExAll (H : Hp) (vs : List V) (sp : List (Addr × List (Str × V))) : Prop := Paired (fun v (s : Addr × List (Str × V)) => IsEx H v s.1 s.2) vs sp
theorem ExAll.mono {H H' : Hp} {vs : List V} {sp : List (Addr × List (Str × V))} (s : Same H H') (h : ExAll H vs sp) : ExAll H' vs sp := Paired.mapP h fun _ _ x => x.mono s
theorem ExAll.append {H : Hp} : ∀ {vs us : List V} {sp sq : List (Addr × List (Str × V))}, ExAll H vs sp → ExAll H us sq → ExAll H (vs ++ us) (sp ++ sq)
  | _, _, _, _, .nil, h => h
  | _, _, _, _, .cons r t, h => .cons r (ExAll.append t h)
theorem ExAll.get {H : Hp} : ∀ {vs : List V} {sp : List (Addr × List (Str × V))} {k : Nat} {C : Addr} {fv : List (Str × V)}, ExAll H vs sp → sp[k]? = some (C, fv) → ∃ v, vs[k]? = some v ∧ IsEx H v C fv
  | _, _, _, _, _, .nil, e => by simp at e
  | _, _, 0, _, _, .cons r _, e => by
    have e' := Option.some.inj (by simpa using e)
    exact ⟨_, rfl, by rw [e'] at r; exact r⟩
  | _, _, k + 1, _, _, .cons _ t, e => ExAll.get (k := k) t (by simpa using e)
/-- a list of errors made in a row -/
def EvAX (t : TA) (σ : St) (H : Hp) (sp : List (Addr × List (Str × V))) : Prop := ∀ H1, Evl.Ex H H1 → ∀ Q : List V → Hp → Prop, (∀ vs H2, Evl.Ex H1 H2 → ExAll H2 vs sp → Q vs H2) → t σ H1 Q
theorem eax_nil {σ : St} {H : Hp} : EvAX tNil σ H [] := fun H1 _ Q q => q [] H1 (Evl.Ex.refl H1) .nil
theorem eax_cons {σ : St} {H : Hp} {tA tr : TA} {C : Addr} {fs : List Str} {us : List V} {sp : List (Addr × List (Str × V))} (h : Evl.EvA tA σ H us) (hl : us.length = fs.length) (hr : EvAX tr σ H sp) : EvAX (tCons (tOx C fs tA) tr) σ H ((C, exF fs us) :: sp) := fun H1 e1 Q q =>
  tox_use (h.mono e1) hl fun v H2 s x => hr H2 (e1.trans s) _ fun vs H3 e3 xs => q _ H3 (Same.trans s e3) (.cons (x.mono e3) xs)
theorem q_lstX {σ : St} {H : Hp} {t : TA} {i : Nat} {tz : TS} {D : Ends} {sp : List (Addr × List (Str × V))} (h : EvAX t σ H sp) (hz : sp.length ≤ 1000) (q : ∀ p vs H1, H p = none → Same H H1 → H1 p = some (.lst vs) → ExAll H1 vs sp → tz D (σ.set i (some (.ref p))) H1) : tSeq (tAsg (tLst t) (gName i)) tz D σ H :=
  h H (Evl.Ex.refl H) _ fun vs H1 e1 x => ⟨Evl.sz_of (by have := Paired.length x; omega), fun p hp => q p vs _ (Evl.fresh_back e1 hp) (Same.trans e1 (Same.new hp)) upd_same (x.mono (Same.new hp))⟩
theorem q_catX {σ : St} {H : Hp} {ta : TE} {t : TA} {i : Nat} {tz : TS} {D : Ends} {l : Addr} {xs : List V} {sp : List (Addr × List (Str × V))} (ha : Evl.Ev ta σ H (.ref l)) (hl : H l = some (.lst xs)) (h : EvAX t σ H sp) (hz : xs.length + sp.length ≤ 1000)
    (q : ∀ p vs H1, H p = none → Same H H1 → H1 p = some (.lst (xs ++ vs)) → ExAll H1 vs sp → tz D (σ.set i (some (.ref p))) H1) : tSeq (tAsg (tOp rCat ta (tLst t)) (gName i)) tz D σ H :=
  ha H (Evl.Ex.refl H) _ fun H1 e1 => h H1 e1 _ fun vs H2 e2 x => ⟨Evl.sz_of (by have := Paired.length x; omega), fun p hp =>
    ⟨l, p, xs, vs, rfl, rfl, Same.new hp _ _ (e2 _ _ (e1 _ _ hl)), upd_same, Evl.sz_of (by have := Paired.length x; omega), fun r hr =>
      q r vs _ (Evl.fresh_back e1 (Evl.fresh_back e2 (Evl.fresh_back (Evl.Ex.new hp) hr))) (Same.trans (Same.trans e1 e2) (Same.trans (Same.new hp) (Same.new hr))) upd_same (x.mono (Same.trans (Same.new hp) (Same.new hr)))⟩⟩
end L2
end
section
set_option Elab.async false
set_option autoImplicit false
set_option linter.all false
set_option maxRecDepth 100000
set_option maxHeartbeats 2000000
/-! an own class's __getitem__, __setitem__, __contains__ -/
namespace L2
open PySem PySem.Spec PyProof.Rows
/-- the class at C has a def at f for the special name m -/
structure Spc (K : PySem.W.Frag) (C : Addr) (m : Str) (f : Addr) : Prop where
  find : PySem.W.findIn K (.ref C) m = some (some (.ref f))
  isf : PySem.W.isFn K (.ref f) = true
  fnin : PySem.W.fnIn K f = true
section
variable {X : Cx} {CX : CXT} {k : Nat} {f C : Addr} {fd : FuncData} {ps : List Str} {sp : Sp} {E : XK} {o i value : Expr} {pos pos' : Pos} {td ty tv : TE}
theorem run_own {A : Around} {pins : List (Addr × Obj)} {σ : L2.St} {H : Hp} {s : Shared} {Q : VK} {us : List Value} {vs : List V} (F : FnOk X.prog X.w X.K X.mg X.base CX k f fd ps sp) (sb : Sub X k A) (hb : Binds X.K fd ps []) (hx : PassesAt CX X σ E)
    (I : Inv X pins σ H s) (r : Vals vs us) (h : sp vs H Q E) : wpAny (model X.prog X.w) A (call (.ref f) us) (EP X pins σ Q) X.xe s := by
  have e0 : Env0 X.prog X.w X.K X.mg X.base A X.stack s H := by
    have e := I.env0
    exact ⟨by rw [sb.fr]; exact e.frames, e.mod, e.bs, e.bsz, e.funs, e.frf, e.hok, e.bare⟩
  have hl := F.len _ _ _ _ h
  refine wpAny_call (codeAny_mono (F.run A X.stack s H ⟨us, []⟩ us vs Q E sb.room e0 (by
    have := hb s us I.kIn (by rw [List.append_nil, ← r.length]; exact hl)
    rw [List.append_nil] at this
    exact this) r h) fun r s' hq => ?_)
  cases r with
  | error e => exact hx pins H s e s' I hq
  | ok fl =>
    cases fl with
    | ret u => exact I.after hq
    | next => exact False.elim hq
    | brk => exact False.elim hq
    | cont => exact False.elim hq
/-- o[i] by the class's own __getitem__ -/
def tIxOwn (C : Addr) (sp : Sp) (E : L2.St → XK) (td ty : TE) : TE := fun σ H Q => td σ H fun x H1 => ty σ H1 fun y H2 => ∃ a dx fs, x = .ref a ∧ H2 a = some (.ins C dx fs) ∧ sp [.ref a, y] H2 Q (E σ)
theorem pe_ixOwn {E : L2.St → XK} (S : Spc X.K C "__getitem__" f) (F : FnOk X.prog X.w X.K X.mg X.base CX k f fd ps sp) (hr : Room (k + 1) X.A) (hb : Binds X.K fd ps []) (hx : ∀ σ, PassesAt CX X σ (E σ)) (ho : PE X o td) (hi : PE X i ty)
    (hsl : ∀ a v, subscripted i true (.ref a) v = runValue (.builtin "lifetime.subscript" ⟨[.ref a, v], []⟩) := by exact fun _ _ => rfl) : PE X (.Subscript o i pos) (tIxOwn C sp E td ty) := by
  refine ⟨fun pins s σ H Q I h => ?_⟩
  refine Subscript_ (thn (ho.run pins s σ H _ I h) fun u s1 ⟨x, H1, I1, rx, q1⟩ => thn (hi.run pins s1 σ H1 _ I1 q1) fun iv s2 ⟨y, H2, I2, ry, a, dx, fs, ex, ea, q2⟩ => ?_)
  subst ex
  obtain rfl : u = Value.ref a := rx
  obtain ⟨mA, J, _⟩ := ins_get I2.hok ea
  obtain ⟨od, J, _⟩ := J.look
  obtain ⟨m, hF⟩ := I2.fr
  exact PySem.W.sub_K hF I2.ok.mod.kin J S.find S.fnin S.isf (run_own (us := [.ref a, iv]) (vs := [.ref a, y]) F ⟨hr.in1, rfl⟩ hb (hx σ) I2 (.cons rfl (.cons ry .nil)) q2) (hsl a iv)
/-- o[i] = v by the class's own __setitem__ -/
def sSetOwn (C : Addr) (sp : Sp) (E : L2.St → XK) (td ty tv : TE) : TS := fun D σ H => tv σ H fun v H1 => td σ H1 fun x H2 => ty σ H2 fun y H3 => ∃ a dx fs, x = .ref a ∧ H3 a = some (.ins C dx fs) ∧ sp [.ref a, y, v] H3 (fun _ H4 => D.nx σ H4) (E σ)
theorem ps_setOwn {E : L2.St → XK} (S : Spc X.K C "__setitem__" f) (hq : PySem.W.noSeq X.K C = true) (F : FnOk X.prog X.w X.K X.mg X.base CX k f fd ps sp) (hr : Room k X.A) (hb : Binds X.K fd ps []) (hx : ∀ σ, PassesAt CX X σ (E σ)) (ho : PE X o td) (hi : PE X i ty) (hv : PE X value tv)
    (hs : swapsWith value (some (.Subscript o i pos')) pos.line X.env = pure false) : PS X (.Assign [.Subscript o i pos'] value pos) (sSetOwn C sp E td ty tv) := by
  refine ⟨fun pins s σ H D I h => ?_⟩
  refine wpAny_Assign_Subscript (thn (hv.run pins s σ H _ I h) fun r s1 ⟨v, H1, I1, rv, q1⟩ => thn (ho.run pins s1 σ H1 _ I1 q1) fun u s2 ⟨x, H2, I2, rx, q2⟩ => thn (hi.run pins s2 σ H2 _ I2 q2) fun iv s3 ⟨y, H3, I3, ry, a, dx, fs, ex, ea, q3⟩ => ?_) hs
  subst ex
  obtain rfl : u = Value.ref a := rx
  obtain ⟨mA, J, _⟩ := ins_get I3.hok ea
  obtain ⟨od, J, _⟩ := J.look
  obtain ⟨m, hF⟩ := I3.fr
  refine PySem.W.ksp_setItem hF I3.ok.mod.kin J hq S.find S.isf (wpAny_mono (run_own (us := [.ref a, iv, r]) (vs := [.ref a, y, v]) F ⟨hr, rfl⟩ hb (hx σ) I3 (.cons rfl (.cons ry (.cons rv .nil))) q3) (fun _ s4 ⟨_, H4, I4, _, q4⟩ => ⟨σ, H4, I4, q4⟩) fun _ _ z => z)
/-- x in o by the class's own __contains__ -/
def rInOwn (C : Addr) (sp : Sp) (E : XK) (neg : Bool) : R2 := fun x y H Q => ∃ a dx fs, y = .ref a ∧ H a = some (.ins C dx fs) ∧ sp [.ref a, x] H (fun v H1 => ∃ b, v = .bl b ∧ Q (.bl (if neg then !b else b)) H1) E
theorem op_inOwn (S : Spc X.K C "__contains__" f) (F : FnOk X.prog X.w X.K X.mg X.base CX k f fd ps sp) (hr : Room k X.A) (hb : Binds X.K fd ps []) (hx : Passes CX X E) : OpR X (compareOp .In) (rInOwn C sp E false) := by
  intro pins s σ H x y v u Q I rx ry h
  obtain ⟨a, dx, fs, rfl, ea, q⟩ := h
  cases ry
  obtain ⟨mA, J, _⟩ := ins_get I.hok ea
  obtain ⟨od, J, _⟩ := J.look
  obtain ⟨m, hF⟩ := I.fr
  refine PySem.W.in_K hF I.ok.mod.kin J S.find S.isf (wpAny_mono (run_own (us := [.ref a, v]) (vs := [.ref a, x]) F ⟨hr, rfl⟩ hb (fun pins H s e s' => hx pins σ H s e s') I (.cons (show RelV (V.ref a) (Value.ref a) from rfl) (.cons rx .nil)) q) (fun r s4 ⟨z, H4, I4, rz, b, ez, q4⟩ => ?_) fun _ _ z => z)
  subst ez
  cases rz
  exact wpAny_truthy_bool ⟨.bl b, H4, I4, rfl, q4⟩
theorem pass_at {X : Cx} {CX : CXT} {E : XK} (h : Passes CX X E) (σ : L2.St) : PassesAt CX X σ E := fun pins H s e s' => h pins σ H s e s'
/-- o.m(e, ..), o.m(), the exception wished for by the slots -/
def tMethX (C : Addr) (m : Str) (sp : Sp) (E : L2.St → XK) (ta : TE) (t : TA) : TE := fun σ H Q => ta σ H fun x H1 => ∃ a dx fs, x = .ref a ∧ H1 a = some (.ins C dx fs) ∧ fs.lookup m = none ∧ t σ H1 fun vs H2 => sp (x :: vs) H2 Q (E σ)
theorem pe_methX {E : L2.St → XK} {m : Str} {apos : Pos} {e : Expr} {es : List Expr} {t : TA} {pl : Sem Bool} (he : PE X o td) (c : Cls X.K C) (hm : Meth X.K C m f) (F : FnOk X.prog X.w X.K X.mg X.base CX k f fd ps sp) (hr : Room k X.A) (hb : Binds X.K fd ps []) (hx : ∀ σ, PassesAt CX X σ (E σ)) (ha : PA X (e :: es) t)
    (hst : starEach (e :: es) X.env = (false, eval e X.env) :: starEach es X.env := by rfl) (hpl : (backTo pos (starEach es X.env)).any (·.1) = false := by rfl)
    (ht : eval (.Call (.Attribute o m apos) (e :: es) [] pos) X.env = (do
      let ov ← eval o X.env
      standAt apos.atName
      let (f, first) ← holding [ov] (getMethod ov m pl)
      callWith pos f first (backTo pos (starEach (e :: es) X.env)) (backToKw pos (keywordEach [] X.env))) := by rfl) :
    PE X (.Call (.Attribute o m apos) (e :: es) [] pos) (tMethX C m sp E td t) := by
  refine ⟨fun pins s σ H Q I h => ?_⟩
  refine PySem.W.methodCall_KW (pl := pl) (thn (he.run pins s σ H _ I h) fun u s1 ⟨x, H1, I1, rx, a, dx, fs, ex, ea, l, q⟩ => ?_) ht
  subst ex
  obtain rfl : u = Value.ref a := rx
  refine getmeth_ok I1 ea c hm l ?_
  refine PySem.W.callWith_K (first := [.ref a]) (h₀ := X.base) I.ok.mod.kin hm.kp (thn (ha.run pos pins s1 σ H1 _ I1 q) fun us s2 ⟨vs, H2, I2, r, q2⟩ => ⟨I2.kIn, ?_⟩) hst hpl
  exact run_fnS (us := .ref a :: us) (vs := .ref a :: vs) F hr hb (hx σ) I2 (.cons rfl r) q2
theorem pe_methX0 {E : L2.St → XK} {m : Str} {apos : Pos} {pl : Sem Bool} (he : PE X o td) (c : Cls X.K C) (hm : Meth X.K C m f) (F : FnOk X.prog X.w X.K X.mg X.base CX k f fd ps sp) (hr : Room k X.A) (hb : Binds X.K fd ps []) (hx : ∀ σ, PassesAt CX X σ (E σ))
    (ht : eval (.Call (.Attribute o m apos) [] [] pos) X.env = (do
      let ov ← eval o X.env
      standAt apos.atName
      let (f, first) ← holding [ov] (getMethod ov m pl)
      callWith pos f first (backTo pos (starEach [] X.env)) (backToKw pos (keywordEach [] X.env))) := by rfl) :
    PE X (.Call (.Attribute o m apos) [] [] pos) (tMethX C m sp E td tNil) := by
  refine ⟨fun pins s σ H Q I h => ?_⟩
  refine PySem.W.methodCall_KW (pl := pl) (thn (he.run pins s σ H _ I h) fun u s1 ⟨x, H1, I1, rx, a, dx, fs, ex, ea, l, q⟩ => ?_) ht
  subst ex
  obtain rfl : u = Value.ref a := rx
  refine getmeth_ok I1 ea c hm l ?_
  exact PySem.W.callWith_K0 (first := [.ref a]) I1.kIn hm.kp (run_fnS (us := [.ref a]) (vs := [.ref a]) F hr hb (hx σ) I1 (.cons rfl .nil) q)
theorem passE {X : Cx} {E : XK} (tk : Takes X fun cls d _ H => E cls d H) : Passes (L2.CX X.prog X.w) X E := fun pins σ H s e s' I c => tk e s' (XE.of_call I (fun _ _ _ h => h) c)
end
end L2
end
section
set_option Elab.async false
set_option autoImplicit false
set_option linter.all false
set_option maxRecDepth 100000
set_option maxHeartbeats 2000000
/-! several except clauses, with and without a name -/
namespace L2
open PySem PySem.Spec PyProof.Rows
/-- what the clauses wish of an exception of the body; a clause with a name: its slot -/
def wNm (K : PySem.W.Frag) (Wout : WX) (D : Ends) : List (Value × Option Nat × (Addr → Value → Option Addr → TS)) → WX
  | [] => Wout
  | (c, none, ts) :: r => fun cls d σ H => ∃ b, PySem.W.exmOne K cls c = some b ∧ (b = true → ∀ a, H a = none → ts a cls d D σ H) ∧ (b = false → wNm K Wout D r cls d σ H)
  | (c, some i, ts) :: r => fun cls d σ H => ∃ b, PySem.W.exmOne K cls c = some b ∧
      (b = true → ∀ a, H a = none → ts a cls d { nx := fun σ' H' => D.nx (σ'.set i none) H', rt := D.rt, bk := fun σ' H' => D.bk (σ'.set i none) H', ct := fun σ' H' => D.ct (σ'.set i none) H' } (σ.set i (some (.ref a))) H) ∧ (b = false → wNm K Wout D r cls d σ H)
inductive HdsNm (X : Cx) : List ExceptHandler → List (Value × Option Nat × (Addr → Value → Option Addr → TS)) → Prop
  | nil : HdsNm X [] []
  | plain {x : Str} {c : Value} {ts : Addr → Value → Option Addr → TS} {b₀ : Stmt} {suite : List Stmt} {np pos' : Pos} {hds : List ExceptHandler} {l : List (Value × Option Nat × (Addr → Value → Option Addr → TS))} (hc : Names X x c)
      (hsu : ∀ (a : Addr) (oe : Obj) (cls : Value) (d : Option Addr) (pn : List (Addr × Obj)), Zc cls d oe → (∃ vs, oe.data = .fields vs) → PSs (X.suite a ((a, oe) :: pn)) (b₀ :: suite) (ts a cls d)) (r : HdsNm X hds l) :
      HdsNm X (.ExceptHandler (some (.Name x np)) none (b₀ :: suite) pos' :: hds) ((c, none, ts) :: l)
  | named {x n : Str} {c : Value} {i : Nat} {ts : Addr → Value → Option Addr → TS} {b₀ : Stmt} {suite : List Stmt} {np pos' : Pos} {hds : List ExceptHandler} {l : List (Value × Option Nat × (Addr → Value → Option Addr → TS))} (hi : X.N[i]? = some n) (hln : X.env.kindOf n = some .local) (hc : Names X x c)
      (hsu : ∀ (a : Addr) (oe : Obj) (cls : Value) (d : Option Addr) (pn : List (Addr × Obj)), Zc cls d oe → (∃ vs, oe.data = .fields vs) → PSs (X.suite a ((a, oe) :: pn)) (b₀ :: suite) (ts a cls d)) (r : HdsNm X hds l) :
      HdsNm X (.ExceptHandler (some (.Name x np)) (some n) (b₀ :: suite) pos' :: hds) ((c, some i, ts) :: l)
section
variable {X : Cx} {body : List Stmt} {h₀ : ExceptHandler} {hds : List ExceptHandler} {l : List (Value × Option Nat × (Addr → Value → Option Addr → TS))} {pos : Pos} {tb : WX → TS} {Wout : WX}
theorem ps_try_nm (hN : X.N.Nodup) (hs : X.stack = X.env :: X.outer) (hf : X.env.frame = some X.env.locals) (tk : Takes X Wout)
    (hb : ∀ (W : WX) (pn : List (Addr × Obj)) (xe : Value → Shared → Prop), Takes (X.tr pn xe) W → PassesOwn (model X.prog X.w) X.A X.env xe → PSs (X.tr pn xe) body (tb W))
    (hh : HdsNm X (h₀ :: hds) l) : PS X (.Try body (h₀ :: hds) [] [] pos) (fun D σ H => tb (wNm X.K Wout D l) D σ H) := by
  refine ⟨fun pins s σ H D I h => ?_⟩
  have ok := I.ok
  have hfr : X.A.frames = some (X.env :: X.outer) := by rw [ok.frames, hs]
  refine wpAny_Try_except ?_
  refine wpAny_mono ((hb (wNm X.K Wout D l) (X.pn ++ pins) (fun e s₁ => wpAny (model X.prog X.w) X.A (noteFrame e X.env) (fun _ s₂ => wpAny (model X.prog X.w) X.A (setFlight e none) (fun _ s₃ =>
    wpAny (model X.prog X.w) X.A (handleBy e X.env (h₀ :: hds)) (SP X pins D) X.xe s₃) X.xe s₂) X.xe s₁) (fun u s' xx => ?_) PassesOwn.looking).run [] s σ H D (I.toTry _) h) (fun f s1 hsp => ?_) (fun e s1 he => he)
  · -- the catch
    obtain ⟨a, B, sI, pins', σ', H', cls, d, rfl, J', nb, up, sky, na, os, ag, w⟩ := xx
    have J : Inv X pins σ' H' sI := J'.ofTry ok
    have sky' : Sky B (X.env :: X.outer) a (Zc cls d) X.env.locals s'.heap := by rw [← hs]; exact sky
    show wpAny (model X.prog X.w) X.A (noteFrame (.ref a) X.env) _ _ _
    refine Sky.land Zc.steady hfr hf sky' fun h3 fl3 up3 => ?_
    have J3 : Inv X pins σ' H' { s' with heap := h3 } := J.landed nb fl3.1 (up.trans up3) os ag
    obtain ⟨oe3, vs3, he3, hz3, hd3⟩ := fl3.there
    have notFr : ∀ {h : Heap} {o : Obj} {vs : Array Value}, h.FunFrames B (X.env :: X.outer) → h.get? a = some o → o.data = .fields vs → a ∉ frs (X.env :: X.outer) := fun {h o vs} ff e dd hm => by
      obtain ⟨_, o', e', hnf⟩ := ff.mem hm
      rw [e] at e'; cases e'
      exact hnf _ dd
    have nfr := notFr fl3.2.2.1 he3 hd3
    have nL : a ≠ X.env.locals := fun z => nfr (List.mem_filterMap.mpr ⟨X.env, List.mem_cons_self, by rw [hf, z]⟩)
    have nF : a ∉ X.fs := fun hm => by
      obtain ⟨e, he, q⟩ := List.mem_filterMap.mp hm
      exact nfr (List.mem_filterMap.mpr ⟨e, List.mem_cons_of_mem _ he, q⟩)
    have S3 := J3.suite he3 hd3 na nL nF
    have go : ∀ {hds' : List ExceptHandler} {l' : List (Value × Option Nat × (Addr → Value → Option Addr → TS))}, HdsNm X hds' l' → wNm X.K Wout D l' cls d σ' H' →
        wpAny (model X.prog X.w) X.A (handleBy (.ref a) X.env hds') (SP X pins D) X.xe { s' with heap := h3 } := by
      intro hds' l' hk
      induction hk with
      | nil =>
        intro w
        refine wpAny_handleBy_nil ?_
        obtain ⟨k1, k2, k3, oe, vs, T, oT, ts', he, hz, hd, h1, hr⟩ := id fl3
        unfold PySem.passOn
        refine wpAny_bind (wpAny_field he hd h1 ?_)
        rw [if_neg (show ¬ ((Value.ref T == Value.none) = true) from by simp)]
        have fin : wpAny (model X.prog X.w) X.A (setFlight (.ref a) X.env.frame) (fun _ s4 => wpAny (model X.prog X.w) X.A (throw (.ref a) : Sem Flow) (SP X pins D) X.xe s4) X.xe { s' with heap := h3 } := by
          rw [hf]
          refine HandSPX.setFlight_upZ fl3 fun h4 hh4 up4 => wpAny_throw (tk _ _ ?_)
          exact ⟨a, B, sI, pins, σ', H', cls, d, rfl, J, nb, (up.trans up3).trans up4, .inr (.inr (by rw [hs]; exact hh4)), na, os, ag, w⟩
        first
          | exact wpAny_bind (wpAny_pure (wpAny_bind fin))
          | exact wpAny_bind fin
      | @plain x c ts b₀ suite np pos' hds2 l2 hc hsu r ih =>
        intro w
        obtain ⟨b, hb1, hyes, hno⟩ := w
        refine wpAny_handleBy_cons (codeAny_handlers_test ?_) (by intro q; cases q)
        have LT : PySem.W.Looks (model X.prog X.w) h3 (typeOf (.ref a)) cls := fun A Q E s k q => wpAny_typeOf_ref (k _ _ he3) (by rw [hz3.1]; exact q)
        have LM := PySem.W.exm_one (M := model X.prog X.w) (J3.kIn) LT hb1
        have test : ∀ {Q : Value → Shared → Prop} {E : Value → Shared → Prop}, Q c { s' with heap := h3 } → wpAny (model X.prog X.w) (X.A.mark (some (.ref a))) (eval (.Name x np) X.env) Q E { s' with heap := h3 } := fun {Q E} q => by
          obtain ⟨hg, hdbg, hm | ⟨hm, hv, hnn⟩⟩ := hc
          · exact ld_glob (X := X.suite a ((a, oe3) :: (X.pn ++ pins))) S3 hg hm q hdbg
          · exact ld_blt (X := X.suite a ((a, oe3) :: (X.pn ++ pins))) S3 hg hm hv q hnn hdbg
        refine test (LM.here ?_)
        cases b with
        | true =>
          refine codeAny_handlers_suite ?_
          refine HandSPX.lands_againZ fl3 fun h4 fl4 up4 => ?_
          have J4 : Inv X pins σ' H' { s' with heap := h4 } := J.landed nb fl4.1 ((up.trans up3).trans up4) os ag
          obtain ⟨oe4, vs4, he4, hz4, hd4⟩ := fl4.there
          have S4 := J4.suite he4 hd4 na nL nF
          refine wpAny_mono ((hsu a oe4 cls d (X.pn ++ pins) hz4 ⟨_, hd4⟩).run [] _ _ H' _ S4 (hyes rfl a na)) (fun f s6 hsp => ?_) (fun _ _ z => False.elim z)
          cases f with
          | next =>
            obtain ⟨σ6, H6, S6, q6⟩ := hsp
            exact ⟨_, _, S6.unsuite ok, q6⟩
          | brk =>
            obtain ⟨σ6, H6, S6, q6⟩ := hsp
            exact ⟨_, _, S6.unsuite ok, q6⟩
          | cont =>
            obtain ⟨σ6, H6, S6, q6⟩ := hsp
            exact ⟨_, _, S6.unsuite ok, q6⟩
          | ret u =>
            obtain ⟨v6, σ6, H6, S6, r6, q6⟩ := hsp
            exact ⟨_, _, _, S6.unsuite ok, r6, q6⟩
        | false =>
          show wpAny _ X.A (handleBy (.ref a) X.env hds2) _ _ _
          exact ih (hno rfl)
      | @named x n c i ts b₀ suite np pos' hds2 l2 hi hln hc hsu r ih =>
        intro w
        obtain ⟨b, hb1, hyes, hno⟩ := w
        refine wpAny_handleBy_cons (codeAny_handlers_test ?_) (by intro q; cases q)
        have LT : PySem.W.Looks (model X.prog X.w) h3 (typeOf (.ref a)) cls := fun A Q E s k q => wpAny_typeOf_ref (k _ _ he3) (by rw [hz3.1]; exact q)
        have LM := PySem.W.exm_one (M := model X.prog X.w) (J3.kIn) LT hb1
        have test : ∀ {Q : Value → Shared → Prop} {E : Value → Shared → Prop}, Q c { s' with heap := h3 } → wpAny (model X.prog X.w) (X.A.mark (some (.ref a))) (eval (.Name x np) X.env) Q E { s' with heap := h3 } := fun {Q E} q => by
          obtain ⟨hg, hdbg, hm | ⟨hm, hv, hnn⟩⟩ := hc
          · exact ld_glob (X := X.suite a ((a, oe3) :: (X.pn ++ pins))) S3 hg hm q hdbg
          · exact ld_blt (X := X.suite a ((a, oe3) :: (X.pn ++ pins))) S3 hg hm hv q hnn hdbg
        refine test (LM.here ?_)
        cases b with
        | true =>
          refine codeAny_handlers_suite_as ?_
          refine HandSPX.lands_againZ fl3 fun h4 fl4 up4 => ?_
          have J4 : Inv X pins σ' H' { s' with heap := h4 } := J.landed nb fl4.1 ((up.trans up3).trans up4) os ag
          obtain ⟨oe4, vs4, he4, hz4, hd4⟩ := fl4.there
          have S4 := J4.suite he4 hd4 na nL nF
          have hloc : Loc X.env.scope n := .inl hln
          refine store_ok (X := X.suite a ((a, oe4) :: (X.pn ++ pins))) (v := .ref a) S4 hN hi hloc rfl (fun s5 S5 => ?_) (.inr hln)
          refine wpAny_mono ((hsu a oe4 cls d (X.pn ++ pins) hz4 ⟨_, hd4⟩).run [] s5 _ H' _ S5 (hyes rfl a na)) (fun f s6 hsp => ?_) (fun _ _ z => False.elim z)
          have leave : ∀ {σ6 : St} {H6 : Hp} {Q : Shared → Prop}, Inv (X.suite a ((a, oe4) :: (X.pn ++ pins))) [] σ6 H6 s6 → (∀ s7, Inv X pins (σ6.set i none) H6 s7 → Q s7) →
              wpAny (model X.prog X.w) X.A (do bindName X.env n .none; unbindBehindTheSuite X.env n pos') (fun _ s7 => Q s7) X.xe s6 := fun {σ6 H6 Q} S6 hq => gone_ok (S6.unsuite ok) hN hi hln hq
          cases f with
          | next => obtain ⟨σ6, H6, S6, q6⟩ := hsp; exact leave S6 fun s7 J7 => ⟨_, _, J7, q6⟩
          | brk => obtain ⟨σ6, H6, S6, q6⟩ := hsp; exact leave S6 fun s7 J7 => ⟨_, _, J7, q6⟩
          | cont => obtain ⟨σ6, H6, S6, q6⟩ := hsp; exact leave S6 fun s7 J7 => ⟨_, _, J7, q6⟩
          | ret u => obtain ⟨v6, σ6, H6, S6, r6, q6⟩ := hsp; exact leave S6 fun s7 J7 => ⟨_, _, _, J7, r6, q6⟩
        | false =>
          show wpAny _ X.A (handleBy (.ref a) X.env hds2) _ _ _
          exact ih (hno rfl)
    exact go hh w
  · cases f with
    | next =>
      obtain ⟨σ', H', J', q⟩ := hsp
      exact wpAny_execs_nil ⟨σ', H', J'.ofTry ok, q⟩
    | brk =>
      obtain ⟨σ', H', J', q⟩ := hsp
      exact ⟨σ', H', J'.ofTry ok, q⟩
    | cont =>
      obtain ⟨σ', H', J', q⟩ := hsp
      exact ⟨σ', H', J'.ofTry ok, q⟩
    | ret u =>
      obtain ⟨v, σ', H', J', r, q⟩ := hsp
      exact ⟨v, σ', H', J'.ofTry ok, r, q⟩
end
end L2
end
section
set_option Elab.async false
set_option autoImplicit false
set_option linter.all false
set_option maxRecDepth 100000
set_option maxHeartbeats 4000000
namespace LawC
open PySem PySem.Spec PyProof.Rows L2 PySem.OxE
/-! what several laws' own helpers promise -/
/-- the draws' source -/
def srcV (d m t : Int) : HO := .lst [.int d, .int m, .int t]
def SM : Int := 4294967296
structure SrcAt (H : Hp) (p : Addr) (t : Int) : Prop where
  ex : ∃ d m, H p = some (srcV d m t) ∧ 0 ≤ d ∧ 0 ≤ m ∧ m < SM
  t0 : 0 ≤ t
def spSource (K : PySem.W.Frag) : Sp := fun vs H Q _ => ∃ (a : Addr) (ns : List Int) (pl : Int), vs = [.ref a, .int pl] ∧ SqL K H a (ns.map V.int) ∧ 0 ≤ pl ∧ pl < 12 ∧
  ∀ (p : Addr) (H' : Hp), H p = none → Same H H' → SrcAt H' p 0 → Q (.ref p) H'
def spDraw : Sp := fun vs H Q _ => ∃ (p : Addr) (t n : Int), vs = [.ref p, .int n] ∧ SrcAt H p t ∧ t < 100000 ∧ 0 < n ∧ n.natAbs < 2 ^ 100 ∧
  ∀ (k t' : Int) (H' : Hp), 0 ≤ k → k < n → t ≤ t' → t' ≤ t + 1 → But p H H' → SrcAt H' p t' → Q (.int k) H'
def spOf (K : PySem.W.Frag) : Sp := fun vs H Q _ => ∃ (p l : Addr) (t : Int) (xs : List V), vs = [.ref p, .ref l] ∧ SrcAt H p t ∧ t < 100000 ∧ H l = some (.lst xs) ∧ 0 < xs.length ∧ xs.length < 1000 ∧ p ≠ l ∧
  ∀ (v : V) (t' : Int) (H' : Hp), v ∈ xs → t ≤ t' → t' ≤ t + 1 → But p H H' → SrcAt H' p t' → Q v H'
theorem rem0 {a n : Int} (h : 0 < n) : 0 ≤ a % n := Int.emod_nonneg a (by omega)
theorem rem1 {a n : Int} (h : 0 < n) : a % n < n := Int.emod_lt_of_pos a h
theorem div0 {a n : Int} (h : 0 < n) (ha : 0 ≤ a) : 0 ≤ a / n := Int.ediv_nonneg ha (by omega)
/-! `same`: two values that are worth the same -/
def tyN : PyData → String
  | .none => "NoneType"
  | .bool _ => "bool"
  | .int _ => "int"
  | .str _ => "str"
  | .list _ => "list"
  | .tuple _ => "tuple"
  | .dict _ => "dict"
theorem dp_ty {K : PySem.W.Frag} {H : Hp} {v : V} {d : PyData} (h : Dp K H v d) : TyX K H v (.type (tyN d)) := by
  cases h with
  | non => exact .base .non
  | bl b => exact .base (.bl b)
  | int i => exact .base (.int i)
  | str x => exact .base (.str x)
  | lst h _ =>
    rcases h with (h | ⟨o, h⟩) | ⟨o, its, n, hl, hc, _⟩
    · exact .base (.lst h)
    · exact .base (.frz h)
    · exact .kList hl hc
  | tup h _ =>
    rcases h with (h | ⟨o, h⟩) | ⟨o, its, n, hl, hc, _⟩
    · exact .base (.tup h)
    · exact .fTuple h
    · exact .kTuple hl hc
mutual
/-- how deep lists and tuples stand in it -/
def dep : PyData → Nat
  | .list xs => depAll xs + 1
  | .tuple xs => depAll xs + 1
  | _ => 0
def depAll : List PyData → Nat
  | [] => 0
  | x :: xs => max (dep x) (depAll xs)
end
theorem depAll_mem : ∀ {xs : List PyData} {x : PyData}, x ∈ xs → dep x ≤ depAll xs
  | y :: ys, x, h => by
    unfold depAll
    rcases List.mem_cons.mp h with rfl | h
    · exact Nat.le_max_left _ _
    · exact Nat.le_trans (depAll_mem h) (Nat.le_max_right _ _)
mutual
def noDict : PyData → Bool
  | .dict _ => false
  | .list xs => noDictAll xs
  | .tuple xs => noDictAll xs
  | _ => true
def noDictAll : List PyData → Bool
  | [] => true
  | x :: xs => noDict x && noDictAll xs
end
mutual
/-- no dict, no list of more than a thousand -/
def okD : PyData → Bool
  | .dict _ => false
  | .list xs => decide (xs.length ≤ 1000) && okDAll xs
  | .tuple xs => decide (xs.length ≤ 1000) && okDAll xs
  | _ => true
def okDAll : List PyData → Bool
  | [] => true
  | x :: xs => okD x && okDAll xs
end
theorem okDAll_mem : ∀ {xs : List PyData} {x : PyData}, okDAll xs = true → x ∈ xs → okD x = true
  | y :: ys, x, h, hm => by
    unfold okDAll at h
    obtain ⟨h1, h2⟩ := Bool.and_eq_true_iff.mp h
    rcases List.mem_cons.mp hm with rfl | hm
    · exact h1
    · exact okDAll_mem h2 hm
theorem okD_lst {xs : List V} {ds : List PyData} {K : PySem.W.Frag} {H : Hp} (h : okD (.list ds) = true) (a : DpAll K H xs ds) : xs.length ≤ 1000 ∧ okDAll ds = true := by
  unfold okD at h
  obtain ⟨h1, h2⟩ := Bool.and_eq_true_iff.mp h
  exact ⟨by rw [DpAll.length a]; exact of_decide_eq_true h1, h2⟩
theorem okD_tup {xs : List V} {ds : List PyData} {K : PySem.W.Frag} {H : Hp} (h : okD (.tuple ds) = true) (a : DpAll K H xs ds) : xs.length ≤ 1000 ∧ okDAll ds = true := by
  unfold okD at h
  obtain ⟨h1, h2⟩ := Bool.and_eq_true_iff.mp h
  exact ⟨by rw [DpAll.length a]; exact of_decide_eq_true h1, h2⟩
theorem kitA_lst {K : PySem.W.Frag} : PySem.W.kitAny K (.type "list") [.type "tuple", .type "list"] = some true := by
  refine kitAny_cons (b := false) (kit_ty (by decide +kernel)) (fun _ => kitAny_cons (b := true) (kit_ty (by decide +kernel)) (fun h => nomatch h) fun _ => rfl) fun h => nomatch h
theorem kitA_tup {K : PySem.W.Frag} : PySem.W.kitAny K (.type "tuple") [.type "tuple", .type "list"] = some true := by
  refine kitAny_cons (b := true) (kit_ty (by decide +kernel)) (fun h => nomatch h) fun _ => rfl
theorem kitA_int {K : PySem.W.Frag} : PySem.W.kitAny K (.type "int") [.type "tuple", .type "list"] = some false := by
  refine kitAny_cons (b := false) (kit_ty (by decide +kernel)) (fun _ => kitAny_cons (b := false) (kit_ty (by decide +kernel)) (fun _ => rfl) fun h => nomatch h) fun h => nomatch h
theorem kitA_str {K : PySem.W.Frag} : PySem.W.kitAny K (.type "str") [.type "tuple", .type "list"] = some false := by
  refine kitAny_cons (b := false) (kit_ty (by decide +kernel)) (fun _ => kitAny_cons (b := false) (kit_ty (by decide +kernel)) (fun _ => rfl) fun h => nomatch h) fun h => nomatch h
def spSame (K : PySem.W.Frag) (n : Nat) : Sp := fun vs H Q _ => ∃ (x y : V) (d : PyData), vs = [x, y] ∧ Dp K H x d ∧ Dp K H y d ∧ dep d ≤ n ∧ okD d = true ∧ ∀ H', Same H H' → Q (.bl true) H'
theorem DpAll.get {K : PySem.W.Frag} {H : Hp} : ∀ {vs : List V} {ds : List PyData} {i : Nat} {v : V}, DpAll K H vs ds → vs[i]? = some v → ∃ d, d ∈ ds ∧ ds[i]? = some d ∧ Dp K H v d
  | _, _, 0, _, .cons h _, e => ⟨_, List.mem_cons_self, rfl, by cases e; exact h⟩
  | _, _, i + 1, _, .cons _ t, e => by
    obtain ⟨d, h1, h2, h3⟩ := DpAll.get (i := i) t (by simpa using e)
    exact ⟨d, List.mem_cons_of_mem _ h1, by simpa using h2, h3⟩
/-- [same(a, b) for a, b in zip(xs, ys)] -/
theorem zip_turns {K : PySem.W.Frag} {J : It} {D : Addr} {xs ys : List V} {ds : List PyData} {n : Nat} {G : Hp → Prop} {H1 : Hp} {vs : List Nat} {σ : L2.St} {i j : Nat} {Qd : Hp → Prop} {g : TG}
    (w : Walk J xs.length G (YPair (fun i => xs[i]?) (fun i => ys[i]?))) (hG : ∀ H', Same H1 H' → G H') (hD : H1 D = none) (dx : DpAll K H1 xs ds) (dy : DpAll K H1 ys ds) (hn : depAll ds ≤ n) (hz : xs.length ≤ 1000 ∧ okDAll ds = true)
    (hg : ∀ T x y H' k, H' T = some (.tup [x, y]) → k (((wipe σ vs).set i (some x)).set j (some y)) H' → g (.ref T) (wipe σ vs) H' k)
    (hw : ∀ x y, wipe (((wipe σ vs).set i (some x)).set j (some y)) vs = wipe σ vs) (hi : ∀ x y : V, (((wipe σ vs).set i (some x)).set j (some y))[i]? = some (some x)) (hj : ∀ x y : V, (((wipe σ vs).set i (some x)).set j (some y))[j]? = some (some y))
    (hd : ∀ H', Same H1 H' → H' D = some (.lst (List.replicate xs.length (.bl true))) → Qd H') :
    ∃ W : Nat → Nat → Hp → Prop, (∃ m, W 0 m (upd H1 D (.lst []))) ∧ ∀ i' m H, W i' m H →
      (J.stop i' H ∧ Qd H) ∨ (J.go i' H ∧ ∃ Nx : Hp → Prop, (∀ H', Nx H' → ∃ m', m' < m ∧ W (i' + 1) m' H') ∧ ∀ x H', J.yld i' H x H' → g x (wipe σ vs) H' fun σ2 H2 => wipe σ2 vs = wipe σ vs ∧ tYes σ2 H2 fun b H3 =>
        if b = true then tCall (spSame K n) [] E0 (tCons (tVar i) (tCons (tVar j) tNil)) σ2 H3 fun y H4 => ∃ acc, H4 D = some (.lst acc) ∧ acc.length < sizeLine ∧ Nx (upd H4 D (.lst (acc ++ [y]))) else Nx H3) := by
  refine lc_it w (fun k H' => Same H1 H' ∧ H' D = some (.lst (List.replicate k (.bl true)))) ⟨Same.new hD, upd_same⟩ (fun k H' _ p => hG H' p.1) (fun k v H H' hk p y => ?_) fun H' p => hd H' p.1 p.2
  obtain ⟨T, x, z, rfl, hT, rfl, hx, hz2⟩ := y
  obtain ⟨p1, p2⟩ := p
  have s2 := Same.trans p1 (Same.new (o := .tup [x, z]) hT)
  refine hg T x z _ _ upd_same ⟨hw x z, ?_⟩
  show tCall (spSame K n) [] E0 (tCons (tVar i) (tCons (tVar j) tNil)) _ _ _
  obtain ⟨d, m1, m2, m3⟩ := DpAll.get dx hx
  obtain ⟨e, q1, q2, q3⟩ := DpAll.get dy hz2
  have ed : e = d := by rw [m2] at q2; exact (Option.some.inj q2).symm
  subst ed
  refine ⟨x, hi x z, z, hj x z, x, z, e, rfl, m3.mono s2, q3.mono s2, Nat.le_trans (depAll_mem m1) hn, okDAll_mem hz.2 m1, fun H5 e5 => ⟨_, e5 _ _ (Same.new hT _ _ p2), Evl.sz_lt (by rw [List.length_replicate]; omega), ?_, ?_⟩⟩
  · intro b o hb
    have := e5 _ _ (s2 b o hb)
    rw [upd_ne (ne_of_none hb hD)]
    exact this
  · rw [upd_same, List.replicate_succ']
/-! readings' lemmas for `same` -/
section
variable {K : PySem.W.Frag} {σ : L2.St} {H : Hp} {ta : TE} {v : V} {d : PyData}
theorem ev_isi {T : String} {b : Bool} (h : Evl.Ev ta σ H v) (hd : Dp K H v d) (hk : kitB (tyN d) T = some b) : Evl.Ev (tCB (rIsi K) (tCons ta (tCons (tC (.ty T)) tNil))) σ H (.bl b) :=
  Evl.ev_cb (Evl.ea_cons h (Evl.ea_cons Evl.ev_c Evl.ea_nil)) fun H1 e1 Q q => ⟨v, .ty T, _, .type T, b, rfl, .ty T, dp_ty (hd.mono e1), kit_ty hk, q H1 (Evl.Ex.refl H1)⟩
theorem ev_isN (h : Evl.Ev ta σ H v) : Evl.Ev (tOp (fun x y H Q => y = V.non ∧ Q (V.bl (decide (x = V.non))) H) ta (tC .non)) σ H (.bl (decide (v = .non))) :=
  Evl.ev_op h Evl.ev_c fun H1 e Q q => ⟨rfl, q H1 (Evl.Ex.refl H1)⟩
theorem ev_isiT {T1 T2 : String} {b : Bool} (h : Evl.Ev ta σ H v) (hd : Dp K H v d) (hk : PySem.W.kitAny K (.type (tyN d)) [.type T1, .type T2] = some b) : Evl.Ev (tCB (rIsiT K) (tCons ta (tCons (tTup (tCons (tC (.ty T1)) (tCons (tC (.ty T2)) tNil))) tNil))) σ H (.bl b) := fun H1 e1 Q q =>
  h H1 e1 _ fun H2 e2 => ⟨by show 2 ≤ sizeLine; decide, fun p hp => ⟨v, p, [.ty T1, .ty T2], _, _, b, rfl, upd_same, .cons (.ty T1) (.cons (.ty T2) .nil), dp_ty (hd.mono ((e1.trans e2).trans (Evl.Ex.new hp))), hk, q _ (e2.trans (Evl.Ex.new hp))⟩⟩
theorem DpAll.same_length {vs us : List V} {ds : List PyData} (a : DpAll K H vs ds) (b : DpAll K H us ds) : vs.length = us.length := by rw [DpAll.length a, DpAll.length b]
end
theorem walk_zipT {K : PySem.W.Frag} {a b : Addr} {xs ys : List V} (hl : xs.length = ys.length) : Walk (RZ.ItzT K a b) xs.length (fun H => SqT K H a xs ∧ SqT K H b ys) (YPair (fun i => xs[i]?) (fun i => ys[i]?)) := by
  refine ⟨fun i _ hi q => ⟨xs, ys, xs[i], ys[i], q.1, q.2, by simp [hi], by simp [show i < ys.length by omega]⟩, fun _ q => ⟨xs, ys, q.1, q.2, by omega⟩, fun i H v H' _ q y => ?_⟩
  obtain ⟨T, x, z, h1, h2, h3, h4, h5⟩ := y
  exact ⟨T, x, z, h1, h2, h3, h4 xs q.1, h5 ys q.2⟩
section
variable {K : PySem.W.Frag} {σ : L2.St} {H : Hp} {ta : TE} {v : V}
theorem ev_lenT {p : Addr} {xs : List V} (h : Evl.Ev ta σ H (.ref p)) (hp : SqT K H p xs) : Evl.Ev (tCB (fun xs H Q => ∃ x n, xs = [x] ∧ LenV K x H n ∧ Q (V.int n) H) (tCons ta tNil)) σ H (.int xs.length) :=
  Evl.ev_cb (Evl.ea_cons h Evl.ea_nil) fun H1 e1 Q q => ⟨_, _, rfl, .inr ⟨_, Evl.ex_t e1 hp, rfl⟩, q H1 (Evl.Ex.refl H1)⟩
theorem ev_lenL {p : Addr} {xs : List V} (h : Evl.Ev ta σ H (.ref p)) (hp : SqL K H p xs) : Evl.Ev (tCB (fun xs H Q => ∃ x n, xs = [x] ∧ LenV K x H n ∧ Q (V.int n) H) (tCons ta tNil)) σ H (.int xs.length) :=
  Evl.ev_cb (Evl.ea_cons h Evl.ea_nil) fun H1 e1 Q q => ⟨_, _, rfl, .inl ⟨_, Evl.ex_l e1 hp, rfl⟩, q H1 (Evl.Ex.refl H1)⟩
theorem ev_fld {x C dx : Addr} {fs : List (Str × V)} {f : Str} (h : Evl.Ev ta σ H (.ref x)) (hx : H x = some (.ins C dx fs)) (c : Cls K C) (n : NoAttr K C f) (l : fs.lookup f = some v) : Evl.Ev (tFld K ta f) σ H v := fun H1 e1 Q q =>
  h H1 e1 _ fun H2 e2 => ⟨x, C, dx, fs, v, rfl, e2 _ _ (e1 _ _ hx), c, n, l, q H2 e2⟩
theorem inV_str {u : Str} : ∀ {ws : List Str}, inV (.str u) (ws.map V.str) = decide (u ∈ ws)
  | [] => by simp [inV]
  | x :: ws => by
    have ih := inV_str (u := u) (ws := ws)
    unfold inV at ih ⊢
    rw [List.map_cons, List.any_cons, ih]
    by_cases h : x = u
    · subst h
      simp [eqV]
    · have h2 : ¬ u = x := fun q => h q.symm
      simp [eqV, h, h2]
theorem flat_strs : ∀ {ws : List Str}, (ws.map V.str).all flatV = true
  | [] => rfl
  | x :: ws => by rw [List.map_cons, List.all_cons, flat_strs (ws := ws)]; rfl
end
section
variable {K : PySem.W.Frag} {σ : L2.St} {H : Hp} {te tt : TE} {t : TT}
theorem el_slN {tl th : TO} {xs : List V} {lo hi : Option Int} (h : Evl.EvL te σ H xs) (h1 : Evl.EvO tl σ H lo) (h2 : Evl.EvO th σ H hi) : Evl.EvL (tSl (rSlL K) te tl th) σ H (cutV xs lo hi) := fun H1 e _ q =>
  h H1 e _ fun a H2 ha e2 hx => h1 H2 (e.trans e2) _ fun H3 e3 => h2 H3 ((e.trans e2).trans e3) _ fun H4 e4 =>
    ⟨a, xs, rfl, SqL.of (e4 _ _ (e3 _ _ hx)), fun p hp => q p _ (Evl.fresh_back ((e2.trans e3).trans e4) hp) (((e2.trans e3).trans e4).trans (Evl.Ex.new hp)) upd_same⟩
theorem filt_step {f : V → Bool} {xs : List V} {i : Nat} {x : V} (h : xs[i]? = some x) : (xs.take (i + 1)).filter f = (xs.take i).filter f ++ (if f x = true then [x] else []) := by
  rw [List.take_add_one, h, List.filter_append]
  congr 1
  cases hf : f x <;> simp [hf]
/-- [x for x in xs if f x] -/
theorem el_filt {a : Addr} {xs : List V} {tl : TE} {j : Nat} {vs : List Nat} {f : V → Bool} (h : Evl.Ev tl σ H (.ref a)) (hx : SqL K H a xs) (hz : xs.length ≤ 40000) (hw : ∀ x, wipe ((wipe σ vs).set j (some x)) vs = wipe σ vs)
    (ht : ∀ (x : V) H1, Evl.Ex H H1 → x ∈ xs → Evl.EvT t ((wipe σ vs).set j (some x)) H1 (f x)) (he : ∀ (x : V) H1, Evl.Ex H H1 → x ∈ xs → Evl.Ev te ((wipe σ vs).set j (some x)) H1 x) :
    Evl.EvL (tLc (iList K tl) (gName j) t te vs) σ H (xs.filter f) := fun H0 e Q q => h H0 e _ fun H1 e1 => ⟨a, rfl, ⟨xs, Evl.ex_l (e.trans e1) hx⟩, fun Dl hD =>
  lc_list (xs := xs) (fun i H' => Same H1 H' ∧ H' Dl = some (.lst ((xs.take i).filter f))) ⟨Same.new hD, upd_same⟩ (fun i H' _ p => Evl.ex_l ((e.trans e1).trans p.1) hx) (fun i x H' hi p => ⟨hw x, by
    obtain ⟨p1, p2⟩ := p
    have hm := List.mem_of_getElem? hi
    refine ht x H' ((e.trans e1).trans p1) hm H' (Evl.Ex.refl H') _ fun H3 e3 => ?_
    have hl : ((xs.take i).filter f).length < sizeLine := Evl.sz_lt (by
      have := List.length_filter_le f (xs.take i)
      rw [List.length_take] at this
      omega)
    cases hf : f x with
    | true =>
      refine he x H3 ((e.trans e1).trans (Same.trans p1 e3)) hm H3 (Evl.Ex.refl H3) _ fun H4 e4 => ⟨_, e4 _ _ (e3 _ _ p2), hl, ?_, ?_⟩
      · intro b o hb
        have := e4 _ _ (e3 _ _ (p1 b o hb))
        rw [upd_ne (ne_of_none hb hD)]
        exact this
      · rw [upd_same, filt_step hi, hf]
        rfl
    | false =>
      refine ⟨Same.trans p1 e3, ?_⟩
      rw [e3 _ _ p2, filt_step hi, hf]
      simp⟩) (fun H' p => q Dl H' (Evl.fresh_back e1 hD) (e1.trans p.1) (by rw [p.2, List.take_of_length_le (Nat.le_refl _)]))⟩
end
end LawC
end
section
set_option Elab.async false
set_option autoImplicit false
set_option linter.all false
set_option maxRecDepth 100000
set_option maxHeartbeats 2000000
/-! methods with a star parameter; list.extend of a tuple; properties that a raising def reads -/
namespace L2
open PySem PySem.Spec PyProof.Rows
def rExtendT : V → List V → Hp → VK → Prop := fun x vs H Q => ∃ l b xs zs, x = .ref l ∧ vs = [.ref b] ∧ H l = some (.lst xs) ∧ H b = some (.tup zs) ∧ xs.length + zs.length ≤ sizeLine ∧ Q .non (upd H l (.lst (xs ++ zs)))
theorem list_extend_tupO (l : Addr) (items : Array Value) (n : Nat) (b : Addr) (od : Option Addr) (sl : Array (Option Value)) (items2 : Array Value) (n2 : Nat) (hs0 : ¬(!items.isEmpty && Builtin.List.listTooLong (items.size + items2.size)) = true) (hs1 : items.size ≤ sizeLine) (hs2 : items.size + items2.size ≤ sizeLine + 1) :
    Meets (Builtin.«list.extend» ⟨[.ref l, .ref b], []⟩) (fun _ R s => s.heap.get? l = some { cls := .type "list", dict := none, data := .seq items n, slots := #[] } ∧ s.heap.get? b = some { cls := .type "tuple", dict := od, data := .seq items2 n2, slots := sl } ∧ R (.ok (.ret Value.none)) { s with heap := s.heap.update l (Obj.mapSeq fun x => x ++ items2), toks := s.toks }) :=
  .of_wp fun prog w A R s h => by
    obtain ⟨hp, g, d, tk, os⟩ := s; obtain ⟨hl, hb, h⟩ := h; have f1 := AutoSeq1.idx_int; have f2 := AutoSeq1.sub_tuple_tuple; have f3 := AutoSeq1.sub_list_list; have f4 := AutoSeq1.sub_tuple_list; have f5 := AutoSeq1.sub_list_tuple;
    have hz' : (items ++ items2).size ≤ sizeLine + 1 := by rw [Array.size_append]; exact hs2
    wp_walk using (wpAny_updateSeq hl rfl (hz := hs1) (_hz' := hz')), AutoSeq1.wpAny_loadPart' hl, AutoSeq1.wpAny_loadPart' hb; exact ⟨_, rfl, h⟩
theorem mt_extendT {X : Cx} : MtM X "list.extend" rExtendT := by
  intro pins s σ H x vs v us Q I rx rv h
  obtain ⟨l, b, xs, zs, rfl, rfl, hH, hB, hz, q⟩ := h
  cases rx
  obtain ⟨u, rfl, ru⟩ := rv.one
  cases ru
  obtain ⟨z, its, n, r, hl, e⟩ := I.lstM hH
  obtain ⟨its2, r2, ⟨o2, e2, c2, n2, d2⟩, z2⟩ := I.tuple (SqT.of hB)
  obtain ⟨cl2, od2, da2, sl2⟩ := o2
  cases c2
  cases d2
  have hl2 := r2.length
  have hsz : its.toArray.size + its2.toArray.size ≤ sizeLine := by rw [List.size_toArray, List.size_toArray]; omega
  have hlong : ¬ (!its.toArray.isEmpty && Builtin.List.listTooLong (its.toArray.size + its2.toArray.size)) = true := by
    rw [notLongL hsz, Bool.and_false]
    exact Bool.false_ne_true
  refine call_meets F.slot_list_extend ⟨_, e, rfl⟩ F.entry_list_extend (F.args_list_extend_2 _ _)
    (list_extend_tupO l its.toArray n b od2 sl2 its2.toArray n2 hlong (by rw [List.size_toArray]; omega) (by omega)) ⟨e, e2, ?_⟩
  refine ⟨.non, _, I.lset (its' := its ++ its2) hH e (by simp) (r.append r2) ?_, rfl, q⟩
  rw [List.length_append]
  omega
section
variable {P : Program} {w : World} {K : PySem.W.Frag} {mg : Str → Option Value} {base : Heap}
/-- a def whose last parameter is starred, by its body -/
theorem Fun.star {x qual pv : Str} {st : Stmt} {f : Addr} {fd : FuncData} {N ps : List Str} {k : Nat} {sp : Sp} (F : Fun K x qual st f fd) (S : FnScope N (ps ++ [pv]) (defScope st))
    (hb : ∀ (kV doc pm : Value) (an : Option Addr) (cdv ct : Value) (us rest : List Value), us.length = ps.length → bindArgs (PySem.W.fnOf x qual (defArgs st) (defBody st) (defScope st) .none kV doc pm an cdv ct) ⟨us ++ rest, []⟩ = (newTuple rest >>= fun t => pure (ps.zip us ++ [(pv, t)])))
    (hbody : ∀ (cdv : Value) (A : Around) (outer : List Env) (s : Shared) (H : Hp) (vs : List V) (Q : VK) (E : XK), Room k (A.deeper (envOfC qual (defScope st) s.heap.objs.size f cdv)) → sp vs H Q E →
      ∃ t, PSs (cxOf (L2.CX P w) P w K mg base N qual (defScope st) f cdv A outer s H E) (defBody st) t ∧ t { nx := fun _ H' => Q .non H', rt := Q } (start N vs) H) :
    FnR P w K mg base (L2.CX P w) (k + 1) f (fun vs H Q E => ∃ ws rest, vs = ws ++ rest ∧ ws.length = ps.length ∧ rest.length ≤ sizeLine ∧ ∀ p, H p = Option.none → sp (ws ++ [V.ref p]) (upd H p (.tup rest)) Q E) := by
  obtain ⟨oc, od, kV, doc, pm, an, cdv, ct, osl, rfl, lk, hcd⟩ := F.ex
  exact StX.fn_star lk hcd S StX.cxUp (hb kV doc pm an cdv ct) fun A outer s H vs Q E hr hsp => hbody cdv A outer s H vs Q E hr hsp
end
section
variable {X : Cx} {CX : CXT} {k : Nat} {f C : Addr} {fd : FuncData} {ps : List Str} {sp : Sp} {E : L2.St → XK} {o : Expr} {pos apos : Pos} {td : TE} {m : Str}
theorem run_fnRS {pins : List (Addr × Obj)} {σ : L2.St} {H : Hp} {s : Shared} {Q : VK} {us : List Value} {vs : List V} (F : FnR X.prog X.w X.K X.mg X.base CX k f sp) (hr : Room k X.A) (hx : PassesAt CX X σ (E σ))
    (I : Inv X pins σ H s) (r : Vals vs us) (h : sp vs H Q (E σ)) : wpAny (model X.prog X.w) X.A (call (.ref f) us) (EP X pins σ Q) X.xe s := by
  refine wpAny_call (codeAny_mono (F X.A X.stack s H us vs Q (E σ) hr I.env0 r h) fun r s' hq => ?_)
  cases r with
  | error e => exact hx pins H s e s' I hq
  | ok fl =>
    cases fl with
    | ret u => exact I.after hq
    | next => exact False.elim hq
    | brk => exact False.elim hq
    | cont => exact False.elim hq
theorem pe_methRX {e : Expr} {es : List Expr} {t : TA} {pl : Sem Bool} (he : PE X o td) (c : Cls X.K C) (hm : Meth X.K C m f) (F : FnR X.prog X.w X.K X.mg X.base CX k f sp) (hr : Room k X.A) (hx : ∀ σ, PassesAt CX X σ (E σ)) (ha : PA X (e :: es) t)
    (hst : starEach (e :: es) X.env = (false, eval e X.env) :: starEach es X.env := by rfl) (hpl : (backTo pos (starEach es X.env)).any (·.1) = false := by rfl)
    (ht : eval (.Call (.Attribute o m apos) (e :: es) [] pos) X.env = (do
      let ov ← eval o X.env
      standAt apos.atName
      let (f, first) ← holding [ov] (getMethod ov m pl)
      callWith pos f first (backTo pos (starEach (e :: es) X.env)) (backToKw pos (keywordEach [] X.env))) := by rfl) :
    PE X (.Call (.Attribute o m apos) (e :: es) [] pos) (tMethX C m sp E td t) := by
  refine ⟨fun pins s σ H Q I h => ?_⟩
  refine PySem.W.methodCall_KW (pl := pl) (thn (he.run pins s σ H _ I h) fun u s1 ⟨x, H1, I1, rx, a, dx, fs, ex, ea, l, q⟩ => ?_) ht
  subst ex
  obtain rfl : u = Value.ref a := rx
  refine getmeth_ok I1 ea c hm l ?_
  refine PySem.W.callWith_K (first := [.ref a]) (h₀ := X.base) I.ok.mod.kin hm.kp (thn (ha.run pos pins s1 σ H1 _ I1 q) fun us s2 ⟨vs, H2, I2, r, q2⟩ => ⟨I2.kIn, ?_⟩) hst hpl
  exact run_fnRS (us := .ref a :: us) (vs := .ref a :: vs) F hr (hx σ) I2 (.cons rfl r) q2
theorem pe_methRX0 {pl : Sem Bool} (he : PE X o td) (c : Cls X.K C) (hm : Meth X.K C m f) (F : FnR X.prog X.w X.K X.mg X.base CX k f sp) (hr : Room k X.A) (hx : ∀ σ, PassesAt CX X σ (E σ))
    (ht : eval (.Call (.Attribute o m apos) [] [] pos) X.env = (do
      let ov ← eval o X.env
      standAt apos.atName
      let (f, first) ← holding [ov] (getMethod ov m pl)
      callWith pos f first (backTo pos (starEach [] X.env)) (backToKw pos (keywordEach [] X.env))) := by rfl) :
    PE X (.Call (.Attribute o m apos) [] [] pos) (tMethX C m sp E td tNil) := by
  refine ⟨fun pins s σ H Q I h => ?_⟩
  refine PySem.W.methodCall_KW (pl := pl) (thn (he.run pins s σ H _ I h) fun u s1 ⟨x, H1, I1, rx, a, dx, fs, ex, ea, l, q⟩ => ?_) ht
  subst ex
  obtain rfl : u = Value.ref a := rx
  refine getmeth_ok I1 ea c hm l ?_
  exact PySem.W.callWith_K0 (first := [.ref a]) I1.kIn hm.kp (run_fnRS (us := [.ref a]) (vs := [.ref a]) F hr (hx σ) I1 (.cons rfl .nil) q)
end
end L2
end
section
set_option Elab.async false
set_option autoImplicit false
set_option linter.all false
set_option maxRecDepth 100000
set_option maxHeartbeats 2000000
/-! len(o) by the class's own __len__ -/
namespace L2
open PySem PySem.Spec PyProof.Rows
section
variable {X : Cx} {CX : CXT} {k : Nat} {f C : Addr} {fd : FuncData} {ps : List Str} {sp : Sp} {E : XK}
def rLenOwn (C : Addr) (sp : Sp) (E : XK) : List V → Hp → VK → Prop := fun xs H Q => ∃ a dx fs, xs = [.ref a] ∧ H a = some (.ins C dx fs) ∧ sp [.ref a] H (fun v H1 => ∃ n : Int, v = .int n ∧ 0 ≤ n ∧ n < 2 ^ 63 ∧ Q (.int n) H1) E
theorem call_lenOwn (S : Spc X.K C "__len__" f) (F : FnOk X.prog X.w X.K X.mg X.base CX k f fd ps sp) (hr : Room (k + 1) X.A) (hb : Binds X.K fd ps []) (hx : Passes CX X E) : CallR X (.builtin "len") (rLenOwn C sp E) := by
  intro pins s σ H xs us Q I r h
  obtain ⟨a, dx, fs, rfl, ea, q⟩ := h
  obtain rfl := Vals.ref1 r
  obtain ⟨mA, J, _⟩ := ins_get I.hok ea
  obtain ⟨od, J, _⟩ := J.look
  obtain ⟨m, hF⟩ := I.fr
  refine PySem.W.len_K hF I.ok.mod.kin J S.find S.isf (wpAny_mono (run_own (us := [.ref a]) (vs := [.ref a]) F ⟨hr.in1, rfl⟩ hb (fun pins H s e s' => hx pins σ H s e s') I (.cons (show RelV (V.ref a) (Value.ref a) from rfl) .nil) q) (fun v s4 ⟨z, H4, I4, rz, n, ez, h0, h1, q4⟩ => ?_) fun _ _ z => z)
  subst ez
  obtain ⟨t, rfl⟩ := rz
  exact ⟨⟨h0, h1⟩, .int n, H4, I4.tok _, ⟨_, rfl⟩, q4⟩
end
end L2
end
section
set_option Elab.async false
set_option autoImplicit false
set_option linter.all false
set_option maxRecDepth 100000
set_option maxHeartbeats 2000000
/-! readings: _law_same of data, properties, own len and in, dict fields -/
namespace LawC
open PySem PySem.Spec PyProof.Rows L2 PySem.OxE
theorem dpA_strs {K : PySem.W.Frag} {H : Hp} : ∀ us : List Str, DpAll K H (us.map V.str) (us.map PyData.str)
  | [] => .nil
  | u :: us => .cons (.str u) (dpA_strs us)
theorem dp_strs {K : PySem.W.Frag} {H : Hp} {a : Addr} {us : List Str} (h : H a = some (.lst (us.map V.str))) : Dp K H (.ref a) (.list (us.map PyData.str)) := .lst (SqL.of h) (dpA_strs us)
theorem depA_strs : ∀ us : List Str, depAll (us.map PyData.str) = 0
  | [] => rfl
  | u :: us => by
    rw [List.map_cons]
    unfold depAll
    rw [depA_strs us]
    rfl
theorem okA_strs : ∀ us : List Str, okDAll (us.map PyData.str) = true
  | [] => rfl
  | u :: us => by
    rw [List.map_cons]
    unfold okDAll
    rw [okA_strs us]
    rfl
theorem dep_strs (us : List Str) : dep (.list (us.map PyData.str)) ≤ 1 := by
  unfold dep
  rw [depA_strs]
  exact Nat.le_refl 1
theorem ok_strs {us : List Str} (h : us.length ≤ 1000) : okD (.list (us.map PyData.str)) = true := by
  unfold okD
  rw [okA_strs, List.length_map, decide_eq_true h]
  rfl
theorem SrcAt.new {H : Hp} {p l : Addr} {t : Int} {o : HO} (s : SrcAt H p t) (hl : H l = none) : SrcAt (upd H l o) p t := by
  obtain ⟨⟨d, m, h, r⟩, t0⟩ := s
  exact ⟨⟨d, m, Same.new hl _ _ h, r⟩, t0⟩
theorem SrcAt.ne {H : Hp} {p l : Addr} {t : Int} (s : SrcAt H p t) (hl : H l = none) : p ≠ l := by
  obtain ⟨⟨d, m, h, r⟩, t0⟩ := s
  exact ne_of_none h hl
theorem SrcAt.same {H H' : Hp} {p : Addr} {t : Int} (s : SrcAt H p t) (e : Same H H') : SrcAt H' p t := by
  obtain ⟨⟨d, m, h, r⟩, t0⟩ := s
  exact ⟨⟨d, m, e _ _ h, r⟩, t0⟩
theorem SrcAt.lst {H : Hp} {p : Addr} {t : Int} (s : SrcAt H p t) : ∃ xs, H p = some (.lst xs) := by
  obtain ⟨⟨d, m, h, _⟩, _⟩ := s
  exact ⟨_, h⟩
theorem _root_.L2.But.ofSame {p : Addr} {H H' : Hp} (e : Same H H') : But p H H' := fun b o _ h => e b o h
theorem _root_.L2.But.fresh {p d : Addr} {H H1 : Hp} {t : Int} (b : But p H H1) (hd : H1 d = none) (s : SrcAt H1 p t) : H d = none := by
  cases h : H d with
  | none => rfl
  | some o =>
    have := b d o (fun q => by rw [q] at hd; obtain ⟨xs, hx⟩ := SrcAt.lst s; rw [hx] at hd; cases hd) h
    rw [hd] at this
    cases this
def layS (u : Str) : Prop := (PyData.str u).canLay0 = true
theorem lay_strs : ∀ {us : List Str}, (∀ u ∈ us, layS u) → PyData.canLayAll0 (us.map PyData.str) = true
  | [], _ => by simp only [List.map_nil, PyData.canLayAll0]
  | u :: us, h => by
    have h1 : (PyData.str u).canLay0 = true := h u (by simp)
    rw [List.map_cons]
    unfold PyData.canLayAll0
    rw [h1, lay_strs (us := us) (fun v hv => h v (by simp [hv]))]
    rfl
theorem depthA_strs : ∀ us : List Str, PyData.depthAll (us.map PyData.str) = 0
  | [] => by simp only [List.map_nil, PyData.depthAll]
  | u :: us => by
    rw [List.map_cons]
    unfold PyData.depthAll
    rw [depthA_strs us]
    unfold PyData.depth
    rfl
theorem sh_strs {us : List Str} (h : ∀ u ∈ us, layS u) : SeqAt.shaped (.list (us.map PyData.str)) = true := by
  unfold SeqAt.shaped
  rw [show PyData.canLay0 (.list (us.map PyData.str)) = true from by unfold PyData.canLay0; exact lay_strs h]
  unfold PyData.depth
  rw [depthA_strs]
  rfl
theorem eqv_nil {us : List Str} : PyData.eqv (.list (us.map PyData.str)) (.list []) = decide (us.length = 0) := by
  cases us <;> rfl
section
variable {K : PySem.W.Frag} {σ : L2.St} {H : Hp} {te tb : TE}
theorem ev_eqDE {ta : TE} {v : V} {d e : PyData} {b : Bool} (ha : Evl.Ev ta σ H v) (hb : EvD K tb σ H e) (dv : Dp K H v d) (sx : SeqAt.shaped d = true) (sy : SeqAt.shaped e = true) (h : PyData.eqv d e = b) : Evl.Ev (tOp (rEqD K) ta tb) σ H (.bl b) := fun H1 e1 Q q =>
  ha H1 e1 _ fun H2 e2 => hb H2 (e1.trans e2) _ fun u H3 e3 du => ⟨d, e, (dv.mono ((e1.trans e2).trans e3)), du, sx, sy, by rw [h]; exact q H3 (e2.trans e3)⟩
theorem ev_neDE {ta : TE} {v : V} {d e : PyData} {b : Bool} (ha : Evl.Ev ta σ H v) (hb : EvD K tb σ H e) (dv : Dp K H v d) (sx : SeqAt.shaped d = true) (sy : SeqAt.shaped e = true) (h : PyData.eqv d e = b) : Evl.Ev (tOp (rNeD K) ta tb) σ H (.bl (!b)) := fun H1 e1 Q q =>
  ha H1 e1 _ fun H2 e2 => hb H2 (e1.trans e2) _ fun u H3 e3 du => ⟨d, e, (dv.mono ((e1.trans e2).trans e3)), du, sx, sy, by rw [h]; exact q H3 (e2.trans e3)⟩
/-- a list of texts != [] -/
theorem ev_neNil {i : Nat} {a : Addr} {us : List Str} (h : σ[i]? = some (some (.ref a))) (ha : H a = some (.lst (us.map V.str))) (hl : ∀ u ∈ us, layS u) : Evl.Ev (tOp (rNeD K) (tVar i) (tLst tNil)) σ H (.bl (!decide (us.length = 0))) :=
  ev_neDE (e := .list []) (Evl.ev_var h) (evd_lst evds_nil (by simp)) (dp_strs ha) (sh_strs hl) rfl eqv_nil
/-- a list of texts == [] -/
theorem ev_eqNil {i : Nat} {a : Addr} {us : List Str} (h : σ[i]? = some (some (.ref a))) (ha : H a = some (.lst (us.map V.str))) (hl : ∀ u ∈ us, layS u) : Evl.Ev (tOp (rEqD K) (tVar i) (tLst tNil)) σ H (.bl (decide (us.length = 0))) :=
  ev_eqDE (e := .list []) (Evl.ev_var h) (evd_lst evds_nil (by simp)) (dp_strs ha) (sh_strs hl) rfl eqv_nil
end
section
variable {K : PySem.W.Frag} {σ : L2.St} {H : Hp} {ta tb te : TE}
theorem ev_same {n : Nat} {d : PyData} (ha : EvD K ta σ H d) (hb : EvD K tb σ H d) (hd : dep d ≤ n := by exact Nat.zero_le _) (ho : okD d = true := by rfl) : Evl.Ev (tCall (spSame K n) [] E0 (tCons ta (tCons tb tNil))) σ H (.bl true) := fun H1 e1 Q q =>
  ha H1 e1 _ fun v H2 e2 hv => hb H2 (e1.trans e2) _ fun u H3 e3 hu => ⟨v, u, d, rfl, hv.mono e3, hu, hd, ho, fun H4 e4 => q H4 ((e2.trans e3).trans e4)⟩
/-- not _law_same(..): false -/
theorem et_nsame {n : Nat} {d : PyData} (ha : EvD K ta σ H d) (hb : EvD K tb σ H d) (hd : dep d ≤ n := by exact Nat.zero_le _) (ho : okD d = true := by rfl) : Evl.EvT (tNot (tB (tCall (spSame K n) [] E0 (tCons ta (tCons tb tNil))))) σ H false :=
  Evl.et_is (Evl.et_not (a := true) (Evl.et_B (ev_same ha hb hd ho))) rfl
theorem ev_prop {C x dx : Addr} {fs : List (Str × V)} {sp : Sp} {E : XK} {v : V} (h : Evl.Ev te σ H (.ref x)) (hx : H x = some (.ins C dx fs)) (hs : Evl.SpV sp [.ref x] H v) : Evl.Ev (tProp C sp [] E te) σ H v := fun H1 e1 Q q =>
  h H1 e1 _ fun H2 e2 => ⟨x, dx, fs, rfl, e2 _ _ (e1 _ _ hx), hs H2 (e1.trans e2) Q (fun H3 e3 => q H3 (e2.trans e3)) E⟩
theorem ev_lenOwn {C x dx : Addr} {fs : List (Str × V)} {sp : Sp} {E : XK} {n : Nat} (h : Evl.Ev te σ H (.ref x)) (hx : H x = some (.ins C dx fs)) (hn : (n : Int) < 2 ^ 63) (hs : Evl.SpV sp [.ref x] H (.int n)) : Evl.Ev (tCB (rLenOwn C sp E) (tCons te tNil)) σ H (.int n) := fun H1 e1 Q q =>
  h H1 e1 _ fun H2 e2 => ⟨x, dx, fs, rfl, e2 _ _ (e1 _ _ hx), hs H2 (e1.trans e2) _ (fun H3 e3 => ⟨n, rfl, Int.natCast_nonneg n, hn, q H3 (e2.trans e3)⟩) E⟩
theorem rv_inOwn {C x dx : Addr} {fs : List (Str × V)} {sp : Sp} {E : XK} {z : V} {b : Bool} (hx : H x = some (.ins C dx fs)) (hs : Evl.SpV sp [.ref x, z] H (.bl b)) : Evl.RV (rInOwn C sp E false) z (.ref x) H (.bl b) := fun H1 e1 Q q =>
  ⟨x, dx, fs, rfl, e1 _ _ hx, hs H1 e1 _ (fun H2 e2 => ⟨b, rfl, q H2 e2⟩) E⟩
theorem ev_dfld {a : Addr} {kvs : List (Key × V)} {u : Str} {v : V} (h : Evl.Ev te σ H (.ref a)) (hd : H a = some (.dK kvs)) (l : valV kvs (.inr u) = some v) : Evl.Ev (tDGet te (tC (.str u))) σ H v := fun H1 e1 Q q =>
  h H1 e1 _ fun H2 e2 => ⟨a, v, rfl, by rw [← l]; exact DGet.k (k := .inr u) (e2 _ _ (e1 _ _ hd)), q H2 e2⟩
theorem evd_L {us : List Str} (h : Evl.EvL te σ H (us.map V.str)) : EvD K te σ H (.list (us.map PyData.str)) := fun H1 e1 Q q => h H1 e1 _ fun p H2 _ e2 h2 => q (.ref p) H2 e2 (dp_strs h2)
theorem el_meth0 {C x dx : Addr} {fs : List (Str × V)} {m : Str} {sp : Sp} {E : XK} {xs : List V} (h : Evl.Ev te σ H (.ref x)) (hx : H x = some (.ins C dx fs)) (l : fs.lookup m = none) (hs : Evl.SpL sp [.ref x] H xs) : Evl.EvL (tMeth C m sp [] E te tNil) σ H xs := fun H1 e1 Q q =>
  h H1 e1 _ fun H2 e2 => ⟨x, dx, fs, rfl, e2 _ _ (e1 _ _ hx), l, hs H2 (e1.trans e2) _ (fun p H3 hp e3 h3 => q p H3 (Evl.fresh_back e2 hp) (e2.trans e3) h3) E⟩
end
end LawC
end
section
set_option Elab.async false
set_option autoImplicit false
set_option linter.all false
set_option maxRecDepth 100000
set_option maxHeartbeats 2000000
/-! functions of a client and their flow, as plain Lean; how they stand in the heap -/
namespace PySem.Fl
open PySem PySem.Spec PyProof.Rows L2 PySem.OxE LawC
structure Fn where
  lists : List Str
  rows : List Str
  words : List Str
  names : List (Option Str)
  tries : List (Option Int)
  openers : List (Option Nat)
  middles : List (Nat × Option Nat)
  ends : List (Nat × Nat)
def passedW : List Str := ["try", "finally", "rescue", "shield", "else"]
def waitingW : List Str := ["read", "head", "body", "finish", "pause"]
abbrev Ev := Str × Nat
structure Spot where
  row : Nat
  tries : List Int
  events : List Ev
structure RSt where
  spot : Spot
  rounds : List (Nat × Int)
  mark : Str
  owed : Int
  asked : Int
  taken : Int
/-- d[k] = v -/
def put {α : Type} (l : List (Nat × α)) (k : Nat) (v : α) : List (Nat × α) := if (l.any fun p => decide (p.1 = k)) = true then l.map (fun p => if p.1 = k then (p.1, v) else p) else l ++ [(k, v)]
/-- dict(pairs) -/
def dOf (ps : List (Nat × Int)) : List (Nat × Int) := ps.foldl (fun d p => put d p.1 p.2) []
namespace Fn
variable (F : Fn)
def mid (b : Nat) : Option (Option Nat) := F.middles.lookup b
def fin (b : Nat) : Option Nat := F.ends.lookup b
def isStep (r : Nat) : Option Bool := do
  let w ← F.words[r]?
  if w = "end" then
    let o ← F.openers[r]?
    let o ← o
    let v ← F.words[o]?
    pure (decide (v = "each"))
  else pure (!decide (w ∈ passedW))
def isInside (r b : Nat) : Option Bool := do
  let e ← F.fin b
  if b < r ∧ r < e then pure true
  else if r = e then
    let w ← F.words[b]?
    pure (decide (w = "each"))
  else pure false
def isGuarded (r b : Nat) : Option Bool :=
  if b < r then do
    let m ← F.mid b
    let m ← m
    pure (decide (r < m))
  else pure false
/-- the blocks around, from the innermost outwards, as far as k -/
def chain : Nat → Option Nat → Option (List Nat)
  | _, none => some []
  | 0, some _ => none
  | k + 1, some b => do
    let _ ← F.words[b]?
    let o ← F.openers[b]?
    let r ← chain k o
    pure (b :: r)
inductive Ch : Option Nat → List Nat → Prop
  | nil : Ch none []
  | cons {b : Nat} {w : Str} {o : Option Nat} {bs : List Nat} : F.words[b]? = some w → F.openers[b]? = some o → Ch o bs → Ch (some b) (b :: bs)
theorem chain_ch : ∀ {k : Nat} {o : Option Nat} {bs : List Nat}, F.chain k o = some bs → F.Ch o bs
  | k, none, bs, h => by
    have : bs = [] := by cases k <;> (unfold chain at h; cases h; rfl)
    subst this
    exact .nil
  | 0, some b, bs, h => by unfold chain at h; cases h
  | k + 1, some b, bs, h => by
    unfold chain at h
    obtain ⟨w, hw, h⟩ := Option.bind_eq_some_iff.mp h
    obtain ⟨o, ho, h⟩ := Option.bind_eq_some_iff.mp h
    obtain ⟨r, hr, h⟩ := Option.bind_eq_some_iff.mp h
    cases h
    exact .cons hw ho (chain_ch hr)
def around (r : Nat) : Option (List Nat) := do
  let o ← F.openers[r]?
  F.chain F.words.length o
def wordIs (u : Str) (b : Nat) : Bool := decide (F.words[b]? = some u)
def isShielded (r : Nat) : Option Bool := do
  let bs ← F.around r
  pure (bs.any (F.wordIs "shield"))
def loopOf (r : Nat) : Option (Option Nat) :=
  if F.words.length ≤ r then some none else do
    let bs ← F.around r
    pure (bs.find? (F.wordIs "each"))
def retriesOf (r : Nat) : Option (List Nat) :=
  if F.words.length ≤ r then some [] else do
    let o ← F.openers[r]?
    let bs ← F.chain (F.words.length + 1) (if F.wordIs "retry" r then some r else o)
    pure (bs.filter (F.wordIs "retry")).reverse
def numbersOf (s : Spot) : Option (List (Nat × Int)) := do
  let rs ← F.retriesOf s.row
  if rs.length = s.tries.length then pure (dOf (rs.zip s.tries)) else none
def target (r : Nat) (move : Str) : Option Nat := do
  let w ← F.words[r]?
  if move = "item" then
    if w = "end" then do
      let o ← F.openers[r]?
      let o ← o
      pure (o + 1)
    else pure (r + 1)
  else if move = "over" then
    if w = "end" then pure (r + 1) else do
      let e ← F.fin r
      pure (e + 1)
  else if move = "no" then do
    let m ← F.mid r
    match m with
    | none => F.fin r
    | some m => pure (m + 1)
  else pure (r + 1)
def movesOf (r : Nat) : Option (List Str) := do
  let w ← F.words[r]?
  if w = "each" ∨ w = "end" then pure ["item", "over"]
  else if w = "maybe" then pure ["no", "yes"]
  else if w = "check" then pure ["fail", "go"]
  else if w ∈ waitingW then do
    let s ← F.isShielded r
    pure (if s then ["go"] else ["cut", "go"])
  else pure ["go"]
/-- leave: the events that are kept where a retry takes a failure -/
def kept (b : Nat) : List Ev → Option (List Ev)
  | [] => some []
  | e :: es => do
    let i ← F.isInside e.2 b
    let r ← kept b es
    pure (if i then r else e :: r)
def leaveF (kind : Str) (numbers : List (Nat × Int)) (events : List Ev) : Nat → Nat → Option Nat → Option (Nat × Int × List Ev)
  | _, _, none => some (F.words.length, 0, events)
  | 0, _, some _ => none
  | k + 1, inner, some b =>
    (F.words[b]?).bind fun w =>
    (if w = "try" then F.isGuarded inner b else some false).bind fun g =>
    (if g = true then (F.mid b).bind id else some 0).bind fun m =>
    (if g = true then (if kind ≠ "return" then some true else (F.words[m]?).bind fun wm => some (decide (wm = "finally"))) else some false).bind fun hit =>
    if hit = true then some (m + 1, 0, events) else
    (if w = "retry" ∧ kind = "fail" then numbers.lookup b else some 0).bind fun n =>
    (if w = "retry" ∧ kind = "fail" then (F.tries[b]?).bind id else some 0).bind fun t =>
    if w = "retry" ∧ kind = "fail" ∧ n < t then (F.kept b events).bind fun ks => some (b, n + 1, ks)
    else (F.openers[b]?).bind fun o => leaveF kind numbers events k b o
def leave (inner : Nat) (numbers : List (Nat × Int)) (events : List Ev) : Option (Nat × Int × List Ev) := do
  let e ← events.getLast?
  let o ← F.openers[inner]?
  F.leaveF e.1 numbers events (F.words.length + 1) inner o
/-- the row behind a row that is no step; none within: the last event leaves there -/
def passed (r : Nat) (events : List Ev) : Option (Option Nat) := do
  let w ← F.words[r]?
  let o ← F.openers[r]?
  if w = "else" ∨ w = "rescue" then do
    let o ← o
    let e ← F.fin o
    pure (some (e + 1))
  else if w = "end" then do
    let o ← o
    let v ← F.words[o]?
    match decide (v = "try"), events.getLast? with
    | true, some ev => do
      let g ← F.isGuarded ev.2 o
      pure (if g then none else some (r + 1))
    | _, _ => pure (some (r + 1))
  else pure (some (r + 1))
def settleF (numbers : List (Nat × Int)) : Nat → Nat → Int → List Ev → Option (Nat × Int × List Ev)
  | 0, _, _, _ => none
  | k + 1, r, again, events =>
    if F.words.length ≤ r then some (r, again, events) else do
      let s ← F.isStep r
      if s then pure (r, again, events)
      else do
        let f ← F.passed r events
        match f with
        | some f => settleF numbers k f 0 events
        | none => do
          let o ← F.openers[r]?
          let o ← o
          let p ← F.leave o numbers events
          settleF numbers k p.1 p.2.1 p.2.2
def triesAt (numbers : List (Nat × Int)) (r : Nat) (again : Int) : List Nat → Option (List Int)
  | [] => some []
  | b :: bs => (if b = r then some (if again > 1 then again else 1) else numbers.lookup b).bind fun n => (triesAt numbers r again bs).bind fun ns => some (n :: ns)
def settled (numbers : List (Nat × Int)) (p : Nat × Int × List Ev) : Option Spot := do
  let p ← F.settleF numbers 100 p.1 p.2.1 p.2.2
  let bs ← F.retriesOf p.1
  let ts ← triesAt numbers p.1 p.2.1 bs
  pure ⟨p.1, ts, p.2.2⟩
def firstSpot : Option Spot := F.settled [] (0, 0, [])
def nextSpot (s : Spot) (move : Str) : Option Spot := do
  let numbers ← F.numbersOf s
  (if move = "cut" ∨ move = "fail" then F.leave s.row numbers (s.events ++ [(move, s.row)])
    else (F.words[s.row]?).bind fun w =>
      if w = "return" then F.leave s.row numbers (s.events ++ [(("return" : Str), s.row)])
      else (F.target s.row move).bind fun t => some (t, 0, s.events)).bind fun p => F.settled numbers p
/-- the rows in order, each once -/
def dedupSort (ls : List Nat) (n : Nat) : List Nat := (List.range n).filter (· ∈ ls)
def loopsOf : List Nat → Option (List (Option Nat))
  | [] => some []
  | r :: rs => do
    let l ← F.loopOf r
    let ls ← loopsOf rs
    pure (l :: ls)
def liveLoops (s : Spot) : Option (List Nat) := do
  let ls ← F.loopsOf (s.row :: s.events.map (·.2))
  pure (dedupSort (ls.filterMap id) F.words.length)
def wayOf (s : Spot) : Option (List Ev) := if s.row < F.words.length then none else some (match s.events.getLast? with | some e => [e] | none => [])
end Fn
/-! marks -/
def LW : List Str := ["ask", "begin", "finish", "read", "head", "body"]
def isOut (m : Str) : Bool := decide (m = "out") || decide (m = "both")
def isIn (m : Str) : Bool := decide (m = "in") || decide (m = "both")
def markOf (a b : Bool) : Str := if a && b then "both" else if a then "out" else if b then "in" else "whole"
def amid (w m : Str) : Bool := if decide (w = "ask") || decide (w = "begin") then isOut m else if w = "finish" then !isOut m else if decide (w = "read") || decide (w = "head") then isIn m else if w = "body" then !isIn m else false
def fault (w m : Str) (n : Int) : Option Str := if w ∉ LW then none else if m = "closed" then some "closed" else if amid w m then some "amid" else if (decide (w = "read") || decide (w = "head")) && decide (n < 1) then some "starved" else none
def after (w m : Str) : Str := if decide (m = "closed") || decide (w = "close") then "closed" else if w = "begin" then markOf true (isIn m) else if w = "finish" then markOf false (isIn m) else if w = "head" then markOf (isOut m) true else if decide (w = "body") || decide (w = "drain") then markOf (isOut m) false else m
def change (w : Str) : Int := if decide (w = "ask") || decide (w = "finish") then 1 else if decide (w = "read") || decide (w = "body") then -1 else 0
def resets (w : Str) : Bool := decide (w = "drain") || decide (w = "close")
def mx (c : Int) : Int := if c > 0 then c else 0
/-! motion -/
namespace Fn
variable (F : Fn)
def firstState (m : Str) (n : Int) : Option RSt := do
  let s ← F.firstSpot
  pure ⟨s, [], m, n, 0, 0⟩
def possible (ls : List (Str × Int)) (s : RSt) : Option (List Str) :=
  if s.spot.row = F.words.length then some [] else do
    let w ← F.words[s.spot.row]?
    if w = "each" then do
      let n ← F.names[s.spot.row]?
      let n ← n
      let l ← ls.lookup n
      pure [if l > 0 then "item" else "over"]
    else if w = "end" then do
      let o ← F.openers[s.spot.row]?
      let o ← o
      let d ← (dOf s.rounds).lookup o
      let n ← F.names[o]?
      let n ← n
      let l ← ls.lookup n
      pure [if d + 1 < l then "item" else "over"]
    else F.movesOf s.spot.row
def faultOf (s : RSt) (move : Str) : Option (Option Str) :=
  if move ≠ "go" then some none else do
    let w ← F.words[s.spot.row]?
    if w = "retry" then pure (if decide (s.mark = "closed") || (decide (s.mark = "whole") && decide (s.owed = 0)) then none else some "stale")
    else pure (fault w s.mark s.owed)
def roundsD (s : RSt) (move : Str) : Option (List (Nat × Int)) :=
  if move = "item" then do
    let w ← F.words[s.spot.row]?
    if w = "each" then pure (put (dOf s.rounds) s.spot.row 0)
    else do
      let o ← F.openers[s.spot.row]?
      let o ← o
      let n ← (dOf s.rounds).lookup o
      pure (put (dOf s.rounds) o (n + 1))
  else pure (dOf s.rounds)
def roundsAfter (s : RSt) (move : Str) (sp : Spot) : Option (List (Nat × Int)) := do
  let d ← F.roundsD s move
  let ls ← F.liveLoops sp
  pure (ls.map fun l => (l, (d.lookup l).getD 0))
def stateAfter (s : RSt) (move : Str) : Option RSt := do
  let sp ← F.nextSpot s.spot move
  let rs ← F.roundsAfter s move sp
  if move ≠ "go" then pure { s with spot := sp, rounds := rs }
  else do
    let w ← F.words[s.spot.row]?
    pure ⟨sp, rs, after w s.mark, if resets w then 0 else s.owed + change w, s.asked + mx (change w), s.taken + mx (-change w)⟩
end Fn
/-! walks -/
structure Wk where
  F : Fn
  lens : List (Str × Int)
  st : RSt
  trail : List (Nat × Str)
  fault : Option Str
namespace Wk
variable (W : Wk)
def over : Bool := W.fault.isSome || decide (W.st.spot.row = W.F.words.length)
def choices : Option (List Str) := if W.over then some [] else W.F.possible W.lens W.st
def step (move : Str) : Option Wk := do
  let cs ← W.choices
  if move ∈ cs then do
    let f ← W.F.faultOf W.st move
    match f with
    | some u => pure { W with trail := W.trail ++ [(W.st.spot.row, move)], fault := some u }
    | none => do
      let s ← W.F.stateAfter W.st move
      pure { W with trail := W.trail ++ [(W.st.spot.row, move)], fault := none, st := s }
  else none
def way : Option (List Ev) := W.F.wayOf W.st.spot
def start (F : Fn) (ls : List (Str × Int)) : Option Wk := do
  let s ← F.firstState "whole" 0
  pure ⟨F, F.lists.map fun n => (n, (ls.lookup n).getD 0), s, [], none⟩
end Wk
/-! reading a function -/
def plainW : List Str := ["ask", "begin", "finish", "read", "head", "body", "pause", "check", "drain", "close", "return"]
def openingW : List Str := ["each", "maybe", "try", "shield", "retry"]
def middleW : List Str := ["else", "finally", "rescue"]
def letters : Str := "abcdefghijklmnopqrstuvwxyz"
def madeOf (u cs : Str) : Bool := !decide (u = "") && u.cps.toList.all fun c => decide (c ∈ cs.cps.toList)
def isName (u : Str) : Bool := decide (u.cps.size ≤ 3) && madeOf u letters
def isRow (ws : List Str) : Bool := match ws with
  | [a, b] => (decide (a = "each") && isName b) || (decide (a = "retry") && decide (b ∈ (["1", "2", "3"] : List Str)))
  | [a] => decide (a ∈ plainW ++ middleW ++ (["maybe", "try", "shield", "end"] : List Str))
  | _ => false
structure Rd where
  words : List Str
  stack : List Nat
  openers : List (Option Nat)
  middles : List (Nat × Nat)
  ends : List (Nat × Nat)
namespace Rd
variable (R : Rd)
def wordIs (u : Str) (b : Nat) : Bool := decide (R.words[b]? = some u)
def top : Option Nat := R.stack.getLast?
def openerWord : Option Str := R.top.bind fun o => R.words[o]?
def hasMid (o : Nat) : Bool := (R.middles.lookup o).isSome
def isSecond (o : Nat) : Bool := R.wordIs "try" o && R.hasMid o
def isRescue (o : Nat) : Bool := R.isSecond o && (match R.middles.lookup o with | some m => decide (R.words[m]? = some ("rescue" : Str)) | none => false)
def loopPlace : Option Nat := R.stack.findIdx? (R.wordIs "each")
def resetIn (word : Str) : List Nat → Bool
  | [] => false
  | o :: os => if decide (word = "close") && R.wordIs "retry" o then false else if R.isRescue o then true else resetIn word os
def mayReset (word : Str) : Bool := match R.loopPlace with
  | none => true
  | some p => R.resetIn word (R.stack.drop (p + 1))
def mayMiddle (word : Str) : Bool := match R.top with
  | none => false
  | some o => R.wordIs (if word = "else" then "maybe" else "try") o && !R.hasMid o
def mayOpen (word : Str) : Bool := if decide (R.stack.length ≥ 5) || (decide (word = "each") && R.loopPlace.isSome) then false
  else decide (word ≠ "retry") || decide ((R.stack.filter (R.wordIs "retry")).length < 2)
def fits (word : Str) : Bool :=
  if word ∈ middleW then R.mayMiddle word
  else if word ∈ openingW then R.mayOpen word
  else if word = "end" then (match R.top with | none => false | some o => !R.wordIs "try" o || R.hasMid o)
  else if word = "return" then !R.stack.any R.isSecond
  else (decide (word ≠ "drain") && decide (word ≠ "close")) || R.mayReset word
def take (word : Str) : Rd :=
  let row := R.words.length
  let R1 : Rd := { R with words := R.words ++ [word], openers := R.openers ++ [R.top] }
  if word ∈ openingW then { R1 with stack := R.stack ++ [row] }
  else if word ∈ middleW then (match R.top with | some o => { R1 with middles := put R.middles o row } | none => R1)
  else if word = "end" then (match R.top with | some o => { R1 with stack := R.stack.dropLast, ends := put R.ends o row } | none => R1)
  else R1
end Rd
def Rd.nil : Rd := ⟨[], [], [], [], []⟩
/-- the rows one after the other -/
def readAll : Rd → List (List Str) → Option Rd
  | R, [] => some R
  | R, ws :: rest => match ws with
    | [] => none
    | w :: _ => if isRow ws && R.fits w then readAll (R.take w) rest else none
end PySem.Fl
end
section
set_option Elab.async false
set_option autoImplicit false
set_option linter.all false
set_option maxRecDepth 100000
set_option maxHeartbeats 2000000
/-! how a function of a client stands in the heap; what is read of it; promises of the flow's defs -/
namespace PySem.Fl
open PySem PySem.Spec PyProof.Rows L2 PySem.OxE LawC
def oI : Option Nat → V
  | none => .non
  | some n => .int n
def oZ : Option Int → V
  | none => .non
  | some n => .int n
def oS : Option Str → V
  | none => .non
  | some u => .str u
structure FnC (K : PySem.W.Frag) (c : Addr) : Prop where
  cl : Cls K c
  n_lists : NoAttr K c "lists"
  n_rows : NoAttr K c "rows"
  n_words : NoAttr K c "words"
  n_names : NoAttr K c "names"
  n_tries : NoAttr K c "tries"
  n_openers : NoAttr K c "openers"
  n_middles : NoAttr K c "middles"
  n_ends : NoAttr K c "ends"
def fnF (tl tr tw tn tt to dm de : Addr) : List (Str × V) := [("lists", .ref tl), ("rows", .ref tr), ("words", .ref tw), ("names", .ref tn), ("tries", .ref tt), ("openers", .ref to), ("middles", .ref dm), ("ends", .ref de)]
def midK (F : Fn) : List (Key × V) := F.middles.map fun p => (.inl (p.1 : Int), oI p.2)
def endK (F : Fn) : List (Key × V) := F.ends.map fun p => (.inl (p.1 : Int), .int p.2)
/-- the function F at a -/
structure FnAt (K : PySem.W.Frag) (c : Addr) (H : Hp) (a : Addr) (F : Fn) (dx tl tr tw tn tt to dm de : Addr) : Prop where
  obj : H a = some (.ins c dx (fnF tl tr tw tn tt to dm de))
  lists : SqT K H tl (F.lists.map V.str)
  rows : SqT K H tr (F.rows.map V.str)
  words : SqT K H tw (F.words.map V.str)
  names : SqT K H tn (F.names.map oS)
  tries : SqT K H tt (F.tries.map oZ)
  openers : SqT K H to (F.openers.map oI)
  mids : H dm = some (.dK (midK F))
  ends : H de = some (.dK (endK F))
  small : F.words.length ≤ 60
def IsFn (K : PySem.W.Frag) (c : Addr) (H : Hp) (a : Addr) (F : Fn) : Prop := ∃ dx tl tr tw tn tt to dm de, FnAt K c H a F dx tl tr tw tn tt to dm de
theorem IsFn.same {K : PySem.W.Frag} {c : Addr} {H H' : Hp} {a : Addr} {F : Fn} (h : IsFn K c H a F) (s : Same H H') : IsFn K c H' a F := by
  obtain ⟨dx, tl, tr, tw, tn, tt, to, dm, de, h⟩ := h
  exact ⟨dx, tl, tr, tw, tn, tt, to, dm, de, s _ _ h.obj, Evl.ex_t s h.lists, Evl.ex_t s h.rows, Evl.ex_t s h.words, Evl.ex_t s h.names, Evl.ex_t s h.tries, Evl.ex_t s h.openers, s _ _ h.mids, s _ _ h.ends, h.small⟩
theorem IsFn.small {K : PySem.W.Frag} {c : Addr} {H : Hp} {a : Addr} {F : Fn} (h : IsFn K c H a F) : F.words.length ≤ 90000 := by
  obtain ⟨dx, tl, tr, tw, tn, tt, to, dm, de, h⟩ := h
  exact Nat.le_trans h.small (by decide)
theorem IsFn.few {K : PySem.W.Frag} {c : Addr} {H : Hp} {a : Addr} {F : Fn} (h : IsFn K c H a F) : F.words.length ≤ 60 := by
  obtain ⟨dx, tl, tr, tw, tn, tt, to, dm, de, h⟩ := h
  exact h.small
theorem chain_len {F : Fn} : ∀ {k : Nat} {o : Option Nat} {l : List Nat}, F.chain k o = some l → l.length ≤ k
  | k, none, l, h => by
    have : l = [] := by cases k <;> (unfold Fn.chain at h; cases h; rfl)
    subst this
    exact Nat.zero_le _
  | 0, some b, l, h => by unfold Fn.chain at h; cases h
  | k + 1, some b, l, h => by
    unfold Fn.chain at h
    obtain ⟨w, hw, h⟩ := Option.bind_eq_some_iff.mp h
    obtain ⟨o, ho, h⟩ := Option.bind_eq_some_iff.mp h
    obtain ⟨r, hr, h⟩ := Option.bind_eq_some_iff.mp h
    cases h
    exact Nat.succ_le_succ (chain_len hr)
theorem lookup_keys {α : Type} (f : α → V) : ∀ (l : List (Nat × α)) (b : Nat), valV (l.map fun p => ((.inl (p.1 : Int) : Key), f p.2)) (.inl (b : Int)) = (l.lookup b).map f
  | [], b => rfl
  | (k, x) :: l, b => by
    have ih := lookup_keys f l b
    unfold valV at ih ⊢
    rw [List.map_cons, List.find?_cons, List.lookup_cons]
    by_cases h : b = k
    · subst h
      simp
    · have h1 : decide (((.inl (k : Int) : Key)) = .inl (b : Int)) = false := by
        refine decide_eq_false fun e => h ?_
        injection e with e
        omega
      have h2 : (b == k) = false := by simpa using h
      rw [h1, h2]
      exact ih
section
variable {K : PySem.W.Frag} {c : Addr} {H : Hp} {a : Addr} {F : Fn} {σ : L2.St} {ta te : TE} {r : Nat}
theorem ev_tF {f : Str} {p : Addr} {xs : List V} {v : V} {dx tl tr tw tn tt to dm de : Addr} (hF : FnAt K c H a F dx tl tr tw tn tt to dm de) (C : FnC K c) (hn : NoAttr K c f) (ha : Evl.Ev ta σ H (.ref a)) (hl : (fnF tl tr tw tn tt to dm de).lookup f = some (.ref p)) (hp : SqT K H p xs) (hr : Evl.Ev te σ H (.int r)) (hx : xs[r]? = some v) :
    Evl.Ev (tOp (rIxT K) (tFld K ta f) te) σ H v :=
  Evl.ev_op (ev_fld ha hF.obj C.cl hn hl) hr (Evl.rv_ixT hp (atI_nat hx))
theorem ev_word {w : Str} (hF : IsFn K c H a F) (C : FnC K c) (ha : Evl.Ev ta σ H (.ref a)) (hr : Evl.Ev te σ H (.int r)) (hw : F.words[r]? = some w) : Evl.Ev (tOp (rIxT K) (tFld K ta "words") te) σ H (.str w) := by
  obtain ⟨dx, tl, tr, tw, tn, tt, to, dm, de, h⟩ := hF
  exact ev_tF h C C.n_words ha rfl h.words hr (by rw [List.getElem?_map, hw]; rfl)
theorem ev_opener {o : Option Nat} (hF : IsFn K c H a F) (C : FnC K c) (ha : Evl.Ev ta σ H (.ref a)) (hr : Evl.Ev te σ H (.int r)) (hw : F.openers[r]? = some o) : Evl.Ev (tOp (rIxT K) (tFld K ta "openers") te) σ H (oI o) := by
  obtain ⟨dx, tl, tr, tw, tn, tt, to, dm, de, h⟩ := hF
  exact ev_tF h C C.n_openers ha rfl h.openers hr (by rw [List.getElem?_map, hw]; rfl)
theorem ev_name {o : Option Str} (hF : IsFn K c H a F) (C : FnC K c) (ha : Evl.Ev ta σ H (.ref a)) (hr : Evl.Ev te σ H (.int r)) (hw : F.names[r]? = some o) : Evl.Ev (tOp (rIxT K) (tFld K ta "names") te) σ H (oS o) := by
  obtain ⟨dx, tl, tr, tw, tn, tt, to, dm, de, h⟩ := hF
  exact ev_tF h C C.n_names ha rfl h.names hr (by rw [List.getElem?_map, hw]; rfl)
theorem ev_try {o : Option Int} (hF : IsFn K c H a F) (C : FnC K c) (ha : Evl.Ev ta σ H (.ref a)) (hr : Evl.Ev te σ H (.int r)) (hw : F.tries[r]? = some o) : Evl.Ev (tOp (rIxT K) (tFld K ta "tries") te) σ H (oZ o) := by
  obtain ⟨dx, tl, tr, tw, tn, tt, to, dm, de, h⟩ := hF
  exact ev_tF h C C.n_tries ha rfl h.tries hr (by rw [List.getElem?_map, hw]; rfl)
theorem ev_dget {te tk : TE} {d : Addr} {kvs : List (Key × V)} {b : Nat} {v : V} (h : Evl.Ev te σ H (.ref d)) (hk : Evl.Ev tk σ H (.int b)) (hd : H d = some (.dK kvs)) (l : valV kvs (.inl (b : Int)) = some v) : Evl.Ev (tDGet te tk) σ H v := fun H1 e1 Q q =>
  h H1 e1 _ fun H2 e2 => hk H2 (e1.trans e2) _ fun H3 e3 => by
    have g := DGet.k (k := .inl (b : Int)) (e3 _ _ (e2 _ _ (e1 _ _ hd)))
    rw [l] at g
    exact ⟨d, _, rfl, g, q H3 (e2.trans e3)⟩
theorem ev_end {e : Nat} (hF : IsFn K c H a F) (C : FnC K c) (ha : Evl.Ev ta σ H (.ref a)) (hr : Evl.Ev te σ H (.int r)) (hw : F.fin r = some e) : Evl.Ev (tDGet (tFld K ta "ends") te) σ H (.int e) := by
  obtain ⟨dx, tl, tr, tw, tn, tt, to, dm, de, h⟩ := hF
  exact ev_dget (ev_fld ha h.obj C.cl C.n_ends rfl) hr h.ends ((lookup_keys (fun n : Nat => V.int n) F.ends r).trans (by rw [show F.ends.lookup r = some e from hw]; rfl))
theorem ev_mid {o : Option Nat} (hF : IsFn K c H a F) (C : FnC K c) (ha : Evl.Ev ta σ H (.ref a)) (hr : Evl.Ev te σ H (.int r)) (hw : F.mid r = some o) : Evl.Ev (tDGet (tFld K ta "middles") te) σ H (oI o) := by
  obtain ⟨dx, tl, tr, tw, tn, tt, to, dm, de, h⟩ := hF
  exact ev_dget (ev_fld ha h.obj C.cl C.n_middles rfl) hr h.mids ((lookup_keys oI F.middles r).trans (by rw [show F.middles.lookup r = some o from hw]; rfl))
theorem ev_lenW (hF : IsFn K c H a F) (C : FnC K c) (ha : Evl.Ev ta σ H (.ref a)) : Evl.Ev (tCB (fun xs H Q => ∃ x n, xs = [x] ∧ LenV K x H n ∧ Q (V.int n) H) (tCons (tFld K ta "words") tNil)) σ H (.int F.words.length) := by
  obtain ⟨dx, tl, tr, tw, tn, tt, to, dm, de, h⟩ := hF
  have := ev_lenT (ev_fld ha h.obj C.cl C.n_words rfl) h.words
  rw [List.length_map] at this
  exact this
end
theorem ev_notN {σ : L2.St} {H : Hp} {ta : TE} {v : V} (h : Evl.Ev ta σ H v) : Evl.Ev (tOp (fun x y H Q => y = V.non ∧ Q (V.bl (!decide (x = V.non))) H) ta (tC .non)) σ H (.bl (!decide (v = .non))) :=
  Evl.ev_op h Evl.ev_c fun H1 e Q q => ⟨rfl, q H1 (Evl.Ex.refl H1)⟩
def mapK {α : Type} (f : α → V) (ps : List (Nat × α)) : List (Key × V) := ps.map fun p => (.inl (p.1 : Int), f p.2)
theorem key_ne {a b : Nat} : decide (((.inl (a : Int) : Key)) = .inl (b : Int)) = decide (a = b) := by
  by_cases h : a = b
  · subst h; simp
  · rw [decide_eq_false h]
    refine decide_eq_false fun e => h ?_
    injection e with e
    omega
theorem putK_map {α : Type} (f : α → V) (ps : List (Nat × α)) (k : Nat) (v : α) : putK (mapK f ps) (.inl (k : Int)) (f v) = mapK f (put ps k v) := by
  unfold putK put mapK
  have h1 : ((ps.map fun p => ((.inl (p.1 : Int) : Key), f p.2)).any fun kv => decide (kv.1 = .inl (k : Int))) = ps.any fun p => decide (p.1 = k) := by
    rw [List.any_map]
    congr 1
    funext p
    exact key_ne
  rw [h1]
  by_cases h : (ps.any fun p => decide (p.1 = k)) = true
  · rw [if_pos h, if_pos h, List.map_map, List.map_map]
    refine List.map_congr_left fun p _ => ?_
    show (if ((.inl (p.1 : Int) : Key)) = .inl (k : Int) then ((.inl (p.1 : Int) : Key), f v) else (.inl (p.1 : Int), f p.2)) = ((.inl (((if p.1 = k then (p.1, v) else p) : Nat × α).1 : Int) : Key), f ((if p.1 = k then (p.1, v) else p) : Nat × α).2)
    by_cases e : p.1 = k
    · rw [if_pos e, if_pos (by rw [e])]
    · rw [if_neg e, if_neg (fun z => e (by injection z with z; omega))]
  · rw [if_neg h, if_neg h, List.map_append]
    rfl
theorem length_put {α : Type} (ps : List (Nat × α)) (k : Nat) (v : α) : (put ps k v).length ≤ ps.length + 1 := by
  unfold put
  by_cases h : (ps.any fun p => decide (p.1 = k)) = true
  · rw [if_pos h, List.length_map]; omega
  · rw [if_neg h, List.length_append]; exact Nat.le_refl _
/-- the class of readers -/
structure RdC (K : PySem.W.Frag) (c : Addr) : Prop where
  cl : Cls K c
  n_words : NoAttr K c "words"
  n_stack : NoAttr K c "stack"
  n_openers : NoAttr K c "openers"
  n_middles : NoAttr K c "middles"
  n_ends : NoAttr K c "ends"
def rdF (lw ls lo dm de : Addr) : List (Str × V) := [("words", .ref lw), ("stack", .ref ls), ("openers", .ref lo), ("middles", .ref dm), ("ends", .ref de)]
def natV (n : Nat) : V := .int (n : Int)
structure RdAt (c : Addr) (H : Hp) (x : Addr) (R : Rd) (dx lw ls lo dm de : Addr) : Prop where
  obj : H x = some (.ins c dx (rdF lw ls lo dm de))
  words : H lw = some (.lst (R.words.map V.str))
  stack : H ls = some (.lst (R.stack.map natV))
  openers : H lo = some (.lst (R.openers.map oI))
  mids : H dm = some (.dK (mapK natV R.middles))
  ends : H de = some (.dK (mapK natV R.ends))
/-- the class of walks -/
structure WkC (K : PySem.W.Frag) (c : Addr) : Prop where
  cl : Cls K c
  n_function : NoAttr K c "function"
  n_lengths : NoAttr K c "lengths"
  n_state : NoAttr K c "state"
  n_trail : NoAttr K c "trail"
  n_fault : NoAttr K c "fault"
/-! the data of a run -/
def evD (e : Ev) : PyData := .tuple [.str e.1, .int e.2]
def evsD (es : List Ev) : PyData := .tuple (es.map evD)
def spotD (s : Spot) : PyData := .tuple [.int s.row, .tuple (s.tries.map .int), evsD s.events]
def rndD (rs : List (Nat × Int)) : PyData := .tuple (rs.map fun p => .tuple [.int p.1, .int p.2])
def stD (s : RSt) : PyData := .tuple [spotD s.spot, rndD s.rounds, .str s.mark, .int s.owed, .int s.asked, .int s.taken]
def placeD (p : Nat × Int × List Ev) : PyData := .tuple [.int p.1, .int p.2.1, evsD p.2.2]
def trD (t : List (Nat × Str)) : List PyData := t.map fun p => .tuple [.int p.1, .str p.2]
def numK (ns : List (Nat × Int)) : List (Key × V) := mapK V.int ns
def lenK (ls : List (Str × Int)) : List (Key × V) := ls.map fun p => (.inr p.1, .int p.2)
def wkF (f dl tr : Addr) (st fl : V) : List (Str × V) := [("function", .ref f), ("lengths", .ref dl), ("state", st), ("trail", .ref tr), ("fault", fl)]
structure WkAt (K : PySem.W.Frag) (cf c : Addr) (H : Hp) (x : Addr) (W : Wk) (dx f dl tr : Addr) (st : V) (ts : List V) : Prop where
  obj : H x = some (.ins c dx (wkF f dl tr st (oS W.fault)))
  fn : IsFn K cf H f W.F
  lens : H dl = some (.dK (lenK W.lens))
  state : Dp K H st (stD W.st)
  trail : H tr = some (.lst ts)
  trd : DpAll K H ts (trD W.trail)
/-! promises: a function and a row -/
abbrev QV := V → Hp → Prop
def spB (K : PySem.W.Frag) (c : Addr) (m : Fn → Nat → Option Bool) : Sp := fun vs H Q _ => ∃ a r F b, vs = [.ref a, .int (r : Nat)] ∧ IsFn K c H a F ∧ m F r = some b ∧ ∀ H', Same H H' → Q (.bl b) H'
def spB2 (K : PySem.W.Frag) (c : Addr) (m : Fn → Nat → Nat → Option Bool) : Sp := fun vs H Q _ => ∃ a r k F b, vs = [.ref a, .int (r : Nat), .int (k : Nat)] ∧ IsFn K c H a F ∧ m F r k = some b ∧ ∀ H', Same H H' → Q (.bl b) H'
def spO (K : PySem.W.Frag) (c : Addr) (m : Fn → Nat → Option (Option Nat)) : Sp := fun vs H Q _ => ∃ a r F o, vs = [.ref a, .int (r : Nat)] ∧ IsFn K c H a F ∧ m F r = some o ∧ ∀ H', Same H H' → Q (oI o) H'
def intsL (ns : List Nat) : List V := ns.map natV
def spL (K : PySem.W.Frag) (c : Addr) (m : Fn → Nat → Option (List Nat)) : Sp := fun vs H Q _ => ∃ a r F ns, vs = [.ref a, .int (r : Nat)] ∧ IsFn K c H a F ∧ m F r = some ns ∧ ∀ p H', H p = none → Same H H' → H' p = some (.lst (intsL ns)) → Q (.ref p) H'
def spMoves (K : PySem.W.Frag) (c : Addr) : Sp := fun vs H Q _ => ∃ a r F ms, vs = [.ref a, .int (r : Nat)] ∧ IsFn K c H a F ∧ F.movesOf r = some ms ∧ ∀ p H', H p = none → Same H H' → H' p = some (.lst (ms.map V.str)) → Q (.ref p) H'
def spTarget (K : PySem.W.Frag) (c : Addr) : Sp := fun vs H Q _ => ∃ a r m F t, vs = [.ref a, .int (r : Nat), .str m] ∧ IsFn K c H a F ∧ F.target r m = some t ∧ ∀ H', Same H H' → Q (.int (t : Nat)) H'
def spNumbers (K : PySem.W.Frag) (c : Addr) : Sp := fun vs H Q _ => ∃ a v s F ns, vs = [.ref a, v] ∧ Dp K H v (spotD s) ∧ IsFn K c H a F ∧ F.numbersOf s = some ns ∧ ∀ p H', H p = none → Same H H' → H' p = some (.dK (numK ns)) → Q (.ref p) H'
def spLeave (K : PySem.W.Frag) (c : Addr) : Sp := fun vs H Q _ => ∃ a r d v F ns es p, vs = [.ref a, .int (r : Nat), .ref d, v] ∧ IsFn K c H a F ∧ H d = some (.dK (numK ns)) ∧ Dp K H v (evsD es) ∧ F.leave r ns es = some p ∧ es.length ≤ 1000 ∧ ∀ u H', Same H H' → Dp K H' u (placeD p) → Q u H'
def spPassed (K : PySem.W.Frag) (c : Addr) : Sp := fun vs H Q _ => ∃ a r v F es o, vs = [.ref a, .int (r : Nat), v] ∧ IsFn K c H a F ∧ Dp K H v (evsD es) ∧ F.passed r es = some o ∧ es.length ≤ 1000 ∧ ∀ H', Same H H' → Q (oI o) H'
def spSettled (K : PySem.W.Frag) (c : Addr) : Sp := fun vs H Q _ => ∃ a v d F ns p s, vs = [.ref a, v, .ref d] ∧ IsFn K c H a F ∧ H d = some (.dK (numK ns)) ∧ Dp K H v (placeD p) ∧ F.settled ns p = some s ∧ p.2.2.length ≤ 1000 ∧ ∀ u H', Same H H' → Dp K H' u (spotD s) → Q u H'
def spFirst (K : PySem.W.Frag) (c : Addr) : Sp := fun vs H Q _ => ∃ a F s, vs = [.ref a] ∧ IsFn K c H a F ∧ F.firstSpot = some s ∧ ∀ u H', Same H H' → Dp K H' u (spotD s) → Q u H'
def spNext (K : PySem.W.Frag) (c : Addr) : Sp := fun vs H Q _ => ∃ a v m F s t, vs = [.ref a, v, .str m] ∧ IsFn K c H a F ∧ Dp K H v (spotD s) ∧ F.nextSpot s m = some t ∧ s.events.length < 1000 ∧ ∀ u H', Same H H' → Dp K H' u (spotD t) → Q u H'
def spLive (K : PySem.W.Frag) (c : Addr) : Sp := fun vs H Q _ => ∃ a v F s ns, vs = [.ref a, v] ∧ IsFn K c H a F ∧ Dp K H v (spotD s) ∧ F.liveLoops s = some ns ∧ s.events.length < 1000 ∧ ∀ p H', H p = none → Same H H' → H' p = some (.lst (intsL ns)) → Q (.ref p) H'
def wayD : Option (List Ev) → PyData
  | none => .none
  | some [] => .tuple []
  | some (e :: _) => evD e
def spWay (K : PySem.W.Frag) (c : Addr) : Sp := fun vs H Q _ => ∃ a v F s, vs = [.ref a, v] ∧ IsFn K c H a F ∧ Dp K H v (spotD s) ∧ s.events.length < 1000 ∧ ∀ u H', Same H H' → Dp K H' u (wayD (F.wayOf s)) → Q u H'
/-! promises of the marks -/
abbrev optS : Option Str → V := oS
def spMk (g : Str → Bool) : Sp := fun vs H Q _ => ∃ m, vs = [.str m] ∧ ∀ H', Same H H' → Q (.bl (g m)) H'
def spMarkOf : Sp := fun vs H Q _ => ∃ a b, vs = [.bl a, .bl b] ∧ ∀ H', Same H H' → Q (.str (markOf a b)) H'
def spAmid : Sp := fun vs H Q _ => ∃ w m, vs = [.str w, .str m] ∧ ∀ H', Same H H' → Q (.bl (amid w m)) H'
def spFault : Sp := fun vs H Q _ => ∃ w m n, vs = [.str w, .str m, .int n] ∧ ∀ H', Same H H' → Q (optS (fault w m n)) H'
def spAfter : Sp := fun vs H Q _ => ∃ w m, vs = [.str w, .str m] ∧ ∀ H', Same H H' → Q (.str (after w m)) H'
def spChange : Sp := fun vs H Q _ => ∃ w, vs = [.str w] ∧ ∀ H', Same H H' → Q (.int (change w)) H'
end PySem.Fl
end
section
set_option Elab.async false
set_option autoImplicit false
set_option linter.all false
set_option maxRecDepth 100000
set_option maxHeartbeats 2000000
/-! a generator that a for or a comprehension wakes: what its consumer keeps, the context in which its frame runs -/
namespace L2
open PySem PySem.Spec PyProof.Rows GenW

/-- the context of the generator's frame eg, woken by code of X within A -/
def wakeX (X : Cx) (eg : Env) (N : List Str) (sv : Shared) (Hv : Hp) (pn : List (Addr × Obj)) (A : Around) (xe : Value → Shared → Prop) : Cx :=
  { prog := X.prog, w := X.w, K := X.K, mg := X.mg, base := X.base, A := A.deeper eg, N := N, s_0 := sv, H_0 := Hv, env := eg, outer := X.stack, stack := eg :: X.stack, ex := [], fn := fun _ => true, calm := true, pn := pn, xe := xe }

/-- the consumer X over the state sv that it looks back to; at L the generator's frame, its self the object x; pn: young objects that stand as they are -/
structure CS (X : Cx) (pins : List (Addr × Obj)) (σ : L2.St) (sv : Shared) (Hv : Hp) (L x : Addr) (pn : List (Addr × Obj)) (H : Hp) (s : Shared) : Prop where
  inv0 : Inv X pins σ Hv sv
  below : sv.heap.objs.size ≤ L
  os : s.os = sv.os
  bare : AllBare s.gens
  un : Un (frs X.stack) [] Hv H sv.heap s.heap
  hok : HOk X.prog X.w H s.heap
  fr : ∃ m, s.heap.Ns L m ∧ m "self" = some (.ref x)
  free : H L = none
  pin : ∀ p ∈ pn, s.heap.get? p.1 = some p.2 ∧ H p.1 = none ∧ p.1 ≠ L ∧ p.1 ∉ frs X.stack ∧ ∀ v, p.2.data ≠ .cell v

section
variable {X : Cx} {pins pn : List (Addr × Obj)} {σ : L2.St} {sv s s' : Shared} {Hv H H' : Hp} {L x f : Addr} {qual : Str} {scope : Scope} {cd : Value} {A : Around} {xe : Value → Shared → Prop}
theorem CS.inv (c : CS X pins σ sv Hv L x pn H s) : Inv X pins σ H s := c.inv0.call' (ch := []) c.os c.un c.hok c.bare (fun b z => absurd z (by simp))

theorem CS.start (c : CS X pins σ sv Hv L x pn H s) (hA : A.frames = some X.stack) (hh : A.handled = none) (S : GScope ["self"] ["self"] scope) (hc : cellsFrom (L + 1) scope.names [] = []) :
    Inv (wakeX X (envOfC qual scope L f cd) ["self"] sv Hv pn A xe) [] [some (.ref x)] H s := by
  have nc : ∀ y b, (envOfC qual scope L f cd).cells.lookup y = some b → False := fun y b e => by
    have e : (cellsFrom (L + 1) scope.names []).lookup y = some b := e
    rw [hc] at e
    cases e
  have n0 : ∀ b : Addr, b ∉ ([] : List Addr) := fun b z => by cases z
  refine ⟨⟨c.inv0.ok.mod, S.kind, rfl, rfl, c.below, fun y z b e _ => (nc y b e).elim, fun y hy => ?_, fun y b _ e => (nc y b e).elim, fun _ => hh, Around.frames_deeper hA, .inr ⟨rfl, rfl⟩, fun b z => absurd z (n0 b), c.inv0.bs, Nat.le_trans c.inv0.ok.bsz c.inv0.sz, fun b _ _ => n0 b, fun b z => absurd z (n0 b), c.inv0.stack, c.inv0.stkFree⟩,
    c.os, c.bare, c.un, ?_, fun y b e => (nc y b e).elim, c.free, fun y b e => (nc y b e).elim, fun p hp => c.pin p (by simpa [wakeX] using hp), c.hok, rfl⟩
  · have hy : scope.names.lookup y = some .cell ∨ scope.names.lookup y = some .free := hy
    rcases hy with hy | hy
    · exact cell_has hy
    · exact absurd rfl (S.nofree _ (PySem.mem_of_lookup hy))
  · obtain ⟨m, hn, hx⟩ := c.fr
    refine ⟨m, hn, fun i y v h1 h2 _ => ?_⟩
    match i, h1, h2 with
    | 0, h1, h2 =>
      obtain rfl : "self" = y := by simpa [wakeX] using h1
      obtain rfl : V.ref x = v := by simpa using h2
      rcases S.par "self" (by simp) with q | q
      · exact ⟨.ref x, rfl, .inl ⟨q, hx⟩⟩
      · obtain ⟨b, e⟩ := cell_has (n := L + 1) q
        exact (nc _ b e).elim
    | i + 1, h1, h2 => simp [wakeX] at h1

theorem CS.stop (c : CS X pins σ sv Hv L x pn H s) (S : GScope ["self"] ["self"] scope) (hc : cellsFrom (L + 1) scope.names [] = []) (I : Inv (wakeX X (envOfC qual scope L f cd) ["self"] sv Hv pn A xe) [] [some (.ref x)] H' s') : CS X pins σ sv Hv L x pn H' s' := by
  refine ⟨c.inv0, c.below, I.os, I.bare, I.base, I.hok, ?_, I.free, fun p hp => I.pin p (List.mem_append_left _ hp)⟩
  obtain ⟨m, hn, hl⟩ := I.loc
  have hv : Vis scope "self" := by
    rcases S.par "self" (by simp) with q | q
    · exact .inl q
    · exact .inr (.inl q)
  obtain ⟨u, r, q⟩ := hl 0 "self" (.ref x) rfl rfl hv
  obtain rfl : u = Value.ref x := r
  refine ⟨m, hn, ?_⟩
  rcases q with ⟨_, q⟩ | ⟨_, b, e, _⟩
  · exact q
  · have e : (cellsFrom (L + 1) scope.names []).lookup ("self" : Str) = some b := e
    rw [hc] at e
    cases e

/-- a generator that its method's call made: not begun -/
structure GNew (X : Cx) (pins : List (Addr × Obj)) (σ : L2.St) (sv : Shared) (Hv : Hp) (qual : Str) (st : Stmt) (f x a g : Nat) (cd : Value) (go : Obj) (s : Shared) : Prop where
  cs : CS X pins σ sv Hv sv.heap.objs.size x [(a, go)] Hv s
  gen : s.gens[g]? = some (.fresh (.func (defBody st) (envOfC qual (defScope st) sv.heap.objs.size f cd)))
  obj : s.heap.get? a = some go
  cls : go.cls = .type "generator"
  dat : ∃ nm qn, go.data = .fields #[.int g 0, nm, qn]
  slo : go.slots = #[]
  old : ∀ b o, sv.heap.get? b = some o → s.heap.get? b = some o
theorem gen_call {name : Str} {st : Stmt} {fd : FuncData} {E : Value → Shared → Prop} (I : Inv X pins σ H s) (hcalm : X.calm = true) (F : Fun X.K name qual st f fd) (S : GScope ["self"] ["self"] (defScope st)) (hb : Binds X.K fd ["self"] []) (hc : cellsFrom (s.heap.objs.size + 1) (defScope st).names [] = []) (hd : X.A.depth < recursionLimit) :
    wpAny (model X.prog X.w) X.A (call (.ref f) [.ref x]) (fun u s' => ∃ cd a g go, u = .ref a ∧ GNew X pins σ s H qual st f x a g cd go s') E s := by
  obtain ⟨oc, od, kV, doc, pm, an, cdv, ct, osl, rfl, lk, hcd⟩ := F.ex
  have KX : X.K.In s.heap := I.kIn
  have lim : s.heap.NoLimit := I.nolimit
  have hbt := hb s [.ref x] I.kIn rfl
  have hkind : ∀ y ∈ (["self"] : List Str).zip [Value.ref x], (defScope st).names.lookup y.1 = some .local ∨ ((defScope st).names.lookup y.1 = some .cell ∧ ((cellsFrom (s.heap.objs.size + 1) (defScope st).names []).lookup y.1).isSome = true) := fun ⟨n, v⟩ hy => by
    rcases S.par n (List.of_mem_zip hy).1 with q | q
    · exact .inl q
    · exact .inr ⟨q, PySem.W.cellsFrom_some _ _ _ (.inl q)⟩
  refine wpAny_call (codeAny_call_generator hd (KX _ _ lk) rfl S.co S.gen rfl (PySem.W.codeRec_of KX hcd) (hbt _ _ _ _ ?_))
  refine wpAny_newFunctionEnv_cells S.kind hkind fun env he s1 y => ?_
  subst he
  have lim1 : s1.heap.NoLimit := lim.keeps y.toInCall.keep
  refine ⟨lim1, ?_⟩
  obtain ⟨h1, tk, es1, hk1⟩ := y.done
  have os1 : s1.os = s.os := by rw [es1]
  have gen1 : s1.gens = s.gens := by rw [es1]
  have lt1 : s.heap.objs.size < s1.heap.objs.size := y.toInCall.ns.lt
  have kp1 : ∀ b o, s.heap.get? b = some o → s1.heap.get? b = some o := y.toInCall.keep
  have I1 := inv_startG (N := ["self"]) (ps := ["self"]) (E := fun _ _ _ => False) (vs := [.ref x]) (us := [.ref x]) S (I.ok.hd hcalm) I.env0 rfl (.cons rfl .nil) y
  have main : ∀ (go : Obj) (nm qn : Value) (tk2 : Nat), go.cls = .type "generator" → go.data = .fields #[.int s1.gens.size 0, nm, qn] → go.slots = #[] → (∀ h : Heap, (h.push go).get? h.objs.size = some go) →
      GNew X pins σ s H qual st f x s1.heap.objs.size s1.gens.size cdv go { s1 with gens := s1.gens.push (.fresh (.func (defBody st) (envOfC qual (defScope st) s.heap.objs.size f cdv))), toks := tk2, heap := s1.heap.push go } := by
    intro go nm qn tk2 hgc hgd hgs hgp
    have kp2 : ∀ b o, s.heap.get? b = some o → (s1.heap.push go).get? b = some o := fun b o e => Heap.get?_push_of_some _ (kp1 b o e)
    refine ⟨⟨I, Nat.le_refl _, os1, AllBare.push (by rw [gen1]; exact I.bare) rfl, Un.kept kp2, I.hok.kept kp2, ?_, I.hok.fresh (Nat.le_refl _), fun p hp => ?_⟩, Array.getElem?_push_size .., hgp _, hgc, ⟨nm, qn, hgd⟩, hgs, kp2⟩
    · obtain ⟨m, hn, hl⟩ := I1.loc
      have hv : Vis (defScope st) "self" := by
        rcases S.par "self" (by simp) with q | q
        · exact .inl q
        · exact .inr (.inl q)
      obtain ⟨u, r, q⟩ := hl 0 "self" (.ref x) rfl rfl hv
      obtain rfl : u = Value.ref x := r
      refine ⟨bindL (envOfC qual (defScope st) s.heap.objs.size f cdv).kindOf ((["self"] : List Str).zip [Value.ref x]) fun _ => none, y.toInCall.ns.push _, ?_⟩
      rcases S.par "self" (by simp) with q | q
      · exact bindL_get (P := ["self"]) (vs := [.ref x]) (i := 0) (by simp) rfl rfl q
      · obtain ⟨b, e⟩ := cell_has (n := s.heap.objs.size + 1) q
        rw [hc] at e
        cases e
    · rw [List.mem_singleton.mp hp]
      refine ⟨hgp _, I.hok.fresh (Nat.le_of_lt lt1), Nat.ne_of_gt lt1, fun hm => ?_, fun v q => by rw [hgd] at q; cases q⟩
      obtain ⟨_, o, ho, _⟩ := I.stack.mem hm
      exact absurd (Nat.lt_trans lt1 (Heap.lt_size ho)) (Nat.lt_irrefl _)
  exact ⟨cdv, _, _, _, rfl, main _ _ _ _ rfl rfl rfl fun h => Heap.get?_push_size _ rfl⟩
end
/-- what is pinned is not tracked while an exception is in the air either -/
theorem XE.strong {X : Cx} {W : WX} {u : Value} {s' : Shared} (h : XE X W u s') : XE X (fun cls d σ H => W cls d σ H ∧ ∀ p ∈ X.pn, H p.1 = none) u s' := by
  obtain ⟨a, B, sI, pins, σ, H, cls, d, e, I, nb, up, sky, na, os, ag, w⟩ := h
  exact ⟨a, B, sI, pins, σ, H, cls, d, e, I, nb, up, sky, na, os, ag, w, fun p hp => (I.pin p (List.mem_append_left _ hp)).2.1⟩
end L2
end
section
set_option Elab.async false
set_option autoImplicit false
set_option linter.all false
set_option maxRecDepth 100000
set_option maxHeartbeats 4000000
namespace K45
open PySem PySem.Spec PyProof.Rows L2 PySem.OxE LawC PySem.Fl
def top (i : Nat) : Stmt := PySem.Challenge.pw_owedanswers_k45_faults_end_a_walk.main.body.getD i (.Pass ⟨0, 0, 0, 0⟩)
abbrev s_is_step : Stmt := top 9
theorem sc_is_step : FnScope ["function", "row", "word"] ["function", "row"] (defScope s_is_step) := ⟨rfl, rfl, rfl, by decide +kernel, rfl, by decide +kernel, by decide +kernel⟩
abbrev s_is_inside : Stmt := top 10
theorem sc_is_inside : FnScope ["function", "row", "block"] ["function", "row", "block"] (defScope s_is_inside) := ⟨rfl, rfl, rfl, by decide +kernel, rfl, by decide +kernel, by decide +kernel⟩
abbrev s_is_guarded : Stmt := top 11
theorem sc_is_guarded : FnScope ["function", "row", "block"] ["function", "row", "block"] (defScope s_is_guarded) := ⟨rfl, rfl, rfl, by decide +kernel, rfl, by decide +kernel, by decide +kernel⟩
abbrev s_is_shielded : Stmt := top 12
theorem sc_is_shielded : FnScope ["function", "row", "block"] ["function", "row"] (defScope s_is_shielded) := ⟨rfl, rfl, rfl, by decide +kernel, rfl, by decide +kernel, by decide +kernel⟩
abbrev s_loop_of : Stmt := top 13
theorem sc_loop_of : FnScope ["function", "row", "block"] ["function", "row"] (defScope s_loop_of) := ⟨rfl, rfl, rfl, by decide +kernel, rfl, by decide +kernel, by decide +kernel⟩
abbrev s_retries_of : Stmt := top 14
theorem sc_retries_of : FnScope ["function", "row", "found", "block"] ["function", "row"] (defScope s_retries_of) := ⟨rfl, rfl, rfl, by decide +kernel, rfl, by decide +kernel, by decide +kernel⟩
abbrev s_numbers_of : Stmt := top 15
theorem sc_numbers_of : FnScope ["function", "spot", "rows", "row", "number"] ["function", "spot"] (defScope s_numbers_of) := ⟨rfl, rfl, rfl, by decide +kernel, rfl, by decide +kernel, by decide +kernel⟩
abbrev s_leave : Stmt := top 16
theorem sc_leave : FnScope ["function", "inner", "numbers", "events", "kind", "block", "word", "middle", "kept", "event"] ["function", "inner", "numbers", "events"] (defScope s_leave) := ⟨rfl, rfl, rfl, by decide +kernel, rfl, by decide +kernel, by decide +kernel⟩
abbrev s_passed : Stmt := top 17
theorem sc_passed : FnScope ["function", "row", "events", "word", "opener"] ["function", "row", "events"] (defScope s_passed) := ⟨rfl, rfl, rfl, by decide +kernel, rfl, by decide +kernel, by decide +kernel⟩
abbrev s_settled : Stmt := top 18
theorem sc_settled : FnScope ["function", "place", "numbers", "row", "again", "events", "following", "tries", "block"] ["function", "place", "numbers"] (defScope s_settled) := ⟨rfl, rfl, rfl, by decide +kernel, rfl, by decide +kernel, by decide +kernel⟩
abbrev s_first_spot : Stmt := top 19
theorem sc_first_spot : FnScope ["function"] ["function"] (defScope s_first_spot) := ⟨rfl, rfl, rfl, by decide +kernel, rfl, by decide +kernel, by decide +kernel⟩
abbrev s_target : Stmt := top 20
theorem sc_target : FnScope ["function", "row", "move", "word", "middle"] ["function", "row", "move"] (defScope s_target) := ⟨rfl, rfl, rfl, by decide +kernel, rfl, by decide +kernel, by decide +kernel⟩
abbrev s_next_spot : Stmt := top 21
theorem sc_next_spot : FnScope ["function", "spot", "move", "row", "events", "numbers", "found"] ["function", "spot", "move"] (defScope s_next_spot) := ⟨rfl, rfl, rfl, by decide +kernel, rfl, by decide +kernel, by decide +kernel⟩
abbrev s_moves_of : Stmt := top 22
theorem sc_moves_of : FnScope ["function", "row", "word"] ["function", "row"] (defScope s_moves_of) := ⟨rfl, rfl, rfl, by decide +kernel, rfl, by decide +kernel, by decide +kernel⟩
abbrev s_live_loops : Stmt := top 23
theorem sc_live_loops : FnScope ["function", "spot", "rows", "event", "loops", "row", "loop"] ["function", "spot"] (defScope s_live_loops) := ⟨rfl, rfl, rfl, by decide +kernel, rfl, by decide +kernel, by decide +kernel⟩
abbrev s_way_of : Stmt := top 24
theorem sc_way_of : FnScope ["function", "spot"] ["function", "spot"] (defScope s_way_of) := ⟨rfl, rfl, rfl, by decide +kernel, rfl, by decide +kernel, by decide +kernel⟩
abbrev s_reason_of : Stmt := top 25
theorem sc_reason_of : FnScope ["way"] ["way"] (defScope s_reason_of) := ⟨rfl, rfl, rfl, by decide +kernel, rfl, by decide +kernel, by decide +kernel⟩
abbrev s_is_out : Stmt := top 28
theorem sc_is_out : FnScope ["mark"] ["mark"] (defScope s_is_out) := ⟨rfl, rfl, rfl, by decide +kernel, rfl, by decide +kernel, by decide +kernel⟩
abbrev s_is_in : Stmt := top 29
theorem sc_is_in : FnScope ["mark"] ["mark"] (defScope s_is_in) := ⟨rfl, rfl, rfl, by decide +kernel, rfl, by decide +kernel, by decide +kernel⟩
abbrev s_mark_of : Stmt := top 30
theorem sc_mark_of : FnScope ["sending", "reading"] ["sending", "reading"] (defScope s_mark_of) := ⟨rfl, rfl, rfl, by decide +kernel, rfl, by decide +kernel, by decide +kernel⟩
abbrev s_is_amid : Stmt := top 31
theorem sc_is_amid : FnScope ["word", "mark"] ["word", "mark"] (defScope s_is_amid) := ⟨rfl, rfl, rfl, by decide +kernel, rfl, by decide +kernel, by decide +kernel⟩
abbrev s_row_fault : Stmt := top 32
theorem sc_row_fault : FnScope ["word", "mark", "owed"] ["word", "mark", "owed"] (defScope s_row_fault) := ⟨rfl, rfl, rfl, by decide +kernel, rfl, by decide +kernel, by decide +kernel⟩
abbrev s_mark_after : Stmt := top 33
theorem sc_mark_after : FnScope ["word", "mark"] ["word", "mark"] (defScope s_mark_after) := ⟨rfl, rfl, rfl, by decide +kernel, rfl, by decide +kernel, by decide +kernel⟩
abbrev s_owed_change : Stmt := top 34
theorem sc_owed_change : FnScope ["word"] ["word"] (defScope s_owed_change) := ⟨rfl, rfl, rfl, by decide +kernel, rfl, by decide +kernel, by decide +kernel⟩
abbrev s_resets : Stmt := top 35
theorem sc_resets : FnScope ["word"] ["word"] (defScope s_resets) := ⟨rfl, rfl, rfl, by decide +kernel, rfl, by decide +kernel, by decide +kernel⟩
abbrev s_first_state : Stmt := top 37
theorem sc_first_state : FnScope ["function", "mark", "owed"] ["function", "mark", "owed"] (defScope s_first_state) := ⟨rfl, rfl, rfl, by decide +kernel, rfl, by decide +kernel, by decide +kernel⟩
abbrev s_possible : Stmt := top 38
theorem sc_possible : FnScope ["function", "lengths", "state", "row", "word", "loop", "done"] ["function", "lengths", "state"] (defScope s_possible) := ⟨rfl, rfl, rfl, by decide +kernel, rfl, by decide +kernel, by decide +kernel⟩
abbrev s_fault_of : Stmt := top 39
theorem sc_fault_of : FnScope ["function", "state", "move", "word", "mark", "owed", "fresh"] ["function", "state", "move"] (defScope s_fault_of) := ⟨rfl, rfl, rfl, by decide +kernel, rfl, by decide +kernel, by decide +kernel⟩
abbrev s_rounds_after : Stmt := top 40
theorem sc_rounds_after : FnScope ["function", "state", "move", "spot", "row", "done", "loop"] ["function", "state", "move", "spot"] (defScope s_rounds_after) := ⟨rfl, rfl, rfl, by decide +kernel, rfl, by decide +kernel, by decide +kernel⟩
abbrev s_state_after : Stmt := top 41
theorem sc_state_after : FnScope ["function", "state", "move", "spot", "rounds", "mark", "owed", "asked", "taken", "word", "change"] ["function", "state", "move"] (defScope s_state_after) := ⟨rfl, rfl, rfl, by decide +kernel, rfl, by decide +kernel, by decide +kernel⟩
abbrev s_Walk_init : Stmt := inClass (top 43) 0
theorem sc_Walk_init : FnScope ["self", "function", "lengths", "name"] ["self", "function", "lengths"] (defScope s_Walk_init) := ⟨rfl, rfl, rfl, by decide +kernel, rfl, by decide +kernel, by decide +kernel⟩
abbrev s_Walk_spot : Stmt := inClass (top 43) 1
theorem sc_Walk_spot : FnScope ["self"] ["self"] (defScope s_Walk_spot) := ⟨rfl, rfl, rfl, by decide +kernel, rfl, by decide +kernel, by decide +kernel⟩
abbrev s_Walk_mark : Stmt := inClass (top 43) 2
theorem sc_Walk_mark : FnScope ["self"] ["self"] (defScope s_Walk_mark) := ⟨rfl, rfl, rfl, by decide +kernel, rfl, by decide +kernel, by decide +kernel⟩
abbrev s_Walk_owed : Stmt := inClass (top 43) 3
theorem sc_Walk_owed : FnScope ["self"] ["self"] (defScope s_Walk_owed) := ⟨rfl, rfl, rfl, by decide +kernel, rfl, by decide +kernel, by decide +kernel⟩
abbrev s_Walk_asked : Stmt := inClass (top 43) 4
theorem sc_Walk_asked : FnScope ["self"] ["self"] (defScope s_Walk_asked) := ⟨rfl, rfl, rfl, by decide +kernel, rfl, by decide +kernel, by decide +kernel⟩
abbrev s_Walk_taken : Stmt := inClass (top 43) 5
theorem sc_Walk_taken : FnScope ["self"] ["self"] (defScope s_Walk_taken) := ⟨rfl, rfl, rfl, by decide +kernel, rfl, by decide +kernel, by decide +kernel⟩
abbrev s_Walk_way : Stmt := inClass (top 43) 6
theorem sc_Walk_way : FnScope ["self"] ["self"] (defScope s_Walk_way) := ⟨rfl, rfl, rfl, by decide +kernel, rfl, by decide +kernel, by decide +kernel⟩
abbrev s_Walk_is_over : Stmt := inClass (top 43) 7
theorem sc_Walk_is_over : FnScope ["self"] ["self"] (defScope s_Walk_is_over) := ⟨rfl, rfl, rfl, by decide +kernel, rfl, by decide +kernel, by decide +kernel⟩
abbrev s_Walk_report : Stmt := inClass (top 43) 8
theorem sc_Walk_report : FnScope ["self", "way"] ["self"] (defScope s_Walk_report) := ⟨rfl, rfl, rfl, by decide +kernel, rfl, by decide +kernel, by decide +kernel⟩
abbrev s_Walk_steps : Stmt := inClass (top 43) 9
theorem sc_Walk_steps : FnScope ["self"] ["self"] (defScope s_Walk_steps) := ⟨rfl, rfl, rfl, by decide +kernel, rfl, by decide +kernel, by decide +kernel⟩
abbrev s_Walk_done : Stmt := inClass (top 43) 10
theorem sc_Walk_done : FnScope ["self"] ["self"] (defScope s_Walk_done) := ⟨rfl, rfl, rfl, by decide +kernel, rfl, by decide +kernel, by decide +kernel⟩
abbrev s_Walk_choices : Stmt := inClass (top 43) 11
theorem sc_Walk_choices : FnScope ["self"] ["self"] (defScope s_Walk_choices) := ⟨rfl, rfl, rfl, by decide +kernel, rfl, by decide +kernel, by decide +kernel⟩
abbrev s_Walk_step : Stmt := inClass (top 43) 12
theorem sc_Walk_step : FnScope ["self", "move"] ["self", "move"] (defScope s_Walk_step) := ⟨rfl, rfl, rfl, by decide +kernel, rfl, by decide +kernel, by decide +kernel⟩
abbrev s_is_made_of : Stmt := top 46
theorem sc_is_made_of : FnScope ["text", "characters", "character"] ["text", "characters"] (defScope s_is_made_of) := ⟨rfl, rfl, rfl, by decide +kernel, rfl, by decide +kernel, by decide +kernel⟩
abbrev s_is_list_name : Stmt := top 47
theorem sc_is_list_name : FnScope ["text"] ["text"] (defScope s_is_list_name) := ⟨rfl, rfl, rfl, by decide +kernel, rfl, by decide +kernel, by decide +kernel⟩
abbrev s_is_row : Stmt := top 55
theorem sc_is_row : FnScope ["words"] ["words"] (defScope s_is_row) := ⟨rfl, rfl, rfl, by decide +kernel, rfl, by decide +kernel, by decide +kernel⟩
abbrev s_Reader_init : Stmt := inClass (top 56) 0
theorem sc_Reader_init : FnScope ["self"] ["self"] (defScope s_Reader_init) := ⟨rfl, rfl, rfl, by decide +kernel, rfl, by decide +kernel, by decide +kernel⟩
abbrev s_Reader_opener_word : Stmt := inClass (top 56) 1
theorem sc_Reader_opener_word : FnScope ["self"] ["self"] (defScope s_Reader_opener_word) := ⟨rfl, rfl, rfl, by decide +kernel, rfl, by decide +kernel, by decide +kernel⟩
abbrev s_Reader_is_second : Stmt := inClass (top 56) 2
theorem sc_Reader_is_second : FnScope ["self", "opener"] ["self", "opener"] (defScope s_Reader_is_second) := ⟨rfl, rfl, rfl, by decide +kernel, rfl, by decide +kernel, by decide +kernel⟩
abbrev s_Reader_is_rescue : Stmt := inClass (top 56) 3
theorem sc_Reader_is_rescue : FnScope ["self", "opener"] ["self", "opener"] (defScope s_Reader_is_rescue) := ⟨rfl, rfl, rfl, by decide +kernel, rfl, by decide +kernel, by decide +kernel⟩
abbrev s_Reader_loop_place : Stmt := inClass (top 56) 4
theorem sc_Reader_loop_place : FnScope ["self", "place", "opener"] ["self"] (defScope s_Reader_loop_place) := ⟨rfl, rfl, rfl, by decide +kernel, rfl, by decide +kernel, by decide +kernel⟩
abbrev s_Reader_may_reset : Stmt := inClass (top 56) 5
theorem sc_Reader_may_reset : FnScope ["self", "word", "place", "opener"] ["self", "word"] (defScope s_Reader_may_reset) := ⟨rfl, rfl, rfl, by decide +kernel, rfl, by decide +kernel, by decide +kernel⟩
abbrev s_Reader_may_middle : Stmt := inClass (top 56) 6
theorem sc_Reader_may_middle : FnScope ["self", "word", "wanted"] ["self", "word"] (defScope s_Reader_may_middle) := ⟨rfl, rfl, rfl, by decide +kernel, rfl, by decide +kernel, by decide +kernel⟩
abbrev s_Reader_may_open : Stmt := inClass (top 56) 7
theorem sc_Reader_may_open : FnScope ["self", "word", "one"] ["self", "word"] (defScope s_Reader_may_open) := ⟨rfl, rfl, rfl, by decide +kernel, rfl, by decide +kernel, by decide +kernel⟩
abbrev s_Reader_fits : Stmt := inClass (top 56) 8
theorem sc_Reader_fits : FnScope ["self", "word", "opener"] ["self", "word"] (defScope s_Reader_fits) := ⟨rfl, rfl, rfl, by decide +kernel, rfl, by decide +kernel, by decide +kernel⟩
abbrev s_Reader_take : Stmt := inClass (top 56) 9
theorem sc_Reader_take : FnScope ["self", "word", "row"] ["self", "word"] (defScope s_Reader_take) := ⟨rfl, rfl, rfl, by decide +kernel, rfl, by decide +kernel, by decide +kernel⟩
abbrev s_Function_init : Stmt := inClass (top 57) 0
theorem sc_Function_init : FnScope ["self", "text", "parts", "row", "reader", "words", "opener"] ["self", "text"] (defScope s_Function_init) := ⟨rfl, rfl, rfl, by decide +kernel, rfl, by decide +kernel, by decide +kernel⟩

abbrev s_source : Stmt := top 59
theorem sc_source : FnScope ["_law_script", "_law_place", "_law_cell", "_law_large"] ["_law_script", "_law_place"] (defScope s_source) := ⟨rfl, rfl, rfl, by decide +kernel, rfl, by decide +kernel, by decide +kernel⟩
abbrev s_draw : Stmt := top 60
theorem sc_draw : FnScope ["_law_source_here", "_law_many", "_law_digit", "_law_turn", "_law_mixed"] ["_law_source_here", "_law_many"] (defScope s_draw) := ⟨rfl, rfl, rfl, by decide +kernel, rfl, by decide +kernel, by decide +kernel⟩
abbrev s_of : Stmt := top 61
theorem sc_of : FnScope ["_law_source_here", "_law_some"] ["_law_source_here", "_law_some"] (defScope s_of) := ⟨rfl, rfl, rfl, by decide +kernel, rfl, by decide +kernel, by decide +kernel⟩
abbrev s_same : Stmt := top 62
theorem sc_same : FnScope ["_law_actual", "_law_due_here", "_law_one", "_law_two"] ["_law_actual", "_law_due_here"] (defScope s_same) := ⟨rfl, rfl, rfl, by decide +kernel, rfl, by decide +kernel, by decide +kernel⟩
abbrev s_fault : Stmt := top 63
theorem sc_fault : FnScope ["_law_word", "_law_mark_here", "_law_owed", "_law_sending", "_law_reading", "_law_amid"] ["_law_word", "_law_mark_here", "_law_owed"] (defScope s_fault) := ⟨rfl, rfl, rfl, by decide +kernel, rfl, by decide +kernel, by decide +kernel⟩
abbrev s_mark : Stmt := top 64
theorem sc_mark : FnScope ["_law_word", "_law_mark_here", "_law_sending", "_law_reading"] ["_law_word", "_law_mark_here"] (defScope s_mark) := ⟨rfl, rfl, rfl, by decide +kernel, rfl, by decide +kernel, by decide +kernel⟩
abbrev s_prefix : Stmt := top 65
theorem sc_prefix : FnScope ["_law_source_here", "_law_mark_here", "_law_owed", "_law_rows"] ["_law_source_here"] (defScope s_prefix) := ⟨rfl, rfl, rfl, by decide +kernel, rfl, by decide +kernel, by decide +kernel⟩
abbrev s_wrapped : Stmt := top 66
theorem sc_wrapped : FnScope ["_law_source_here", "_law_word", "_law_inner", "_law_kind"] ["_law_source_here", "_law_word"] (defScope s_wrapped) := ⟨rfl, rfl, rfl, by decide +kernel, rfl, by decide +kernel, by decide +kernel⟩
abbrev s_due : Stmt := top 67
theorem sc_due : FnScope ["_law_word", "_law_mark_here", "_law_owed"] ["_law_word", "_law_mark_here", "_law_owed"] (defScope s_due) := ⟨rfl, rfl, rfl, by decide +kernel, rfl, by decide +kernel, by decide +kernel⟩
abbrev s_stays : Stmt := top 68
theorem sc_stays : FnScope ["_law_walk", "_law_before", "_law_mark_here", "_law_owed", "_law_fault_here", "_law_now"] ["_law_walk", "_law_before", "_law_mark_here", "_law_owed", "_law_fault_here"] (defScope s_stays) := ⟨rfl, rfl, rfl, by decide +kernel, rfl, by decide +kernel, by decide +kernel⟩
abbrev s_after : Stmt := top 69
theorem sc_after : FnScope ["_law_word", "_law_mark_here", "_law_owed", "_law_change"] ["_law_word", "_law_mark_here", "_law_owed"] (defScope s_after) := ⟨rfl, rfl, rfl, by decide +kernel, rfl, by decide +kernel, by decide +kernel⟩
abbrev s_holds : Stmt := top 70
theorem sc_holds : FnScope ["_law_source_here", "_law_before", "_law_mark_here", "_law_owed", "_law_word", "_law_loops", "_law_count", "_law_rows", "_law_skipped", "_law_text", "_law_walk", "_law_row", "_law_turn", "_law_place", "_law_fault_here", "_law_steps", "_law_found"] ["_law_source_here"] (defScope s_holds) := ⟨rfl, rfl, rfl, by decide +kernel, rfl, by decide +kernel, by decide +kernel⟩
abbrev s_law : Stmt := top 71
theorem sc_law : FnScope ["_law_script", "_law_place", "_law_source_here", "_law_turn"] ["_law_script"] (defScope s_law) := ⟨rfl, rfl, rfl, by decide +kernel, rfl, by decide +kernel, by decide +kernel⟩
structure Ad where
  c_Walk : Addr
  c_Reader : Addr
  c_Function : Addr
  a_LW : Addr
  a_WA : Addr
  a_PA : Addr
  a_PL : Addr
  a_OP : Addr
  a_MI : Addr
  p_spot : Addr
  p_mark : Addr
  p_owed : Addr
  p_asked : Addr
  p_taken : Addr
  p_way : Addr
  p_over : Addr
  p_report : Addr
  p_steps : Addr
  f_is_step : Addr
  fd_is_step : FuncData
  f_is_inside : Addr
  fd_is_inside : FuncData
  f_is_guarded : Addr
  fd_is_guarded : FuncData
  f_is_shielded : Addr
  fd_is_shielded : FuncData
  f_loop_of : Addr
  fd_loop_of : FuncData
  f_retries_of : Addr
  fd_retries_of : FuncData
  f_numbers_of : Addr
  fd_numbers_of : FuncData
  f_leave : Addr
  fd_leave : FuncData
  f_passed : Addr
  fd_passed : FuncData
  f_settled : Addr
  fd_settled : FuncData
  f_first_spot : Addr
  fd_first_spot : FuncData
  f_target : Addr
  fd_target : FuncData
  f_next_spot : Addr
  fd_next_spot : FuncData
  f_moves_of : Addr
  fd_moves_of : FuncData
  f_live_loops : Addr
  fd_live_loops : FuncData
  f_way_of : Addr
  fd_way_of : FuncData
  f_reason_of : Addr
  fd_reason_of : FuncData
  f_is_out : Addr
  fd_is_out : FuncData
  f_is_in : Addr
  fd_is_in : FuncData
  f_mark_of : Addr
  fd_mark_of : FuncData
  f_is_amid : Addr
  fd_is_amid : FuncData
  f_row_fault : Addr
  fd_row_fault : FuncData
  f_mark_after : Addr
  fd_mark_after : FuncData
  f_owed_change : Addr
  fd_owed_change : FuncData
  f_resets : Addr
  fd_resets : FuncData
  f_first_state : Addr
  fd_first_state : FuncData
  f_possible : Addr
  fd_possible : FuncData
  f_fault_of : Addr
  fd_fault_of : FuncData
  f_rounds_after : Addr
  fd_rounds_after : FuncData
  f_state_after : Addr
  fd_state_after : FuncData
  f_Walk_init : Addr
  fd_Walk_init : FuncData
  f_Walk_spot : Addr
  fd_Walk_spot : FuncData
  f_Walk_mark : Addr
  fd_Walk_mark : FuncData
  f_Walk_owed : Addr
  fd_Walk_owed : FuncData
  f_Walk_asked : Addr
  fd_Walk_asked : FuncData
  f_Walk_taken : Addr
  fd_Walk_taken : FuncData
  f_Walk_way : Addr
  fd_Walk_way : FuncData
  f_Walk_is_over : Addr
  fd_Walk_is_over : FuncData
  f_Walk_report : Addr
  fd_Walk_report : FuncData
  f_Walk_steps : Addr
  fd_Walk_steps : FuncData
  f_Walk_done : Addr
  fd_Walk_done : FuncData
  f_Walk_choices : Addr
  fd_Walk_choices : FuncData
  f_Walk_step : Addr
  fd_Walk_step : FuncData
  f_is_made_of : Addr
  fd_is_made_of : FuncData
  f_is_list_name : Addr
  fd_is_list_name : FuncData
  f_is_row : Addr
  fd_is_row : FuncData
  f_Reader_init : Addr
  fd_Reader_init : FuncData
  f_Reader_opener_word : Addr
  fd_Reader_opener_word : FuncData
  f_Reader_is_second : Addr
  fd_Reader_is_second : FuncData
  f_Reader_is_rescue : Addr
  fd_Reader_is_rescue : FuncData
  f_Reader_loop_place : Addr
  fd_Reader_loop_place : FuncData
  f_Reader_may_reset : Addr
  fd_Reader_may_reset : FuncData
  f_Reader_may_middle : Addr
  fd_Reader_may_middle : FuncData
  f_Reader_may_open : Addr
  fd_Reader_may_open : FuncData
  f_Reader_fits : Addr
  fd_Reader_fits : FuncData
  f_Reader_take : Addr
  fd_Reader_take : FuncData
  f_Function_init : Addr
  fd_Function_init : FuncData
  v_LETTERS : Value
  v_MOST_ROWS : Value
  v_MOST_LISTS : Value
  v_MOST_DEEP : Value

  f_source : Addr
  fd_source : FuncData
  f_draw : Addr
  fd_draw : FuncData
  f_of : Addr
  fd_of : FuncData
  f_same : Addr
  fd_same : FuncData
  f_fault : Addr
  fd_fault : FuncData
  f_mark : Addr
  fd_mark : FuncData
  f_prefix : Addr
  fd_prefix : FuncData
  f_wrapped : Addr
  fd_wrapped : FuncData
  f_due : Addr
  fd_due : FuncData
  f_stays : Addr
  fd_stays : FuncData
  f_after : Addr
  fd_after : FuncData
  f_holds : Addr
  fd_holds : FuncData
  f_law : Addr
  fd_law : FuncData
structure Txt (P : Program) (K : PySem.W.Frag) (mg : Str → Option Value) (A : Ad) : Prop where
  fc : Fl.FnC K A.c_Function
  rc : Fl.RdC K A.c_Reader
  wc : Fl.WkC K A.c_Walk
  m_Walk : mg "Walk" = some (.ref A.c_Walk)
  m_Reader : mg "Reader" = some (.ref A.c_Reader)
  m_Function : mg "Function" = some (.ref A.c_Function)
  Mk_Walk : Mk K A.c_Walk A.f_Walk_init
  Mk_Reader : Mk K A.c_Reader A.f_Reader_init
  Mk_Function : Mk K A.c_Function A.f_Function_init
  P_spot : PropOf K A.c_Walk "spot" A.p_spot A.f_Walk_spot
  P_mark : PropOf K A.c_Walk "mark" A.p_mark A.f_Walk_mark
  P_owed : PropOf K A.c_Walk "owed" A.p_owed A.f_Walk_owed
  P_asked : PropOf K A.c_Walk "asked" A.p_asked A.f_Walk_asked
  P_taken : PropOf K A.c_Walk "taken" A.p_taken A.f_Walk_taken
  P_way : PropOf K A.c_Walk "way" A.p_way A.f_Walk_way
  P_over : PropOf K A.c_Walk "is_over" A.p_over A.f_Walk_is_over
  P_report : PropOf K A.c_Walk "report" A.p_report A.f_Walk_report
  P_steps : PropOf K A.c_Walk "steps" A.p_steps A.f_Walk_steps
  F_Walk_spot : Fun K "spot" "Walk.spot" s_Walk_spot A.f_Walk_spot A.fd_Walk_spot
  b_Walk_spot : Binds K A.fd_Walk_spot ["self"] []
  F_Walk_mark : Fun K "mark" "Walk.mark" s_Walk_mark A.f_Walk_mark A.fd_Walk_mark
  b_Walk_mark : Binds K A.fd_Walk_mark ["self"] []
  F_Walk_owed : Fun K "owed" "Walk.owed" s_Walk_owed A.f_Walk_owed A.fd_Walk_owed
  b_Walk_owed : Binds K A.fd_Walk_owed ["self"] []
  F_Walk_asked : Fun K "asked" "Walk.asked" s_Walk_asked A.f_Walk_asked A.fd_Walk_asked
  b_Walk_asked : Binds K A.fd_Walk_asked ["self"] []
  F_Walk_taken : Fun K "taken" "Walk.taken" s_Walk_taken A.f_Walk_taken A.fd_Walk_taken
  b_Walk_taken : Binds K A.fd_Walk_taken ["self"] []
  F_Walk_way : Fun K "way" "Walk.way" s_Walk_way A.f_Walk_way A.fd_Walk_way
  b_Walk_way : Binds K A.fd_Walk_way ["self"] []
  F_Walk_is_over : Fun K "is_over" "Walk.is_over" s_Walk_is_over A.f_Walk_is_over A.fd_Walk_is_over
  b_Walk_is_over : Binds K A.fd_Walk_is_over ["self"] []
  F_Walk_report : Fun K "report" "Walk.report" s_Walk_report A.f_Walk_report A.fd_Walk_report
  b_Walk_report : Binds K A.fd_Walk_report ["self"] []
  F_Walk_steps : Fun K "steps" "Walk.steps" s_Walk_steps A.f_Walk_steps A.fd_Walk_steps
  b_Walk_steps : Binds K A.fd_Walk_steps ["self"] []
  m_LW : mg "LINE_WORDS" = some (.ref A.a_LW)
  q_LW : ∀ H, SqT K H A.a_LW (LW.map V.str)
  m_WA : mg "WAITING" = some (.ref A.a_WA)
  q_WA : ∀ H, SqT K H A.a_WA (Fl.waitingW.map V.str)
  m_PA : mg "PASSED" = some (.ref A.a_PA)
  q_PA : ∀ H, SqT K H A.a_PA (Fl.passedW.map V.str)
  m_PL : mg "PLAIN" = some (.ref A.a_PL)
  q_PL : ∀ H, SqT K H A.a_PL (Fl.plainW.map V.str)
  m_OP : mg "OPENING" = some (.ref A.a_OP)
  q_OP : ∀ H, SqT K H A.a_OP (Fl.openingW.map V.str)
  m_MI : mg "MIDDLE" = some (.ref A.a_MI)
  q_MI : ∀ H, SqT K H A.a_MI (Fl.middleW.map V.str)
  F_Walk_init : Fun K "__init__" "Walk.__init__" s_Walk_init A.f_Walk_init A.fd_Walk_init
  b_Walk_init : Binds K A.fd_Walk_init ["self", "function", "lengths"] []
  F_Reader_init : Fun K "__init__" "Reader.__init__" s_Reader_init A.f_Reader_init A.fd_Reader_init
  b_Reader_init : Binds K A.fd_Reader_init ["self"] []
  F_Function_init : Fun K "__init__" "Function.__init__" s_Function_init A.f_Function_init A.fd_Function_init
  b_Function_init : Binds K A.fd_Function_init ["self", "text"] []
  F_Walk_done : Fun K "done" "Walk.done" s_Walk_done A.f_Walk_done A.fd_Walk_done
  M_Walk_done : Meth K A.c_Walk "done" A.f_Walk_done
  b_Walk_done : Binds K A.fd_Walk_done ["self"] []
  F_Walk_choices : Fun K "choices" "Walk.choices" s_Walk_choices A.f_Walk_choices A.fd_Walk_choices
  M_Walk_choices : Meth K A.c_Walk "choices" A.f_Walk_choices
  b_Walk_choices : Binds K A.fd_Walk_choices ["self"] []
  F_Walk_step : Fun K "step" "Walk.step" s_Walk_step A.f_Walk_step A.fd_Walk_step
  M_Walk_step : Meth K A.c_Walk "step" A.f_Walk_step
  b_Walk_step : Binds K A.fd_Walk_step ["self", "move"] []
  F_Reader_opener_word : Fun K "opener_word" "Reader.opener_word" s_Reader_opener_word A.f_Reader_opener_word A.fd_Reader_opener_word
  M_Reader_opener_word : Meth K A.c_Reader "opener_word" A.f_Reader_opener_word
  b_Reader_opener_word : Binds K A.fd_Reader_opener_word ["self"] []
  F_Reader_is_second : Fun K "is_second" "Reader.is_second" s_Reader_is_second A.f_Reader_is_second A.fd_Reader_is_second
  M_Reader_is_second : Meth K A.c_Reader "is_second" A.f_Reader_is_second
  b_Reader_is_second : Binds K A.fd_Reader_is_second ["self", "opener"] []
  F_Reader_is_rescue : Fun K "is_rescue" "Reader.is_rescue" s_Reader_is_rescue A.f_Reader_is_rescue A.fd_Reader_is_rescue
  M_Reader_is_rescue : Meth K A.c_Reader "is_rescue" A.f_Reader_is_rescue
  b_Reader_is_rescue : Binds K A.fd_Reader_is_rescue ["self", "opener"] []
  F_Reader_loop_place : Fun K "loop_place" "Reader.loop_place" s_Reader_loop_place A.f_Reader_loop_place A.fd_Reader_loop_place
  M_Reader_loop_place : Meth K A.c_Reader "loop_place" A.f_Reader_loop_place
  b_Reader_loop_place : Binds K A.fd_Reader_loop_place ["self"] []
  F_Reader_may_reset : Fun K "may_reset" "Reader.may_reset" s_Reader_may_reset A.f_Reader_may_reset A.fd_Reader_may_reset
  M_Reader_may_reset : Meth K A.c_Reader "may_reset" A.f_Reader_may_reset
  b_Reader_may_reset : Binds K A.fd_Reader_may_reset ["self", "word"] []
  F_Reader_may_middle : Fun K "may_middle" "Reader.may_middle" s_Reader_may_middle A.f_Reader_may_middle A.fd_Reader_may_middle
  M_Reader_may_middle : Meth K A.c_Reader "may_middle" A.f_Reader_may_middle
  b_Reader_may_middle : Binds K A.fd_Reader_may_middle ["self", "word"] []
  F_Reader_may_open : Fun K "may_open" "Reader.may_open" s_Reader_may_open A.f_Reader_may_open A.fd_Reader_may_open
  M_Reader_may_open : Meth K A.c_Reader "may_open" A.f_Reader_may_open
  b_Reader_may_open : Binds K A.fd_Reader_may_open ["self", "word"] []
  F_Reader_fits : Fun K "fits" "Reader.fits" s_Reader_fits A.f_Reader_fits A.fd_Reader_fits
  M_Reader_fits : Meth K A.c_Reader "fits" A.f_Reader_fits
  b_Reader_fits : Binds K A.fd_Reader_fits ["self", "word"] []
  F_Reader_take : Fun K "take" "Reader.take" s_Reader_take A.f_Reader_take A.fd_Reader_take
  M_Reader_take : Meth K A.c_Reader "take" A.f_Reader_take
  b_Reader_take : Binds K A.fd_Reader_take ["self", "word"] []
  F_is_step : Fun K "is_step" "is_step" s_is_step A.f_is_step A.fd_is_step
  m_is_step : mg "is_step" = some (.ref A.f_is_step)
  b_is_step : Binds K A.fd_is_step ["function", "row"] []
  F_is_inside : Fun K "is_inside" "is_inside" s_is_inside A.f_is_inside A.fd_is_inside
  m_is_inside : mg "is_inside" = some (.ref A.f_is_inside)
  b_is_inside : Binds K A.fd_is_inside ["function", "row", "block"] []
  F_is_guarded : Fun K "is_guarded" "is_guarded" s_is_guarded A.f_is_guarded A.fd_is_guarded
  m_is_guarded : mg "is_guarded" = some (.ref A.f_is_guarded)
  b_is_guarded : Binds K A.fd_is_guarded ["function", "row", "block"] []
  F_is_shielded : Fun K "is_shielded" "is_shielded" s_is_shielded A.f_is_shielded A.fd_is_shielded
  m_is_shielded : mg "is_shielded" = some (.ref A.f_is_shielded)
  b_is_shielded : Binds K A.fd_is_shielded ["function", "row"] []
  F_loop_of : Fun K "loop_of" "loop_of" s_loop_of A.f_loop_of A.fd_loop_of
  m_loop_of : mg "loop_of" = some (.ref A.f_loop_of)
  b_loop_of : Binds K A.fd_loop_of ["function", "row"] []
  F_retries_of : Fun K "retries_of" "retries_of" s_retries_of A.f_retries_of A.fd_retries_of
  m_retries_of : mg "retries_of" = some (.ref A.f_retries_of)
  b_retries_of : Binds K A.fd_retries_of ["function", "row"] []
  F_numbers_of : Fun K "numbers_of" "numbers_of" s_numbers_of A.f_numbers_of A.fd_numbers_of
  m_numbers_of : mg "numbers_of" = some (.ref A.f_numbers_of)
  b_numbers_of : Binds K A.fd_numbers_of ["function", "spot"] []
  F_leave : Fun K "leave" "leave" s_leave A.f_leave A.fd_leave
  m_leave : mg "leave" = some (.ref A.f_leave)
  b_leave : Binds K A.fd_leave ["function", "inner", "numbers", "events"] []
  F_passed : Fun K "passed" "passed" s_passed A.f_passed A.fd_passed
  m_passed : mg "passed" = some (.ref A.f_passed)
  b_passed : Binds K A.fd_passed ["function", "row", "events"] []
  F_settled : Fun K "settled" "settled" s_settled A.f_settled A.fd_settled
  m_settled : mg "settled" = some (.ref A.f_settled)
  b_settled : Binds K A.fd_settled ["function", "place", "numbers"] []
  F_first_spot : Fun K "first_spot" "first_spot" s_first_spot A.f_first_spot A.fd_first_spot
  m_first_spot : mg "first_spot" = some (.ref A.f_first_spot)
  b_first_spot : Binds K A.fd_first_spot ["function"] []
  F_target : Fun K "target" "target" s_target A.f_target A.fd_target
  m_target : mg "target" = some (.ref A.f_target)
  b_target : Binds K A.fd_target ["function", "row", "move"] []
  F_next_spot : Fun K "next_spot" "next_spot" s_next_spot A.f_next_spot A.fd_next_spot
  m_next_spot : mg "next_spot" = some (.ref A.f_next_spot)
  b_next_spot : Binds K A.fd_next_spot ["function", "spot", "move"] []
  F_moves_of : Fun K "moves_of" "moves_of" s_moves_of A.f_moves_of A.fd_moves_of
  m_moves_of : mg "moves_of" = some (.ref A.f_moves_of)
  b_moves_of : Binds K A.fd_moves_of ["function", "row"] []
  F_live_loops : Fun K "live_loops" "live_loops" s_live_loops A.f_live_loops A.fd_live_loops
  m_live_loops : mg "live_loops" = some (.ref A.f_live_loops)
  b_live_loops : Binds K A.fd_live_loops ["function", "spot"] []
  F_way_of : Fun K "way_of" "way_of" s_way_of A.f_way_of A.fd_way_of
  m_way_of : mg "way_of" = some (.ref A.f_way_of)
  b_way_of : Binds K A.fd_way_of ["function", "spot"] []
  F_reason_of : Fun K "reason_of" "reason_of" s_reason_of A.f_reason_of A.fd_reason_of
  m_reason_of : mg "reason_of" = some (.ref A.f_reason_of)
  b_reason_of : Binds K A.fd_reason_of ["way"] []
  F_is_out : Fun K "is_out" "is_out" s_is_out A.f_is_out A.fd_is_out
  m_is_out : mg "is_out" = some (.ref A.f_is_out)
  b_is_out : Binds K A.fd_is_out ["mark"] []
  F_is_in : Fun K "is_in" "is_in" s_is_in A.f_is_in A.fd_is_in
  m_is_in : mg "is_in" = some (.ref A.f_is_in)
  b_is_in : Binds K A.fd_is_in ["mark"] []
  F_mark_of : Fun K "mark_of" "mark_of" s_mark_of A.f_mark_of A.fd_mark_of
  m_mark_of : mg "mark_of" = some (.ref A.f_mark_of)
  b_mark_of : Binds K A.fd_mark_of ["sending", "reading"] []
  F_is_amid : Fun K "is_amid" "is_amid" s_is_amid A.f_is_amid A.fd_is_amid
  m_is_amid : mg "is_amid" = some (.ref A.f_is_amid)
  b_is_amid : Binds K A.fd_is_amid ["word", "mark"] []
  F_row_fault : Fun K "row_fault" "row_fault" s_row_fault A.f_row_fault A.fd_row_fault
  m_row_fault : mg "row_fault" = some (.ref A.f_row_fault)
  b_row_fault : Binds K A.fd_row_fault ["word", "mark", "owed"] []
  F_mark_after : Fun K "mark_after" "mark_after" s_mark_after A.f_mark_after A.fd_mark_after
  m_mark_after : mg "mark_after" = some (.ref A.f_mark_after)
  b_mark_after : Binds K A.fd_mark_after ["word", "mark"] []
  F_owed_change : Fun K "owed_change" "owed_change" s_owed_change A.f_owed_change A.fd_owed_change
  m_owed_change : mg "owed_change" = some (.ref A.f_owed_change)
  b_owed_change : Binds K A.fd_owed_change ["word"] []
  F_resets : Fun K "resets" "resets" s_resets A.f_resets A.fd_resets
  m_resets : mg "resets" = some (.ref A.f_resets)
  b_resets : Binds K A.fd_resets ["word"] []
  F_first_state : Fun K "first_state" "first_state" s_first_state A.f_first_state A.fd_first_state
  m_first_state : mg "first_state" = some (.ref A.f_first_state)
  b_first_state : Binds K A.fd_first_state ["function", "mark", "owed"] []
  F_possible : Fun K "possible" "possible" s_possible A.f_possible A.fd_possible
  m_possible : mg "possible" = some (.ref A.f_possible)
  b_possible : Binds K A.fd_possible ["function", "lengths", "state"] []
  F_fault_of : Fun K "fault_of" "fault_of" s_fault_of A.f_fault_of A.fd_fault_of
  m_fault_of : mg "fault_of" = some (.ref A.f_fault_of)
  b_fault_of : Binds K A.fd_fault_of ["function", "state", "move"] []
  F_rounds_after : Fun K "rounds_after" "rounds_after" s_rounds_after A.f_rounds_after A.fd_rounds_after
  m_rounds_after : mg "rounds_after" = some (.ref A.f_rounds_after)
  b_rounds_after : Binds K A.fd_rounds_after ["function", "state", "move", "spot"] []
  F_state_after : Fun K "state_after" "state_after" s_state_after A.f_state_after A.fd_state_after
  m_state_after : mg "state_after" = some (.ref A.f_state_after)
  b_state_after : Binds K A.fd_state_after ["function", "state", "move"] []
  F_is_made_of : Fun K "is_made_of" "is_made_of" s_is_made_of A.f_is_made_of A.fd_is_made_of
  m_is_made_of : mg "is_made_of" = some (.ref A.f_is_made_of)
  b_is_made_of : Binds K A.fd_is_made_of ["text", "characters"] []
  F_is_list_name : Fun K "is_list_name" "is_list_name" s_is_list_name A.f_is_list_name A.fd_is_list_name
  m_is_list_name : mg "is_list_name" = some (.ref A.f_is_list_name)
  b_is_list_name : Binds K A.fd_is_list_name ["text"] []
  F_is_row : Fun K "is_row" "is_row" s_is_row A.f_is_row A.fd_is_row
  m_is_row : mg "is_row" = some (.ref A.f_is_row)
  b_is_row : Binds K A.fd_is_row ["words"] []
  m_LETTERS : mg "LETTERS" = some A.v_LETTERS
  r_LETTERS : RelV (.str "abcdefghijklmnopqrstuvwxyz") A.v_LETTERS
  m_MOST_ROWS : mg "MOST_ROWS" = some A.v_MOST_ROWS
  r_MOST_ROWS : RelV (.int 24) A.v_MOST_ROWS
  m_MOST_LISTS : mg "MOST_LISTS" = some A.v_MOST_LISTS
  r_MOST_LISTS : RelV (.int 3) A.v_MOST_LISTS
  m_MOST_DEEP : mg "MOST_DEEP" = some A.v_MOST_DEEP
  r_MOST_DEEP : RelV (.int 5) A.v_MOST_DEEP

  F_source : Fun K "_law_source" "_law_source" s_source A.f_source A.fd_source
  m_source : mg "_law_source" = some (.ref A.f_source)
  b_source : Binds K A.fd_source ["_law_script", "_law_place"] []
  F_draw : Fun K "_law_draw" "_law_draw" s_draw A.f_draw A.fd_draw
  m_draw : mg "_law_draw" = some (.ref A.f_draw)
  b_draw : Binds K A.fd_draw ["_law_source_here", "_law_many"] []
  F_of : Fun K "_law_of" "_law_of" s_of A.f_of A.fd_of
  m_of : mg "_law_of" = some (.ref A.f_of)
  b_of : Binds K A.fd_of ["_law_source_here", "_law_some"] []
  F_same : Fun K "_law_same" "_law_same" s_same A.f_same A.fd_same
  m_same : mg "_law_same" = some (.ref A.f_same)
  b_same : Binds K A.fd_same ["_law_actual", "_law_due_here"] []
  F_fault : Fun K "_law_fault" "_law_fault" s_fault A.f_fault A.fd_fault
  m_fault : mg "_law_fault" = some (.ref A.f_fault)
  b_fault : Binds K A.fd_fault ["_law_word", "_law_mark_here", "_law_owed"] []
  F_mark : Fun K "_law_mark" "_law_mark" s_mark A.f_mark A.fd_mark
  m_mark : mg "_law_mark" = some (.ref A.f_mark)
  b_mark : Binds K A.fd_mark ["_law_word", "_law_mark_here"] []
  F_prefix : Fun K "_law_prefix" "_law_prefix" s_prefix A.f_prefix A.fd_prefix
  m_prefix : mg "_law_prefix" = some (.ref A.f_prefix)
  b_prefix : Binds K A.fd_prefix ["_law_source_here"] []
  F_wrapped : Fun K "_law_wrapped" "_law_wrapped" s_wrapped A.f_wrapped A.fd_wrapped
  m_wrapped : mg "_law_wrapped" = some (.ref A.f_wrapped)
  b_wrapped : Binds K A.fd_wrapped ["_law_source_here", "_law_word"] []
  F_due : Fun K "_law_due" "_law_due" s_due A.f_due A.fd_due
  m_due : mg "_law_due" = some (.ref A.f_due)
  b_due : Binds K A.fd_due ["_law_word", "_law_mark_here", "_law_owed"] []
  F_stays : Fun K "_law_stays" "_law_stays" s_stays A.f_stays A.fd_stays
  m_stays : mg "_law_stays" = some (.ref A.f_stays)
  b_stays : Binds K A.fd_stays ["_law_walk", "_law_before", "_law_mark_here", "_law_owed", "_law_fault_here"] []
  F_after : Fun K "_law_after" "_law_after" s_after A.f_after A.fd_after
  m_after : mg "_law_after" = some (.ref A.f_after)
  b_after : Binds K A.fd_after ["_law_word", "_law_mark_here", "_law_owed"] []
  F_holds : Fun K "_law_holds" "_law_holds" s_holds A.f_holds A.fd_holds
  m_holds : mg "_law_holds" = some (.ref A.f_holds)
  b_holds : Binds K A.fd_holds ["_law_source_here"] []
  F_law : Fun K "law" "law" s_law A.f_law A.fd_law
  m_law : mg "law" = some (.ref A.f_law)
  b_law : Binds K A.fd_law ["_law_script"] []
  z_len : mg "len" = none
  z_abs : mg "abs" = none
  z_int : mg "int" = none
  z_range : mg "range" = none
  z_min : mg "min" = none
  z_max : mg "max" = none
  z_isinstance : mg "isinstance" = none
  z_zip : mg "zip" = none
  z_all : mg "all" = none
  z_any : mg "any" = none
  z_tuple : mg "tuple" = none
  z_list : mg "list" = none
  z_bool : mg "bool" = none
  z_str : mg "str" = none
  z_dict : mg "dict" = none
  z_sorted : mg "sorted" = none
  z_enumerate : mg "enumerate" = none
end K45
end
section
set_option Elab.async false
set_option autoImplicit false
set_option linter.all false
set_option maxRecDepth 100000
set_option maxHeartbeats 2000000
/-! readings' lemmas in the words of the mirror -/
namespace PySem.Fl
open PySem PySem.Spec PyProof.Rows L2 PySem.OxE LawC
theorem bs {α β : Type} {x : Option α} {f : α → Option β} {y : β} (h : (do let a ← x; f a) = some y) : ∃ a, x = some a ∧ f a = some y := Option.bind_eq_some_iff.mp h
theorem bb {α β : Type} {x : Option α} {f : α → Option β} {y : β} (h : x.bind f = some y) : ∃ a, x = some a ∧ f a = some y := Option.bind_eq_some_iff.mp h
theorem bi {α : Type} {x : Option (Option α)} {y : α} (h : x.bind id = some y) : x = some (some y) := by
  obtain ⟨a, h1, h2⟩ := bb h
  rw [h1]
  exact congrArg some h2
theorem bs2 {α β : Type} {x : Option (Option α)} {f : α → Option β} {y : β} (h : (do let a ← x; let a ← a; f a) = some y) : ∃ a, x = some (some a) ∧ f a = some y := by
  obtain ⟨a, h1, h2⟩ := bs h
  obtain ⟨b, rfl, h3⟩ := bs h2
  exact ⟨b, h1, h3⟩
section
variable {K : PySem.W.Frag} {H : Hp} {σ : L2.St} {ta tb tc : TE} {x y : Str} {a b c : Int} {n m l : Nat}
theorem ev_eqS (ha : Evl.Ev ta σ H (.str x)) (hb : Evl.Ev tb σ H (.str y)) : Evl.Ev (tOp rEq ta tb) σ H (.bl (decide (x = y))) := Evl.ev_is (Evl.ev_op ha hb (Evl.rv_eq rfl)) (by simp)
theorem et_eqS (ha : Evl.Ev ta σ H (.str x)) (hb : Evl.Ev tb σ H (.str y)) : Evl.EvT (tTest (tOp rEq ta tb)) σ H (decide (x = y)) := Evl.et_test (ev_eqS ha hb)
theorem ev_neS (ha : Evl.Ev ta σ H (.str x)) (hb : Evl.Ev tb σ H (.str y)) : Evl.Ev (tOp rNe ta tb) σ H (.bl (!decide (x = y))) := Evl.ev_is (Evl.ev_op ha hb (Evl.rv_ne rfl)) (by simp)
theorem et_neS (ha : Evl.Ev ta σ H (.str x)) (hb : Evl.Ev tb σ H (.str y)) : Evl.EvT (tTest (tOp rNe ta tb)) σ H (!decide (x = y)) := Evl.et_test (ev_neS ha hb)
theorem dec_nat : decide ((V.int (n : Int)) = V.int (m : Int)) = decide (n = m) := by
  by_cases h : n = m
  · subst h; simp
  · rw [decide_eq_false h]
    refine decide_eq_false fun e => h ?_
    injection e with e
    omega
theorem ev_eqN (ha : Evl.Ev ta σ H (.int n)) (hb : Evl.Ev tb σ H (.int m)) : Evl.Ev (tOp rEq ta tb) σ H (.bl (decide (n = m))) := Evl.ev_is (Evl.ev_op ha hb (Evl.rv_eq rfl)) (by rw [dec_nat])
theorem et_eqN (ha : Evl.Ev ta σ H (.int n)) (hb : Evl.Ev tb σ H (.int m)) : Evl.EvT (tTest (tOp rEq ta tb)) σ H (decide (n = m)) := Evl.et_test (ev_eqN ha hb)
theorem ev_eqI (ha : Evl.Ev ta σ H (.int a)) (hb : Evl.Ev tb σ H (.int b)) : Evl.Ev (tOp rEq ta tb) σ H (.bl (decide (a = b))) := Evl.ev_is (Evl.ev_op ha hb (Evl.rv_eq rfl)) (by simp)
theorem et_eqI (ha : Evl.Ev ta σ H (.int a)) (hb : Evl.Ev tb σ H (.int b)) : Evl.EvT (tTest (tOp rEq ta tb)) σ H (decide (a = b)) := Evl.et_test (ev_eqI ha hb)
theorem et_ltI (ha : Evl.Ev ta σ H (.int a)) (hb : Evl.Ev tb σ H (.int b)) : Evl.EvT (tTest (tOp (rI0 fun i j => .bl (decide (i < j))) ta tb)) σ H (decide (a < b)) := Evl.et_test (Evl.ev_op ha hb Evl.rv_I0)
theorem et_ltN (ha : Evl.Ev ta σ H (.int n)) (hb : Evl.Ev tb σ H (.int m)) : Evl.EvT (tTest (tOp (rI0 fun i j => .bl (decide (i < j))) ta tb)) σ H (decide (n < m)) := Evl.et_is (et_ltI ha hb) (by simp)
theorem et_gtI (ha : Evl.Ev ta σ H (.int a)) (hb : Evl.Ev tb σ H (.int b)) : Evl.EvT (tTest (tOp (rI0 fun i j => .bl (decide (j < i))) ta tb)) σ H (decide (b < a)) := Evl.et_test (Evl.ev_op ha hb Evl.rv_I0)
theorem et_geN (ha : Evl.Ev ta σ H (.int n)) (hb : Evl.Ev tb σ H (.int m)) : Evl.EvT (tTest (tOp (rI0 fun i j => .bl (decide (j ≤ i))) ta tb)) σ H (decide (m ≤ n)) := Evl.et_is (Evl.et_test (Evl.ev_op ha hb Evl.rv_I0)) (by simp)
theorem ev_addN (ha : Evl.Ev ta σ H (.int n)) {g : Int → Int → V} (hg : g (n : Int) 1 = .int ((n : Int) + 1)) : Evl.Ev (tOp (rI0 g) ta (tC (.int 1))) σ H (.int ((n + 1 : Nat) : Int)) := Evl.ev_is (Evl.ev_op ha Evl.ev_c Evl.rv_I0) (by rw [hg]; simp)
theorem ev_chainN (ha : Evl.Ev ta σ H (.int n)) (hb : Evl.Ev tb σ H (.int m)) (hc : n < m → Evl.Ev tc σ H (.int l)) : Evl.Ev (tChain (rI0 fun i j => .bl (decide (i < j))) (rI0 fun i j => .bl (decide (i < j))) ta tb tc) σ H (.bl (decide (n < m) && decide (m < l))) := fun H1 e1 Q q =>
  ha H1 e1 _ fun H2 e2 => hb H2 (e1.trans e2) _ fun H3 e3 => ⟨_, _, rfl, rfl, _, rfl, by
    by_cases h : n < m
    · rw [if_pos (by simp [h])]
      refine hc h H3 ((e1.trans e2).trans e3) _ fun H4 e4 => ⟨_, _, rfl, rfl, ?_⟩
      have := q H4 ((e2.trans e3).trans e4)
      rw [decide_eq_true h, Bool.true_and] at this
      show Q (V.bl (decide ((m : Int) < (l : Int)))) H4
      rw [show decide ((m : Int) < (l : Int)) = decide (m < l) by simp]
      exact this
    · rw [if_neg (by simp [h])]
      have := q H3 (e2.trans e3)
      rw [decide_eq_false h, Bool.false_and] at this
      exact this⟩
theorem ev_inW {p : Addr} {ws : List Str} (ha : Evl.Ev ta σ H (.str x)) (hp : ∀ H, SqT K H p (ws.map V.str)) : Evl.Ev (tOp (rIn K false) ta (tC (.ref p))) σ H (.bl (decide (x ∈ ws))) := Evl.ev_is (Evl.ev_op ha Evl.ev_c (Evl.rv_isT (hp _) rfl flat_strs)) (by rw [inV_str])
theorem ev_niW {p : Addr} {ws : List Str} (ha : Evl.Ev ta σ H (.str x)) (hp : ∀ H, SqT K H p (ws.map V.str)) : Evl.Ev (tOp (rIn K true) ta (tC (.ref p))) σ H (.bl (!decide (x ∈ ws))) := Evl.ev_is (Evl.ev_op ha Evl.ev_c (Evl.rv_niT (hp _) rfl flat_strs)) (by rw [inV_str])
theorem et_some {o : Option Nat} (ha : Evl.Ev ta σ H (oI o)) : Evl.EvT (tTest (tOp (fun x y H Q => y = V.non ∧ Q (V.bl (!decide (x = V.non))) H) ta (tC .non))) σ H o.isSome := by
  refine Evl.et_is (Evl.et_test (ev_notN ha)) ?_
  cases o <;> simp [oI]
theorem et_none {o : Option Nat} (ha : Evl.Ev ta σ H (oI o)) : Evl.EvT (tTest (tOp (fun x y H Q => y = V.non ∧ Q (V.bl (decide (x = V.non))) H) ta (tC .non))) σ H o.isNone := by
  refine Evl.et_is (Evl.et_test (ev_isN ha)) ?_
  cases o <;> simp [oI]
/-- [x] + ys -/
theorem el_catN {p : Addr} {xs ys : List V} (ha : Evl.EvL ta σ H xs) (hb : Evl.Ev tb σ H (.ref p)) (hp : H p = some (.lst ys)) (hz : xs.length + ys.length ≤ 100000) : Evl.EvL (tOp rCat ta tb) σ H (xs ++ ys) := fun H1 e1 Q q =>
  ha H1 e1 _ fun b H2 hb0 e2 hb2 => hb H2 (e1.trans e2) _ fun H3 e3 => ⟨b, p, xs, ys, rfl, rfl, e3 _ _ hb2, e3 _ _ (e2 _ _ (e1 _ _ hp)), Evl.sz_of hz, fun r hr => q r _ (Evl.fresh_back e2 (Evl.fresh_back e3 hr)) ((e2.trans e3).trans (Evl.Ex.new hr)) upd_same⟩
end
end PySem.Fl
end
section
set_option Elab.async false
set_option autoImplicit false
set_option linter.all false
set_option maxRecDepth 100000
set_option maxHeartbeats 4000000
namespace K45
open PySem PySem.Spec PyProof.Rows L2 PySem.OxE LawC PySem.Fl
section
variable {P : Program} {w : World} {K : PySem.W.Frag} {mg : Str → Option Value} {base : Heap} {A0 : Ad}
theorem ok_is_step (T : Txt P K mg A0) : FnOk P w K mg base CX0 1 A0.f_is_step A0.fd_is_step ["function", "row"] (spB K A0.c_Function Fn.isStep) := by
  refine T.F_is_step.ok sc_is_step (fun vs H Q E h => ?_) (fun cdv A outer s H vs Q E hr h => ?_)
  · obtain ⟨a, r, F, b, rfl, _⟩ := h
    rfl
  · obtain ⟨a, r, F, b, rfl, hF, hm, k⟩ := h
    refine ⟨_, (pss_cons (ps_set (i := 2) sc_is_step.nd rfl (Or.inl rfl) (pe_ix ix_tup (pe_fld (pv 0) rfl) (pv 1) (fun _ _ => rfl)))
 (pss_cons (ps_if (pt_cmpR op_eq (pv 2) pe_str (nomark _))
 (pss_one (ps_ret (pe_cmpR op_eq (pe_ix ix_tup (pe_fld (pv 0) rfl) (pe_ix ix_tup (pe_fld (pv 0) rfl) (pv 1) (fun _ _ => rfl)) (fun _ _ => rfl)) pe_str (nomark _))))
 pss_nil)
 (pss_one (ps_ret (pe_cmpR op_notIn_seq (pv 2) (pe_glob (v := .ref _) rfl T.m_PA rfl) (by first | rfl | with_unfolding_all rfl)))))), ?_⟩
    have C := T.fc
    unfold Fn.isStep at hm
    obtain ⟨wd, hw, hm⟩ := bs hm
    refine Evl.q_asg (ev_word hF C (Evl.ev_var rfl) (Evl.ev_var rfl) hw) fun H1 e1 => ?_
    refine Evl.q_when (et_eqS (Evl.ev_var rfl) Evl.ev_c) (fun h H2 e2 => ?_) (fun h H2 e2 => ?_)
    · rw [if_pos (of_decide_eq_true h)] at hm
      obtain ⟨o, ho, hm⟩ := bs2 hm
      obtain ⟨v, hv, hm⟩ := bs hm
      cases hm
      have hF2 := (hF.same e1).same e2
      exact Evl.s_ret (ev_eqS (ev_word hF2 C (Evl.ev_var rfl) (ev_opener hF2 C (Evl.ev_var rfl) (Evl.ev_var rfl) ho) hv) Evl.ev_c) fun H3 e3 => k H3 (Same.trans (Same.trans e1 e2) e3)
    · rw [if_neg (of_decide_eq_false h)] at hm
      cases hm
      exact Evl.s_ret (ev_niW (Evl.ev_var rfl) T.q_PA) fun H3 e3 => k H3 (Same.trans (Same.trans e1 e2) e3)
theorem ok_is_inside (T : Txt P K mg A0) : FnOk P w K mg base CX0 1 A0.f_is_inside A0.fd_is_inside ["function", "row", "block"] (spB2 K A0.c_Function Fn.isInside) := by
  refine T.F_is_inside.ok sc_is_inside (fun vs H Q E h => ?_) (fun cdv A outer s H vs Q E hr h => ?_)
  · obtain ⟨a, r, b, F, o, rfl, _⟩ := h
    rfl
  · obtain ⟨a, r, b, F, o, rfl, hF, hm, k⟩ := h
    refine ⟨_, (pss_one (ps_ret (pe_or (pe_chain op_lt op_lt (pv 2) (pv 1) (pe_dget (hu_of hr) (pe_fld (pv 0) rfl) (pv 2) (fun _ _ => rfl))) (pe_one (pe_and (pe_cmpR op_eq (pv 1) (pe_dget (hu_of hr) (pe_fld (pv 0) rfl) (pv 2) (fun _ _ => rfl)) (nomark _)) (pe_one (pe_cmpR op_eq (pe_ix ix_tup (pe_fld (pv 0) rfl) (pv 2) (fun _ _ => rfl)) pe_str (nomark _)))))))), ?_⟩
    have C := T.fc
    unfold Fn.isInside at hm
    obtain ⟨e, he, hm⟩ := bs hm
    have ee : ∀ H1, Evl.Ex H H1 → Evl.Ev (tDGet (tFld K (tVar 0) "ends") (tVar 2)) [some (.ref a), some (.int (r : Int)), some (.int (b : Int))] H1 (.int (e : Int)) := fun H1 e1 => ev_end (hF.same e1) C (Evl.ev_var rfl) (Evl.ev_var rfl) he
    by_cases h1 : b < r ∧ r < e
    · rw [if_pos h1] at hm
      cases hm
      refine Evl.s_ret (Evl.ev_is (Evl.ev_orV (b := true) (ev_chainN (Evl.ev_var rfl) (Evl.ev_var rfl) fun _ => ee _ (Evl.Ex.refl _)) fun h => ?_) (by simp)) k
      simp [h1.1, h1.2] at h
    · rw [if_neg h1] at hm
      have z : (decide (b < r) && decide (r < e)) = false := by
        simp only [Bool.and_eq_false_iff, decide_eq_false_iff_not]
        by_cases q : b < r
        · exact .inr fun q2 => h1 ⟨q, q2⟩
        · exact .inl q
      by_cases h2 : r = e
      · rw [if_pos h2] at hm
        obtain ⟨wd, hw, hm⟩ := bs hm
        cases hm
        refine Evl.s_ret (Evl.ev_is (Evl.ev_orV (b := decide (wd = "each")) (ev_chainN (Evl.ev_var rfl) (Evl.ev_var rfl) fun _ => ee _ (Evl.Ex.refl _)) fun h => ?_) (by rw [z]; rfl)) k
        exact Evl.ev_is (Evl.ev_andV (b := decide (wd = "each")) (ev_eqN (Evl.ev_var rfl) (ee _ (Evl.Ex.refl _))) fun _ => ev_eqS (ev_word hF C (Evl.ev_var rfl) (Evl.ev_var rfl) hw) Evl.ev_c) (by simp [h2])
      · rw [if_neg h2] at hm
        cases hm
        refine Evl.s_ret (Evl.ev_is (Evl.ev_orV (b := false) (ev_chainN (Evl.ev_var rfl) (Evl.ev_var rfl) fun _ => ee _ (Evl.Ex.refl _)) fun h => ?_) (by rw [z]; rfl)) k
        exact Evl.ev_is (Evl.ev_andV (b := false) (ev_eqN (Evl.ev_var rfl) (ee _ (Evl.Ex.refl _))) fun h => absurd (of_decide_eq_true h) h2) (by simp)
theorem ok_is_guarded (T : Txt P K mg A0) : FnOk P w K mg base CX0 1 A0.f_is_guarded A0.fd_is_guarded ["function", "row", "block"] (spB2 K A0.c_Function Fn.isGuarded) := by
  refine T.F_is_guarded.ok sc_is_guarded (fun vs H Q E h => ?_) (fun cdv A outer s H vs Q E hr h => ?_)
  · obtain ⟨a, r, b, F, o, rfl, _⟩ := h
    rfl
  · obtain ⟨a, r, b, F, o, rfl, hF, hm, k⟩ := h
    refine ⟨_, (pss_one (ps_ret (pe_chain op_lt op_lt (pv 2) (pv 1) (pe_dget (hu_of hr) (pe_fld (pv 0) rfl) (pv 2) (fun _ _ => rfl))))), ?_⟩
    have C := T.fc
    unfold Fn.isGuarded at hm
    by_cases h1 : b < r
    · rw [if_pos h1] at hm
      obtain ⟨m, h2, hm⟩ := bs2 hm
      cases hm
      refine Evl.s_ret (Evl.ev_is (ev_chainN (l := m) (Evl.ev_var rfl) (Evl.ev_var rfl) fun _ => ev_mid hF C (Evl.ev_var rfl) (Evl.ev_var rfl) h2) (by rw [decide_eq_true h1]; rfl)) k
    · rw [if_neg h1] at hm
      cases hm
      exact Evl.s_ret (Evl.ev_is (ev_chainN (l := 0) (Evl.ev_var rfl) (Evl.ev_var rfl) fun h => absurd h h1) (by rw [decide_eq_false h1]; rfl)) k
theorem ok_is_shielded (T : Txt P K mg A0) : FnOk P w K mg base CX0 1 A0.f_is_shielded A0.fd_is_shielded ["function", "row"] (spB K A0.c_Function Fn.isShielded) := by
  refine T.F_is_shielded.ok sc_is_shielded (fun vs H Q E h => ?_) (fun cdv A outer s H vs Q E hr h => ?_)
  · obtain ⟨a, r, F, b, rfl, _⟩ := h
    rfl
  · obtain ⟨a, r, F, b, rfl, hF, hm, k⟩ := h
    refine ⟨_, (pss_cons (ps_set (i := 2) sc_is_shielded.nd rfl (Or.inl rfl) (pe_ix ix_tup (pe_fld (pv 0) rfl) (pv 1) (fun _ _ => rfl)))
 (pss_cons (ps_while PassesOwn.never (pt_cmpR op_notN (pv 2) pe_non (nomark _))
 (pss_cons (ps_if (pt_cmpR op_eq (pe_ix ix_tup (pe_fld (pv 0) rfl) (pv 2) (fun _ _ => rfl)) pe_str (nomark _))
 (pss_one (ps_ret pe_bl))
 pss_nil)
 (pss_one (ps_set (i := 2) sc_is_shielded.nd rfl (Or.inl rfl) (pe_ix ix_tup (pe_fld (pv 0) rfl) (pv 2) (fun _ _ => rfl))))))
 (pss_one (ps_ret pe_bl)))), ?_⟩
    have C := T.fc
    unfold Fn.isShielded Fn.around at hm
    obtain ⟨l0, hl, hm⟩ := bs hm
    obtain ⟨o, ho, hl⟩ := bs hl
    cases hm
    have hc := F.chain_ch hl
    refine Evl.q_asg (ev_opener hF C (Evl.ev_var rfl) (Evl.ev_var rfl) ho) fun H1 e1 => ?_
    refine Evl.q_while (fun m σ' H' => Same H H' ∧ ∃ o l, F.Ch o l ∧ l.length = m ∧ σ' = [some (.ref a), some (.int (r : Int)), some (oI o)] ∧ l.any (F.wordIs "shield") = l0.any (F.wordIs "shield")) l0.length ⟨e1, o, l0, hc, rfl, rfl, rfl⟩ fun m σ' H' h => ?_
    obtain ⟨s1, o, l, hc, rfl, rfl, hl⟩ := h
    refine ⟨_, et_some (Evl.ev_var rfl), fun h H2 e2 => ?_, fun h H2 e2 => ?_⟩
    · cases hc with
      | nil => cases h
      | @cons b wd o l h1 h2 h3 =>
        have s2 := Same.trans s1 e2
        refine ⟨fun σ' H' => Same H H' ∧ ∃ o l', F.Ch o l' ∧ l'.length = l.length ∧ σ' = [some (.ref a), some (.int (r : Int)), some (oI o)] ∧ l'.any (F.wordIs "shield") = l0.any (F.wordIs "shield"), fun σ2 H2 z => ⟨l.length, Nat.lt_succ_self _, z⟩, ?_⟩
        refine Evl.q_when (et_eqS (ev_word (hF.same s2) C (Evl.ev_var rfl) (Evl.ev_var rfl) h1) Evl.ev_c) (fun h H3 e3 => ?_) (fun h H3 e3 => ?_)
        · refine Evl.s_ret Evl.ev_c fun H4 e4 => ?_
          have := k H4 (Same.trans (Same.trans s2 e3) e4)
          rw [← hl, List.any_cons, show F.wordIs "shield" b = true by unfold Fn.wordIs; rw [h1, of_decide_eq_true h]; simp] at this
          exact this
        · refine Evl.s_asg (ev_opener (hF.same (Same.trans s2 e3)) C (Evl.ev_var rfl) (Evl.ev_var rfl) h2) fun H4 e4 => ⟨Same.trans (Same.trans s2 e3) e4, o, l, h3, rfl, rfl, ?_⟩
          rw [← hl, List.any_cons, show F.wordIs "shield" b = false by unfold Fn.wordIs; rw [h1]; simpa using of_decide_eq_false h]
          rfl
    · cases hc with
      | cons => cases h
      | nil =>
        refine Evl.s_ret Evl.ev_c fun H3 e3 => ?_
        have := k H3 (Same.trans (Same.trans s1 e2) e3)
        rw [← hl] at this
        exact this
theorem ok_loop_of (T : Txt P K mg A0) : FnOk P w K mg base CX0 1 A0.f_loop_of A0.fd_loop_of ["function", "row"] (spO K A0.c_Function Fn.loopOf) := by
  refine T.F_loop_of.ok sc_loop_of (fun vs H Q E h => ?_) (fun cdv A outer s H vs Q E hr h => ?_)
  · obtain ⟨a, r, F, b, rfl, _⟩ := h
    rfl
  · obtain ⟨a, r, F, b, rfl, hF, hm, k⟩ := h
    refine ⟨_, (pss_cons (ps_if (pt_cmpR op_ge (pv 1) (pe_callB call_len (by rfl) T.z_len PySem.boot_len (pa_cons (pe_fld (pv 0) rfl) pa_nil)) (nomark _))
 (pss_one (ps_ret pe_non))
 pss_nil)
 (pss_cons (ps_set (i := 2) sc_loop_of.nd rfl (Or.inl rfl) (pe_ix ix_tup (pe_fld (pv 0) rfl) (pv 1) (fun _ _ => rfl)))
 (pss_cons (ps_while PassesOwn.never (PW.pt (pw_and (pt_cmpR op_notN (pv 2) pe_non (nomark _)) (pw_and1 (pt_cmpR op_ne (pe_ix ix_tup (pe_fld (pv 0) rfl) (pv 2) (fun _ _ => rfl)) pe_str (nomark _)))))
 (pss_one (ps_set (i := 2) sc_loop_of.nd rfl (Or.inl rfl) (pe_ix ix_tup (pe_fld (pv 0) rfl) (pv 2) (fun _ _ => rfl)))))
 (pss_one (ps_ret (pv 2)))))), ?_⟩
    have C := T.fc
    unfold Fn.loopOf at hm
    refine Evl.q_when (et_geN (Evl.ev_var rfl) (ev_lenW hF C (Evl.ev_var rfl))) (fun h H1 e1 => ?_) (fun h H1 e1 => ?_)
    · rw [if_pos (of_decide_eq_true h)] at hm
      cases hm
      exact Evl.s_ret Evl.ev_c fun H2 e2 => k H2 (Same.trans e1 e2)
    · rw [if_neg (of_decide_eq_false h)] at hm
      unfold Fn.around at hm
      obtain ⟨l0, hl, hm⟩ := bs hm
      obtain ⟨o, ho, hl⟩ := bs hl
      cases hm
      have hc := F.chain_ch hl
      refine Evl.q_asg (ev_opener (hF.same e1) C (Evl.ev_var rfl) (Evl.ev_var rfl) ho) fun H2 e2 => ?_
      refine Evl.q_while (fun m σ' H' => Same H H' ∧ ∃ o l, F.Ch o l ∧ l.length = m ∧ σ' = [some (.ref a), some (.int (r : Int)), some (oI o)] ∧ l.find? (F.wordIs "each") = l0.find? (F.wordIs "each")) l0.length ⟨Same.trans e1 e2, o, l0, hc, rfl, rfl, rfl⟩ fun m σ' H' h => ?_
      obtain ⟨s1, o, l, hc, rfl, rfl, hl⟩ := h
      cases hc with
      | nil =>
        refine ⟨false, Evl.et_is (Evl.et_and (a := (none : Option Nat).isSome) (b := true) (et_some (o := none) (Evl.ev_var rfl)) (fun h => (by cases h))) rfl, fun h => (by cases h), fun h H3 e3 => ?_⟩
        refine Evl.s_ret (Evl.ev_var rfl) fun H4 e4 => ?_
        have := k H4 (Same.trans (Same.trans s1 e3) e4)
        rw [← hl] at this
        exact this
      | @cons b wd o l h1 h2 h3 =>
        refine ⟨!decide (wd = "each"), Evl.et_is (Evl.et_and (et_some (o := some b) (Evl.ev_var rfl)) fun _ => et_neS (ev_word (hF.same s1) C (Evl.ev_var rfl) (Evl.ev_var rfl) h1) Evl.ev_c) rfl, fun h H3 e3 => ?_, fun h H3 e3 => ?_⟩
        · refine ⟨fun σ' H' => Same H H' ∧ ∃ o l', F.Ch o l' ∧ l'.length = l.length ∧ σ' = [some (.ref a), some (.int (r : Int)), some (oI o)] ∧ l'.find? (F.wordIs "each") = l0.find? (F.wordIs "each"), fun σ2 H2 z => ⟨l.length, Nat.lt_succ_self _, z⟩, ?_⟩
          refine Evl.s_asg (ev_opener (hF.same (Same.trans s1 e3)) C (Evl.ev_var rfl) (Evl.ev_var rfl) h2) fun H4 e4 => ⟨Same.trans (Same.trans s1 e3) e4, o, l, h3, rfl, rfl, ?_⟩
          rw [← hl, List.find?_cons, show F.wordIs "each" b = false by unfold Fn.wordIs; rw [h1]; simpa using h]
        · refine Evl.s_ret (Evl.ev_var rfl) fun H4 e4 => ?_
          have := k H4 (Same.trans (Same.trans s1 e3) e4)
          rw [← hl, List.find?_cons, show F.wordIs "each" b = true by unfold Fn.wordIs; rw [h1]; simpa using h] at this
          exact this
end

end K45
end
section
set_option Elab.async false
set_option autoImplicit false
set_option linter.all false
set_option maxRecDepth 100000
set_option maxHeartbeats 4000000
namespace K45
open PySem PySem.Spec PyProof.Rows L2 PySem.OxE LawC PySem.Fl
section
variable {P : Program} {w : World} {K : PySem.W.Frag} {mg : Str → Option Value} {base : Heap} {A0 : Ad}
theorem ok_retries_of (T : Txt P K mg A0) : FnOk P w K mg base CX0 1 A0.f_retries_of A0.fd_retries_of ["function", "row"] (spL K A0.c_Function Fn.retriesOf) := by
  refine T.F_retries_of.ok sc_retries_of (fun vs H Q E h => ?_) (fun cdv A outer s H vs Q E hr h => ?_)
  · obtain ⟨a, r, F, b, rfl, _⟩ := h
    rfl
  · obtain ⟨a, r, F, b, rfl, hF, hm, k⟩ := h
    refine ⟨_, (pss_cons (ps_if (pt_cmpR op_ge (pv 1) (pe_callB call_len (by rfl) T.z_len PySem.boot_len (pa_cons (pe_fld (pv 0) rfl) pa_nil)) (nomark _))
 (pss_one (ps_ret (pe_lst pa_nil)))
 pss_nil)
 (pss_cons (ps_set (i := 2) sc_retries_of.nd rfl (Or.inl rfl) (pe_lst pa_nil))
 (pss_cons (ps_set (i := 3) sc_retries_of.nd rfl (Or.inl rfl) (pe_ifExp (pt_cmpR op_eq (pe_ix ix_tup (pe_fld (pv 0) rfl) (pv 1) (fun _ _ => rfl)) pe_str (nomark _)) (pv 1) (pe_ix ix_tup (pe_fld (pv 0) rfl) (pv 1) (fun _ _ => rfl))))
 (pss_cons (ps_while PassesOwn.never (pt_cmpR op_notN (pv 3) pe_non (nomark _))
 (pss_cons (ps_if (pt_cmpR op_eq (pe_ix ix_tup (pe_fld (pv 0) rfl) (pv 3) (fun _ _ => rfl)) pe_str (nomark _))
 (pss_one (ps_set (i := 2) sc_retries_of.nd rfl (Or.inl rfl) (pe_op op_cat (pe_lst (pa_cons (pv 3) pa_nil)) (pv 2))))
 pss_nil)
 (pss_one (ps_set (i := 3) sc_retries_of.nd rfl (Or.inl rfl) (pe_ix ix_tup (pe_fld (pv 0) rfl) (pv 3) (fun _ _ => rfl))))))
 (pss_one (ps_ret (pv 2))))))), ?_⟩
    have C := T.fc
    unfold Fn.retriesOf at hm
    refine Evl.q_when (et_geN (Evl.ev_var rfl) (ev_lenW hF C (Evl.ev_var rfl))) (fun h H1 e1 => ?_) (fun h H1 e1 => ?_)
    · rw [if_pos (of_decide_eq_true h)] at hm
      cases hm
      exact Evl.s_retL (Evl.el_lst Evl.ea_nil (by simp)) fun p H2 h0 e2 h2 => k p H2 (Evl.fresh_back e1 h0) (Same.trans e1 e2) h2
    · rw [if_neg (of_decide_eq_false h)] at hm
      have hlt : r < F.words.length := Nat.lt_of_not_le (of_decide_eq_false h)
      obtain ⟨o, ho, hm⟩ := bs hm
      obtain ⟨l0, hl, hm⟩ := bs hm
      cases hm
      have hc := F.chain_ch hl
      have hl0 : l0.length ≤ F.words.length + 1 := chain_len hl
      refine Evl.q_asgL (Evl.el_lst Evl.ea_nil (by simp)) fun p H2 h0 e2 h2 => ?_
      have s2 := Same.trans e1 e2
      have hw : F.words[r]? = some F.words[r] := by simp [hlt]
      refine Evl.q_asg (v := oI (if F.wordIs "retry" r then some r else o)) (Evl.ev_if (et_eqS (ev_word (hF.same s2) C (Evl.ev_var rfl) (Evl.ev_var rfl) hw) Evl.ev_c) (fun h => ?_) (fun h => ?_)) fun H3 e3 => ?_
      · rw [show F.wordIs "retry" r = true by unfold Fn.wordIs; rw [hw, of_decide_eq_true h]; simp]
        exact Evl.ev_var rfl
      · rw [show F.wordIs "retry" r = false by unfold Fn.wordIs; rw [hw]; simpa using of_decide_eq_false h]
        exact ev_opener (hF.same s2) C (Evl.ev_var rfl) (Evl.ev_var rfl) ho
      refine Evl.q_while (fun m σ' H' => Same H H' ∧ ∃ o l p d, F.Ch o l ∧ l.length = m ∧ σ' = [some (.ref a), some (.int (r : Int)), some (.ref p), some (oI o)] ∧ H p = none ∧ H' p = some (.lst (intsL d)) ∧ d.length + m ≤ F.words.length + 1 ∧ (l.filter (F.wordIs "retry")).reverse ++ d = (l0.filter (F.wordIs "retry")).reverse) l0.length ⟨Same.trans s2 e3, _, l0, p, [], hc, rfl, rfl, Evl.fresh_back e1 h0, e3 _ _ h2, by simpa using hl0, by simp⟩ fun m σ' H' h => ?_
      obtain ⟨s1, o, l, p, d, hc, rfl, rfl, hp0, hp, hd, hl⟩ := h
      refine ⟨_, et_some (Evl.ev_var rfl), fun h H4 e4 => ?_, fun h H4 e4 => ?_⟩
      · cases hc with
        | nil => cases h
        | @cons b wd o l h1 h2 h3 =>
          have s4 := Same.trans s1 e4
          refine ⟨fun σ' H' => Same H H' ∧ ∃ o l' p d, F.Ch o l' ∧ l'.length = l.length ∧ σ' = [some (.ref a), some (.int (r : Int)), some (.ref p), some (oI o)] ∧ H p = none ∧ H' p = some (.lst (intsL d)) ∧ d.length + l.length ≤ F.words.length + 1 ∧ (l'.filter (F.wordIs "retry")).reverse ++ d = (l0.filter (F.wordIs "retry")).reverse, fun σ2 H2 z => ⟨l.length, Nat.lt_succ_self _, z⟩, ?_⟩
          have hz : F.words.length ≤ 90000 := hF.small
          refine Evl.q_when (et_eqS (ev_word (hF.same s4) C (Evl.ev_var rfl) (Evl.ev_var rfl) h1) Evl.ev_c) (fun h H5 e5 => ?_) (fun h H5 e5 => ?_)
          · have s5 := Same.trans s4 e5
            have hb : F.wordIs "retry" b = true := by unfold Fn.wordIs; rw [h1, of_decide_eq_true h]; simp
            refine Evl.s_asgL (el_catN (Evl.el_lst (Evl.ea_cons (Evl.ev_var (v := oI (some b)) rfl) Evl.ea_nil) (by simp)) (Evl.ev_var rfl) (e5 _ _ (e4 _ _ hp)) (by unfold intsL; simp only [List.length_cons, List.length_nil, List.length_map] at hd ⊢; omega)) fun q H6 hq e6 h6 => ?_
            refine Evl.s_asg (ev_opener (hF.same (Same.trans s5 e6)) C (Evl.ev_var rfl) (Evl.ev_var rfl) h2) fun H7 e7 => ⟨Same.trans (Same.trans s5 e6) e7, o, l, q, b :: d, h3, rfl, rfl, Evl.fresh_back s5 hq, e7 _ _ h6, ?_, ?_⟩
            · simp only [List.length_cons] at hd ⊢; omega
            · rw [← hl, List.filter_cons, if_pos hb, List.reverse_cons, List.append_assoc]; rfl
          · have s5 := Same.trans s4 e5
            have hb : F.wordIs "retry" b = false := by unfold Fn.wordIs; rw [h1]; simpa using of_decide_eq_false h
            refine Evl.s_asg (ev_opener (hF.same s5) C (Evl.ev_var rfl) (Evl.ev_var rfl) h2) fun H7 e7 => ⟨Same.trans s5 e7, o, l, p, d, h3, rfl, rfl, hp0, e7 _ _ (e5 _ _ (e4 _ _ hp)), ?_, ?_⟩
            · simp only [List.length_cons] at hd; omega
            · rw [← hl, List.filter_cons, if_neg (by simp [hb])]
      · cases hc with
        | cons => cases h
        | nil =>
          refine Evl.s_ret (Evl.ev_var rfl) fun H5 e5 => ?_
          have hl' : d = (l0.filter (F.wordIs "retry")).reverse := by simpa using hl
          rw [← hl'] at k
          exact k p H5 hp0 (Same.trans (Same.trans s1 e4) e5) (e5 _ _ (e4 _ _ hp))
theorem ok_target (T : Txt P K mg A0) : FnOk P w K mg base CX0 1 A0.f_target A0.fd_target ["function", "row", "move"] (spTarget K A0.c_Function) := by
  refine T.F_target.ok sc_target (fun vs H Q E h => ?_) (fun cdv A outer s H vs Q E hr h => ?_)
  · obtain ⟨a, r, m, F, t, rfl, _⟩ := h
    rfl
  · obtain ⟨a, r, mv, F, t, rfl, hF, hm, k⟩ := h
    refine ⟨_, (pss_cons (ps_set (i := 3) sc_target.nd rfl (Or.inl rfl) (pe_ix ix_tup (pe_fld (pv 0) rfl) (pv 1) (fun _ _ => rfl)))
 (pss_cons (ps_if (pt_cmpR op_eq (pv 2) pe_str (nomark _))
 (pss_one (ps_ret (pe_op op_add (pe_ifExp (pt_cmpR op_eq (pv 3) pe_str (nomark _)) (pe_ix ix_tup (pe_fld (pv 0) rfl) (pv 1) (fun _ _ => rfl)) (pv 1)) pe_int)))
 pss_nil)
 (pss_cons (ps_if (pt_cmpR op_eq (pv 2) pe_str (nomark _))
 (pss_one (ps_ret (pe_ifExp (pt_cmpR op_eq (pv 3) pe_str (nomark _)) (pe_op op_add (pv 1) pe_int) (pe_op op_add (pe_dget (hu_of hr) (pe_fld (pv 0) rfl) (pv 1) (fun _ _ => rfl)) pe_int))))
 pss_nil)
 (pss_cons (ps_if (pt_cmpR op_eq (pv 2) pe_str (nomark _))
 (pss_cons (ps_set (i := 4) sc_target.nd rfl (Or.inl rfl) (pe_dget (hu_of hr) (pe_fld (pv 0) rfl) (pv 1) (fun _ _ => rfl)))
 (pss_one (ps_ret (pe_ifExp (pt_cmpR op_isN (pv 4) pe_non (nomark _)) (pe_dget (hu_of hr) (pe_fld (pv 0) rfl) (pv 1) (fun _ _ => rfl)) (pe_op op_add (pv 4) pe_int)))))
 pss_nil)
 (pss_one (ps_ret (pe_op op_add (pv 1) pe_int))))))), ?_⟩
    have C := T.fc
    unfold Fn.target at hm
    obtain ⟨wd, hw, hm⟩ := bs hm
    refine Evl.q_asg (ev_word hF C (Evl.ev_var rfl) (Evl.ev_var rfl) hw) fun H1 e1 => ?_
    refine Evl.q_when (et_eqS (Evl.ev_var rfl) Evl.ev_c) (fun h H2 e2 => ?_) (fun h H2 e2 => ?_)
    · rw [if_pos (of_decide_eq_true h)] at hm
      have s2 := Same.trans e1 e2
      by_cases h3 : wd = "end"
      · rw [if_pos h3] at hm
        obtain ⟨o, ho, hm⟩ := bs2 hm
        cases hm
        exact Evl.s_ret (ev_addN (n := o) (Evl.ev_if (b := true) (Evl.et_is (et_eqS (Evl.ev_var rfl) Evl.ev_c) (by simp [h3])) (fun _ => ev_opener (hF.same s2) C (Evl.ev_var rfl) (Evl.ev_var rfl) ho) (fun z => by cases z)) rfl) fun H3 e3 => k H3 (Same.trans s2 e3)
      · rw [if_neg h3] at hm
        cases hm
        exact Evl.s_ret (ev_addN (n := r) (Evl.ev_if (b := false) (Evl.et_is (et_eqS (Evl.ev_var rfl) Evl.ev_c) (by simp [h3])) (fun z => by cases z) (fun _ => Evl.ev_var rfl)) rfl) fun H3 e3 => k H3 (Same.trans s2 e3)
    rw [if_neg (of_decide_eq_false h)] at hm
    refine Evl.q_when (et_eqS (Evl.ev_var rfl) Evl.ev_c) (fun h H3 e3 => ?_) (fun h H3 e3 => ?_)
    · rw [if_pos (of_decide_eq_true h)] at hm
      have s3 := Same.trans (Same.trans e1 e2) e3
      by_cases h3 : wd = "end"
      · rw [if_pos h3] at hm
        cases hm
        exact Evl.s_ret (Evl.ev_if (b := true) (Evl.et_is (et_eqS (Evl.ev_var rfl) Evl.ev_c) (by simp [h3])) (fun _ => ev_addN (n := r) (Evl.ev_var rfl) rfl) (fun z => by cases z)) fun H4 e4 => k H4 (Same.trans s3 e4)
      · rw [if_neg h3] at hm
        obtain ⟨e, he, hm⟩ := bs hm
        cases hm
        exact Evl.s_ret (Evl.ev_if (b := false) (Evl.et_is (et_eqS (Evl.ev_var rfl) Evl.ev_c) (by simp [h3])) (fun z => by cases z) (fun _ => ev_addN (n := e) (ev_end (hF.same s3) C (Evl.ev_var rfl) (Evl.ev_var rfl) he) rfl)) fun H4 e4 => k H4 (Same.trans s3 e4)
    rw [if_neg (of_decide_eq_false h)] at hm
    refine Evl.q_when (et_eqS (Evl.ev_var rfl) Evl.ev_c) (fun h H4 e4 => ?_) (fun h H4 e4 => ?_)
    · rw [if_pos (of_decide_eq_true h)] at hm
      have s4 := Same.trans (Same.trans (Same.trans e1 e2) e3) e4
      obtain ⟨m, hmm, hm⟩ := bs hm
      refine Evl.q_asg (ev_mid (hF.same s4) C (Evl.ev_var rfl) (Evl.ev_var rfl) hmm) fun H5 e5 => ?_
      have s5 := Same.trans s4 e5
      cases m with
      | none => exact Evl.s_ret (Evl.ev_if (b := true) (et_none (o := none) (Evl.ev_var rfl)) (fun _ => ev_end (hF.same s5) C (Evl.ev_var rfl) (Evl.ev_var rfl) hm) (fun z => by cases z)) fun H6 e6 => k H6 (Same.trans s5 e6)
      | some m =>
        cases hm
        exact Evl.s_ret (Evl.ev_if (b := false) (et_none (o := some m) (Evl.ev_var rfl)) (fun z => by cases z) (fun _ => ev_addN (n := m) (Evl.ev_var rfl) rfl)) fun H6 e6 => k H6 (Same.trans s5 e6)
    rw [if_neg (of_decide_eq_false h)] at hm
    cases hm
    exact Evl.s_ret (ev_addN (n := r) (Evl.ev_var rfl) rfl) fun H5 e5 => k H5 (Same.trans (Same.trans (Same.trans (Same.trans e1 e2) e3) e4) e5)
theorem sv_b {c : Addr} {m : Fn → Nat → Option Bool} {a : Addr} {F : Fn} {r : Nat} {b : Bool} {H : Hp} (hF : IsFn K c H a F) (hm : m F r = some b) : Evl.SpV (spB K c m) [.ref a, .int (r : Int)] H (.bl b) := fun H1 e1 Q q E => ⟨a, r, F, b, rfl, hF.same e1, hm, fun H2 e2 => q H2 e2⟩
theorem ok_moves_of (T : Txt P K mg A0) : FnOk P w K mg base CX0 2 A0.f_moves_of A0.fd_moves_of ["function", "row"] (spMoves K A0.c_Function) := by
  have G_is_shielded : FnOk P w K mg base CX0 1 A0.f_is_shielded A0.fd_is_shielded ["function", "row"] (spB K A0.c_Function Fn.isShielded) := ok_is_shielded T
  refine T.F_moves_of.ok sc_moves_of (fun vs H Q E h => ?_) (fun cdv A outer s H vs Q E hr h => ?_)
  · obtain ⟨a, r, F, b, rfl, _⟩ := h
    rfl
  · obtain ⟨a, r, F, ms, rfl, hF, hm, k⟩ := h
    refine ⟨_, (pss_cons (ps_set (i := 2) sc_moves_of.nd rfl (Or.inl rfl) (pe_ix ix_tup (pe_fld (pv 0) rfl) (pv 1) (fun _ _ => rfl)))
 (pss_cons (ps_if (PW.pt (pw_or (pt_cmpR op_eq (pv 2) pe_str (nomark _)) (pw_or1 (pt_cmpR op_eq (pv 2) pe_str (nomark _)))))
 (pss_one (ps_ret (pe_lst (pa_cons pe_str (pa_cons pe_str pa_nil)))))
 pss_nil)
 (pss_cons (ps_if (pt_cmpR op_eq (pv 2) pe_str (nomark _))
 (pss_one (ps_ret (pe_lst (pa_cons pe_str (pa_cons pe_str pa_nil)))))
 pss_nil)
 (pss_cons (ps_if (pt_cmpR op_eq (pv 2) pe_str (nomark _))
 (pss_one (ps_ret (pe_lst (pa_cons pe_str (pa_cons pe_str pa_nil)))))
 pss_nil)
 (pss_cons (ps_if (PW.pt (pw_and (pt_cmpR op_in_seq (pv 2) (pe_glob (v := .ref _) rfl T.m_WA rfl) (by first | rfl | with_unfolding_all rfl)) (pw_and1 (pt_not (pt_val (pe_call G_is_shielded (hr.mono (by decide)) rfl T.m_is_shielded T.F_is_shielded.kp T.b_is_shielded .nil pass0 (pa_cons (pv 0) (pa_cons (pv 1) pa_nil))))))))
 (pss_one (ps_ret (pe_lst (pa_cons pe_str (pa_cons pe_str pa_nil)))))
 pss_nil)
 (pss_one (ps_ret (pe_lst (pa_cons pe_str pa_nil))))))))), ?_⟩
    have C := T.fc
    unfold Fn.movesOf at hm
    obtain ⟨wd, hw, hm⟩ := bs hm
    refine Evl.q_asg (ev_word hF C (Evl.ev_var rfl) (Evl.ev_var rfl) hw) fun H1 e1 => ?_
    refine Evl.q_when (Evl.et_or (b := decide (wd = "end")) (et_eqS (Evl.ev_var rfl) Evl.ev_c) fun _ => et_eqS (Evl.ev_var rfl) Evl.ev_c) (fun h H2 e2 => ?_) (fun h H2 e2 => ?_)
    · rw [if_pos (by simpa using h)] at hm
      cases hm
      exact Evl.s_retL (Evl.el_lst (Evl.ea_cons Evl.ev_c (Evl.ea_cons Evl.ev_c Evl.ea_nil)) (by simp)) fun p H3 h0 e3 h3 => k p H3 (Evl.fresh_back e1 (Evl.fresh_back e2 h0)) (Same.trans (Same.trans e1 e2) e3) h3
    rw [if_neg (by simpa using h)] at hm
    have s2 := Same.trans e1 e2
    refine Evl.q_when (et_eqS (Evl.ev_var rfl) Evl.ev_c) (fun h H3 e3 => ?_) (fun h H3 e3 => ?_)
    · rw [if_pos (of_decide_eq_true h)] at hm
      cases hm
      exact Evl.s_retL (Evl.el_lst (Evl.ea_cons Evl.ev_c (Evl.ea_cons Evl.ev_c Evl.ea_nil)) (by simp)) fun p H4 h0 e4 h4 => k p H4 (Evl.fresh_back s2 (Evl.fresh_back e3 h0)) (Same.trans (Same.trans s2 e3) e4) h4
    rw [if_neg (of_decide_eq_false h)] at hm
    have s3 := Same.trans s2 e3
    refine Evl.q_when (et_eqS (Evl.ev_var rfl) Evl.ev_c) (fun h H4 e4 => ?_) (fun h H4 e4 => ?_)
    · rw [if_pos (of_decide_eq_true h)] at hm
      cases hm
      exact Evl.s_retL (Evl.el_lst (Evl.ea_cons Evl.ev_c (Evl.ea_cons Evl.ev_c Evl.ea_nil)) (by simp)) fun p H5 h0 e5 h5 => k p H5 (Evl.fresh_back s3 (Evl.fresh_back e4 h0)) (Same.trans (Same.trans s3 e4) e5) h5
    rw [if_neg (of_decide_eq_false h)] at hm
    have s4 := Same.trans s3 e4
    by_cases h5 : wd ∈ waitingW
    · rw [if_pos h5] at hm
      obtain ⟨b, hb, hm⟩ := bs hm
      cases hm
      refine Evl.q_when (b := !b) (Evl.et_is (Evl.et_and (a := true) (b := !b) (Evl.et_is (Evl.et_test (ev_inW (Evl.ev_var rfl) T.q_WA)) (by simp [h5])) fun _ => Evl.et_not (Evl.et_B (Evl.ev_call (vs := [.ref a, .int (r : Int)]) (Evl.ea_cons (Evl.ev_var rfl) (Evl.ea_cons (Evl.ev_var rfl) Evl.ea_nil)) (sv_b (hF.same s4) hb)))) (by simp)) (fun h H5 e5 => ?_) (fun h H5 e5 => ?_)
      · rw [if_neg (by simpa using h)] at k
        exact Evl.s_retL (Evl.el_lst (Evl.ea_cons Evl.ev_c (Evl.ea_cons Evl.ev_c Evl.ea_nil)) (by simp)) fun p H6 h0 e6 h6 => k p H6 (Evl.fresh_back s4 (Evl.fresh_back e5 h0)) (Same.trans (Same.trans s4 e5) e6) h6
      · rw [if_pos (by simpa using h)] at k
        exact Evl.s_retL (Evl.el_lst (Evl.ea_cons Evl.ev_c Evl.ea_nil) (by simp)) fun p H6 h0 e6 h6 => k p H6 (Evl.fresh_back s4 (Evl.fresh_back e5 h0)) (Same.trans (Same.trans s4 e5) e6) h6
    · rw [if_neg h5] at hm
      cases hm
      refine Evl.q_when (b := false) (Evl.et_is (Evl.et_and (a := false) (b := true) (Evl.et_is (Evl.et_test (ev_inW (Evl.ev_var rfl) T.q_WA)) (by simp [h5])) fun z => by cases z) rfl) (fun h H5 e5 => by cases h) (fun h H5 e5 => ?_)
      exact Evl.s_retL (Evl.el_lst (Evl.ea_cons Evl.ev_c Evl.ea_nil) (by simp)) fun p H6 h0 e6 h6 => k p H6 (Evl.fresh_back s4 (Evl.fresh_back e5 h0)) (Same.trans (Same.trans s4 e5) e6) h6
end

end K45
end
section
set_option Elab.async false
set_option autoImplicit false
set_option linter.all false
set_option maxRecDepth 100000
set_option maxHeartbeats 2000000
/-! zip of two iterables of different kinds (a list and a tuple), by what feeds it -/
namespace OxZ
open PySem PySem.Spec PyProof.Rows L2 PySem.OxE RZ
/-- an iterator at it over l, at place k in the heap h; the items that it hands out -/
structure Feed (it l : Addr) (I : Nat → Heap → Prop) (xs : Array Value) : Prop where
  keep : ∀ {h h' : Heap} {k : Nat}, I k h → (∀ o, h.get? it = some o → h'.get? it = some o) → (∀ o, h.get? l = some o → h'.get? l = some o) → I k h'
  item : ∀ {prog : Program} {w : World} {A : Around} {E : Value → Shared → Prop} {s : Shared} {k : Nat} {x : Value} {Q : Value → Shared → Prop}, I k s.heap → xs[k]? = some x →
    (∀ h', I (k + 1) h' → Heap.SameBut it s.heap h' → Q x { s with heap := h' }) → wpAny (model prog w) A (Builtin.SmallTypes.nextOf (.ref it)) Q E s
  fin : ∀ {prog : Program} {w : World} {A : Around} {E : Value → Shared → Prop} {s : Shared} {k : Nat} {Q : Value → Shared → Prop}, A.handled = none → I k s.heap → xs[k]? = none →
    (∀ h' e, Heap.ExtBut it s.heap h' → (∃ o, h'.get? e = some o ∧ o.cls = .type "StopIteration") → E (.ref e) { s with heap := h' }) → wpAny (model prog w) A (Builtin.SmallTypes.nextOf (.ref it)) Q E s
def IL (it l : Addr) (xs : Array Value) (k : Nat) (h : Heap) : Prop := h.IsListIter it l k ∧ h.IsList l xs
def IT (it l : Addr) (xs : Array Value) (k : Nat) (h : Heap) : Prop := h.IsTupleIter it l k ∧ h.IsTuple l xs
theorem feedL {it l : Addr} {xs : Array Value} (ne : l ≠ it) : Feed it l (IL it l xs) xs where
  keep := fun h a b => ⟨h.1.at a, h.2.at b⟩
  item := fun h hx q => wpAny_nextOf_list_item h.1 h.2 hx fun h' a b => q h' ⟨a, h.2.extBut b.extBut ne⟩ b
  fin := fun hh h hx q => wpAny_nextOf_list_end hh h.1 h.2 hx q
theorem feedT {it l : Addr} {xs : Array Value} (ne : l ≠ it) : Feed it l (IT it l xs) xs where
  keep := fun h a b => ⟨h.1.at a, h.2.at b⟩
  item := fun h hx q => nextOf_tuple_item h.1 h.2 hx fun h' a b => q h' ⟨a, h.2.extBut b.extBut ne⟩ b
  fin := fun hh h hx q => nextOf_tuple_end hh h.1 h.2 hx q
section
variable {prog : Program} {w : World} {A : Around} {E : Value → Shared → Prop} {s : Shared} {z TI TO i1 i2 l1 l2 : Addr} {k1 k2 : Nat} {xs ys : Array Value} {I1 I2 : Nat → Heap → Prop}
/-- up to the first iterator's turn -/
theorem zip_open {a b : Value} {R : Fin → Shared → Prop} (D : ZipApart z TI TO i1 i2 l1 l2) (F1 : Feed i1 l1 I1 xs) (F2 : Feed i2 l2 I2 ys)
    (hz : IsZip s.heap z TI TO .none) (hTI : IsPair s.heap TI (.ref i1) (.ref i2)) (hTO : IsPair s.heap TO a b) (h1 : I1 k1 s.heap) (h2 : I2 k2 s.heap) (hh : xs[k1]? = none ∨ ys[k2]? = none → A.handled = none)
    (hgo : ∀ x y h', xs[k1]? = some x → ys[k2]? = some y → IsZip h' z TI TO (rawInt s.heap.objs.size) → IsPair h' TO x y → I1 (k1 + 1) h' → I2 (k2 + 1) h' → IsPair h' s.heap.objs.size x y → h'.objs.size = s.heap.objs.size + 1 →
      (∀ c o, c ≠ z → c ≠ TO → c ≠ i1 → c ≠ i2 → s.heap.get? c = some o → h'.get? c = some o) → R (.done (.ret (.ref s.heap.objs.size))) { s with heap := h' })
    (hE : xs[k1]? = none ∨ ys[k2]? = none → ∀ h' e, (∀ c o, c ≠ z → c ≠ TO → c ≠ i1 → c ≠ i2 → s.heap.get? c = some o → h'.get? c = some o) → (∃ o, h'.get? e = some o ∧ o.cls = .type "StopIteration") → E (.ref e) { s with heap := h' }) :
    wpAny (model prog w) A (Builtin.«zip.__next__» ⟨[.ref z], []⟩) R E s := by
  show wpAny _ _ (field (.ref z) 2 >>= _) _ _ _
  refine wpAny_bind (wpAny_field hz rfl (x := .bool false) rfl ?_)
  show wpAny _ _ (field (.ref z) 3 >>= _) _ _ _
  refine wpAny_bind (wpAny_field hz rfl (x := .ref TI) rfl (wpAny_bind (wpAny_seqItems hTI rfl ?_)))
  show wpAny _ _ (Builtin.SmallTypes.ownedTupleIsFree (.ref z) >>= _) _ _ _
  refine wpAny_bind ?_
  unfold Builtin.SmallTypes.ownedTupleIsFree
  refine wpAny_bind (wpAny_field hz rfl (x := .none) rfl (wpAny_pure ?_))
  simp only [if_true]
  refine wpAny_bind (wpAny_rule (wpAny_bind (wpAny_field hz rfl (x := .ref TO) rfl (wpAny_bind (wpAny_setField_rec hz (by simp) fun ha hza sa => ?_)))))
  replace hza : IsZip ha z TI TO .ellipsis := hza
  refine wpAny_bind ?_
  simp only [List.zipIdx_cons, List.zipIdx_nil, List.forIn_cons, List.forIn_nil]
  refine wpAny_bind (wpAny_bind (wpAny_onRaise ?_))
  show wpAny _ _ (Builtin.SmallTypes.nextOf (.ref i1) >>= _) _ _ _
  have h1a : I1 k1 ha := F1.keep h1 (fun o e => sa.extBut _ _ D.i1z e) fun o e => sa.extBut _ _ D.l1z e
  have h2a : I2 k2 ha := F2.keep h2 (fun o e => sa.extBut _ _ D.i2z e) fun o e => sa.extBut _ _ D.l2z e
  cases hx : xs[k1]? with
  | none =>
    refine wpAny_bind (F1.fin (hh (.inl hx)) h1a hx fun hb e sb ⟨oe, hoe, hce⟩ => ?_)
    have hzb : IsZip hb z TI TO .ellipsis := sb _ _ D.i1z.symm hza
    have hez : e ≠ z := fun q => by subst q; rw [hzb] at hoe; cases hoe; simp at hce
    exact wpAny_setField_rec hzb (by simp) fun hc _ sc => hE (.inl hx) hc e (fun c o c1 _ c3 _ q => sc.extBut _ _ c1 (sb _ _ c3 (sa.extBut _ _ c1 q))) ⟨oe, sc.extBut _ _ hez hoe, hce⟩
  | some x =>
    refine wpAny_bind (F1.item h1a hx fun hb h1b sb => wpAny_pure ?_)
    have hTOb : IsPair hb TO a b := sb.extBut _ _ D.TOi1 (sa.extBut _ _ D.TOz hTO)
    refine wpAny_bind (wpAny_seqItems hTOb rfl (wpAny_bind (wpAny_updateSeq_pair hTOb fun hc hTOc sc => ?_)))
    replace hTOc : IsPair hc TO x b := hTOc
    refine wpAny_bind (wpAny_letGo (wpAny_pure (wpAny_bind (wpAny_bind (wpAny_onRaise ?_)))))
    show wpAny _ _ (Builtin.SmallTypes.nextOf (.ref i2) >>= _) _ _ _
    have h2c : I2 k2 hc := F2.keep h2a (fun o e => sc.extBut _ _ D.TOi2.symm (sb.extBut _ _ D.i12.symm e)) fun o e => sc.extBut _ _ D.l2TO (sb.extBut _ _ D.l2i1 e)
    have h1c : I1 (k1 + 1) hc := F1.keep h1b (fun o e => sc.extBut _ _ D.TOi1.symm e) fun o e => sc.extBut _ _ D.l1TO e
    cases hy : ys[k2]? with
    | none =>
      refine wpAny_bind (F2.fin (hh (.inr hy)) h2c hy fun hd e sd ⟨oe, hoe, hce⟩ => ?_)
      have hzd : IsZip hd z TI TO .ellipsis := sd _ _ D.i2z.symm (sc.extBut _ _ D.TOz.symm (sb.extBut _ _ D.i1z.symm hza))
      have hez : e ≠ z := fun q => by subst q; rw [hzd] at hoe; cases hoe; simp at hce
      exact wpAny_setField_rec hzd (by simp) fun hf _ sf => hE (.inr hy) hf e (fun c o c1 c2 c3 c4 q => sf.extBut _ _ c1 (sd _ _ c4 (sc.extBut _ _ c2 (sb.extBut _ _ c3 (sa.extBut _ _ c1 q))))) ⟨oe, sf.extBut _ _ hez hoe, hce⟩
    | some y =>
      refine wpAny_bind (F2.item h2c hy fun hd h2d sd => wpAny_pure ?_)
      have hTOd : IsPair hd TO x b := sd.extBut _ _ D.TOi2 hTOc
      refine wpAny_bind (wpAny_seqItems hTOd rfl (wpAny_bind (wpAny_updateSeq_pair hTOd fun hf hTOf sf => ?_)))
      replace hTOf : IsPair hf TO x y := hTOf
      refine wpAny_bind (wpAny_letGo (wpAny_pure (wpAny_pure (wpAny_bind (wpAny_seqItems hTOf rfl (wpAny_bind (wpAny_newTuple ?_)))))))
      have hsz : hf.objs.size = s.heap.objs.size := by rw [sf.1, sd.1, sc.1, sb.1, sa.1]
      have hzf : IsZip hf z TI TO .ellipsis := sf.extBut _ _ D.TOz.symm (sd.extBut _ _ D.i2z.symm (sc.extBut _ _ D.TOz.symm (sb.extBut _ _ D.i1z.symm hza)))
      have hkf : ∀ c o, c ≠ z → c ≠ TO → c ≠ i1 → c ≠ i2 → s.heap.get? c = some o → hf.get? c = some o := fun c o c1 c2 c3 c4 e => sf.extBut _ _ c2 (sd.extBut _ _ c4 (sc.extBut _ _ c2 (sb.extBut _ _ c3 (sa.extBut _ _ c1 e))))
      have h1f : I1 (k1 + 1) hf := F1.keep h1c (fun o e => sf.extBut _ _ D.TOi1.symm (sd.extBut _ _ D.i12 e)) fun o e => sf.extBut _ _ D.l1TO (sd.extBut _ _ D.l1i2 e)
      have h2f : I2 (k2 + 1) hf := F2.keep h2d (fun o e => sf.extBut _ _ D.TOi2.symm e) fun o e => sf.extBut _ _ D.l2TO e
      have hzl : z < hf.objs.size := Heap.lt_size hzf
      show wpAny _ _ (Builtin.SmallTypes.ownedTupleHandOut (.ref z) (.ref hf.objs.size) >>= _) _ _ _
      refine wpAny_bind ?_
      unfold Builtin.SmallTypes.ownedTupleHandOut
      have hzg : IsZip (hf.push { cls := .type "tuple", data := .seq #[x, y] }) z TI TO .ellipsis := Heap.get?_push_of_some _ hzf
      refine wpAny_bind (wpAny_setField_rec hzg (by simp) fun hm hzm sm => ?_)
      replace hzm : IsZip hm z TI TO (rawInt hf.objs.size) := hzm
      refine wpAny_setField_rec hzm (by simp) fun hn hzn sn => ?_
      replace hzn : IsZip hn z TI TO (rawInt hf.objs.size) := hzn
      have up : ∀ c o, c ≠ z → hf.get? c = some o → hn.get? c = some o := fun c o c1 e => sn.extBut _ _ c1 (sm.extBut _ _ c1 (Heap.get?_push_of_some _ e))
      have hTn : IsPair hn hf.objs.size x y := sn.extBut _ _ (Nat.ne_of_gt hzl) (sm.extBut _ _ (Nat.ne_of_gt hzl) (Heap.get?_push_size _ rfl))
      have hzs : hn.objs.size = hf.objs.size + 1 := by rw [sn.1, sm.1, Heap.size_push]
      rw [hsz] at hzn hTn hzs
      refine wpAny_pure ?_
      show R (.done (.ret (.ref hf.objs.size))) _
      rw [hsz]
      exact hgo x y hn hx hy hzn (up _ _ D.TOz hTOf) (F1.keep h1f (fun o e => up _ o D.i1z e) fun o e => up _ o D.l1z e) (F2.keep h2f (fun o e => up _ o D.i2z e) fun o e => up _ o D.l2z e) hTn hzs fun c o c1 c2 c3 c4 e => up c o c1 (hkf c o c1 c2 c3 c4 e)
theorem next_zip {a b : Value} {Q : Option Value → Shared → Prop} (D : ZipApart z TI TO i1 i2 l1 l2) (F1 : Feed i1 l1 I1 xs) (F2 : Feed i2 l2 I2 ys)
    (hz : IsZip s.heap z TI TO .none) (hTI : IsPair s.heap TI (.ref i1) (.ref i2)) (hTO : IsPair s.heap TO a b) (h1 : I1 k1 s.heap) (h2 : I2 k2 s.heap) (hh : xs[k1]? = none ∨ ys[k2]? = none → A.handled = none)
    (hgo : ∀ x y h', xs[k1]? = some x → ys[k2]? = some y → IsZip h' z TI TO (rawInt s.heap.objs.size) → IsPair h' TO x y → I1 (k1 + 1) h' → I2 (k2 + 1) h' → IsPair h' s.heap.objs.size x y → h'.objs.size = s.heap.objs.size + 1 →
      (∀ c o, c ≠ z → c ≠ TO → c ≠ i1 → c ≠ i2 → s.heap.get? c = some o → h'.get? c = some o) → Q (some (.ref s.heap.objs.size)) { s with heap := h' })
    (hE : xs[k1]? = none ∨ ys[k2]? = none → ∀ h', (∀ c o, c ≠ z → c ≠ TO → c ≠ i1 → c ≠ i2 → s.heap.get? c = some o → h'.get? c = some o) → Q none { s with heap := h' }) :
    wpAny (model prog w) A (pyNext (.ref z)) Q E s := by
  have hT : s.TypeIs (.ref z) "zip" := ⟨_, hz, rfl⟩
  unfold pyNext
  refine wpAny_bind (wpAny_attempt (wpAny_callSpecial?_slot (name := Str.ofString "__next__") hT F.slot_zip_next (wpAny_call_entry F.slot_zip_next hT F.entry_zip_next ?_ (F.args_zip_next_1 _))))
  refine zip_open D F1 F2 hz hTI hTO h1 h2 hh (fun x y h' e1 e2 a1 a2 a3 a4 a5 a6 a7 => ⟨_, rfl, wpAny_pure (hgo x y h' e1 e2 a1 a2 a3 a4 a5 a6 a7)⟩) fun he h' e hk ⟨o, ho, hc⟩ => ?_
  exact wpAny_bind (wpAny_isInstance (T := "StopIteration") (b := true) ⟨o, ho, hc⟩ isSubtype_stop (wpAny_pure (hE he h' hk)))
end
/-! zip(list, tuple) -/
abbrev g1 (h : Heap) (l1 : Addr) : Heap := h.push { cls := .type "list_iterator", data := .fields #[.ref l1, .int 0 0] }
abbrev g2 (h : Heap) (l1 l2 : Addr) : Heap := (g1 h l1).push { cls := .type "tuple_iterator", data := .fields #[.ref l2, .int 0 0] }
abbrev g3 (h : Heap) (l1 l2 : Addr) : Heap := (g2 h l1 l2).push { cls := .type "tuple", data := .seq #[.ref h.objs.size, .ref (g1 h l1).objs.size] }
abbrev g4 (h : Heap) (l1 l2 : Addr) : Heap := (g3 h l1 l2).push { cls := .type "tuple", data := .seq #[.none, .none] }
abbrev g5 (h : Heap) (l1 l2 : Addr) : Heap := (g4 h l1 l2).push { cls := .type "zip", data := .fields #[.none, .bool false, .bool false, .ref (g2 h l1 l2).objs.size, .ref (g3 h l1 l2).objs.size] }
theorem meets_new (l1 l2 : Addr) (xs ys : Array Value) :
    Meets (Builtin.«zip.__new__» ⟨[.type "zip", .ref l1, .ref l2], []⟩) (fun _ R s => s.heap.IsList l1 xs ∧ s.heap.IsTuple l2 ys ∧
      R (.ok (.ret (.ref (g4 s.heap l1 l2).objs.size))) { s with heap := g5 s.heap l1 l2 }) :=
  .of_wp fun prog w A R s h => by
    obtain ⟨hp, g, d, tk, os⟩ := s; obtain ⟨hl1, hl2, h⟩ := h
    have hsub := sub_zip
    have hL1 : Heap.IsList (Shared.heap ⟨hp, g, d, tk, os⟩) l1 xs := hl1
    have hL2 : Heap.IsTuple (Shared.heap ⟨hp.push { cls := .type "list_iterator", data := .fields #[.ref l1, .int 0 0] }, g, d, tk, os⟩) l2 ys := Heap.IsTuple.push hl2 _
    wp_walk using wpAny_pyIter_list hL1, wpAny_pyIter_tuple hL2
    exact ⟨_, rfl, h⟩
section
variable {prog : Program} {w : World} {A : Around} {E : Value → Shared → Prop} {s : Shared}
theorem call_new {l1 l2 : Addr} {xs ys : Array Value} {Q : Value → Shared → Prop} (hl1 : s.heap.IsList l1 xs) (hl2 : s.heap.IsTuple l2 ys)
    (h : ∀ h', IsZip h' (s.heap.objs.size + 4) (s.heap.objs.size + 2) (s.heap.objs.size + 3) .none → IsPair h' (s.heap.objs.size + 2) (.ref s.heap.objs.size) (.ref (s.heap.objs.size + 1)) →
      IsPair h' (s.heap.objs.size + 3) .none .none → h'.IsListIter s.heap.objs.size l1 0 → h'.IsTupleIter (s.heap.objs.size + 1) l2 0 → h'.objs.size = s.heap.objs.size + 5 →
      (∀ c o, s.heap.get? c = some o → h'.get? c = some o) → Q (.ref (s.heap.objs.size + 4)) { s with heap := h' }) :
    wpAny (model prog w) A (call (.type "zip") [.ref l1, .ref l2]) Q E s := by
  refine callType_new F.called_zip (by decide) (F.typeCall_zip_2 _ _) (F.newCall_zip_2 _ _) (fun obj => F.args_object_init_3 obj _ _) F.entry_zip_new (meets_new l1 l2 xs ys) ⟨hl1, hl2, ?_⟩
  have p : ∀ (h : Heap) (o : Obj) (n : Nat), h.objs.size = n → (h.push o).objs.size = n + 1 := fun h o n e => by rw [Heap.size_push, e]
  have z1 : (g1 s.heap l1).objs.size = s.heap.objs.size + 1 := p _ _ _ rfl
  have z2 : (g2 s.heap l1 l2).objs.size = s.heap.objs.size + 2 := p _ _ _ z1
  have z3 : (g3 s.heap l1 l2).objs.size = s.heap.objs.size + 3 := p _ _ _ z2
  have z4 : (g4 s.heap l1 l2).objs.size = s.heap.objs.size + 4 := p _ _ _ z3
  have z5 : (g5 s.heap l1 l2).objs.size = s.heap.objs.size + 5 := p _ _ _ z4
  have a5 : (g5 s.heap l1 l2).get? (g4 s.heap l1 l2).objs.size = some _ := Heap.get?_push_size _ rfl
  have a4 : (g5 s.heap l1 l2).get? (g3 s.heap l1 l2).objs.size = some _ := Heap.get?_push_of_some _ (Heap.get?_push_size _ rfl)
  have a3 : (g5 s.heap l1 l2).get? (g2 s.heap l1 l2).objs.size = some _ := Heap.get?_push_of_some _ (Heap.get?_push_of_some _ (Heap.get?_push_size _ rfl))
  have a2 : (g5 s.heap l1 l2).get? (g1 s.heap l1).objs.size = some _ := Heap.get?_push_of_some _ (Heap.get?_push_of_some _ (Heap.get?_push_of_some _ (Heap.get?_push_size _ rfl)))
  have a1 : (g5 s.heap l1 l2).get? s.heap.objs.size = some _ := Heap.get?_push_of_some _ (Heap.get?_push_of_some _ (Heap.get?_push_of_some _ (Heap.get?_push_of_some _ (Heap.get?_push_size _ rfl))))
  show _ ∧ _
  rw [z2, z3, z4] at a5
  rw [z1, z2] at a3
  rw [z3] at a4
  rw [z1] at a2
  rw [z4]
  exact ⟨⟨_, a5, rfl⟩, h _ a5 a3 a4 ⟨_, a1, rfl, rfl⟩ ⟨_, a2, rfl, rfl⟩ z5 fun c o x => Heap.get?_push_of_some _ (Heap.get?_push_of_some _ (Heap.get?_push_of_some _ (Heap.get?_push_of_some _ (Heap.get?_push_of_some _ x))))⟩
end
/-- the list at a, the tuple at b, the items in new pairs -/
def ItM (K : PySem.W.Frag) (a b : Addr) : It :=
  ⟨fun i H => ∃ (xs ys : List V) (x y : V), SqL K H a xs ∧ SqT K H b ys ∧ xs[i]? = some x ∧ ys[i]? = some y,
    fun i H v H' => ∃ T x y, v = .ref T ∧ H T = none ∧ H' = upd H T (.tup [x, y]) ∧ (∀ xs, SqL K H a xs → xs[i]? = some x) ∧ ∀ ys, SqT K H b ys → ys[i]? = some y,
    fun i H => ∃ xs ys : List V, SqL K H a xs ∧ SqT K H b ys ∧ (xs.length ≤ i ∨ ys.length ≤ i)⟩
theorem turn_zipM {P : Program} {w : World} {K : PySem.W.Frag} {elts : List Expr} {kk : Nat} {tpos : Pos} {a b z TI TO i1 i2 : Addr} (D : ZipApart z TI TO i1 i2 a b) :
    Turn P w K (.Tuple elts kk tpos) (ItM K a b) [z, TI, TO, i1, i2] z (fun i h => IsZip h z TI TO .none ∧ IsPair h TI (.ref i1) (.ref i2) ∧ (∃ x y, IsPair h TO x y) ∧ h.IsListIter i1 a i ∧ h.IsTupleIter i2 b i) where
  mem := by simp
  obj := fun i h st c hc => by
    obtain ⟨hz, hTI, ⟨x, y, hTO⟩, ⟨o1, e1, _, d1⟩, ⟨o2, e2, _, d2⟩⟩ := st
    have e' : c = z ∨ c = TI ∨ c = TO ∨ c = i1 ∨ c = i2 := by simpa using hc
    rcases e' with rfl | rfl | rfl | rfl | rfl
    · exact ⟨_, hz, fun v q => nomatch q⟩
    · exact ⟨_, hTI, fun v q => nomatch q⟩
    · exact ⟨_, hTO, fun v q => nomatch q⟩
    · exact ⟨o1, e1, fun v q => by rw [d1] at q; cases q⟩
    · exact ⟨o2, e2, fun v q => by rw [d2] at q; cases q⟩
  keep := fun i h h' st k => by
    obtain ⟨hz, hTI, ⟨x, y, hTO⟩, h1, h2⟩ := st
    exact ⟨k z (by simp) _ hz, k TI (by simp) _ hTI, ⟨x, y, k TO (by simp) _ hTO⟩, h1.at fun o q => k i1 (by simp) o q, h2.at fun o q => k i2 (by simp) o q⟩
  item := by
    intro X hP hw hK hc i pins s σ H E I hf st hg
    subst hP hw hK
    obtain ⟨hz, hTI, ⟨x0, y0, hTO⟩, h1, h2⟩ := st
    obtain ⟨xs, ys, x, y, hqx, hqy, hx, hy⟩ := hg
    obtain ⟨its, rv, p, _⟩ := I.list hqx
    obtain ⟨its2, rv2, p2, _⟩ := I.tuple hqy
    obtain ⟨u, hu, ru⟩ := rv.get hx
    obtain ⟨u2, hu2, ru2⟩ := rv2.get hy
    have hu : its.toArray[i]? = some u := by simpa using hu
    have hu2 : its2.toArray[i]? = some u2 := by simpa using hu2
    have no : ¬ (its.toArray[i]? = none ∨ its2.toArray[i]? = none) := by rw [hu, hu2]; simp
    have hzl : z < s.heap.objs.size := Heap.lt_size hz
    refine next_zip D (feedL D.l1i1) (feedT D.l2i2) hz hTI hTO (k1 := i) (k2 := i) ⟨h1, p.isList⟩ ⟨h2, p2⟩ (fun q => absurd q no) (fun v v2 h' e1 e2 z' TO' h1' h2' hT hsz hk => ?_) fun q => absurd q no
    obtain rfl : u = v := by rw [hu] at e1; exact Option.some.inj e1
    obtain rfl : u2 = v2 := by rw [hu2] at e2; exact Option.some.inj e2
    refine ⟨_, rfl, wpAny_letOwnedTupleGo_zip (s := { s with heap := h' }) z' fun h'' z'' sb => ?_⟩
    have hT2 : h''.get? s.heap.objs.size = some { cls := .type "tuple", data := .seq #[u, u2] } := (sb.2 _ (Nat.ne_of_gt hzl)).trans hT
    have new : ObjOk X.prog X.w (upd H s.heap.objs.size (.tup [x, y])) h'' s.heap.objs.size (.tup [x, y]) :=
      ⟨by show 2 ≤ sizeLine; decide, [u, u2], .cons ru (.cons ru2 .nil), ⟨_, hT2, rfl, _, rfl⟩⟩
    have J : Inv X pins σ (upd H s.heap.objs.size (.tup [x, y])) { s with heap := h'' } :=
      I.turnedNew (t' := s.toks) (ch := [z, TI, TO, i1, i2]) (fun c o hb q => (sb.2 c (fun q' => hb (by simp [q']))).trans (hk c o (fun q' => hb (by simp [q'])) (fun q' => hb (by simp [q'])) (fun q' => hb (by simp [q'])) (fun q' => hb (by simp [q'])) q)) hf (Nat.le_refl _) new
    refine ⟨.ref s.heap.objs.size, _, J, rfl, ⟨_, x, y, rfl, I.hok.fresh (Nat.le_refl _), rfl, fun l hl => by rw [I.list_inj hl hqx]; exact hx, fun l hl => by rw [I.tuple_inj hl hqy]; exact hy⟩, ⟨z'', ?_, ⟨u, u2, ?_⟩, ?_, ?_⟩, fun c hcm => ?_⟩
    · exact (sb.2 _ D.TIz).trans (hk _ _ D.TIz D.TITO D.TIi1 D.TIi2 hTI)
    · exact (sb.2 _ D.TOz).trans TO'
    · exact h1'.1.at fun o q => (sb.2 _ D.i1z).trans q
    · exact h2'.1.at fun o q => (sb.2 _ D.i2z).trans q
    · have hlt : c < s.heap.objs.size := by
        have e' : c = z ∨ c = TI ∨ c = TO ∨ c = i1 ∨ c = i2 := by simpa using hcm
        obtain ⟨_, e1, _⟩ := h1
        obtain ⟨_, e2, _⟩ := h2
        rcases e' with rfl | rfl | rfl | rfl | rfl
        · exact hzl
        · exact Heap.lt_size hTI
        · exact Heap.lt_size hTO
        · exact Heap.lt_size e1
        · exact Heap.lt_size e2
      rw [upd_ne (Nat.ne_of_lt hlt)]
      exact (hf c hcm).1
  done := by
    intro X hP hw hK hc i pins s σ H E I hf st hg
    subst hP hw hK
    obtain ⟨hz, hTI, ⟨x0, y0, hTO⟩, h1, h2⟩ := st
    obtain ⟨xs, ys, hqx, hqy, hend⟩ := hg
    obtain ⟨its, rv, p, _⟩ := I.list hqx
    obtain ⟨its2, rv2, p2, _⟩ := I.tuple hqy
    have l1 := rv.length
    have l2 := rv2.length
    have he : its.toArray[i]? = none ∨ its2.toArray[i]? = none := by
      rcases hend with q | q
      · exact .inl (by simp; omega)
      · exact .inr (by simp; omega)
    refine next_zip D (feedL D.l1i1) (feedT D.l2i2) hz hTI hTO (k1 := i) (k2 := i) ⟨h1, p.isList⟩ ⟨h2, p2⟩ (fun _ => I.ok.hd hc) (fun v v2 h' e1 e2 _ _ _ _ _ _ _ => ?_) fun _ h' hk => ⟨rfl, I.turnedL (t' := s.toks) (ch := [z, TI, TO, i1, i2]) (fun c o hb q =>
      hk c o (fun q' => hb (by simp [q'])) (fun q' => hb (by simp [q'])) (fun q' => hb (by simp [q'])) (fun q' => hb (by simp [q'])) q) hf⟩
    rcases he with q | q
    · rw [q] at e1; cases e1
    · rw [q] at e2; cases e2
  self := fun A i s Q E st h => wpAny_pyIter_zip st.1 h
def iZipM (K : PySem.W.Frag) (ta : TA) : TI := fun σ H R => ta σ H fun vs H1 => ∃ a b xs ys, vs = [.ref a, .ref b] ∧ SqL K H1 a xs ∧ SqT K H1 b ys ∧ R (ItM K a b) H1
theorem pi_zipM {X : Cx} {e e2 : Expr} {ta : TA} {p pos tpos : Pos} {elts : List Expr} {kk : Nat} (hg : Gl X "zip") (hm : X.mg "zip" = none) (ha : PA X [e, e2] ta)
    (hs : starEach [e, e2] X.env = (false, eval e X.env) :: starEach [e2] X.env := by rfl) (hpl : (backTo pos (starEach [e2] X.env)).any (·.1) = false := by rfl) :
    PI X (.Tuple elts kk tpos) (.Call (.Name "zip" p) [e, e2] [] pos) (iZipM X.K ta) := by
  refine ⟨fun pins s σ H R I h => ?_⟩
  refine Call_ (ld_blt I hg hm PyProof.Rows.boot_zip (PyProof.Rows.callWith_type1 (thn (ha.run pos pins s σ H _ I h) fun us s1 ⟨vs, H1, I1, r1, q1⟩ => ?_) hs hpl))
  obtain ⟨a, b, xs, ys, ex, hqx, hqy, q⟩ := q1
  subst ex
  cases r1 with
  | cons r rr =>
   cases rr with
   | cons r' rr =>
    cases rr
    cases r
    cases r'
    obtain ⟨its, rv, p1, _⟩ := I1.list hqx
    obtain ⟨its2, rv2, p2, _⟩ := I1.tuple hqy
    obtain ⟨o2, ho2, _⟩ := id p2
    refine call_new p1.isList (show s1.heap.IsTuple b its2.toArray from p2) fun h' hz hTI hTO h1 h2 hsz hk => wpAny_pyIter_zip hz ?_
    have J : Inv X pins σ H1 { s1 with heap := h' } := I1.kept (t' := s1.toks) hk
    refine ⟨s1.heap.objs.size + 4, [s1.heap.objs.size + 4, s1.heap.objs.size + 2, s1.heap.objs.size + 3, s1.heap.objs.size, s1.heap.objs.size + 1], _, _, H1, rfl, J, turn_zipM (PySem.W.ktu_apart s1.heap.objs.size a b p1.lt (Heap.lt_size ho2)), ⟨hz, hTI, ⟨_, _, hTO⟩, h1, h2⟩, fun c hcm => ?_, q⟩
    have hle : s1.heap.objs.size ≤ c := by
      have e' : c = s1.heap.objs.size + 4 ∨ c = s1.heap.objs.size + 2 ∨ c = s1.heap.objs.size + 3 ∨ c = s1.heap.objs.size ∨ c = s1.heap.objs.size + 1 := by simpa using hcm
      rcases e' with z | z | z | z | z
      · rw [z]; exact Nat.le_add_right _ _
      · rw [z]; exact Nat.le_add_right _ _
      · rw [z]; exact Nat.le_add_right _ _
      · rw [z]; exact Nat.le_refl _
      · rw [z]; exact Nat.le_add_right _ _
    exact I1.fpOk hle (I1.hok.fresh hle)
theorem walk_zipM {K : PySem.W.Frag} {a b : Addr} {xs ys : List V} (hl : xs.length = ys.length) : Walk (ItM K a b) xs.length (fun H => SqL K H a xs ∧ SqT K H b ys) (YPair (fun i => xs[i]?) (fun i => ys[i]?)) := by
  refine ⟨fun i _ hi q => ⟨xs, ys, xs[i], ys[i], q.1, q.2, by simp [hi], by simp [show i < ys.length by omega]⟩, fun _ q => ⟨xs, ys, q.1, q.2, .inl (Nat.le_refl _)⟩, fun i H v H' _ q y => ?_⟩
  obtain ⟨T, x, z, h1, h2, h3, h4, h5⟩ := y
  exact ⟨T, x, z, h1, h2, h3, h4 xs q.1, h5 ys q.2⟩
end OxZ
end
section
set_option Elab.async false
set_option autoImplicit false
set_option linter.all false
set_option maxRecDepth 100000
set_option maxHeartbeats 2000000
/-! set comprehensions, whatever the members' kind: by what stands for the set (SO), its first state and its steps -/
namespace OxSet
open PySem PySem.Spec PyProof.Rows L2 PySem.OxE PpSet
abbrev fresh (w : World) : Obj := { cls := .type "set", dict := none, data := .set #[] 0 (.fresh 0 0 (!w.params.followText "set-order")) }
/-- a kind of sets: what stands at a, in which state; add x: from which state to which -/
structure Kind (X : Cx) (τ : Type) where
  so : Addr → τ → HO
  zero : τ
  step : τ → V → τ → Prop
  new : ∀ {H : Hp} {h : Heap}, ObjOk X.prog X.w H (h.push (fresh X.w)) h.objs.size (so h.objs.size zero)
  add : ∀ {Y : Cx} {pins : List (Addr × Obj)} {σ : L2.St} {H : Hp} {s : Shared} {E : Value → Shared → Prop} {D : Addr} {t t' : τ} {y : V} {u : Value} {Q : Value → Shared → Prop}, Y.prog = X.prog → Y.w = X.w → Inv Y pins σ H s → H D = some (so D t) → step t y t' → RelV y u →
    (∀ s', Inv Y pins σ (upd H D (so D t')) s' → Q .none s') → wpAny (model Y.prog Y.w) Y.A (call (.builtin "set.add") [.ref D, u]) Q E s
variable {X : Cx} {τ : Type}
/-- {elt for target in iter if ..}: D the new set -/
def tSc (so : Addr → τ → HO) (zero : τ) (step : τ → V → τ → Prop) (wi : TI) (g : TG) (tt : TT) (te : TE) (vs : List Nat) : TE := fun σ H Q => wi σ H fun J H1 => ∀ D, H1 D = none → ∃ W : Nat → Nat → Hp → Prop, (∃ m, W 0 m (upd H1 D (so D zero))) ∧ ∀ i m H, W i m H →
  (J.stop i H ∧ Q (.ref D) H) ∨ (J.go i H ∧ ∃ Nx : Hp → Prop, (∀ H', Nx H' → ∃ m', m' < m ∧ W (i + 1) m' H') ∧ ∀ x H', J.yld i H x H' → g x (wipe σ vs) H' fun σ2 H2 => wipe σ2 vs = wipe σ vs ∧ tt σ2 H2 fun b H3 =>
    if b = true then te σ2 H3 fun y H4 => ∃ t t', H4 D = some (so D t) ∧ step t y t' ∧ Nx (upd H4 D (so D t')) else Nx H3)
theorem sc_core (Kd : Kind X τ) {pins : List (Addr × Obj)} {s : Shared} {σ : L2.St} {H : Hp} {Q : VK} {elt tg iter : Expr} {ifs : List Expr} {scope : Scope} {own : List (PySem.Str × Nat)} {pos pos' : Pos} {wi : TI} {g : TG} {tt : TT} {te : TE} {use : Option (Value → Sem Unit)} {Qf : Value → Shared → Prop}
    (hc : X.calm = true) (hN : X.N.Nodup) (I : Inv X pins σ H s) (hi : PI X tg iter wi) (ok : BlkOk X.N X.env.scope scope own)
    (hg : ∀ (s : Shared) (H : Hp) (C : Addr) (cl : List (PySem.Str × Addr)) (fp : List Addr), PG (X.blk s H scope (compEnvC scope cl C X.env) fp) tg g) (ht : ∀ (s : Shared) (H : Hp) (C : Addr) (cl : List (PySem.Str × Addr)) (fp : List Addr), PTs (X.blk s H scope (compEnvC scope cl C X.env) fp) ifs tt)
    (he : ∀ (s : Shared) (H : Hp) (C : Addr) (cl : List (PySem.Str × Addr)) (fp : List Addr), PE (X.blk s H scope (compEnvC scope cl C X.env) fp) elt te) (hs : ∀ x, foldedSetIterable iter X.env x = pure x)
    (h : tSc Kd.so Kd.zero Kd.step wi g tt te (own.map (·.2)) σ H Q)
    (hRR : ∀ D C s' m H', Inv X pins σ H' s' → Q (.ref D) H' → s'.heap.Ns C m → FpOk X pins H' C → compPost (model X.prog X.w) X.A X.xe use Qf (.ref D) C (.ok .next) s') :
    wpAny (model X.prog X.w) X.A (comprehension (.SetComp elt [⟨tg, iter, ifs, 0⟩] scope pos) scope X.env pos' (newSet (.type "set")) false (eval iter X.env) use) Qf X.xe s := by
  have hfree : ∀ y ∈ scope.names, y.2 = .free → ∃ c, X.env.cells.lookup y.1 = some c := fun y hy e => (ok.free y hy e).elim (fun k => I.ok.has _ (.inl k)) fun k => I.ok.has _ (.inr k)
  refine wpAny_comprehension_free (use := use) rfl hs (closure_ok hfree) ok.kind (fun y hy e => by rw [ok.uniq y hy, e]) (thn (hi.run pins s σ H _ I h) fun xv s1 hx => thn hx fun itv s2 h2 => ?_)
  obtain ⟨it, fp, tn, J, H2, e, I2, T, st2, f2, q⟩ := h2
  subst e
  refine newSet_ok (newEnv_comp ?_)
  obtain ⟨D, hD⟩ : ∃ D, s2.heap.objs.size = D := ⟨_, rfl⟩
  obtain ⟨W, ⟨m0, w0⟩, turn⟩ := q D (I2.hok.fresh (Nat.le_of_eq hD))
  obtain ⟨s3, hs3⟩ : ∃ s3 : Shared, ({ s2 with heap := s2.heap.push (fresh X.w) } : Shared) = s3 := ⟨_, rfl⟩
  have h3 : s3.heap = s2.heap.push (fresh X.w) := by rw [← hs3]
  have I3 : Inv X pins σ (upd H2 D (Kd.so D Kd.zero)) s3 := by
    rw [← hs3]
    refine I2.laid (t' := s2.toks) (fun b o e => Heap.get?_push_of_some _ e) (Nat.le_of_eq hD) ?_
    rw [← hD]
    exact Kd.new
  have lt2 : ∀ b ∈ fp, b < s2.heap.objs.size := fun b hb => by
    obtain ⟨o, e, _⟩ := T.obj _ _ st2 b hb
    exact Heap.lt_size e
  obtain ⟨H3, hH3⟩ : ∃ H3, upd H2 D (Kd.so D Kd.zero) = H3 := ⟨_, rfl⟩
  rw [hH3] at I3 w0
  have f3 : ∀ b ∈ fp, FpOk X pins H3 b ∧ b < s3.heap.objs.size := fun b hb => by
    refine ⟨⟨?_, (f2 b hb).2⟩, by rw [h3, Heap.size_push]; exact Nat.lt_succ_of_lt (lt2 b hb)⟩
    rw [← hH3, upd_ne (by rw [← hD]; exact Nat.ne_of_lt (lt2 b hb))]
    exact (f2 b hb).1
  have st3 : tn 0 s3.heap := T.keep _ _ _ st2 fun b _ o e => by rw [h3]; exact Heap.get?_push_of_some _ e
  have I4 := block_start I3 ok hN f3
  have pg := hg s3 H3 s3.heap.objs.size (cellsFrom (s3.heap.objs.size + 1) scope.names (cloFrom X.env.cells scope.names [])) fp
  have pt := ht s3 H3 s3.heap.objs.size (cellsFrom (s3.heap.objs.size + 1) scope.names (cloFrom X.env.cells scope.names [])) fp
  have pe := he s3 H3 s3.heap.objs.size (cellsFrom (s3.heap.objs.size + 1) scope.names (cloFrom X.env.cells scope.names [])) fp
  show codeAny _ _ (.compStart (.SetComp elt [⟨tg, iter, ifs, 0⟩] scope pos) 0 (.ref it) (.ref s2.heap.objs.size) (compEnvC scope (cellsFrom (({ s2 with heap := s2.heap.push (fresh X.w) } : Shared).heap.objs.size + 1) scope.names (cloFrom X.env.cells scope.names [])) ({ s2 with heap := s2.heap.push (fresh X.w) } : Shared).heap.objs.size X.env)) (compPost (model X.prog X.w) X.A X.xe use Qf (.ref s2.heap.objs.size) ({ s2 with heap := s2.heap.push (fresh X.w) } : Shared).heap.objs.size) { ({ s2 with heap := s2.heap.push (fresh X.w) } : Shared) with heap := pushCells (({ s2 with heap := s2.heap.push (fresh X.w) } : Shared).heap.push { cls := .type "dict", data := .dict #[] }) scope.names }
  rw [hs3, hD]
  obtain ⟨ce, hce⟩ : ∃ ce, compEnvC scope (cellsFrom (s3.heap.objs.size + 1) scope.names (cloFrom X.env.cells scope.names [])) s3.heap.objs.size X.env = ce := ⟨_, rfl⟩
  rw [hce] at I4 pg pt pe ⊢
  have cL : ce.locals = s3.heap.objs.size := by subst hce; rfl
  obtain ⟨s4, hs4⟩ : ∃ s4 : Shared, ({ s3 with heap := pushCells (s3.heap.push { cls := .type "dict", data := .dict #[] }) scope.names } : Shared) = s4 := ⟨_, rfl⟩
  rw [hs4] at I4 ⊢
  have st4 : tn 0 s4.heap := T.keep _ _ _ st3 fun b _ o e => by rw [← hs4]; exact pushCells_keeps _ _ _ _ (Heap.get?_push_of_some _ e)
  have stat : ∀ {σ' : L2.St} {H' : Hp} {s' : Shared}, Inv (X.blk s3 H3 scope ce fp) [] σ' H' s' → (∀ b ∈ fp, H' b = none) → ∀ b ∈ fp, FpOk (X.blk s3 H3 scope ce fp) [] H' b := fun {σ' H' s'} I' hn b hb =>
    ⟨hn b hb, (I'.ok.exf b hb).1, I'.ok.exfs b hb, .inl hb, fun x c e => (I'.ok.exf b hb).2 x c e, fun p hp => absurd (show p ∈ ([] : List (Addr × Obj)) ++ [] from hp) (by simp)⟩
  have loop : codeAny (model X.prog X.w) X.A (.compLoop (.SetComp elt [⟨tg, iter, ifs, 0⟩] scope pos) 0 (.ref it) (.ref D) ce) (compPost (model X.prog X.w) X.A X.xe use Qf (.ref D) s3.heap.objs.size) s4 := by
    refine compLoopS_any (fun n s' => ∃ i H', Inv (X.blk s3 H3 scope ce fp) [] (wipe σ (own.map (·.2))) H' s' ∧ tn i s'.heap ∧ (∀ b ∈ fp, H' b = none) ∧ W i n H') ?_ m0 ⟨0, H3, I4, st4, fun b hb => (f3 b hb).1.1, w0⟩
    rintro n s5 ⟨i, H5, I5, st5, n5, w5⟩
    rcases turn i n H5 w5 with ⟨stop, qq⟩ | ⟨go, Nx, hNx, step⟩
    · refine thnF (T.done (X.blk s3 H3 scope ce fp) rfl rfl rfl hc i [] s5 _ H5 (fun _ _ => False) I5 (stat I5 n5) st5 stop) fun r s6 ⟨hr, I6⟩ => ?_
      subst hr
      have I7 : Inv X pins σ H5 s6 := I3.call' (ch := fp) I6.os I6.base I6.hok I6.bare fun b hb => ⟨(f3 b hb).1.2.2.2.1, (f3 b hb).1.2.1, (f3 b hb).1.2.2.2.2.1, (f3 b hb).1.2.2.2.2.2⟩
      have nC : H5 s3.heap.objs.size = none := by
        have z : H5 ce.locals = none := I6.free
        rwa [cL] at z
      obtain ⟨m, hn, _⟩ := I6.loc
      have hn : s6.heap.Ns ce.locals m := hn
      rw [cL] at hn
      exact hRR D s3.heap.objs.size s6 m H5 I7 qq hn (I3.fpOk (Nat.le_refl _) nC)
    · refine thnF (T.item (X.blk s3 H3 scope ce fp) rfl rfl rfl hc i [] s5 _ H5 (fun _ _ => False) I5 (stat I5 n5) st5 go) fun r s6 ⟨u, hr, h6⟩ => ?_
      subst hr
      refine thnF h6 fun _ s7 ⟨x, H7, I7, r7, y7, st7, n7⟩ => ?_
      have I7' := I7.pinned (stat I7 n7) (T.obj _ _ st7)
      refine thnF (pg.run _ s7 _ H7 x u _ I7' r7 (step x H7 y7)) fun _ s8 ⟨σ8, H8, I8, hw8, q8⟩ => ?_
      refine thnF (pt.run _ s8 σ8 H8 _ I8 q8) fun b s9 ⟨H9, I9, q9⟩ => ?_
      have fin : ∀ {s' : Shared} {H' : Hp}, Inv (X.blk s3 H3 scope ce fp) ([] ++ pinsAt fp s7.heap) σ8 H' s' → Nx H' → ∃ m, m < n ∧ ∃ i H', Inv (X.blk s3 H3 scope ce fp) [] (wipe σ (own.map (·.2))) H' s' ∧ tn i s'.heap ∧ (∀ b ∈ fp, H' b = none) ∧ W i m H' := fun {s' H'} I' nx => by
        obtain ⟨m', hm, w'⟩ := hNx H' nx
        have pin' : ∀ b ∈ fp, ∀ o, s7.heap.get? b = some o → s'.heap.get? b = some o ∧ H' b = none := fun b hb o e =>
          let z := I'.pin (b, o) (List.mem_append_right _ (List.mem_append_right _ (mem_pinsAt hb e)))
          ⟨z.1, z.2.1⟩
        refine ⟨m', hm, i + 1, H', (I'.unpinned (pins := [])).weak (by rw [← hw8, wipe_length]) (fun j v e => ?_), T.keep _ _ _ st7 fun b hb o e => (pin' b hb o e).1, fun b hb => ?_, w'⟩
        · rw [← hw8] at e
          exact (wipe_some e).1
        · obtain ⟨o, e, _⟩ := T.obj _ _ st7 b hb
          exact (pin' b hb o e).2
      cases b with
      | false =>
        simp only [Bool.false_eq_true, if_false] at q9 ⊢
        exact fin I9 q9
      | true =>
        simp only [if_true] at q9 ⊢
        refine thnF (pe.run _ s9 σ8 H9 _ I9 q9) fun z s10 ⟨y, H10, I10, r10, t, t', hD10, hst, nx⟩ => ?_
        exact Kd.add (Y := X.blk s3 H3 scope ce fp) rfl rfl I10 hD10 hst r10 fun s11 I11 => fin I11 nx
  exact codeAny_compStart_set loop (T.self X.A 0 _ _ _ st4 loop)
/-- as a value -/
theorem pe_sc (Kd : Kind X τ) {elt tg iter : Expr} {ifs : List Expr} {scope : Scope} {own : List (PySem.Str × Nat)} {pos : Pos} {wi : TI} {g : TG} {tt : TT} {te : TE} (hc : X.calm = true) (hN : X.N.Nodup) (hi : PI X tg iter wi) (ok : BlkOk X.N X.env.scope scope own)
    (hg : ∀ (s : Shared) (H : Hp) (C : Addr) (cl : List (PySem.Str × Addr)) (fp : List Addr), PG (X.blk s H scope (compEnvC scope cl C X.env) fp) tg g) (ht : ∀ (s : Shared) (H : Hp) (C : Addr) (cl : List (PySem.Str × Addr)) (fp : List Addr), PTs (X.blk s H scope (compEnvC scope cl C X.env) fp) ifs tt)
    (he : ∀ (s : Shared) (H : Hp) (C : Addr) (cl : List (PySem.Str × Addr)) (fp : List Addr), PE (X.blk s H scope (compEnvC scope cl C X.env) fp) elt te) (hs : ∀ x, foldedSetIterable iter X.env x = pure x := by intro _; rfl) :
    PE X (.SetComp elt [⟨tg, iter, ifs, 0⟩] scope pos) (tSc Kd.so Kd.zero Kd.step wi g tt te (own.map (·.2))) := by
  refine ⟨fun pins s σ H Q I h => ?_⟩
  rw [eval_SetComp]
  refine sc_core Kd hc hN I hi ok hg ht he hs h fun D C s' m H' I' q hn f => ⟨m, hn, fun h'' sb => ?_⟩
  obtain ⟨f0, f1, f2, f3, f4, f5⟩ := f
  exact ⟨.ref D, H', I'.turned (t' := s'.toks) (fun b o hb e => (sb.2 b hb).trans e) f0 f1 f3 f4 f5, rfl, q⟩
/-! sets of ints -/
def addI : (Int → Bool) × Nat → V → (Int → Bool) × Nat → Prop := fun t y t' => ∃ k : Int, y = .int k ∧ t.2 + 1 < scanBound ∧ t' = (fun j => t.1 j || decide (j = k), if t.1 k = true then t.2 else t.2 + 1)
def kindI (X : Cx) : Kind X ((Int → Bool) × Nat) where
  so := fun a t => SetO X.w a t.1 t.2
  zero := (fun _ => false, 0)
  step := addI
  new := setO_new (setR_fresh X.w)
  add := by
    intro Y pins σ H s E D t t' y u Q hP hw I hD hst r h
    obtain ⟨k, rfl, room, rfl⟩ := hst
    obtain ⟨tk, rfl⟩ := r
    rw [← hw] at hD h
    refine setR_add (setO_get I hD) room fun h' sb new => h _ ?_
    have he : ∃ u, h'.get? D = some u := by
      have ⟨o, _, _, _, ho, _⟩ := new
      exact ⟨o, ho⟩
    exact I.write (e := D) (t' := s.toks + 1) (by rw [hD]; trivial) (.inl rfl) (fun b u hb hu => (sb.2 b hb).trans hu) he (setO_new new)
end OxSet
end
section
set_option Elab.async false
set_option autoImplicit false
set_option linter.all false
set_option maxRecDepth 100000
set_option maxHeartbeats 2000000
/-! dict(t) of a tuple of pairs -/
namespace OxDT
open PySem PySem.Spec PyProof.Rows L2 PySem.OxE
/-- what hands out the pairs, at place k in the heap h -/
structure Src (it l : Addr) (I : Nat → Heap → Prop) (xs : Array Value) : Prop where
  keep : ∀ {h h' : Heap} {k : Nat}, I k h → (∀ o, h.get? it = some o → h'.get? it = some o) → (∀ o, h.get? l = some o → h'.get? l = some o) → I k h'
  item : ∀ {prog : Program} {w : World} {A : Around} {E : Value → Shared → Prop} {s : Shared} {k : Nat} {x : Value} {Q : Option Value → Shared → Prop}, I k s.heap → xs[k]? = some x →
    (∀ h', I (k + 1) h' → Heap.SameBut it s.heap h' → Q (some x) { s with heap := h' }) → wpAny (model prog w) A (pyNext (.ref it)) Q E s
  fin : ∀ {prog : Program} {w : World} {A : Around} {E : Value → Shared → Prop} {s : Shared} {k : Nat} {Q : Option Value → Shared → Prop}, A.handled = none → I k s.heap → xs[k]? = none →
    (∀ h', Heap.ExtBut it s.heap h' → Q none { s with heap := h' }) → wpAny (model prog w) A (pyNext (.ref it)) Q E s
def IT (it l : Addr) (xs : Array Value) (k : Nat) (h : Heap) : Prop := h.IsTupleIter it l k ∧ h.IsTuple l xs
theorem srcT {it l : Addr} {xs : Array Value} (ne : l ≠ it) : Src it l (IT it l xs) xs where
  keep := fun h a b => ⟨h.1.at a, h.2.at b⟩
  item := fun h hx q => wpAny_pyNext_tuple_item h.1 h.2 hx fun h' a b => q h' ⟨a, h.2.extBut b.extBut ne⟩ b
  fin := fun hh h hx q => wpAny_pyNext_tuple_end hh h.1 h.2 hx q
section
variable {prog : Program} {w : World} {A : Around} {E : Value → Shared → Prop}
/-- the pairs that stand in items from place i on -/
def PrsAt (h : Heap) (S it : Addr) (items : Array Value) (i : Nat) (rest : List (Key × Value)) : Prop :=
  ∀ (j : Nat) (q : Key × Value), rest[j]? = some q → ∃ (b : Addr) (u : Value), items[i + j]? = some (.ref b) ∧ b ≠ S ∧ b ≠ it ∧ IsTup h b #[u, q.2] ∧ keyIs q.1 u = true
theorem loop {R : Result → Shared → Prop} {S it l : Addr} {items : Array Value} {res : Value} {I : Nat → Heap → Prop} (F : Src it l I items) (hh : A.handled = none) (h1 : l ≠ it) (h2 : S ≠ it) (h3 : S ≠ l) (rest : List (Key × Value)) :
    ∀ (i : Nat) (acc : List (Key × Value)) (ix : Int) (t : Tok) (s : Shared), items.size = i + rest.length → acc.length + rest.length ≤ sizeLine → PrsAt s.heap S it items i rest → I i s.heap → s.heap.DictOf (mixKind prog w) S acc →
      (∀ h' tk, h'.DictOf (mixKind prog w) S (merged acc rest) → (∀ b o, b ≠ S → b ≠ it → s.heap.get? b = some o → h'.get? b = some o) → R (.ok (.ret res)) { s with heap := h', toks := tk }) →
      codeAny (model prog w) A (.builtin "dict.update.loop" ⟨[.ref S, .ref it, .int ix t, res], []⟩) R s := by
  induction rest with
  | nil =>
    intro i acc ix t s hsz hln ht hI hm hR
    refine codeAny_builtin ud_entry ?_
    rw [Around.under_plainId ud_plain _]
    show wpAny _ A.in1 (pyNext (.ref it) >>= _) _ _ s
    refine wpAny_bind (F.fin (A := A.in1) hh hI (Array.getElem?_eq_none (by rw [hsz]; exact Nat.le_of_eq (Nat.add_zero i))) fun h' he => ?_)
    show wpAny _ A.in1 (Builtin.Dict.addKeywords S [] >>= _) _ _ _
    exact wpAny_bind (wpAny_pure (wpAny_pure (hR h' s.toks (hm.extBut he h2) fun b o _ hb e => he b o hb e)))
  | cons q rest ih =>
    intro i acc ix t s hsz hln ht hI hm hR
    obtain ⟨b, u, hb, hbS, hbI, htup, hk⟩ := ht 0 q rfl
    rw [List.length_cons] at hsz hln
    refine codeAny_builtin ud_entry ?_
    rw [Around.under_plainId ud_plain _]
    show wpAny _ A.in1 (pyNext (.ref it) >>= _) _ _ s
    refine wpAny_bind (F.item (x := .ref b) hI (by simpa using hb) fun ha hIa sa => ?_)
    have hta : IsTup ha b #[u, q.2] := htup.extBut sa.extBut hbI
    obtain ⟨o, ho, hc, n, hd⟩ := id hta
    show wpAny _ A.in1 (holding [Value.ref b] _ >>= _) _ _ _
    refine wpAny_bind (wpAny_holding (wpAny_bind (wpAny_tryCatch ?_)))
    unfold Builtin.Dict.pairItems
    refine wpAny_bind (wpAny_typeOf (T := "tuple") ⟨o, ho, hc⟩ ?_)
    rw [if_pos (by first | decide | rfl | simp)]
    refine wpAny_bind (wpAny_seqItems ho hd (wpAny_pure ?_))
    show wpAny _ A.in1 (holding [u, q.2] (dictSet S u q.2)) _ _ _
    refine wpAny_holding (wpAny_dictSet_pairs (knd := mixKind prog w) (k := q.1) hk (hm.extBut sa.extBut h2) (fun hb' hmb sb => wpAny_pure ⟨plainId_quiet ud_plain _, ?_⟩) (by omega))
    refine ih (i + 1) (stored acc q.1 q.2) (ix + 1) 0 _ (show items.size = i + 1 + rest.length by omega) (by have := stored_length_le acc q.1 q.2; omega) (fun j q' e => ?_) ?_ hmb fun h' tk hd' k => hR h' tk hd' fun c oc c1 c2 e => k c oc c1 c2 (sb.extBut c oc c1 (sa.extBut c oc c2 e))
    · obtain ⟨b', u', e1, e2, e3, e4, e5⟩ := ht (j + 1) q' (by simpa using e)
      exact ⟨b', u', by rw [show i + 1 + j = i + (j + 1) by omega]; exact e1, e2, e3, (e4.extBut sa.extBut e3).extBut sb.extBut e2, e5⟩
    · exact F.keep hIa (fun o e => sb.extBut _ o (Ne.symm h2) e) fun o e => sb.extBut _ o (Ne.symm h3) e
theorem no_keys : typeLookup (.type "tuple") "keys" = pure none := am_miss_of_fast (by first | decide +kernel | rfl)
/-- a tuple has no attribute 'keys' -/
theorem miss {s : Shared} {a : Addr} {o : Obj} {xs : Array Value} {k : Nat} {Q : Option Value → Shared → Prop} (hx : s.heap.get? a = some o) (hc : o.cls = .type "tuple") (hdat : o.data = .seq xs k) (hd : o.dict = none) (hA : A.handled = none)
    (h : ∀ h' tk, (∀ b ob, s.heap.get? b = some ob → h'.get? b = some ob) → Q none { s with heap := h', toks := tk }) : wpAny (model prog w) A (getAttr? (.ref a) "keys") Q E s := by
  obtain ⟨c, dct, dat, sl⟩ := o
  simp only at hc hdat hd
  subst hc hdat hd
  obtain ⟨hp, g, d, tk, os⟩ := s
  have hT : ∀ tk', (⟨hp, g, d, tk', os⟩ : Shared).TypeIs (.ref a) "tuple" := fun _ => ⟨_, hx, rfl⟩
  have hmiss := no_keys
  have hname : (["__module__", "__name__", "__qualname__", "__doc__", "__annotations__"] : List Str).contains "keys" = false := by decide +kernel
  have hsz : ("keys" : Str).length + 100 ≤ sizeLine := by first | size_fits | decide +kernel
  have f1 := sub_AttributeError
  have f3 := PySem.F.slot_tuple_getattribute.lookup
  have f4 := PySem.F.slot_tuple_getattribute.bind (.ref a)
  have f5 := am_tuple_getattr_none
  unfold getAttr? getAttrBy? getAttrBy
  repeat (any_goals (first | assumption | exact hT _ | ((with_reducible show wpAny _ _ (call (Value.builtin "tuple.__getattribute__") _ _) _ _ _); refine call_meets PySem.F.slot_tuple_getattribute (hT _) am_entry_tuple_getattribute (PySem.F.args_tuple_getattribute_2 _ _) (meets_getattribute_miss_tuple a xs k sl "keys" _ hmiss hname hsz) ⟨hx, hA, fun h' tk' e hx' => ?_⟩) | wp_step))
  obtain ⟨t', u', he⟩ := hx'.there
  show wpAny _ _ (getattributeRaised _ _ _ _ _ _ _) _ _ _
  unfold getattributeRaised
  repeat (any_goals (first | assumption | wp_step))
  all_goals first | exact h _ _ hx'.keeps | (dsimp only; repeat (any_goals (first | assumption | exact h _ _ hx'.keeps | wp_step)))
theorem call_pairs {s : Shared} {l : Addr} {ol : Obj} {items : Array Value} {n : Nat} {prs : List (Key × Value)} {Q : Value → Shared → Prop} (hh : A.handled = none) (hl : s.heap.get? l = some ol) (hc : ol.cls = .type "tuple") (hd : ol.dict = none)
    (hdat : ol.data = .seq items n) (hsz : items.size = prs.length) (hln : prs.length ≤ sizeLine)
    (ht : ∀ (j : Nat) (q : Key × Value), prs[j]? = some q → ∃ (b : Addr) (u : Value), items[j]? = some (.ref b) ∧ IsTup s.heap b #[u, q.2] ∧ keyIs q.1 u = true)
    (h : ∀ h' tk, h'.DictOf (mixKind prog w) s.heap.objs.size (merged [] prs) → (∀ b o, s.heap.get? b = some o → h'.get? b = some o) → Q (.ref s.heap.objs.size) { s with heap := h', toks := tk }) :
    wpAny (model prog w) A (call (.type "dict") [.ref l]) Q E s := by
  refine callType_codes (Q₁ := fun obj s₁ => obj = .ref s.heap.objs.size ∧ s₁ = { s with heap := s.heap.push { cls := .type "dict", data := .dict #[] } }) PySem.F.kt_called_dict (PySem.F.kt_typeCall_dict_1 _) PySem.F.entry_dict_init (kt_code_dict_new _ ⟨rfl, rfl⟩) ?_
  rintro obj s₁ ⟨rfl, rfl⟩
  have hnew : (s.heap.push { cls := .type "dict", data := .dict #[] }).DictOf (mixKind prog w) s.heap.objs.size [] := Heap.DictOf.new s.heap
  have k0 : ∀ b o, s.heap.get? b = some o → (s.heap.push { cls := .type "dict", data := .dict #[] }).get? b = some o := fun b o e => Heap.get?_push_of_some _ e
  refine ⟨hnew.typeIs, PySem.F.args_dict_init_2 _ _, ?_⟩
  unfold Builtin.«dict.__init__»
  refine wpAny_bind ?_
  unfold Builtin.Dict.selfAndRest
  refine wpAny_bind (wpAny_notOrdered_dict hnew.typeIs ?_)
  show wpAny _ _ (pure (s.heap.objs.size, [Value.ref l])) _ _ _
  refine wpAny_pure ?_
  show wpAny _ _ (Builtin.Dict.updateFrom "dict.__init__" s.heap.objs.size (.ref l) [] .none) _ _ _
  unfold Builtin.Dict.updateFrom
  refine wpAny_bind (wpAny_typeOf (T := "tuple") ⟨ol, k0 _ _ hl, hc⟩ ?_)
  rw [if_pos (by first | decide | rfl | simp)]
  refine wpAny_bind (miss (k0 _ _ hl) hc hdat hd hh fun h1 tk1 hk1 => ?_)
  rw [if_pos (show (none : Option Value).isNone = true from rfl)]
  refine wpAny_bind (wpAny_rule ?_)
  have hl1 : h1.IsTuple l items := ⟨ol, hk1 _ _ (k0 _ _ hl), hc, n, hdat⟩
  have hS1 : s.heap.objs.size < h1.objs.size := by
    have e : (s.heap.push { cls := .type "dict", data := .dict #[] }).get? s.heap.objs.size = some { cls := .type "dict", data := .dict #[] } := Heap.get?_push_size _ rfl
    exact Heap.lt_size (hk1 _ _ e)
  refine wpAny_bind (wpAny_pyIter_tuple hl1 ?_)
  have k2 : ∀ b o, h1.get? b = some o → (h1.push { cls := .type "tuple_iterator", data := .fields #[.ref l, .int 0 0] }).get? b = some o := fun b o e => Heap.get?_push_of_some _ e
  have hlt : l < s.heap.objs.size := Heap.lt_size hl
  have key := loop (prog := prog) (w := w) (A := A.in1) (R := wants (fun r s₂ => r = .none ∧ Q (.ref s.heap.objs.size) s₂) E) (S := s.heap.objs.size) (it := h1.objs.size) (l := l) (items := items) (res := Value.none)
    (srcT (Nat.ne_of_lt (Nat.lt_trans hlt hS1))) hh (Nat.ne_of_lt (Nat.lt_trans hlt hS1)) (Nat.ne_of_lt hS1) (Nat.ne_of_gt hlt) prs 0 [] 0 0
    { s with heap := h1.push { cls := .type "tuple_iterator", data := .fields #[.ref l, .int 0 0] }, toks := tk1 } (by rw [hsz, Nat.zero_add]) (by rw [List.length_nil, Nat.zero_add]; exact hln)
    (fun j q e => by
      obtain ⟨b, u, e1, e2, e3⟩ := ht j q e
      have hb : b < s.heap.objs.size := e2.lt
      exact ⟨b, u, by rw [Nat.zero_add]; exact e1, Nat.ne_of_lt hb, Nat.ne_of_lt (Nat.lt_trans hb hS1), e2.keeps fun c o z => k2 _ _ (hk1 _ _ (k0 _ _ z)), e3⟩)
    ⟨⟨_, Heap.get?_push_size _ rfl, rfl, rfl⟩, hl1.at fun o e => k2 _ _ e⟩ ((hnew.at fun o e => hk1 _ _ e).at fun o e => k2 _ _ e)
    (fun h' tk hd' k => ⟨rfl, h h' tk hd' fun b o e => k b o (Nat.ne_of_lt (Heap.lt_size e)) (Nat.ne_of_lt (Nat.lt_trans (Heap.lt_size e) hS1)) (k2 _ _ (hk1 _ _ (k0 _ _ e)))⟩)
  first
    | exact wpAny_pure ⟨plainId_quiet ud_plain _, key⟩
    | exact wpAny_bind (wpAny_pure (wpAny_pure ⟨plainId_quiet ud_plain _, key⟩))
end
variable {X : Cx}
/-- a tuple's object without a dict of its own -/
def Bare (o : Obj) : Prop := o.cls = .type "tuple" ∧ o.dict = none
/-- the tuple at a has no dict of its own -/
def NoD (H : Hp) (a : Addr) : Prop := ∃ o xs, H a = some (.frz o (.tup xs)) ∧ Bare o
def rDictT (K : PySem.W.Frag) : List V → Hp → VK → Prop := fun xs H Q => ∃ (a : Addr) (ps : List Addr) (kvs : List (Key × V)), xs = [.ref a] ∧ SqT K H a (ps.map V.ref) ∧ NoD H a ∧ Paired (fun p kv => SqT K H p [kV kv.1, kv.2]) ps kvs ∧
    ∀ p, H p = none → Q (.ref p) (upd H p (.dK (mergeK [] kvs)))
theorem call_dictT (hcalm : X.calm = true) : CallR X (.type "dict") (rDictT X.K) := by
  intro pins s σ H xs us Q I r q
  obtain ⟨a, ps, kvs, ex, hq, hn, hp, q⟩ := q
  subst ex
  obtain ⟨u, eu, rx⟩ := vals1 r
  subst eu
  cases rx
  obtain ⟨its, rv, pl, hz⟩ := I.tuple hq
  have ei := refs_at rv
  subst ei
  rw [List.length_map] at hz
  obtain ⟨prs, rel, hl, hpr⟩ := pairs_of I hp
  obtain ⟨o, ho, hc, n, hdat⟩ := pl
  obtain ⟨o2, ys, hf, _, hd⟩ := hn
  have ho2 : s.heap.get? a = some o2 := (I.hok a _ hf).1
  obtain rfl : o = o2 := by rw [ho] at ho2; exact Option.some.inj ho2
  refine call_pairs (prs := prs) (I.ok.hd hcalm) ho hc hd hdat (by simp [hl]) (by rw [hl]; exact hz) (fun j q' e => ?_) fun h' tk hd' k => ?_
  · obtain ⟨b, u, e1, e2, e3⟩ := hpr j q' e
    exact ⟨b, u, by simp [e1], e2, e3⟩
  · have hm : (s.heap.objs.size == sysModules) = false := beq_eq_false_iff_ne.mpr (Nat.ne_of_gt I.big)
    have hlen : (mergeK [] kvs).length ≤ sizeLine := by
      refine Nat.le_trans (length_mergeK kvs []) ?_
      rw [List.length_nil, Nat.zero_add, rel.length, hl]
      exact hz
    exact ⟨.ref s.heap.objs.size, upd H s.heap.objs.size (.dK (mergeK [] kvs)), I.laid (t' := tk) k (Nat.le_refl _) (show ObjOk X.prog X.w _ _ _ (.dK (mergeK [] kvs)) from ⟨hlen, hm, merged [] prs, KV.merge rel .nil, hd'⟩), rfl, q _ (I.hok.fresh (Nat.le_refl _))⟩
/-! tuples made so that their object is known -/
def tTupF (t : TA) : TE := fun σ H Q => t σ H fun xs H1 => xs.length ≤ sizeLine ∧ ∀ p o, H1 p = none → Bare o → Q (.ref p) (upd H1 p (.frz o (.tup xs)))
theorem pe_tupF {es : List Expr} {t : TA} {pos : Pos} {x1} (h : PA X es t) : PE X (.Tuple es x1 pos) (tTupF t) := by
  refine ⟨fun pins s σ H Q I hq => ?_⟩
  refine wpAny_Tuple_spliced (thn (h.run pos pins s σ H _ I hq) fun us s1 ⟨xs, H1, I1, r, z, q⟩ => ⟨by rw [← r.length]; exact z, ?_⟩)
  have e : (s1.heap.push { cls := .type "tuple", data := .seq us.toArray }).get? s1.heap.objs.size = some { cls := .type "tuple", data := .seq us.toArray } := Heap.get?_push_size _ rfl
  refine ⟨.ref s1.heap.objs.size, upd H1 s1.heap.objs.size (.frz { cls := .type "tuple", data := .seq us.toArray } (.tup xs)), I1.laid (t' := s1.toks) (fun b u e => Heap.get?_push_of_some _ e) (Nat.le_refl _) ?_, rfl, q _ _ (I1.hok.fresh (Nat.le_refl _)) ⟨rfl, rfl⟩⟩
  exact ⟨e, z, us, r, ⟨_, e, rfl, _, rfl⟩⟩
def rTupF (K : PySem.W.Frag) : List V → Hp → VK → Prop := fun xs H Q => ∃ p ys, xs = [.ref p] ∧ SqL K H p ys ∧ ∀ l o, H l = none → Bare o → Q (.ref l) (upd H l (.frz o (.tup ys)))
theorem call_tupF : CallR X (.type "tuple") (rTupF X.K) := by
  intro pins s σ H xs us Q I r h
  obtain ⟨p, ys, rfl, hq, q⟩ := h
  obtain ⟨u, rfl, rx⟩ := vals1 r
  cases rx
  obtain ⟨its, r', pl, hz⟩ := I.list hq
  have hlen := r'.length
  refine call_tuple_list pl.isList (fun h' kp => ?_) (by simp only [List.size_toArray] <;> omega)
  have I1 : Inv X pins σ H { s with heap := h' } := I.kept (t' := s.toks) kp
  have e : (h'.push { cls := .type "tuple", data := .seq its.toArray }).get? h'.objs.size = some { cls := .type "tuple", data := .seq its.toArray } := Heap.get?_push_size _ rfl
  have I2 : Inv X pins σ (upd H h'.objs.size (.frz { cls := .type "tuple", data := .seq its.toArray } (.tup ys))) { s with heap := h'.push { cls := .type "tuple", data := .seq its.toArray } } :=
    I1.laid (t' := s.toks) (fun b o e => Heap.get?_push_of_some _ e) (Nat.le_refl _) (show ObjOk X.prog X.w _ _ _ (.frz _ (.tup ys)) from ⟨e, hz, its, r', ⟨_, e, rfl, _, rfl⟩⟩)
  exact ⟨.ref h'.objs.size, _, I2, rfl, q _ _ (I1.hok.fresh (Nat.le_refl _)) ⟨rfl, rfl⟩⟩
end OxDT
end
section
set_option Elab.async false
set_option autoImplicit false
set_option linter.all false
set_option maxRecDepth 100000
set_option maxHeartbeats 2000000
/-! the parts of a run's data -/
namespace PySem.Fl
open PySem PySem.Spec PyProof.Rows L2 PySem.OxE LawC
section
variable {K : PySem.W.Frag} {H H' : Hp} {σ : L2.St} {ta tb tc : TE}
theorem dp_tup {v : V} {ds : List PyData} (h : Dp K H v (.tuple ds)) : ∃ a vs, v = .ref a ∧ SqT K H a vs ∧ DpAll K H vs ds := by
  cases h with
  | tup h t => exact ⟨_, _, rfl, h, t⟩
theorem dp_str {v : V} {u : Str} (h : Dp K H v (.str u)) : v = .str u := by cases h; rfl
theorem dp_cons {vs : List V} {d : PyData} {ds : List PyData} (h : DpAll K H vs (d :: ds)) : ∃ u us, vs = u :: us ∧ Dp K H u d ∧ DpAll K H us ds := by
  cases h with
  | cons a b => exact ⟨_, _, rfl, a, b⟩
theorem dp_nil {vs : List V} (h : DpAll K H vs []) : vs = [] := by cases h; rfl
theorem dp_ints : ∀ {ns : List Int} {vs : List V}, DpAll K H vs (ns.map PyData.int) → vs = ns.map V.int
  | [], vs, h => dp_nil h
  | n :: ns, vs, h => by
    obtain ⟨u, us, rfl, h1, h2⟩ := dp_cons h
    rw [Dp.int_inv h1, dp_ints h2]; rfl
theorem ints_dp : ∀ (ns : List Int), DpAll K H (ns.map V.int) (ns.map PyData.int)
  | [] => .nil
  | n :: ns => .cons (.int n) (ints_dp ns)
def EvAt (K : PySem.W.Frag) (H : Hp) (a : Addr) (e : Ev) : Prop := SqT K H a [.str e.1, .int e.2]
theorem ev_part {v : V} {e : Ev} (h : Dp K H v (evD e)) : ∃ a, v = .ref a ∧ EvAt K H a e := by
  obtain ⟨a, vs, rfl, hs, ht⟩ := dp_tup h
  obtain ⟨u1, t1, rfl, h1, ht⟩ := dp_cons ht
  obtain ⟨u2, t2, rfl, h2, ht⟩ := dp_cons ht
  obtain rfl := dp_nil ht
  exact ⟨a, rfl, by rw [dp_str h1, Dp.int_inv h2] at hs; exact hs⟩
theorem ev_dp {a : Addr} {e : Ev} (h : EvAt K H a e) : Dp K H (.ref a) (evD e) := .tup h (.cons (.str _) (.cons (.int _) .nil))
theorem evs_all : ∀ {es : List Ev} {vs : List V}, DpAll K H vs (es.map evD) → ∃ as : List Addr, vs = as.map V.ref ∧ Paired (EvAt K H) as es
  | [], vs, h => ⟨[], dp_nil h, .nil⟩
  | e :: es, vs, h => by
    obtain ⟨u, us, rfl, h1, h2⟩ := dp_cons h
    obtain ⟨a, rfl, h3⟩ := ev_part h1
    obtain ⟨as, rfl, h4⟩ := evs_all h2
    exact ⟨a :: as, rfl, .cons h3 h4⟩
theorem all_evs : ∀ {as : List Addr} {es : List Ev}, Paired (EvAt K H) as es → DpAll K H (as.map V.ref) (es.map evD)
  | _, _, .nil => .nil
  | _, _, .cons h t => .cons (ev_dp h) (all_evs t)
theorem evs_part {v : V} {es : List Ev} (h : Dp K H v (evsD es)) : ∃ t as, v = .ref t ∧ SqT K H t (as.map V.ref) ∧ Paired (EvAt K H) as es := by
  obtain ⟨a, vs, rfl, hs, ht⟩ := dp_tup h
  obtain ⟨as, rfl, h2⟩ := evs_all ht
  exact ⟨a, as, rfl, hs, h2⟩
theorem evs_dp {t : Addr} {as : List Addr} {es : List Ev} (h : SqT K H t (as.map V.ref)) (p : Paired (EvAt K H) as es) : Dp K H (.ref t) (evsD es) := .tup h (all_evs p)
theorem spot_part {v : V} {s : Spot} (h : Dp K H v (spotD s)) : ∃ a tv ev, v = .ref a ∧ SqT K H a [.int (s.row : Int), .ref tv, .ref ev] ∧ SqT K H tv (s.tries.map V.int) ∧ Dp K H (.ref ev) (evsD s.events) := by
  obtain ⟨a, vs, rfl, hs, ht⟩ := dp_tup h
  obtain ⟨u1, t1, rfl, h1, ht⟩ := dp_cons ht
  obtain ⟨u2, t2, rfl, h2, ht⟩ := dp_cons ht
  obtain ⟨u3, t3, rfl, h3, ht⟩ := dp_cons ht
  obtain rfl := dp_nil ht
  obtain ⟨tv, ts, rfl, q1, q2⟩ := dp_tup h2
  obtain ⟨ev, as, rfl, q3, q4⟩ := evs_part h3
  rw [Dp.int_inv h1] at hs
  rw [dp_ints q2] at q1
  exact ⟨a, tv, ev, rfl, hs, q1, h3⟩
theorem spot_dp {a tv ev : Addr} {s : Spot} (h : SqT K H a [.int (s.row : Int), .ref tv, .ref ev]) (h1 : SqT K H tv (s.tries.map V.int)) (h2 : Dp K H (.ref ev) (evsD s.events)) : Dp K H (.ref a) (spotD s) :=
  .tup h (.cons (.int _) (.cons (.tup h1 (ints_dp _)) (.cons h2 .nil)))
theorem place_part {v : V} {p : Nat × Int × List Ev} (h : Dp K H v (placeD p)) : ∃ a ev, v = .ref a ∧ SqT K H a [.int (p.1 : Int), .int p.2.1, .ref ev] ∧ Dp K H (.ref ev) (evsD p.2.2) := by
  obtain ⟨a, vs, rfl, hs, ht⟩ := dp_tup h
  obtain ⟨u1, t1, rfl, h1, ht⟩ := dp_cons ht
  obtain ⟨u2, t2, rfl, h2, ht⟩ := dp_cons ht
  obtain ⟨u3, t3, rfl, h3, ht⟩ := dp_cons ht
  obtain rfl := dp_nil ht
  obtain ⟨ev, as, rfl, q3, q4⟩ := evs_part h3
  rw [Dp.int_inv h1, Dp.int_inv h2] at hs
  exact ⟨a, ev, rfl, hs, h3⟩
theorem place_dp {a ev : Addr} {p : Nat × Int × List Ev} (h : SqT K H a [.int (p.1 : Int), .int p.2.1, .ref ev]) (h2 : Dp K H (.ref ev) (evsD p.2.2)) : Dp K H (.ref a) (placeD p) :=
  .tup h (.cons (.int _) (.cons (.int _) (.cons h2 .nil)))
theorem pairL {α β : Type} {F : α → β → Prop} : ∀ {l : List α} {m : List β}, Paired F l m → l.length = m.length
  | _, _, .nil => rfl
  | _, _, .cons _ t => by rw [List.length_cons, List.length_cons, pairL t]
theorem pairAt {α β : Type} {F : α → β → Prop} : ∀ {l : List α} {m : List β} {i : Nat} {y : β}, Paired F l m → m[i]? = some y → ∃ x, l[i]? = some x ∧ F x y
  | _, _, _, _, .nil, e => by simp at e
  | _, _, 0, _, .cons h _, e => ⟨_, rfl, by cases e; exact h⟩
  | _, _, i + 1, _, .cons _ t, e => by
    obtain ⟨x, h1, h2⟩ := pairAt (i := i) t (by simpa using e)
    exact ⟨x, by simpa using h1, h2⟩
/-- t[k], k a number that stands there -/
theorem ev_ixK {a : Addr} {vs : List V} {v : V} {k : Nat} (ha : Evl.Ev ta σ H (.ref a)) (hs : SqT K H a vs) (hv : vs[k]? = some v) : Evl.Ev (tOp (rIxT K) ta (tC (.int (k : Int)))) σ H v :=
  Evl.ev_op ha Evl.ev_c (Evl.rv_ixT hs (atI_nat hv))
theorem atI_last {vs : List V} {v : V} (h : vs.getLast? = some v) : atI vs (-1) = some v := by
  have hl : vs ≠ [] := fun z => by rw [z] at h; cases h
  have hp : 0 < vs.length := List.length_pos_iff.mpr hl
  rw [List.getLast?_eq_getElem?] at h
  have e : ixN vs.length (-1) = some (vs.length - 1) := by
    unfold ixN
    rw [if_neg (by decide), if_pos (by omega)]
    congr 1
    omega
  unfold atI
  rw [e]
  exact h
theorem ev_ixE {a : Addr} {vs : List V} {v : V} (ha : Evl.Ev ta σ H (.ref a)) (hs : SqT K H a vs) (hv : vs.getLast? = some v) : Evl.Ev (tOp (rIxT K) ta (tUn (rU fun i => .int (-i)) (tC (.int 1)))) σ H v :=
  Evl.ev_op ha (Evl.ev_un Evl.ev_c Evl.ru_neg) (Evl.rv_ixT hs (atI_last hv))
/-- the i-th event's row -/
theorem ev_evrow {t : Addr} {as : List Addr} {es : List Ev} {e : Ev} (ha : Evl.Ev ta σ H (.ref t)) (hs : SqT K H t (as.map V.ref)) (p : Paired (EvAt K H) as es) (he : es.getLast? = some e) :
    Evl.Ev (tOp (rIxT K) (tOp (rIxT K) ta (tUn (rU fun i => .int (-i)) (tC (.int 1)))) (tC (.int 1))) σ H (.int e.2) := by
  obtain ⟨a, h1, h2⟩ := pairAt p (show es[es.length - 1]? = some e by rw [← List.getLast?_eq_getElem?]; exact he)
  have hl := pairL p
  refine ev_ixK (k := 1) (ev_ixE ha hs (v := .ref a) ?_) h2 rfl
  rw [List.getLast?_eq_getElem?, List.length_map, hl, List.getElem?_map, h1]
  rfl
theorem ev_evkind {t : Addr} {as : List Addr} {es : List Ev} {e : Ev} (ha : Evl.Ev ta σ H (.ref t)) (hs : SqT K H t (as.map V.ref)) (p : Paired (EvAt K H) as es) (he : es.getLast? = some e) :
    Evl.Ev (tOp (rIxT K) (tOp (rIxT K) ta (tUn (rU fun i => .int (-i)) (tC (.int 1)))) (tC (.int 0))) σ H (.str e.1) := by
  obtain ⟨a, h1, h2⟩ := pairAt p (show es[es.length - 1]? = some e by rw [← List.getLast?_eq_getElem?]; exact he)
  have hl := pairL p
  refine ev_ixK (k := 0) (ev_ixE ha hs (v := .ref a) ?_) h2 rfl
  rw [List.getLast?_eq_getElem?, List.length_map, hl, List.getElem?_map, h1]
  rfl
theorem EvAt.same {a : Addr} {e : Ev} (h : EvAt K H a e) (s : Same H H') : EvAt K H' a e := Evl.ex_t s h
theorem evs_same {as : List Addr} {es : List Ev} (p : Paired (EvAt K H) as es) (s : Same H H') : Paired (EvAt K H') as es := Paired.mapP p fun _ _ h => h.same s
/-- d[k] of the numbers of the tries -/
theorem ev_num {d : Addr} {ns : List (Nat × Int)} {b : Nat} {n : Int} (hd : H d = some (.dK (numK ns))) (ha : Evl.Ev ta σ H (.ref d)) (hb : Evl.Ev tb σ H (.int b)) (hn : ns.lookup b = some n) : Evl.Ev (tDGet ta tb) σ H (.int n) :=
  ev_dget ha hb hd ((lookup_keys V.int ns b).trans (by rw [hn]; rfl))
/-- dict(pairs) / {k: v for ..} grown pair by pair -/
theorem merge_dOf (ps : List (Nat × Int)) : ∀ acc : List (Nat × Int), mergeK (mapK V.int acc) (mapK V.int ps) = mapK V.int (ps.foldl (fun d p => put d p.1 p.2) acc) := by
  induction ps with
  | nil => intro acc; rfl
  | cons p ps ih =>
    intro acc
    show mergeK (putK (mapK V.int acc) (.inl (p.1 : Int)) (.int p.2)) (mapK V.int ps) = _
    rw [putK_map V.int acc p.1 p.2, ih]
    rfl
theorem dOf_take {ps : List (Nat × Int)} {i : Nat} {p : Nat × Int} (h : ps[i]? = some p) : dOf (ps.take (i + 1)) = put (dOf (ps.take i)) p.1 p.2 := by
  unfold dOf
  rw [List.take_add_one, h, List.foldl_append]
  rfl
theorem length_dOf : ∀ (ps acc : List (Nat × Int)), (ps.foldl (fun d p => put d p.1 p.2) acc).length ≤ acc.length + ps.length
  | [], acc => Nat.le_refl _
  | p :: ps, acc => by
    refine Nat.le_trans (length_dOf ps _) ?_
    have := length_put acc p.1 p.2
    show (put acc p.1 p.2).length + ps.length ≤ acc.length + (p :: ps).length
    rw [List.length_cons]
    omega
end
section
variable {K : PySem.W.Frag} {H H' : Hp} {σ : L2.St} {ta te : TE} {D : Ends}
theorem s_retD {d : PyData} (h : EvD K te σ H d) (k : ∀ v H1, Same H H1 → Dp K H1 v d → D.rt v H1) : tRet te D σ H := h H (Evl.Ex.refl H) _ k
theorem q_asgD {d : PyData} {i : Nat} {tz : TS} (h : EvD K te σ H d) (k : ∀ v H1, Same H H1 → Dp K H1 v d → tz D (σ.set i (some v)) H1) : tSeq (tAsg te (gName i)) tz D σ H := h H (Evl.Ex.refl H) _ k
theorem s_asgD {d : PyData} {i : Nat} (h : EvD K te σ H d) (k : ∀ v H1, Same H H1 → Dp K H1 v d → D.nx (σ.set i (some v)) H1) : tAsg te (gName i) D σ H := h H (Evl.Ex.refl H) _ k
theorem EvD.mono {d : PyData} (h : EvD K te σ H d) (s : Same H H') : EvD K te σ H' d := fun H1 e1 Q q => h H1 (Same.trans s e1) Q q
/-- tuple(l) -/
theorem evd_tupOf {l : Addr} {vs : List V} {ds : List PyData} (h : Evl.Ev te σ H (.ref l)) (hl : H l = some (.lst vs)) (hd : DpAll K H vs ds) :
    EvD K (tCB (fun xs H Q => ∃ p ys, xs = [V.ref p] ∧ ((SqL K H p ys ∧ ∀ l, H l = none → Q (.ref l) (upd H l (.tup ys))) ∨ (SqT K H p ys ∧ Q (.ref p) H))) (tCons te tNil)) σ H (.tuple ds) := fun H1 e1 Q q =>
  h H1 e1 _ fun H2 e2 => ⟨l, vs, rfl, .inl ⟨SqL.of (e2 _ _ (e1 _ _ hl)), fun p hp => q _ _ (Same.trans e2 (Same.new hp)) (.tup (SqT.of upd_same) (hd.mono (Same.trans (Same.trans e1 e2) (Same.new hp))))⟩⟩
/-- f(..), whose promise gives data -/
theorem evd_call {sp : Sp} {vs : List V} {E : XK} {t : TA} {d : PyData} (h : Evl.EvA t σ H vs) (hs : ∀ H1, Same H H1 → ∀ Q : VK, (∀ v H2, Same H1 H2 → Dp K H2 v d → Q v H2) → sp vs H1 Q E) : EvD K (tCall sp [] E t) σ H d := fun H1 e1 Q q =>
  h H1 e1 _ fun H2 e2 => by
    show sp (vs ++ []) H2 Q E
    rw [List.append_nil]
    exact hs H2 (Same.trans e1 e2) Q fun v H3 e3 hv => q v H3 (Same.trans e2 e3) hv
theorem kept_snoc (F : Fn) (b : Nat) {e : Ev} {x : Bool} : ∀ {es ks : List Ev}, F.kept b es = some ks → F.isInside e.2 b = some x → F.kept b (es ++ [e]) = some (ks ++ if x then [] else [e])
  | [], ks, h, hx => by
    unfold Fn.kept at h
    cases h
    show F.kept b [e] = _
    unfold Fn.kept Fn.kept
    rw [hx]
    cases x <;> rfl
  | f :: es, ks, h, hx => by
    unfold Fn.kept at h
    obtain ⟨y, hy, h⟩ := bs h
    obtain ⟨r, hr, h⟩ := bs h
    cases h
    show F.kept b (f :: (es ++ [e])) = _
    unfold Fn.kept
    rw [hy, kept_snoc F b hr hx]
    cases y <;> rfl
theorem kept_take (F : Fn) (b : Nat) : ∀ {es ks : List Ev} (n : Nat), F.kept b es = some ks → ∃ k2, F.kept b (es.take n) = some k2
  | es, ks, 0, h => ⟨[], rfl⟩
  | [], ks, n + 1, h => ⟨[], rfl⟩
  | f :: es, ks, n + 1, h => by
    unfold Fn.kept at h
    obtain ⟨y, hy, h⟩ := bs h
    obtain ⟨r, hr, h⟩ := bs h
    obtain ⟨k2, h2⟩ := kept_take F b n hr
    rw [List.take_succ_cons]
    unfold Fn.kept
    rw [hy, h2]
    exact ⟨_, rfl⟩
theorem kept_at (F : Fn) (b : Nat) : ∀ {es ks : List Ev} {i : Nat} {e : Ev}, F.kept b es = some ks → es[i]? = some e → ∃ x, F.isInside e.2 b = some x
  | [], ks, i, e, h, he => by simp at he
  | f :: es, ks, 0, e, h, he => by
    unfold Fn.kept at h
    obtain ⟨y, hy, h⟩ := bs h
    cases he
    exact ⟨y, hy⟩
  | f :: es, ks, i + 1, e, h, he => by
    unfold Fn.kept at h
    obtain ⟨y, hy, h⟩ := bs h
    obtain ⟨r, hr, h⟩ := bs h
    exact kept_at F b hr (by simpa using he)
theorem pair_snoc {α β : Type} {R : α → β → Prop} {x : α} {y : β} : ∀ {l : List α} {m : List β}, Paired R l m → R x y → Paired R (l ++ [x]) (m ++ [y])
  | _, _, .nil, h => .cons h .nil
  | _, _, .cons a t, h => .cons a (pair_snoc t h)
end
section
variable {K : PySem.W.Frag} {H H' : Hp} {σ : L2.St} {ta tb te : TE} {tA : TA} {D : Ends}
theorem q_par {i j : Nat} {v u : V} {tz : TS} (h : Evl.EvA tA σ H [v, u]) (k : ∀ H1, Same H H1 → tz D ((σ.set i (some v)).set j (some u)) H1) : tSeq (tPar i j tA) tz D σ H := h H (Evl.Ex.refl H) _ fun H1 e1 => ⟨v, u, rfl, k H1 e1⟩
theorem s_par {i j : Nat} {v u : V} (h : Evl.EvA tA σ H [v, u]) (k : ∀ H1, Same H H1 → D.nx ((σ.set i (some v)).set j (some u)) H1) : tPar i j tA D σ H := h H (Evl.Ex.refl H) _ fun H1 e1 => ⟨v, u, rfl, k H1 e1⟩
theorem pair_app {α β : Type} {R : α → β → Prop} {l2 : List α} {m2 : List β} (h2 : Paired R l2 m2) : ∀ {l : List α} {m : List β}, Paired R l m → Paired R (l ++ l2) (m ++ m2)
  | _, _, .nil => h2
  | _, _, .cons a t => .cons a (pair_app h2 t)
theorem evd_catE {t : Addr} {es fs : List Ev} (ha : Evl.Ev ta σ H (.ref t)) (hd : Dp K H (.ref t) (evsD es)) (hb : EvD K tb σ H (evsD fs)) (hz : es.length + fs.length ≤ 10000) : EvD K (tOp (rCatA K) ta tb) σ H (evsD (es ++ fs)) := fun H1 e1 Q q =>
  ha H1 e1 _ fun H2 e2 => hb H2 (Same.trans e1 e2) _ fun v H3 e3 hv => by
    obtain ⟨t', as, ht, hs, hp⟩ := evs_part hd
    cases ht
    obtain ⟨b, bs', rfl, hs2, hp2⟩ := evs_part hv
    have s3 := Same.trans (Same.trans e1 e2) e3
    have l1 := pairL hp
    have l2 := pairL hp2
    refine ⟨t, b, _, _, rfl, rfl, Evl.ex_t s3 hs, hs2, Evl.sz_of (by rw [List.length_map, List.length_map, l1, l2]; omega), fun z => ?_, fun z z2 => ?_, fun z z2 p hp0 => ?_⟩
    · refine q _ H3 (Same.trans e2 e3) ?_
      have : es = [] := by
        refine List.length_eq_zero_iff.mp ?_
        rw [← l1, ← List.length_map (f := V.ref), z]; rfl
      rw [this]
      exact hv
    · refine q _ H3 (Same.trans e2 e3) ?_
      have : fs = [] := by
        refine List.length_eq_zero_iff.mp ?_
        rw [← l2, ← List.length_map (f := V.ref), z2]; rfl
      rw [this, List.append_nil]
      exact hd.mono s3
    · refine q _ _ (Same.trans (Same.trans e2 e3) (Same.new hp0)) ?_
      have s4 := Same.new (o := .tup (as.map V.ref ++ bs'.map V.ref)) hp0
      refine evs_dp (as := as ++ bs') (SqT.of (by rw [List.map_append]; exact upd_same)) ?_
      exact pair_app (evs_same hp2 s4) (evs_same hp (Same.trans s3 s4))
theorem tries_at {ns : List (Nat × Int)} {r : Nat} {again : Int} : ∀ {bl : List Nat} {ts : List Int} {i : Nat} {b : Nat}, Fn.triesAt ns r again bl = some ts → bl[i]? = some b →
    ∃ n, ts[i]? = some n ∧ (if b = r then some (if again > 1 then again else 1) else ns.lookup b) = some n
  | [], ts, i, b, h, e => by simp at e
  | c :: bl, ts, i, b, h, e => by
    unfold Fn.triesAt at h
    obtain ⟨n, hn, h⟩ := bb h
    obtain ⟨ms, hms, h⟩ := bb h
    cases h
    cases i with
    | zero => cases e; exact ⟨n, rfl, hn⟩
    | succ i =>
      obtain ⟨m, h1, h2⟩ := tries_at hms (show bl[i]? = some b by simpa using e)
      exact ⟨m, by simpa using h1, h2⟩
theorem tries_len {ns : List (Nat × Int)} {r : Nat} {again : Int} : ∀ {bl : List Nat} {ts : List Int}, Fn.triesAt ns r again bl = some ts → ts.length = bl.length
  | [], ts, h => by unfold Fn.triesAt at h; cases h; rfl
  | c :: bl, ts, h => by
    unfold Fn.triesAt at h
    obtain ⟨n, hn, h⟩ := bb h
    obtain ⟨ms, hms, h⟩ := bb h
    cases h
    rw [List.length_cons, List.length_cons, tries_len hms]
theorem kept_len (F : Fn) (b : Nat) : ∀ {es ks : List Ev}, F.kept b es = some ks → ks.length ≤ es.length
  | [], ks, h => by unfold Fn.kept at h; cases h; exact Nat.le_refl _
  | e :: es, ks, h => by
    unfold Fn.kept at h
    obtain ⟨y, hy, h⟩ := bs h
    obtain ⟨r, hr, h⟩ := bs h
    cases h
    have := kept_len F b hr
    cases y
    · exact Nat.succ_le_succ this
    · exact Nat.le_succ_of_le this
theorem leaveF_len (F : Fn) {kind : Str} {ns : List (Nat × Int)} {es : List Ev} : ∀ {k inner : Nat} {o : Option Nat} {p : Nat × Int × List Ev}, F.leaveF kind ns es k inner o = some p → p.2.2.length ≤ es.length
  | k, inner, none, p, h => by
    have : p = (F.words.length, 0, es) := by cases k <;> (unfold Fn.leaveF at h; exact (Option.some.inj h).symm)
    rw [this]
    exact Nat.le_refl _
  | 0, inner, some b, p, h => by unfold Fn.leaveF at h; cases h
  | k + 1, inner, some b, p, h => by
    unfold Fn.leaveF at h
    obtain ⟨wd, hw, h⟩ := bb h
    obtain ⟨g, hg, h⟩ := bb h
    obtain ⟨mid, hmid, h⟩ := bb h
    obtain ⟨hit, hhit, h⟩ := bb h
    cases hit with
    | true => rw [if_pos rfl] at h; cases h; exact Nat.le_refl _
    | false =>
      rw [if_neg (by decide)] at h
      obtain ⟨n, hnn, h⟩ := bb h
      obtain ⟨tr, htr, h⟩ := bb h
      by_cases q : wd = "retry" ∧ kind = "fail" ∧ n < tr
      · rw [if_pos q] at h
        obtain ⟨ks, hks, h⟩ := bb h
        cases h
        exact kept_len F b hks
      · rw [if_neg q] at h
        obtain ⟨o2, ho2, h⟩ := bb h
        exact leaveF_len F h
theorem leave_len (F : Fn) {inner : Nat} {ns : List (Nat × Int)} {es : List Ev} {p : Nat × Int × List Ev} (h : F.leave inner ns es = some p) : p.2.2.length ≤ es.length := by
  unfold Fn.leave at h
  obtain ⟨e, he, h⟩ := bs h
  obtain ⟨o, ho, h⟩ := bs h
  exact leaveF_len F h
end
theorem retries_len {K : PySem.W.Frag} {c : Addr} {H : Hp} {a : Addr} {F : Fn} {r : Nat} {rs : List Nat} (hF : IsFn K c H a F) (hr1 : F.retriesOf r = some rs) : rs.length ≤ 90001 := by
  unfold Fn.retriesOf at hr1
  by_cases hb : F.words.length ≤ r
  · rw [if_pos hb] at hr1
    cases hr1
    exact Nat.zero_le _
  · rw [if_neg hb] at hr1
    obtain ⟨o, ho, hr1⟩ := bs hr1
    obtain ⟨l, hl, hr1⟩ := bs hr1
    cases hr1
    have h1 := chain_len hl
    have h2 := List.length_filter_le (F.wordIs "retry") l
    have h3 := hF.small
    rw [List.length_reverse]
    omega
theorem settleF_len (F : Fn) {ns : List (Nat × Int)} : ∀ {k r : Nat} {again : Int} {es : List Ev} {q : Nat × Int × List Ev}, F.settleF ns k r again es = some q → q.2.2.length ≤ es.length
  | 0, r, again, es, q, h => by unfold Fn.settleF at h; cases h
  | k + 1, r, again, es, q, h => by
    unfold Fn.settleF at h
    by_cases hl : F.words.length ≤ r
    · rw [if_pos hl] at h; cases h; exact Nat.le_refl _
    · rw [if_neg hl] at h
      obtain ⟨b, hb, h⟩ := bs h
      cases b with
      | true => cases h; exact Nat.le_refl _
      | false =>
        obtain ⟨f, hf, h⟩ := bs h
        cases f with
        | some f => exact settleF_len F h
        | none =>
          obtain ⟨o, ho, h⟩ := bs2 h
          obtain ⟨p, hp, h⟩ := bs h
          exact Nat.le_trans (settleF_len F h) (leave_len F hp)
theorem settled_len (F : Fn) {ns : List (Nat × Int)} {p : Nat × Int × List Ev} {s : Spot} (h : F.settled ns p = some s) : s.events.length ≤ p.2.2.length := by
  unfold Fn.settled at h
  obtain ⟨q, hq, h⟩ := bs h
  obtain ⟨bl, hbl, h⟩ := bs h
  obtain ⟨ts, hts, h⟩ := bs h
  cases h
  exact settleF_len F hq
theorem next_len (F : Fn) {s t : Spot} {mv : Str} (h : F.nextSpot s mv = some t) : t.events.length ≤ s.events.length + 1 := by
  unfold Fn.nextSpot at h
  obtain ⟨ns, hns, h⟩ := bs h
  obtain ⟨p, hp, h⟩ := bb h
  refine Nat.le_trans (settled_len F h) ?_
  by_cases c1 : mv = "cut" ∨ mv = "fail"
  · rw [if_pos c1] at hp
    have := leave_len F hp
    rw [List.length_append] at this
    exact this
  · rw [if_neg c1] at hp
    obtain ⟨wd, hw, hp⟩ := bb hp
    by_cases c2 : wd = "return"
    · rw [if_pos c2] at hp
      have := leave_len F hp
      rw [List.length_append] at this
      exact this
    · rw [if_neg c2] at hp
      obtain ⟨tg, htg, hp⟩ := bb hp
      cases hp
      exact Nat.le_succ _
/-- data without lists does not see a list's change -/
def noL : PyData → Bool
  | .list _ => false
  | .tuple ds => noLs ds
  | .dict _ => false
  | _ => true
where noLs : List PyData → Bool
  | [] => true
  | d :: ds => noL d && noLs ds
mutual
theorem Dp.keep {K : PySem.W.Frag} {H H' : Hp} (s : ∀ b xs, SqT K H b xs → SqT K H' b xs) : ∀ {v : V} {d : PyData}, Dp K H v d → noL d = true → Dp K H' v d
  | _, _, .non, _ => .non
  | _, _, .bl b, _ => .bl b
  | _, _, .int i, _ => .int i
  | _, _, .str x, _ => .str x
  | _, _, .lst h t, z => by unfold noL at z; cases z
  | _, _, .tup h t, z => .tup (s _ _ h) (DpAll.keep s t (by unfold noL at z; exact z))
theorem DpAll.keep {K : PySem.W.Frag} {H H' : Hp} (s : ∀ b xs, SqT K H b xs → SqT K H' b xs) : ∀ {vs : List V} {ds : List PyData}, DpAll K H vs ds → noL.noLs ds = true → DpAll K H' vs ds
  | _, _, .nil, _ => .nil
  | _, _, .cons h t, z => by
    unfold noL.noLs at z
    obtain ⟨z1, z2⟩ := Bool.and_eq_true_iff.mp z
    exact .cons (Dp.keep s h z1) (DpAll.keep s t z2)
end
theorem sqT_upd {K : PySem.W.Frag} {H : Hp} {l : Addr} {o : HO} (h : ∀ xs, H l ≠ some (.tup xs)) (h2 : ∀ ob u, H l ≠ some (.frz ob u)) : ∀ b xs, SqT K H b xs → SqT K (upd H l o) b xs := fun b xs hb => by
  rcases hb with (hb | ⟨ob, hb⟩) | hb
  · exact .inl (.inl (by rw [upd_ne (fun z => h xs (by rw [← z]; exact hb))]; exact hb))
  · exact .inl (.inr ⟨ob, by rw [upd_ne (fun z => h2 ob _ (by rw [← z]; exact hb))]; exact hb⟩)
  · exact .inr hb
theorem noL_evs : ∀ es : List Ev, noL (evsD es) = true := by
  intro es
  unfold evsD noL
  induction es with
  | nil => rfl
  | cons e es ih => rw [List.map_cons]; unfold noL.noLs; rw [ih]; rfl
theorem dp_lst {K : PySem.W.Frag} {H : Hp} {l : Addr} {xs : List V} {v : V} {es : List Ev} {o : HO} (h : Dp K H v (evsD es)) (hl : H l = some (.lst xs)) : Dp K (upd H l o) v (evsD es) :=
  Dp.keep (sqT_upd (fun ys z => by rw [hl] at z; cases z) (fun ob u z => by rw [hl] at z; cases z)) h (noL_evs es)
/-- a dict comprehension over anything that is walked -/
theorem dc_it {J : It} {n : Nat} {G : Hp → Prop} {Y : Nat → Hp → V → Hp → Prop} (w : Walk J n G Y) {g : TG} {tt : TT} {tk tv : TE} {vs : List Nat} {σ : L2.St} {H1 : Hp} {D : Addr} {Qd : Hp → Prop} (Pv : Nat → Hp → Prop) (h0 : Pv 0 (upd H1 D (.dK []))) (hG : ∀ i H, i ≤ n → Pv i H → G H)
    (hs : ∀ i x H H', i < n → Pv i H → Y i H x H' → g x (wipe σ vs) H' fun σ2 H2 => wipe σ2 vs = wipe σ vs ∧ tt σ2 H2 fun b H3 =>
      if b = true then tk σ2 H3 fun y H4 => tv σ2 H4 fun z H5 => ∃ kvs k, y = kV k ∧ H5 D = some (.dK kvs) ∧ kvs.length < sizeLine ∧ Pv (i + 1) (upd H5 D (.dK (putK kvs k z))) else Pv (i + 1) H3) (hd : ∀ H, Pv n H → Qd H) :
    ∃ W : Nat → Nat → Hp → Prop, (∃ m, W 0 m (upd H1 D (.dK []))) ∧ ∀ i m H, W i m H →
      (J.stop i H ∧ Qd H) ∨ (J.go i H ∧ ∃ Nx : Hp → Prop, (∀ H', Nx H' → ∃ m', m' < m ∧ W (i + 1) m' H') ∧ ∀ x H', J.yld i H x H' → g x (wipe σ vs) H' fun σ2 H2 => wipe σ2 vs = wipe σ vs ∧ tt σ2 H2 fun b H3 =>
        if b = true then tk σ2 H3 fun y H4 => tv σ2 H4 fun z H5 => ∃ kvs k, y = kV k ∧ H5 D = some (.dK kvs) ∧ kvs.length < sizeLine ∧ Nx (upd H5 D (.dK (putK kvs k z))) else Nx H3) := by
  refine ⟨fun i m H => m = n - i ∧ i ≤ n ∧ Pv i H, ⟨n, by simp, Nat.zero_le _, h0⟩, ?_⟩
  rintro i m H ⟨rfl, hi, p⟩
  have q := hG i H hi p
  by_cases hlt : i < n
  · exact .inr ⟨w.goes i H hlt q, Pv (i + 1), fun H' p' => ⟨n - (i + 1), by omega, rfl, hlt, p'⟩, fun x H' y => hs i x H H' hlt p (w.yields i H x H' hlt q y)⟩
  · have e : i = n := by omega
    subst e
    exact .inl ⟨w.stops H q, hd H p⟩
end PySem.Fl
end
section
set_option Elab.async false
set_option autoImplicit false
set_option linter.all false
set_option maxRecDepth 100000
set_option maxHeartbeats 4000000
namespace K45
open PySem PySem.Spec PyProof.Rows L2 PySem.OxE LawC PySem.Fl
section
variable {P : Program} {w : World} {K : PySem.W.Frag} {mg : Str → Option Value} {base : Heap} {A0 : Ad}
theorem ok_numbers_of (T : Txt P K mg A0) : FnOk P w K mg base CX0 2 A0.f_numbers_of A0.fd_numbers_of ["function", "spot"] (spNumbers K A0.c_Function) := by
  have G_retries_of : FnOk P w K mg base CX0 1 A0.f_retries_of A0.fd_retries_of ["function", "row"] (spL K A0.c_Function Fn.retriesOf) := ok_retries_of T
  refine T.F_numbers_of.ok sc_numbers_of (fun vs H Q E h => ?_) (fun cdv A outer s H vs Q E hr h => ?_)
  · obtain ⟨a, v, s, F, ns, rfl, _⟩ := h
    rfl
  · obtain ⟨a, v, sp, F, ns, rfl, hd, hF, hm, k⟩ := h
    refine ⟨_, (pss_cons (ps_set (i := 2) sc_numbers_of.nd rfl (Or.inl rfl) (pe_call G_retries_of (hr.mono (by decide)) rfl T.m_retries_of T.F_retries_of.kp T.b_retries_of .nil pass0 (pa_cons (pv 0) (pa_cons (pe_ix ix_tup (pv 1) pe_int (fun _ _ => rfl)) pa_nil))))
 (pss_one (ps_ret (pe_dc (own := [("row", 3), ("number", 4)]) (g := gTup _ 2 (gCons (gName 3) (gCons (gName 4) gNil))) (tt := tYes) (by rfl) sc_numbers_of.nd (OxZ.pi_zipM rfl T.z_zip (pa_cons (pv 2) (pa_cons (pe_ix ix_tup (pv 1) pe_int (fun _ _ => rfl)) pa_nil))) (blkOk_by (N := ["function", "spot", "rows", "row", "number"]) (sc := defScope s_numbers_of) (by decide +kernel)) (fun _ _ _ _ _ => (pg_tup rfl (pgs_cons (pg_name (i := 3) sc_numbers_of.nd rfl (Or.inl rfl)) (pgs_cons (pg_name (i := 4) sc_numbers_of.nd rfl (Or.inl rfl)) pgs_nil)))) (fun _ _ _ _ _ => pts_nil) (fun _ _ _ _ _ => (pv 3)) (fun _ _ _ _ _ => (pv 4)))))), ?_⟩
    unfold Fn.numbersOf at hm
    obtain ⟨rs, hr1, hm⟩ := bs hm
    by_cases hlen : rs.length = sp.tries.length
    case neg => rw [if_neg hlen] at hm; cases hm
    rw [if_pos hlen] at hm
    cases hm
    obtain ⟨sa, tv, ev, rfl, hs, ht, _⟩ := spot_part hd
    refine ⟨_, rfl, _, rfl, sa, _, 0, _, rfl, rfl, hs, atI_nat (j := 0) rfl, a, sp.row, F, rs, rfl, hF, hr1, fun p H1 h0 s1 h1 => ?_⟩
    refine ⟨_, rfl, _, rfl, sa, _, 1, _, rfl, rfl, Evl.ex_t s1 hs, atI_nat (j := 1) rfl, p, tv, intsL rs, sp.tries.map V.int, rfl, SqL.of h1, Evl.ex_t s1 ht, fun D hD => ?_⟩
    have hz : rs.length ≤ 90001 := by
      unfold Fn.retriesOf at hr1
      by_cases hb : F.words.length ≤ sp.row
      · rw [if_pos hb] at hr1
        cases hr1
        exact Nat.zero_le _
      · rw [if_neg hb] at hr1
        obtain ⟨o, ho, hr1⟩ := bs hr1
        obtain ⟨l, hl, hr1⟩ := bs hr1
        cases hr1
        have h1 := chain_len hl
        have h2 := List.length_filter_le (F.wordIs "retry") l
        have h3 := hF.small
        rw [List.length_reverse]
        omega
    refine dc_it (OxZ.walk_zipM (by unfold intsL; rw [List.length_map, List.length_map]; exact hlen)) (fun i H' => Same H H' ∧ H' p = some (.lst (intsL rs)) ∧ H' D = some (.dK (numK (dOf ((rs.zip sp.tries).take i))))) ⟨Same.trans s1 (Same.new hD), by rw [upd_ne (ne_of_none h1 hD)]; exact h1, upd_same⟩ (fun i H' _ q => ⟨SqL.of q.2.1, Evl.ex_t q.1 ht⟩) (fun i x H2 H3 hi q y => ?_) fun H' q => ?_
    · obtain ⟨Ta, x1, x2, rfl, hT, rfl, hx1, hx2⟩ := y
      obtain ⟨q1, q2, q3⟩ := q
      have hi' : i < rs.length := by unfold intsL at hi; rwa [List.length_map] at hi
      have e1 : x1 = natV rs[i] := by
        have hx1 : (rs.map natV)[i]? = some x1 := hx1
        rw [List.getElem?_map, List.getElem?_eq_getElem hi'] at hx1
        exact (Option.some.inj hx1).symm
      have e2 : x2 = .int sp.tries[i] := by
        have hx2 : (sp.tries.map V.int)[i]? = some x2 := hx2
        rw [List.getElem?_map, List.getElem?_eq_getElem (by omega)] at hx2
        exact (Option.some.inj hx2).symm
      subst e1 e2
      refine ⟨Ta, _, rfl, SqT.of upd_same, rfl, _, _, rfl, _, _, rfl, rfl, rfl, ?_⟩
      unfold tYes
      dsimp only
      rw [if_pos rfl]
      refine ⟨_, rfl, _, rfl, _, .inl (rs[i] : Int), rfl, by rw [upd_ne (ne_of_none q3 hT)]; exact q3, Evl.sz_lt ?_, ?_⟩
      · unfold numK mapK
        rw [List.length_map]
        have := length_dOf ((rs.zip sp.tries).take i) []
        have h4 : ((rs.zip sp.tries).take i).length ≤ rs.length := by rw [List.length_take, List.length_zip]; omega
        simp only [List.length_nil, Nat.zero_add] at this
        unfold dOf
        omega
      · refine ⟨fun b o hb => ?_, ?_, ?_⟩
        · have hbH := Same.new (o := .tup [natV rs[i], .int sp.tries[i]]) hT _ _ (q1 b o hb)
          rw [upd_ne (fun z => ?_)]
          · exact hbH
          · subst z
            have := s1 b o hb
            rw [hD] at this
            cases this
        · rw [upd_ne (ne_of_none h1 hD), upd_ne (ne_of_none q2 hT)]
          exact q2
        · rw [upd_same, dOf_take (p := (rs[i], sp.tries[i])) (by rw [List.getElem?_eq_getElem (by rw [List.length_zip]; omega), List.getElem_zip])]
          exact congrArg (fun z => some (HO.dK z)) (putK_map V.int _ _ _)
    · obtain ⟨q1, q2, q3⟩ := q
      refine k D H' (Evl.fresh_back s1 hD) q1 ?_
      rw [q3]
      congr 3
      have : (rs.zip sp.tries).take (intsL rs).length = rs.zip sp.tries := by
        refine List.take_of_length_le ?_
        unfold intsL
        rw [List.length_zip, List.length_map]
        omega
      rw [this]
end

end K45
end
section
set_option Elab.async false
set_option autoImplicit false
set_option linter.all false
set_option maxRecDepth 100000
set_option maxHeartbeats 4000000
namespace K45
open PySem PySem.Spec PyProof.Rows L2 PySem.OxE LawC PySem.Fl
section
variable {P : Program} {w : World} {K : PySem.W.Frag} {mg : Str → Option Value} {base : Heap} {A0 : Ad}
theorem sv_b2 {c : Addr} {m : Fn → Nat → Nat → Option Bool} {a : Addr} {F : Fn} {r q : Nat} {b : Bool} {H : Hp} (hF : IsFn K c H a F) (hm : m F r q = some b) : Evl.SpV (spB2 K c m) [.ref a, .int (r : Int), .int (q : Int)] H (.bl b) := fun H1 e1 Q k E => ⟨a, r, q, F, b, rfl, hF.same e1, hm, fun H2 e2 => k H2 e2⟩
theorem ok_passed (T : Txt P K mg A0) : FnOk P w K mg base CX0 2 A0.f_passed A0.fd_passed ["function", "row", "events"] (spPassed K A0.c_Function) := by
  have G_is_guarded : FnOk P w K mg base CX0 1 A0.f_is_guarded A0.fd_is_guarded ["function", "row", "block"] (spB2 K A0.c_Function Fn.isGuarded) := ok_is_guarded T
  refine T.F_passed.ok sc_passed (fun vs H Q E h => ?_) (fun cdv A outer s H vs Q E hr h => ?_)
  · obtain ⟨a, r, v, F, es, o, rfl, _⟩ := h
    rfl
  · obtain ⟨a, r, v, F, es, res, rfl, hF, hd, hm, hz, k⟩ := h
    refine ⟨_, (pss_cons (ps_set (i := 3) sc_passed.nd rfl (Or.inl rfl) (pe_ix ix_tup (pe_fld (pv 0) rfl) (pv 1) (fun _ _ => rfl)))
 (pss_cons (ps_set (i := 4) sc_passed.nd rfl (Or.inl rfl) (pe_ix ix_tup (pe_fld (pv 0) rfl) (pv 1) (fun _ _ => rfl)))
 (pss_cons (ps_if (PW.pt (pw_or (pt_cmpR op_eq (pv 3) pe_str (nomark _)) (pw_or1 (pt_cmpR op_eq (pv 3) pe_str (nomark _)))))
 (pss_one (ps_ret (pe_op op_add (pe_dget (hu_of hr) (pe_fld (pv 0) rfl) (pv 4) (fun _ _ => rfl)) pe_int)))
 pss_nil)
 (Evl.pss_cut (ps_if (PW.pt (pw_and (pt_cmpR op_eq (pv 3) pe_str (nomark _)) (pw_and (pt_cmpR op_eq (pe_ix ix_tup (pe_fld (pv 0) rfl) (pv 4) (fun _ _ => rfl)) pe_str (nomark _)) (pw_and1 (pt_cmpR op_gt (pe_callB call_len (by rfl) T.z_len PySem.boot_len (pa_cons (pv 2) pa_nil)) pe_int (nomark _))))))
 (pss_one (ps_if (pt_val (pe_call G_is_guarded (hr.mono (by decide)) rfl T.m_is_guarded T.F_is_guarded.kp T.b_is_guarded .nil pass0 (pa_cons (pv 0) (pa_cons (pe_ix ix_tup (pe_ix ix_tup (pv 2) (pe_un un_neg pe_int) (fun _ _ => rfl)) pe_int (fun _ _ => rfl)) (pa_cons (pv 4) pa_nil)))))
 (pss_one (ps_ret pe_non))
 pss_nil))
 pss_nil)
 (pss_one (ps_ret (pe_op op_add (pv 1) pe_int))))))), ?_⟩
    have C := T.fc
    obtain ⟨t, as, rfl, hs, hp⟩ := evs_part hd
    unfold Fn.passed at hm
    obtain ⟨wd, hw, hm⟩ := bs hm
    obtain ⟨o, ho, hm⟩ := bs hm
    refine Evl.q_asg (ev_word hF C (Evl.ev_var rfl) (Evl.ev_var rfl) hw) fun H1 e1 => ?_
    refine Evl.q_asg (ev_opener (hF.same e1) C (Evl.ev_var rfl) (Evl.ev_var rfl) ho) fun H2 e2 => ?_
    have s2 := Same.trans e1 e2
    refine Evl.q_when (Evl.et_or (b := decide (wd = "rescue")) (et_eqS (Evl.ev_var rfl) Evl.ev_c) fun _ => et_eqS (Evl.ev_var rfl) Evl.ev_c) (fun h H3 e3 => ?_) (fun h H3 e3 => ?_)
    · rw [if_pos (by simpa using h)] at hm
      obtain ⟨b, rfl, hm2⟩ := bs hm
      obtain ⟨e, he, hm3⟩ := bs hm2
      cases hm3
      exact Evl.s_ret (ev_addN (n := e) (ev_end ((hF.same s2).same e3) C (Evl.ev_var rfl) (Evl.ev_var rfl) he) rfl) fun H4 e4 => k H4 (Same.trans (Same.trans s2 e3) e4)
    rw [if_neg (by simpa using h)] at hm
    have s3 := Same.trans s2 e3
    have fin : ∀ H4, Same H3 H4 → res = some (r + 1) → tRet (tOp (rI0 fun i j => V.int (i + j)) (tVar 1) (tC (.int 1))) { nx := fun _ H' => Q .non H', rt := Q } [some (.ref a), some (.int (r : Int)), some (.ref t), some (.str wd), some (oI o)] H4 := fun H4 e4 hres => by
      refine Evl.s_ret (ev_addN (n := r) (Evl.ev_var rfl) rfl) fun H5 e5 => ?_
      rw [hres] at k
      exact k H5 (Same.trans (Same.trans s3 e4) e5)
    by_cases h1 : wd = "end"
    · rw [if_pos h1] at hm
      obtain ⟨b, rfl, hm2⟩ := bs hm
      obtain ⟨v, hv, hm3⟩ := bs hm2
      have hlen := pairL hp
      have ew : ∀ H4, Same H3 H4 → Evl.Ev (tOp (rIxT (cxOf CX0 P w K mg base ["function", "row", "events", "word", "opener"] "passed" (defScope s_passed) A0.f_passed cdv A outer s H E).nox.K) (tFld (cxOf CX0 P w K mg base ["function", "row", "events", "word", "opener"] "passed" (defScope s_passed) A0.f_passed cdv A outer s H E).nox.K (tVar 0) "words") (tVar 4)) [some (.ref a), some (.int (r : Int)), some (.ref t), some (.str wd), some (oI (some b))] H4 (.str v) := fun H4 e4 => ev_word ((hF.same s3).same e4) C (Evl.ev_var rfl) (Evl.ev_var rfl) hv
      refine Evl.q_cut (M := fun σ' H' => Same H3 H' ∧ σ' = [some (.ref a), some (.int (r : Int)), some (.ref t), some (.str wd), some (oI (some b))] ∧ res = some (r + 1)) ?_ fun σ' H' hM => ?_
      · refine Evl.s_when (b := decide (v = "try") && decide (0 < es.length)) (Evl.et_is (Evl.et_and (b := decide (v = "try") && decide (0 < es.length)) (et_eqS (Evl.ev_var rfl) Evl.ev_c) fun _ => Evl.et_and (et_eqS (ew _ (Same.refl _)) Evl.ev_c) fun _ => Evl.et_is (et_gtI (ev_lenT (Evl.ev_var rfl) (Evl.ex_t s3 hs)) Evl.ev_c) (by rw [List.length_map, hlen]; simp)) (by rw [decide_eq_true h1]; rfl)) (fun h H4 e4 => ?_) (fun h H4 e4 => ?_)
        · obtain ⟨q1, q2⟩ := Bool.and_eq_true_iff.mp h
          have hne : es ≠ [] := fun z => by rw [z] at q2; simp at q2
          obtain ⟨ev, hev⟩ : ∃ ev, es.getLast? = some ev := ⟨es.getLast hne, List.getLast?_eq_getLast hne⟩
          rw [q1, hev] at hm3
          obtain ⟨g, hg, hm4⟩ := bs hm3
          cases hm4
          have s4 := Same.trans s3 e4
          refine Evl.s_when (b := g) (Evl.et_B (Evl.ev_call (vs := [.ref a, .int (ev.2 : Int), .int (b : Int)]) (Evl.ea_cons (Evl.ev_var rfl) (Evl.ea_cons (ev_evrow (Evl.ev_var rfl) (Evl.ex_t s4 hs) (evs_same hp s4) hev) (Evl.ea_cons (Evl.ev_var rfl) Evl.ea_nil))) (sv_b2 (hF.same s4) hg))) (fun h H5 e5 => ?_) (fun h H5 e5 => ?_)
          · rw [if_pos h] at k
            exact Evl.s_ret Evl.ev_c fun H6 e6 => k H6 (Same.trans (Same.trans s4 e5) e6)
          · exact ⟨Same.trans e4 e5, rfl, by rw [if_neg (by simp [h])]⟩
        · refine ⟨e4, rfl, ?_⟩
          by_cases q1 : decide (v = "try") = true
          · have q2 : es.getLast? = none := by
              rw [q1, Bool.true_and] at h
              have : es.length = 0 := by simpa using h
              rw [List.length_eq_zero_iff.mp this]; rfl
            rw [q1, q2] at hm3
            cases hm3
            rfl
          · rw [show decide (v = "try") = false by simpa using q1] at hm3
            cases hm3
            rfl
      · obtain ⟨e4, rfl, hres⟩ := hM
        exact fin H' e4 hres
    · rw [if_neg h1] at hm
      cases hm
      refine Evl.q_cut (M := fun σ' H' => Same H3 H' ∧ σ' = [some (.ref a), some (.int (r : Int)), some (.ref t), some (.str wd), some (oI o)]) ?_ fun σ' H' hM => ?_
      · refine Evl.s_when (b := false) (Evl.et_is (Evl.et_and (b := true) (et_eqS (Evl.ev_var rfl) Evl.ev_c) fun z => absurd (of_decide_eq_true z) h1) (by rw [decide_eq_false h1]; rfl)) (fun h H4 e4 => by cases h) (fun h H4 e4 => ⟨e4, rfl⟩)
      · obtain ⟨e4, rfl⟩ := hM
        exact fin H' e4 rfl
end

end K45
end
section
set_option Elab.async false
set_option autoImplicit false
set_option linter.all false
set_option maxRecDepth 100000
set_option maxHeartbeats 4000000
namespace K45
open PySem PySem.Spec PyProof.Rows L2 PySem.OxE LawC PySem.Fl
section
variable {P : Program} {w : World} {K : PySem.W.Frag} {mg : Str → Option Value} {base : Heap} {A0 : Ad}
theorem ok_leave (T : Txt P K mg A0) : FnOk P w K mg base CX0 2 A0.f_leave A0.fd_leave ["function", "inner", "numbers", "events"] (spLeave K A0.c_Function) := by
  have G_is_guarded : FnOk P w K mg base CX0 1 A0.f_is_guarded A0.fd_is_guarded ["function", "row", "block"] (spB2 K A0.c_Function Fn.isGuarded) := ok_is_guarded T
  have G_is_inside : FnOk P w K mg base CX0 1 A0.f_is_inside A0.fd_is_inside ["function", "row", "block"] (spB2 K A0.c_Function Fn.isInside) := ok_is_inside T
  refine T.F_leave.ok sc_leave (fun vs H Q E h => ?_) (fun cdv A outer s H vs Q E hr h => ?_)
  · obtain ⟨a, r, d, v, F, ns, es, p, rfl, _⟩ := h
    rfl
  · obtain ⟨a, r, d, v, F, ns, es, p, rfl, hF, hn, hd, hm, hz, k⟩ := h
    refine ⟨_, (pss_cons (ps_set (i := 4) sc_leave.nd rfl (Or.inl rfl) (pe_ix ix_tup (pe_ix ix_tup (pv 3) (pe_un un_neg pe_int) (fun _ _ => rfl)) pe_int (fun _ _ => rfl)))
 (pss_cons (ps_set (i := 5) sc_leave.nd rfl (Or.inr rfl) (pe_ix ix_tup (pe_fld (pv 0) rfl) (pv 1) (fun _ _ => rfl)))
 (pss_cons (ps_while PassesOwn.never (pt_cmpR op_notN (pv 5) pe_non (nomark _))
 (pss_cons (ps_set (i := 6) sc_leave.nd rfl (Or.inl rfl) (pe_ix ix_tup (pe_fld (pv 0) rfl) (pv 5) (fun _ _ => rfl)))
 (Evl.pss_cut (ps_if (PW.pt (pw_and (pt_cmpR op_eq (pv 6) pe_str (nomark _)) (pw_and1 (pt_val (pe_call G_is_guarded (hr.mono (by decide)) rfl T.m_is_guarded T.F_is_guarded.kp T.b_is_guarded .nil pass0 (pa_cons (pv 0) (pa_cons (pv 1) (pa_cons (pv 5) pa_nil))))))))
 (pss_cons (ps_set (i := 7) sc_leave.nd rfl (Or.inl rfl) (pe_dget (hu_of hr) (pe_fld (pv 0) rfl) (pv 5) (fun _ _ => rfl)))
 (pss_one (ps_if (PW.pt (pw_or (pt_cmpR op_ne (pv 4) pe_str (nomark _)) (pw_or1 (pt_cmpR op_eq (pe_ix ix_tup (pe_fld (pv 0) rfl) (pv 7) (fun _ _ => rfl)) pe_str (nomark _)))))
 (pss_one (ps_ret (pe_tup (pa_cons (pe_op op_add (pv 7) pe_int) (pa_cons pe_int (pa_cons (pv 3) pa_nil))))))
 pss_nil)))
 pss_nil)
 (pss_cons (ps_if (PW.pt (pw_and (pt_cmpR op_eq (pv 6) pe_str (nomark _)) (pw_and (pt_cmpR op_eq (pv 4) pe_str (nomark _)) (pw_and1 (pt_cmpR op_lt (pe_dget (hu_of hr) (pv 2) (pv 5) (fun _ _ => rfl)) (pe_ix ix_tup (pe_fld (pv 0) rfl) (pv 5) (fun _ _ => rfl)) (nomark _))))))
 (pss_cons (ps_setLc (i := 8) (own := [("event", 9)]) (g := gName 9) rfl sc_leave.nd rfl rfl (sw_true rfl rfl rfl (by decide +kernel)) (pi_tup (pv 3)) (blkOk_by (N := ["function", "inner", "numbers", "events", "kind", "block", "word", "middle", "kept", "event"]) (sc := defScope s_leave) (by decide +kernel)) (fun _ _ _ _ _ => (pg_name (i := 9) sc_leave.nd rfl (Or.inl rfl))) (fun _ _ _ _ _ => (pts_one (pt_not (pt_val (pe_call G_is_inside (hr.mono (by decide)) rfl T.m_is_inside T.F_is_inside.kp T.b_is_inside .nil pass0 (pa_cons (pv 0) (pa_cons (pe_ix (r := rIxT K) ix_tup (pv 9) pe_int (fun _ _ => rfl)) (pa_cons (pv 5) pa_nil)))))))) (fun _ _ _ _ _ => (pv 9)))
 (pss_one (ps_ret (pe_tup (pa_cons (pv 5) (pa_cons (pe_op op_add (pe_dget (hu_of hr) (pv 2) (pv 5) (fun _ _ => rfl)) pe_int) (pa_cons (pe_callTy call_tuple_of (by rfl) T.z_tuple (by decide +kernel) (pa_cons (pv 8) pa_nil)) pa_nil)))))))
 pss_nil)
 (pss_cons (ps_set (i := 1) sc_leave.nd rfl (Or.inl rfl) (pv 5))
 (pss_one (ps_set (i := 5) sc_leave.nd rfl (Or.inr rfl) (pe_ix ix_tup (pe_fld (pv 0) rfl) (pv 5) (fun _ _ => rfl)))))))))
 (pss_one (ps_ret (pe_tup (pa_cons (pe_callB call_len (by rfl) T.z_len PySem.boot_len (pa_cons (pe_fld (pv 0) rfl) pa_nil)) (pa_cons pe_int (pa_cons (pv 3) pa_nil))))))))), ?_⟩
    have C := T.fc
    obtain ⟨t, as, rfl, hs, hp⟩ := evs_part hd
    unfold Fn.leave at hm
    obtain ⟨el, hel, hm⟩ := bs hm
    obtain ⟨o, ho, hm⟩ := bs hm
    have ret : ∀ {H4 : Hp} {σ' : L2.St} {u : TE} {row : Nat}, Same H H4 → Evl.Ev u σ' H4 (.int (row : Int)) → σ'[3]? = some (some (.ref t)) → p = (row, 0, es) → tRet (tTup (tCons u (tCons (tC (.int 0)) (tCons (tVar 3) tNil)))) { nx := fun _ H' => Q .non H', rt := Q } σ' H4 := fun {H4 σ' u row} s4 hu h3 hpp => by
      refine Evl.s_retU (Evl.eu_tup (Evl.ea_cons hu (Evl.ea_cons Evl.ev_c (Evl.ea_cons (Evl.ev_var h3) Evl.ea_nil))) (by simp)) fun q H5 hq e5 h5 => ?_
      refine k _ H5 (Same.trans s4 e5) ?_
      rw [hpp]
      exact place_dp (SqT.of h5) (evs_dp (Evl.ex_t (Same.trans s4 e5) hs) (evs_same hp (Same.trans s4 e5)))
    refine Evl.q_asg (ev_evkind (Evl.ev_var rfl) hs hp hel) fun H1 e1 => ?_
    refine Evl.q_asg (ev_opener (hF.same e1) C (Evl.ev_var rfl) (Evl.ev_var rfl) ho) fun H2 e2 => ?_
    have s2 := Same.trans e1 e2
    refine Evl.q_while (fun m σ' H' => Same H H' ∧ ∃ inner o x6 x7 x8 x9, F.leaveF el.1 ns es m inner o = some p ∧ σ' = [some (.ref a), some (.int (inner : Int)), some (.ref d), some (.ref t), some (.str el.1), some (oI o), x6, x7, x8, x9]) (F.words.length + 1) ⟨s2, r, o, none, none, none, none, hm, rfl⟩ fun m σ' H' h => ?_
    obtain ⟨s3, inner, o, x6, x7, x8, x9, hL, rfl⟩ := h
    refine ⟨_, et_some (Evl.ev_var rfl), fun h H4 e4 => ?_, fun h H4 e4 => ?_⟩
    · cases o with
      | none => cases h
      | some b =>
        match m, hL with
        | 0, hL => unfold Fn.leaveF at hL; cases hL
        | m + 1, hL =>
          have s4 := Same.trans s3 e4
          unfold Fn.leaveF at hL
          obtain ⟨wd, hw, hL⟩ := bb hL
          obtain ⟨g, hg, hL⟩ := bb hL
          obtain ⟨mid, hmid, hL⟩ := bb hL
          obtain ⟨hit, hhit, hL⟩ := bb hL
          refine ⟨fun σ' H' => Same H H' ∧ ∃ inner o x6 x7 x8 x9, F.leaveF el.1 ns es m inner o = some p ∧ σ' = [some (.ref a), some (.int (inner : Int)), some (.ref d), some (.ref t), some (.str el.1), some (oI o), x6, x7, x8, x9], fun σ2 H2 z => ⟨m, Nat.lt_succ_self _, z⟩, ?_⟩
          refine Evl.q_asg (ev_word (hF.same s4) C (Evl.ev_var rfl) (Evl.ev_var rfl) hw) fun H5 e5 => ?_
          have s5 := Same.trans s4 e5
          refine Evl.q_cut (M := fun σ' H' => Same H H' ∧ hit = false ∧ ∃ x7, σ' = [some (.ref a), some (.int (inner : Int)), some (.ref d), some (.ref t), some (.str el.1), some (oI (some b)), some (.str wd), x7, x8, x9]) ?_ fun σ' H' hM => ?_
          · refine Evl.s_when (b := decide (wd = "try") && g) (Evl.et_and (et_eqS (Evl.ev_var rfl) Evl.ev_c) fun q => ?_) (fun h H6 e6 => ?_) (fun h H6 e6 => ?_)
            · rw [if_pos (of_decide_eq_true q)] at hg
              exact Evl.et_B (Evl.ev_call (vs := [.ref a, .int (inner : Int), .int (b : Int)]) (Evl.ea_cons (Evl.ev_var rfl) (Evl.ea_cons (Evl.ev_var rfl) (Evl.ea_cons (Evl.ev_var rfl) Evl.ea_nil))) (sv_b2 (hF.same s5) hg))
            · obtain ⟨q1, q2⟩ := Bool.and_eq_true_iff.mp h
              have s6 := Same.trans s5 e6
              rw [if_pos q2] at hmid hhit
              have hmo := bi hmid
              refine Evl.q_asg (ev_mid (hF.same s6) C (Evl.ev_var rfl) (Evl.ev_var rfl) hmo) fun H7 e7 => ?_
              have s7 := Same.trans s6 e7
              by_cases hk : el.1 = "return"
              · rw [if_neg (by simpa using hk)] at hhit
                obtain ⟨wm, hwm, hhit⟩ := bb hhit
                cases hhit
                refine Evl.s_when (b := decide (wm = "finally")) (Evl.et_is (Evl.et_or (b := decide (wm = "finally")) (et_neS (Evl.ev_var rfl) Evl.ev_c) fun _ => et_eqS (ev_word (hF.same s7) C (Evl.ev_var rfl) (Evl.ev_var rfl) hwm) Evl.ev_c) (by rw [decide_eq_true hk]; rfl)) (fun h H8 e8 => ?_) (fun h H8 e8 => ?_)
                · rw [if_pos h] at hL
                  cases hL
                  exact ret (Same.trans s7 e8) (ev_addN (n := mid) (Evl.ev_var rfl) rfl) rfl rfl
                · exact ⟨Same.trans s7 e8, by simpa using h, _, rfl⟩
              · rw [if_pos hk] at hhit
                cases hhit
                rw [if_pos rfl] at hL
                cases hL
                refine Evl.s_when (b := true) (Evl.et_is (Evl.et_or (b := true) (et_neS (Evl.ev_var rfl) Evl.ev_c) fun z => absurd (of_decide_eq_true (by simpa using z)) hk) (by rw [decide_eq_false hk]; rfl)) (fun h H8 e8 => ?_) (fun h H8 e8 => by cases h)
                exact ret (Same.trans s7 e8) (ev_addN (n := mid) (Evl.ev_var rfl) rfl) rfl rfl
            · have hg0 : g = false := by
                by_cases q : wd = "try"
                · rw [decide_eq_true q, Bool.true_and] at h
                  exact h
                · rw [if_neg q] at hg
                  cases hg
                  rfl
              rw [if_neg (by simp [hg0])] at hhit
              cases hhit
              exact ⟨Same.trans s5 e6, rfl, _, rfl⟩
          · obtain ⟨s6, rfl, y7, rfl⟩ := hM
            rw [if_neg (by decide)] at hL
            obtain ⟨n, hnn, hL⟩ := bb hL
            obtain ⟨tr, htr, hL⟩ := bb hL
            have hn6 := s6 _ _ hn
            refine Evl.q_when (b := decide (wd = "retry") && (decide (el.1 = "fail") && decide (n < tr))) (Evl.et_and (et_eqS (Evl.ev_var rfl) Evl.ev_c) fun q1 => Evl.et_and (et_eqS (Evl.ev_var rfl) Evl.ev_c) fun q2 => ?_) (fun h H7 e7 => ?_) (fun h H7 e7 => ?_)
            · have q : wd = "retry" ∧ el.1 = "fail" := ⟨of_decide_eq_true q1, of_decide_eq_true q2⟩
              rw [if_pos q] at hnn htr
              have htt := bi htr
              exact et_ltI (ev_num hn6 (Evl.ev_var rfl) (Evl.ev_var rfl) hnn) (ev_try (hF.same s6) C (Evl.ev_var rfl) (Evl.ev_var rfl) htt)
            · obtain ⟨q1, q23⟩ := Bool.and_eq_true_iff.mp h
              obtain ⟨q2, q3⟩ := Bool.and_eq_true_iff.mp q23
              have q : wd = "retry" ∧ el.1 = "fail" := ⟨of_decide_eq_true q1, of_decide_eq_true q2⟩
              rw [if_pos q] at hnn
              rw [if_pos ⟨q.1, q.2, of_decide_eq_true q3⟩] at hL
              obtain ⟨ks, hks, hL⟩ := bb hL
              cases hL
              have s7 := Same.trans s6 e7
              have hlen := pairL hp
              refine ⟨_, rfl, t, rfl, ⟨_, Evl.ex_t s7 hs⟩, fun Dl hD => ?_⟩
              refine lc_tup (xs := as.map V.ref) (fun i H' => Same H7 H' ∧ ∃ ks2 as2, F.kept b (es.take i) = some ks2 ∧ Paired (EvAt K H) as2 ks2 ∧ as2.length ≤ i ∧ H' Dl = some (.lst (as2.map V.ref))) ⟨Same.new hD, [], [], rfl, .nil, Nat.le_refl _, upd_same⟩ (fun i H' _ q => Evl.ex_t (Same.trans s7 q.1) hs) (fun i x H' hi q => ?_) fun H' q => ?_
              · obtain ⟨q1, ks2, as2, hk2, hp2, hl2, hD2⟩ := q
                have s8 := Same.trans s7 q1
                have hil : i < es.length := by
                  have := (List.getElem?_eq_some_iff.mp hi).1
                  rw [List.length_map, hlen] at this
                  exact this
                obtain ⟨ai, ha1, ha2⟩ := pairAt hp (List.getElem?_eq_getElem hil)
                obtain rfl : x = .ref ai := by
                  rw [List.getElem?_map, ha1] at hi
                  exact (Option.some.inj hi).symm
                obtain ⟨xb, hxb⟩ := kept_at F b hks (List.getElem?_eq_getElem hil)
                have hk3 := kept_snoc F b hk2 hxb
                have htk : es.take (i + 1) = es.take i ++ [es[i]] := by rw [List.take_add_one, List.getElem?_eq_getElem hil]; rfl
                refine ⟨rfl, ?_⟩
                refine (Evl.et_not (Evl.et_B (Evl.ev_call (vs := [.ref a, .int (es[i].2 : Int), .int (b : Int)]) (Evl.ea_cons (Evl.ev_var rfl) (Evl.ea_cons (ev_ixK (k := 1) (Evl.ev_var rfl) (Evl.ex_t s8 ha2) rfl) (Evl.ea_cons (Evl.ev_var rfl) Evl.ea_nil))) (sv_b2 (hF.same s8) hxb)))) H' (Evl.Ex.refl H') _ fun H9 e9 => ?_
                have hD9 := e9 _ _ hD2
                cases xb with
                | true =>
                  refine ⟨Same.trans q1 e9, ks2, as2, ?_, hp2, Nat.le_succ_of_le hl2, hD9⟩
                  rw [htk, hk3, if_pos rfl, List.append_nil]
                | false =>
                  refine ⟨_, rfl, _, hD9, Evl.sz_lt (by rw [List.length_map]; omega), fun c oc hc => ?_, ks2 ++ [es[i]], as2 ++ [ai], ?_, pair_snoc hp2 ha2, by rw [List.length_append]; exact Nat.succ_le_succ hl2, ?_⟩
                  · rw [upd_ne (ne_of_none hc hD)]
                    exact e9 _ _ (q1 c oc hc)
                  · rw [htk, hk3, if_neg (by decide)]
                  · rw [upd_same, List.map_append]; rfl
              · obtain ⟨q1, ks2, as2, hk2, hp2, hl2, hD2⟩ := q
                have s8 := Same.trans s7 q1
                have : es.take (as.map V.ref).length = es := List.take_of_length_le (by rw [List.length_map, hlen]; exact Nat.le_refl _)
                rw [this, hks] at hk2
                cases hk2
                refine s_retD (evd_tup (evds_cons (evd_of (v := .int (b : Int)) (Evl.ev_var rfl) (.int _)) (evds_cons (evd_of (v := .int (n + 1)) (Evl.ev_op (ev_num (s8 _ _ hn) (Evl.ev_var rfl) (Evl.ev_var rfl) hnn) Evl.ev_c Evl.rv_I0) (.int _)) (evds_cons (evd_tupOf (Evl.ev_var rfl) hD2 (all_evs (evs_same hp2 s8))) evds_nil))) (by simp)) fun u H9 e9 hu => k u H9 (Same.trans s8 e9) hu
            · rw [if_neg (by
                rintro ⟨q1, q2, q3⟩
                rw [decide_eq_true q1, decide_eq_true q2, decide_eq_true q3] at h
                cases h)] at hL
              obtain ⟨o2, ho2, hL⟩ := bb hL
              have s7 := Same.trans s6 e7
              refine Evl.q_asg (Evl.ev_var rfl) fun H8 e8 => ?_
              have s8 := Same.trans s7 e8
              exact Evl.s_asg (ev_opener (hF.same s8) C (Evl.ev_var rfl) (Evl.ev_var rfl) ho2) fun H9 e9 => ⟨Same.trans s8 e9, b, o2, _, _, _, _, hL, rfl⟩
    · cases o with
      | some => cases h
      | none =>
        have hL' : p = (F.words.length, 0, es) := by
          cases m <;> (unfold Fn.leaveF at hL; exact (Option.some.inj hL).symm)
        exact ret (Same.trans s3 e4) (ev_lenW (hF.same (Same.trans s3 e4)) C (Evl.ev_var rfl)) rfl hL'
end

end K45
end
section
set_option Elab.async false
set_option autoImplicit false
set_option linter.all false
set_option maxRecDepth 100000
set_option maxHeartbeats 4000000
namespace K45
open PySem PySem.Spec PyProof.Rows L2 PySem.OxE LawC PySem.Fl
section
variable {P : Program} {w : World} {K : PySem.W.Frag} {mg : Str → Option Value} {base : Heap} {A0 : Ad}
theorem ok_settled (T : Txt P K mg A0) : FnOk P w K mg base CX0 3 A0.f_settled A0.fd_settled ["function", "place", "numbers"] (spSettled K A0.c_Function) := by
  have G_is_step : FnOk P w K mg base CX0 1 A0.f_is_step A0.fd_is_step ["function", "row"] (spB K A0.c_Function Fn.isStep) := ok_is_step T
  have G_passed : FnOk P w K mg base CX0 2 A0.f_passed A0.fd_passed ["function", "row", "events"] (spPassed K A0.c_Function) := ok_passed T
  have G_leave : FnOk P w K mg base CX0 2 A0.f_leave A0.fd_leave ["function", "inner", "numbers", "events"] (spLeave K A0.c_Function) := ok_leave T
  have G_retries_of : FnOk P w K mg base CX0 1 A0.f_retries_of A0.fd_retries_of ["function", "row"] (spL K A0.c_Function Fn.retriesOf) := ok_retries_of T
  refine T.F_settled.ok sc_settled (fun vs H Q E h => ?_) (fun cdv A outer s H vs Q E hr h => ?_)
  · obtain ⟨a, v, d, F, ns, p, s, rfl, _⟩ := h
    rfl
  · obtain ⟨a, v, d, F, ns, p, sp, rfl, hF, hn, hd, hm, hz, k⟩ := h
    refine ⟨_, (pss_cons (ps_asg (pv 1) (pg_tup rfl (pgs_cons (pg_name (i := 3) sc_settled.nd rfl (Or.inl rfl)) (pgs_cons (pg_name (i := 4) sc_settled.nd rfl (Or.inl rfl)) (pgs_cons (pg_name (i := 5) sc_settled.nd rfl (Or.inl rfl)) pgs_nil)))))
 (Evl.pss_cut (ps_while PassesOwn.never (PW.pt (pw_and (pt_cmpR op_lt (pv 3) (pe_callB call_len (by rfl) T.z_len PySem.boot_len (pa_cons (pe_fld (pv 0) rfl) pa_nil)) (nomark _)) (pw_and1 (pt_not (pt_val (pe_call G_is_step (hr.mono (by decide)) rfl T.m_is_step T.F_is_step.kp T.b_is_step .nil pass0 (pa_cons (pv 0) (pa_cons (pv 3) pa_nil))))))))
 (pss_cons (ps_set (i := 6) sc_settled.nd rfl (Or.inl rfl) (pe_call G_passed (hr.mono (by decide)) rfl T.m_passed T.F_passed.kp T.b_passed .nil pass0 (pa_cons (pv 0) (pa_cons (pv 3) (pa_cons (pv 5) pa_nil)))))
 (pss_one (ps_if (pt_cmpR op_isN (pv 6) pe_non (nomark _))
 (pss_one (ps_asg (pe_call G_leave (hr.mono (by decide)) rfl T.m_leave T.F_leave.kp T.b_leave .nil pass0 (pa_cons (pv 0) (pa_cons (pe_ix ix_tup (pe_fld (pv 0) rfl) (pv 3) (fun _ _ => rfl)) (pa_cons (pv 2) (pa_cons (pv 5) pa_nil))))) (pg_tup rfl (pgs_cons (pg_name (i := 3) sc_settled.nd rfl (Or.inl rfl)) (pgs_cons (pg_name (i := 4) sc_settled.nd rfl (Or.inl rfl)) (pgs_cons (pg_name (i := 5) sc_settled.nd rfl (Or.inl rfl)) pgs_nil))))))
 (pss_one (ps_par (i := 3) (j := 4) (by rfl) sc_settled.nd rfl rfl (by decide) rfl rfl (pa_cons (pv 6) (pa_cons pe_int pa_nil)) (by rfl)))))))
 (pss_cons (ps_set (i := 7) sc_settled.nd rfl (Or.inl rfl) (pe_lst pa_nil))
 (pss_cons (ps_for PassesOwn.never rfl (pi_list (pe_call G_retries_of (hr.mono (by decide)) rfl T.m_retries_of T.F_retries_of.kp T.b_retries_of .nil pass0 (pa_cons (pv 0) (pa_cons (pv 3) pa_nil)))) (pg_name (i := 8) sc_settled.nd rfl (Or.inl rfl))
 (pss_one (ps_expr (pe_bm PySem.F.plainAttrs_list PySem.F.slot_list_append PySem.F.type_list_append mt_append (pv 7) (pa_cons (pe_ifExp (pt_cmpR op_eq (pv 8) (pv 3) (nomark _)) (pe_callB (call_max2 rfl) (by rfl) T.z_max (by decide +kernel) (pa_cons pe_int (pa_cons (pv 4) pa_nil))) (pe_dget (hu_of hr) (pv 2) (pv 8) (fun _ _ => rfl))) pa_nil)))))
 (pss_one (ps_ret (pe_tup (pa_cons (pv 3) (pa_cons (pe_callTy call_tuple_of (by rfl) T.z_tuple (by decide +kernel) (pa_cons (pv 7) pa_nil)) (pa_cons (pv 5) pa_nil)))))))))), ?_⟩
    have C := T.fc
    obtain ⟨pa, ev, rfl, hs, he⟩ := place_part hd
    unfold Fn.settled at hm
    obtain ⟨q, hq, hm⟩ := bs hm
    obtain ⟨bl, hbl, hm⟩ := bs hm
    obtain ⟨ts, hts, hm⟩ := bs hm
    cases hm
    refine ⟨_, rfl, pa, _, rfl, hs, rfl, _, _, rfl, _, _, rfl, _, _, rfl, rfl, ?_⟩
    refine Evl.q_cut (M := fun σ' H' => Same H H' ∧ ∃ (t : Addr) (x6 x7 x8 : Option V), Dp K H' (.ref t) (evsD q.2.2) ∧ σ' = [some (.ref a), some (.ref pa), some (.ref d), some (.int (q.1 : Int)), some (.int q.2.1), some (.ref t), x6, x7, x8]) ?_ fun σ' H' hM => ?_
    · refine Evl.s_while (fun m σ' H' => Same H H' ∧ ∃ (r : Nat) (ag : Int) (t : Addr) (es : List Ev) (x6 x7 x8 : Option V), F.settleF ns m r ag es = some q ∧ es.length ≤ 1000 ∧ Dp K H' (.ref t) (evsD es) ∧ σ' = [some (.ref a), some (.ref pa), some (.ref d), some (.int (r : Int)), some (.int ag), some (.ref t), x6, x7, x8]) 100 ⟨Same.refl _, p.1, p.2.1, ev, p.2.2, none, none, none, hq, hz, he, rfl⟩ fun m σ' H' h => ?_
      obtain ⟨s1, r, ag, t, es, x6, x7, x8, hS, hz1, he1, rfl⟩ := h
      cases m with
      | zero => unfold Fn.settleF at hS; cases hS
      | succ m =>
      unfold Fn.settleF at hS
      by_cases hlt : F.words.length ≤ r
      · rw [if_pos hlt] at hS
        cases hS
        refine ⟨false, Evl.et_is (Evl.et_and (b := true) (et_ltN (Evl.ev_var rfl) (ev_lenW (hF.same s1) C (Evl.ev_var rfl))) fun z => absurd (of_decide_eq_true z) (by omega)) (by rw [decide_eq_false (by omega)]; rfl), fun z => (by cases z), fun _ H1 e1 => ⟨Same.trans s1 e1, t, x6, x7, x8, he1.mono e1, rfl⟩⟩
      · rw [if_neg hlt] at hS
        obtain ⟨b, hb, hS⟩ := bs hS
        refine ⟨!b, Evl.et_is (Evl.et_and (b := !b) (et_ltN (Evl.ev_var rfl) (ev_lenW (hF.same s1) C (Evl.ev_var rfl))) fun _ => Evl.et_not (Evl.et_B (Evl.ev_call (vs := [.ref a, .int (r : Int)]) (Evl.ea_cons (Evl.ev_var rfl) (Evl.ea_cons (Evl.ev_var rfl) Evl.ea_nil)) (sv_b (hF.same s1) hb)))) (by rw [decide_eq_true (by omega)]; rfl), fun z H1 e1 => ?_, fun z H1 e1 => ?_⟩
        · have hb0 : b = false := by simpa using z
          subst hb0
          have s2 := Same.trans s1 e1
          have he2 := he1.mono e1
          obtain ⟨f, hf, hS⟩ := bs hS
          refine ⟨fun σ' H' => Same H H' ∧ ∃ (r : Nat) (ag : Int) (t : Addr) (es : List Ev) (x6 x7 x8 : Option V), F.settleF ns m r ag es = some q ∧ es.length ≤ 1000 ∧ Dp K H' (.ref t) (evsD es) ∧ σ' = [some (.ref a), some (.ref pa), some (.ref d), some (.int (r : Int)), some (.int ag), some (.ref t), x6, x7, x8], fun σ2 H2 z => ⟨m, Nat.lt_succ_self _, z⟩, ?_⟩
          refine Evl.q_asg (v := oI f) (Evl.ev_call (vs := [.ref a, .int (r : Int), .ref t]) (Evl.ea_cons (Evl.ev_var rfl) (Evl.ea_cons (Evl.ev_var rfl) (Evl.ea_cons (Evl.ev_var rfl) Evl.ea_nil))) fun H2 e2 Q2 q2 E2 => ⟨a, r, .ref t, F, es, f, rfl, hF.same (Same.trans s2 e2), he2.mono e2, hf, hz1, fun H3 e3 => q2 H3 e3⟩) fun H2 e2 => ?_
          have s3 := Same.trans s2 e2
          have he3 := he2.mono e2
          cases f with
          | none =>
            obtain ⟨o, ho, hS⟩ := bs2 hS
            obtain ⟨p2, hp2, hS⟩ := bs hS
            refine Evl.s_if (b := true) (et_none (o := none) (Evl.ev_var rfl)) (fun _ H3 e3 => ?_) (fun z => (by cases z))
            have s4 := Same.trans s3 e3
            refine (evd_call (d := placeD p2) (vs := [.ref a, .int (o : Int), .ref d, .ref t]) (Evl.ea_cons (Evl.ev_var rfl) (Evl.ea_cons (ev_opener (hF.same s4) C (Evl.ev_var rfl) (Evl.ev_var rfl) ho) (Evl.ea_cons (Evl.ev_var rfl) (Evl.ea_cons (Evl.ev_var rfl) Evl.ea_nil)))) fun H4 e4 Q2 q2 => ⟨a, o, d, .ref t, F, ns, es, p2, rfl, hF.same (Same.trans s4 e4), e4 _ _ (s4 _ _ hn), (he3.mono e3).mono e4, hp2, hz1, fun u H5 e5 hu => q2 u H5 e5 hu⟩) H3 (Evl.Ex.refl _) _ fun u H4 e4 hu => ?_
            obtain ⟨pb, ev2, rfl, hs2, he4⟩ := place_part hu
            refine ⟨pb, _, rfl, hs2, rfl, _, _, rfl, _, _, rfl, _, _, rfl, rfl, ?_⟩
            exact ⟨Same.trans s4 e4, p2.1, p2.2.1, ev2, p2.2.2, _, _, _, hS, Nat.le_trans (leave_len F hp2) hz1, he4, rfl⟩
          | some f =>
            refine Evl.s_if (b := false) (et_none (o := some f) (Evl.ev_var rfl)) (fun z => (by cases z)) (fun _ H3 e3 => ?_)
            exact s_par (Evl.ea_cons (x := .int (f : Int)) (Evl.ev_var rfl) (Evl.ea_cons Evl.ev_c Evl.ea_nil)) fun H4 e4 => ⟨Same.trans (Same.trans s3 e3) e4, f, 0, t, es, _, _, _, hS, hz1, (he3.mono e3).mono e4, rfl⟩
        · have hb1 : b = true := by simpa using z
          subst hb1
          cases hS
          exact ⟨Same.trans s1 e1, t, x6, x7, x8, he1.mono e1, rfl⟩
    · obtain ⟨s1, t, x6, x7, x8, he1, rfl⟩ := hM
      refine Evl.q_asgL (Evl.el_lst Evl.ea_nil (by simp)) fun l H1 hl0 e1 hl1 => ?_
      have s2 := Same.trans s1 e1
      have hlH : H l = none := Evl.fresh_back s1 hl0
      refine Evl.q_forNLn (xs := intsL bl) (Evl.el_call (vs := [.ref a, .int (q.1 : Int)]) (Evl.ea_cons (Evl.ev_var rfl) (Evl.ea_cons (Evl.ev_var rfl) Evl.ea_nil)) fun H2 e2 Q2 q2 E2 => ⟨a, q.1, F, bl, rfl, hF.same (Same.trans s2 e2), hbl, fun p H3 h0 e3 h3 => q2 p H3 h0 e3 h3⟩)
        (fun pl i σ' H' => Same H H' ∧ Dp K H' (.ref t) (evsD q.2.2) ∧ H' pl = some (.lst (intsL bl)) ∧ H' l = some (.lst ((ts.take i).map V.int)) ∧ pl ≠ l ∧ ∃ x8, σ' = [some (.ref a), some (.ref pa), some (.ref d), some (.int (q.1 : Int)), some (.int q.2.1), some (.ref t), x6, some (.ref l), x8])
        (fun pl H2 h0 e2 h2 => ⟨Same.trans s2 e2, (he1.mono e1).mono e2, h2, e2 _ _ hl1, (fun z => by rw [z, hl1] at h0; cases h0), x8, rfl⟩) (fun pl i σ' H' _ h => SqL.of h.2.2.1) (fun pl i x σ' H' hi h => ?_) (fun pl σ' H' h => ?_)
      · obtain ⟨s3, he3, hpl, hl3, hne, y8, rfl⟩ := h
        have hil : i < bl.length := by
          have := (List.getElem?_eq_some_iff.mp hi).1
          unfold intsL at this
          rwa [List.length_map] at this
        obtain rfl : x = natV bl[i] := by
          unfold intsL at hi
          rw [List.getElem?_map, List.getElem?_eq_getElem hil] at hi
          exact (Option.some.inj hi).symm
        obtain ⟨n, hn1, hn2⟩ := tries_at hts (List.getElem?_eq_getElem hil)
        have hlz : ts.length = bl.length := tries_len hts
        have hzb : bl.length ≤ 90001 := retries_len hF hbl
        refine Evl.s_app hl3 (Evl.ev_var rfl) (v := .int n) (Evl.ev_if (b := decide (bl[i] = q.1)) (et_eqN (Evl.ev_var rfl) (Evl.ev_var rfl)) (fun z => ?_) (fun z => ?_)) (by rw [List.length_map, List.length_take]; omega) fun H2 e2 => ?_
        · rw [if_pos (of_decide_eq_true z)] at hn2
          cases hn2
          exact Evl.ev_max2 Evl.ev_c (Evl.ev_var rfl)
        · rw [if_neg (of_decide_eq_false z)] at hn2
          exact ev_num (s3 _ _ hn) (Evl.ev_var rfl) (Evl.ev_var rfl) hn2
        · have s4 : Same H (upd H2 l (.lst ((ts.take i).map V.int ++ [.int n]))) := fun b o hb => by
            rw [upd_ne (ne_of_none hb hlH)]
            exact e2 _ _ (s3 _ _ hb)
          refine ⟨s4, ?_, by rw [upd_ne hne]; exact e2 _ _ hpl, ?_, hne, _, rfl⟩
          · exact dp_lst (he3.mono e2) (e2 _ _ hl3)
          · rw [upd_same, List.take_add_one, hn1, List.map_append]
            rfl
      · obtain ⟨s3, he3, hpl, hl3, hne, y8, rfl⟩ := h
        have hall : ts.take (intsL bl).length = ts := List.take_of_length_le (by unfold intsL; rw [List.length_map, tries_len hts]; exact Nat.le_refl _)
        rw [hall] at hl3
        exact s_retD (d := spotD ⟨q.1, ts, q.2.2⟩) (evd_tup (evds_cons (evd_of (v := .int (q.1 : Int)) (Evl.ev_var rfl) (.int _)) (evds_cons (evd_tupOf (Evl.ev_var rfl) hl3 (ints_dp _)) (evds_cons (evd_of (Evl.ev_var rfl) he3) evds_nil))) (by simp)) fun u H9 e9 hu => k u H9 (Same.trans s3 e9) hu
end

end K45
end
section
set_option Elab.async false
set_option autoImplicit false
set_option linter.all false
set_option maxRecDepth 100000
set_option maxHeartbeats 4000000
namespace K45
open PySem PySem.Spec PyProof.Rows L2 PySem.OxE LawC PySem.Fl
section
variable {P : Program} {w : World} {K : PySem.W.Frag} {mg : Str → Option Value} {base : Heap} {A0 : Ad}
theorem ok_first_spot (T : Txt P K mg A0) : FnOk P w K mg base CX0 4 A0.f_first_spot A0.fd_first_spot ["function"] (spFirst K A0.c_Function) := by
  have G_settled : FnOk P w K mg base CX0 3 A0.f_settled A0.fd_settled ["function", "place", "numbers"] (spSettled K A0.c_Function) := ok_settled T
  refine T.F_first_spot.ok sc_first_spot (fun vs H Q E h => ?_) (fun cdv A outer s H vs Q E hr h => ?_)
  · obtain ⟨a, F, s, rfl, _⟩ := h
    rfl
  · obtain ⟨a, F, sp, rfl, hF, hm, k⟩ := h
    refine ⟨_, (pss_one (ps_ret (pe_call G_settled (hr.mono (by decide)) rfl T.m_settled T.F_settled.kp T.b_settled .nil pass0 (pa_cons (pv 0) (pa_cons (pe_tup (pa_cons pe_int (pa_cons pe_int (pa_cons (pe_tup pa_nil) pa_nil)))) (pa_cons pe_dnewK pa_nil)))))), ?_⟩
    refine ⟨_, rfl, by show 0 ≤ sizeLine; decide, fun e he => ⟨by show 3 ≤ sizeLine; decide, fun p hp d hd => ?_⟩⟩
    have s1 := Same.new (o := .tup []) he
    have s2 := Same.new (o := .tup [.int 0, .int 0, .ref e]) hp
    have s3 := Same.new (o := .dK []) hd
    refine ⟨a, .ref p, d, F, [], (0, 0, []), sp, rfl, hF.same (Same.trans (Same.trans s1 s2) s3), upd_same, ?_, hm, Nat.zero_le _, fun u H' sH hu => k u H' (Same.trans (Same.trans (Same.trans s1 s2) s3) sH) hu⟩
    refine Dp.mono s3 (place_dp (ev := e) (SqT.of upd_same) (Dp.mono s2 ?_))
    exact evs_dp (as := []) (SqT.of upd_same) .nil
theorem ok_next_spot (T : Txt P K mg A0) : FnOk P w K mg base CX0 4 A0.f_next_spot A0.fd_next_spot ["function", "spot", "move"] (spNext K A0.c_Function) := by
  have G_settled : FnOk P w K mg base CX0 3 A0.f_settled A0.fd_settled ["function", "place", "numbers"] (spSettled K A0.c_Function) := ok_settled T
  have G_numbers_of : FnOk P w K mg base CX0 2 A0.f_numbers_of A0.fd_numbers_of ["function", "spot"] (spNumbers K A0.c_Function) := ok_numbers_of T
  have G_leave : FnOk P w K mg base CX0 2 A0.f_leave A0.fd_leave ["function", "inner", "numbers", "events"] (spLeave K A0.c_Function) := ok_leave T
  have G_target : FnOk P w K mg base CX0 1 A0.f_target A0.fd_target ["function", "row", "move"] (spTarget K A0.c_Function) := ok_target T
  refine T.F_next_spot.ok sc_next_spot (fun vs H Q E h => ?_) (fun cdv A outer s H vs Q E hr h => ?_)
  · obtain ⟨a, v, m, F, s, t, rfl, _⟩ := h
    rfl
  · obtain ⟨a, v, mv, F, sp, t, rfl, hF, hd, hm, hz, k⟩ := h
    refine ⟨_, (pss_cons (ps_par (i := 3) (j := 4) (by rfl) sc_next_spot.nd rfl rfl (by decide) rfl rfl (pa_cons (pe_ix ix_tup (pv 1) pe_int (fun _ _ => rfl)) (pa_cons (pe_ix ix_tup (pv 1) pe_int (fun _ _ => rfl)) pa_nil)) (by rfl))
 (pss_cons (ps_set (i := 5) sc_next_spot.nd rfl (Or.inl rfl) (pe_call G_numbers_of (hr.mono (by decide)) rfl T.m_numbers_of T.F_numbers_of.kp T.b_numbers_of .nil pass0 (pa_cons (pv 0) (pa_cons (pv 1) pa_nil))))
 (Evl.pss_cut (ps_if (PW.pt (pw_or (pt_cmpR op_eq (pv 2) pe_str (nomark _)) (pw_or1 (pt_cmpR op_eq (pv 2) pe_str (nomark _)))))
 (pss_one (ps_set (i := 6) sc_next_spot.nd rfl (Or.inl rfl) (pe_call G_leave (hr.mono (by decide)) rfl T.m_leave T.F_leave.kp T.b_leave .nil pass0 (pa_cons (pv 0) (pa_cons (pv 3) (pa_cons (pv 5) (pa_cons (pe_op op_catA (pv 4) (pe_tup (pa_cons (pe_tup (pa_cons (pv 2) (pa_cons (pv 3) pa_nil))) pa_nil))) pa_nil)))))))
 (pss_one (ps_if (pt_cmpR op_eq (pe_ix ix_tup (pe_fld (pv 0) rfl) (pv 3) (fun _ _ => rfl)) pe_str (nomark _))
 (pss_one (ps_set (i := 6) sc_next_spot.nd rfl (Or.inl rfl) (pe_call G_leave (hr.mono (by decide)) rfl T.m_leave T.F_leave.kp T.b_leave .nil pass0 (pa_cons (pv 0) (pa_cons (pv 3) (pa_cons (pv 5) (pa_cons (pe_op op_catA (pv 4) (pe_tup (pa_cons (pe_tup (pa_cons pe_str (pa_cons (pv 3) pa_nil))) pa_nil))) pa_nil)))))))
 (pss_one (ps_set (i := 6) sc_next_spot.nd rfl (Or.inl rfl) (pe_tup (pa_cons (pe_call G_target (hr.mono (by decide)) rfl T.m_target T.F_target.kp T.b_target .nil pass0 (pa_cons (pv 0) (pa_cons (pv 3) (pa_cons (pv 2) pa_nil)))) (pa_cons pe_int (pa_cons (pv 4) pa_nil)))))))))
 (pss_one (ps_ret (pe_call G_settled (hr.mono (by decide)) rfl T.m_settled T.F_settled.kp T.b_settled .nil pass0 (pa_cons (pv 0) (pa_cons (pv 6) (pa_cons (pv 5) pa_nil))))))))), ?_⟩
    have C := T.fc
    obtain ⟨sa, tv, ev, rfl, hs, ht, he⟩ := spot_part hd
    unfold Fn.nextSpot at hm
    obtain ⟨ns, hns, hm⟩ := bs hm
    obtain ⟨p, hp, hm⟩ := bb hm
    refine q_par (Evl.ea_cons (x := .int (sp.row : Int)) (ev_ixK (k := 0) (Evl.ev_var rfl) hs rfl) (Evl.ea_cons (x := .ref ev) (ev_ixK (k := 2) (Evl.ev_var rfl) hs rfl) Evl.ea_nil)) fun H1 e1 => ?_
    have s2 := e1
    refine ⟨_, rfl, _, rfl, a, .ref sa, sp, F, ns, rfl, hd.mono s2, hF.same s2, hns, fun dn H3 h0 e3 h3 => ?_⟩
    have s3 := Same.trans s2 e3
    refine Evl.q_cut (M := fun σ' H' => Same H3 H' ∧ ∃ pv, Dp K H' pv (placeD p) ∧ σ' = [some (.ref a), some (.ref sa), some (.str mv), some (.int (sp.row : Int)), some (.ref ev), some (.ref dn), some pv]) ?_ fun σ' H' hM => ?_
    · have lv : ∀ {kd : Str} {tk : TE} {H4 : Hp}, Same H3 H4 → F.leave sp.row ns (sp.events ++ [(kd, sp.row)]) = some p → (∀ H5, Same H4 H5 → Evl.Ev tk [some (.ref a), some (.ref sa), some (.str mv), some (.int (sp.row : Int)), some (.ref ev), some (.ref dn), none] H5 (.str kd)) →
          EvD K (tCall (spLeave K A0.c_Function) [] E0 (tCons (tVar 0) (tCons (tVar 3) (tCons (tVar 5) (tCons (tOp (rCatA K) (tVar 4) (tTup (tCons (tTup (tCons tk (tCons (tVar 3) tNil))) tNil))) tNil))))) [some (.ref a), some (.ref sa), some (.str mv), some (.int (sp.row : Int)), some (.ref ev), some (.ref dn), none] H4 (placeD p) := fun {kd tk H4} e4 hl hk H5 e5 Q5 q5 => by
        have s5 := Same.trans (Same.trans s3 e4) e5
        refine ⟨_, rfl, _, rfl, _, rfl, ?_⟩
        refine evd_catE (fs := [(kd, sp.row)]) (Evl.ev_var rfl) (he.mono s5) (evd_tup (ds := [evD (kd, sp.row)]) (evds_cons (evd_tup (ds := [.str kd, .int (sp.row : Int)]) (evds_cons (evd_of (hk H5 e5) (.str _)) (evds_cons (evd_of (v := .int (sp.row : Int)) (Evl.ev_var rfl) (.int _)) evds_nil)) (by simp)) evds_nil) (by simp)) (by simp; omega) H5 (Evl.Ex.refl _) _ fun u H6 e6 hu => ?_
        have s6 := Same.trans s5 e6
        exact ⟨a, sp.row, dn, u, F, ns, sp.events ++ [(kd, sp.row)], p, rfl, hF.same s6, e6 _ _ (e5 _ _ (e4 _ _ h3)), hu, hl, by rw [List.length_append]; simp; omega, fun y H7 e7 hy => q5 y H7 (Same.trans e6 e7) hy⟩
      refine Evl.s_if (Evl.et_or (b := decide (mv = "fail")) (et_eqS (Evl.ev_var rfl) Evl.ev_c) fun _ => et_eqS (Evl.ev_var rfl) Evl.ev_c) (fun h H4 e4 => ?_) (fun h H4 e4 => ?_)
      · rw [if_pos (by simpa using h)] at hp
        exact s_asgD (lv e4 hp fun H5 e5 => Evl.ev_var rfl) fun u H5 e5 hu => ⟨Same.trans e4 e5, u, hu, rfl⟩
      · rw [if_neg (by simpa using h)] at hp
        obtain ⟨wd, hw, hp⟩ := bb hp
        refine Evl.s_if (et_eqS (ev_word (hF.same (Same.trans s3 e4)) C (Evl.ev_var rfl) (Evl.ev_var rfl) hw) Evl.ev_c) (fun h H5 e5 => ?_) (fun h H5 e5 => ?_)
        · rw [if_pos (of_decide_eq_true h)] at hp
          exact s_asgD (lv (Same.trans e4 e5) hp fun H5 e5 => Evl.ev_c) fun u H6 e6 hu => ⟨Same.trans (Same.trans e4 e5) e6, u, hu, rfl⟩
        · rw [if_neg (of_decide_eq_false h)] at hp
          obtain ⟨tg, htg, hp⟩ := bb hp
          cases hp
          have s5 := Same.trans (Same.trans s3 e4) e5
          refine s_asgD (d := placeD (tg, 0, sp.events)) (evd_tup (evds_cons (evd_of (v := .int (tg : Int)) (Evl.ev_call (vs := [.ref a, .int (sp.row : Int), .str mv]) (Evl.ea_cons (Evl.ev_var rfl) (Evl.ea_cons (Evl.ev_var rfl) (Evl.ea_cons (Evl.ev_var rfl) Evl.ea_nil))) fun H6 e6 Q6 q6 E6 => ⟨a, sp.row, mv, F, tg, rfl, hF.same (Same.trans s5 e6), htg, fun H7 e7 => q6 H7 e7⟩) (.int _)) (evds_cons (evd_of (v := .int 0) Evl.ev_c (.int _)) (evds_cons (evd_of (Evl.ev_var rfl) (he.mono s5)) evds_nil))) (by simp)) fun u H6 e6 hu => ⟨Same.trans (Same.trans e4 e5) e6, u, hu, rfl⟩
    · obtain ⟨e4, pv, hpv, rfl⟩ := hM
      have s4 := Same.trans s3 e4
      have hlen : p.2.2.length ≤ 1000 := by
        by_cases c1 : mv = "cut" ∨ mv = "fail"
        · rw [if_pos c1] at hp
          have := leave_len F hp
          rw [List.length_append] at this
          simp at this
          omega
        · rw [if_neg c1] at hp
          obtain ⟨wd, hw, hp⟩ := bb hp
          by_cases c2 : wd = "return"
          · rw [if_pos c2] at hp
            have := leave_len F hp
            rw [List.length_append] at this
            simp at this
            omega
          · rw [if_neg c2] at hp
            obtain ⟨tg, htg, hp⟩ := bb hp
            cases hp
            exact Nat.le_of_lt hz
      exact s_retD (evd_call (d := spotD t) (vs := [.ref a, pv, .ref dn]) (Evl.ea_cons (Evl.ev_var rfl) (Evl.ea_cons (Evl.ev_var rfl) (Evl.ea_cons (Evl.ev_var rfl) Evl.ea_nil))) fun H5 e5 Q5 q5 => ⟨a, pv, dn, F, ns, p, t, rfl, hF.same (Same.trans s4 e5), e5 _ _ (e4 _ _ h3), hpv.mono e5, hm, hlen, fun u H6 e6 hu => q5 u H6 e6 hu⟩) fun u H5 e5 hu => k u H5 (Same.trans s4 e5) hu
end

end K45
end
section
set_option Elab.async false
set_option autoImplicit false
set_option linter.all false
set_option maxRecDepth 100000
set_option maxHeartbeats 2000000
/-! comprehensions that give a value for each; the live loops; states -/
namespace PySem.Fl
open PySem PySem.Spec PyProof.Rows L2 PySem.OxE LawC
section
variable {K : PySem.W.Frag} {H H' : Hp} {σ : L2.St} {ta tb te tl : TE} {D : Ends}
/-- [f x for x in a tuple] -/
theorem el_mapT {a : Addr} {xs ys : List V} {j : Nat} {vs : List Nat} (h : Evl.Ev tl σ H (.ref a)) (hx : SqT K H a xs) (hl : ys.length = xs.length) (hz : xs.length ≤ 40000) (hw : ∀ x, wipe ((wipe σ vs).set j (some x)) vs = wipe σ vs)
    (he : ∀ (i : Nat) (x y : V) H1, Evl.Ex H H1 → xs[i]? = some x → ys[i]? = some y → Evl.Ev te ((wipe σ vs).set j (some x)) H1 y) : Evl.EvL (tLc (iTup K tl) (gName j) tYes te vs) σ H ys := fun H0 e Q q => h H0 e _ fun H1 e1 => ⟨a, rfl, ⟨xs, Evl.ex_t (e.trans e1) hx⟩, fun Dl hD =>
  lc_tup (xs := xs) (fun i H' => Same H1 H' ∧ H' Dl = some (.lst (ys.take i))) ⟨Same.new hD, upd_same⟩ (fun i H' _ p => Evl.ex_t ((e.trans e1).trans p.1) hx) (fun i x H' hi p => by
    obtain ⟨p1, p2⟩ := p
    have hil : i < ys.length := by rw [hl]; exact (List.getElem?_eq_some_iff.mp hi).1
    refine ⟨hw x, ?_⟩
    unfold tYes
    dsimp only
    rw [if_pos rfl]
    refine he i x ys[i] H' ((e.trans e1).trans p1) hi (List.getElem?_eq_getElem hil) H' (Evl.Ex.refl _) _ fun H3 e3 => ⟨_, e3 _ _ p2, Evl.sz_lt (by rw [List.length_take]; omega), fun b o hb => ?_, ?_⟩
    · rw [upd_ne (ne_of_none hb hD)]
      exact e3 _ _ (p1 b o hb)
    · rw [upd_same, List.take_add_one, List.getElem?_eq_getElem hil]; rfl) fun H' p => by
    rw [← hl, List.take_of_length_le (Nat.le_refl _)] at p
    exact q Dl H' (Evl.fresh_back e1 hD) (Same.trans e1 p.1) p.2⟩
/-- [f x for x in a list] -/
theorem el_mapL {a : Addr} {xs ys : List V} {j : Nat} {vs : List Nat} (h : Evl.Ev tl σ H (.ref a)) (hx : SqL K H a xs) (hl : ys.length = xs.length) (hz : xs.length ≤ 40000) (hw : ∀ x, wipe ((wipe σ vs).set j (some x)) vs = wipe σ vs)
    (he : ∀ (i : Nat) (x y : V) H1, Evl.Ex H H1 → xs[i]? = some x → ys[i]? = some y → Evl.Ev te ((wipe σ vs).set j (some x)) H1 y) : Evl.EvL (tLc (iList K tl) (gName j) tYes te vs) σ H ys := fun H0 e Q q => h H0 e _ fun H1 e1 => ⟨a, rfl, ⟨xs, Evl.ex_l (e.trans e1) hx⟩, fun Dl hD =>
  lc_list (xs := xs) (fun i H' => Same H1 H' ∧ H' Dl = some (.lst (ys.take i))) ⟨Same.new hD, upd_same⟩ (fun i H' _ p => Evl.ex_l ((e.trans e1).trans p.1) hx) (fun i x H' hi p => by
    obtain ⟨p1, p2⟩ := p
    have hil : i < ys.length := by rw [hl]; exact (List.getElem?_eq_some_iff.mp hi).1
    refine ⟨hw x, ?_⟩
    unfold tYes
    dsimp only
    rw [if_pos rfl]
    refine he i x ys[i] H' ((e.trans e1).trans p1) hi (List.getElem?_eq_getElem hil) H' (Evl.Ex.refl _) _ fun H3 e3 => ⟨_, e3 _ _ p2, Evl.sz_lt (by rw [List.length_take]; omega), fun b o hb => ?_, ?_⟩
    · rw [upd_ne (ne_of_none hb hD)]
      exact e3 _ _ (p1 b o hb)
    · rw [upd_same, List.take_add_one, List.getElem?_eq_getElem hil]; rfl) fun H' p => by
    rw [← hl, List.take_of_length_le (Nat.le_refl _)] at p
    exact q Dl H' (Evl.fresh_back e1 hD) (Same.trans e1 p.1) p.2⟩
end
section
variable {K : PySem.W.Frag} {H H' : Hp} {σ : L2.St} {ta tb te tl : TE} {D : Ends}
/-- xs + ys, both new -/
theorem el_catLL {xs ys : List V} (ha : Evl.EvL ta σ H xs) (hb : Evl.EvL tb σ H ys) (hz : xs.length + ys.length ≤ 100000) : Evl.EvL (tOp rCat ta tb) σ H (xs ++ ys) := fun H1 e1 Q q =>
  ha H1 e1 _ fun a H2 ha0 e2 ha2 => hb H2 (e1.trans e2) _ fun b H3 hb0 e3 hb3 => ⟨a, b, xs, ys, rfl, rfl, e3 _ _ ha2, hb3, Evl.sz_of hz, fun r hr => q r _ (Evl.fresh_back (e2.trans e3) hr) ((e2.trans e3).trans (Evl.Ex.new hr)) upd_same⟩
end
section
variable {K : PySem.W.Frag} {H H' : Hp} {σ : L2.St} {t : TT} {ta tb te tl : TE} {D : Ends}
theorem evd_if {d : PyData} {b : Bool} (h : Evl.EvT t σ H b) (h1 : b = true → EvD K ta σ H d) (h2 : b = false → EvD K tb σ H d) : EvD K (tIf t ta tb) σ H d := fun H1 e1 Q q => h H1 e1 _ fun H2 e2 => by
  cases b with
  | true => rw [if_pos rfl]; exact h1 rfl H2 (Same.trans e1 e2) Q fun v H3 e3 hv => q v H3 (Same.trans e2 e3) hv
  | false => rw [if_neg (by decide)]; exact h2 rfl H2 (Same.trans e1 e2) Q fun v H3 e3 hv => q v H3 (Same.trans e2 e3) hv
end
def reason : List Ev → Str
  | [] => "end"
  | e :: _ => if e.1 = "return" then "end" else e.1
def spReason (K : PySem.W.Frag) : Sp := fun vs H Q _ => ∃ v wy, vs = [v] ∧ Dp K H v (wayD (some wy)) ∧ ∀ H', Same H H' → Q (.str (reason wy)) H'
/-- a set comprehension over anything that is walked -/
theorem sc_it {τ : Type} {so : Addr → τ → HO} {zero : τ} {step : τ → V → τ → Prop} {J : It} {n : Nat} {G : Hp → Prop} {Y : Nat → Hp → V → Hp → Prop} (w : Walk J n G Y) {g : TG} {tt : TT} {te : TE} {vs : List Nat} {σ : L2.St} {H1 : Hp} {D : Addr} {Qd : Hp → Prop} (Pv : Nat → Hp → Prop) (h0 : Pv 0 (upd H1 D (so D zero))) (hG : ∀ i H, i ≤ n → Pv i H → G H)
    (hs : ∀ i x H H', i < n → Pv i H → Y i H x H' → g x (wipe σ vs) H' fun σ2 H2 => wipe σ2 vs = wipe σ vs ∧ tt σ2 H2 fun b H3 =>
      if b = true then te σ2 H3 fun y H4 => ∃ t t', H4 D = some (so D t) ∧ step t y t' ∧ Pv (i + 1) (upd H4 D (so D t')) else Pv (i + 1) H3) (hd : ∀ H, Pv n H → Qd H) :
    ∃ W : Nat → Nat → Hp → Prop, (∃ m, W 0 m (upd H1 D (so D zero))) ∧ ∀ i m H, W i m H →
      (J.stop i H ∧ Qd H) ∨ (J.go i H ∧ ∃ Nx : Hp → Prop, (∀ H', Nx H' → ∃ m', m' < m ∧ W (i + 1) m' H') ∧ ∀ x H', J.yld i H x H' → g x (wipe σ vs) H' fun σ2 H2 => wipe σ2 vs = wipe σ vs ∧ tt σ2 H2 fun b H3 =>
        if b = true then te σ2 H3 fun y H4 => ∃ t t', H4 D = some (so D t) ∧ step t y t' ∧ Nx (upd H4 D (so D t')) else Nx H3) := by
  refine ⟨fun i m H => m = n - i ∧ i ≤ n ∧ Pv i H, ⟨n, by simp, Nat.zero_le _, h0⟩, ?_⟩
  rintro i m H ⟨rfl, hi, p⟩
  have q := hG i H hi p
  by_cases hlt : i < n
  · exact .inr ⟨w.goes i H hlt q, Pv (i + 1), fun H' p' => ⟨n - (i + 1), by omega, rfl, hlt, p'⟩, fun x H' y => hs i x H H' hlt p (w.yields i H x H' hlt q y)⟩
  · have e : i = n := by omega
    subst e
    exact .inl ⟨w.stops H q, hd H p⟩
theorem walk_l {K : PySem.W.Frag} {a : Addr} {xs : List V} : Walk (Itl K a) xs.length (fun H => SqL K H a xs) (YAt xs) :=
  ⟨fun i H hi q => ⟨xs, xs[i], q, List.getElem?_eq_getElem hi⟩, fun H q => ⟨xs, q, Nat.le_refl _⟩, fun i H x H' hi q y => ⟨y.1, y.2 xs q⟩⟩
/-! the rows in order, each once -/
theorem few_add {l : List Nat} {k : Nat} (h : k ∉ l) : ∀ L : Nat, k < L → ((List.range L).filter (· ∈ l ++ [k])).length = ((List.range L).filter (· ∈ l)).length + 1
  | 0, hk => by omega
  | L + 1, hk => by
    rw [List.range_succ, List.filter_append, List.filter_append, List.length_append, List.length_append]
    by_cases e : k = L
    · subst e
      have h1 : (List.range k).filter (· ∈ l ++ [k]) = (List.range k).filter (· ∈ l) := List.filter_congr fun x hx => by
        have : x ≠ k := Nat.ne_of_lt (List.mem_range.mp hx)
        simp [this]
      rw [h1]
      simp [h]
    · have ih := few_add h L (by omega)
      rw [ih]
      have : decide (L ∈ l ++ [k]) = decide (L ∈ l) := by
        have : L ≠ k := fun z => e z.symm
        simp [this]
      simp only [List.filter_cons, List.filter_nil, this]
      omega
theorem few_same {l : List Nat} {k : Nat} (h : k ∈ l) (L : Nat) : (List.range L).filter (· ∈ l ++ [k]) = (List.range L).filter (· ∈ l) := List.filter_congr fun x hx => by
  by_cases e : x = k
  · subst e; simp [h]
  · simp [e]
theorem few_le (l : List Nat) (L : Nat) : ((List.range L).filter (· ∈ l)).length ≤ L := by
  have := List.length_filter_le (fun x => decide (x ∈ l)) (List.range L)
  rwa [List.length_range] at this
/-- one ascending list of those members -/
theorem asc_one : ∀ {xs ys : List Int}, xs.Pairwise (· < ·) → ys.Pairwise (· < ·) → (∀ k, k ∈ xs ↔ k ∈ ys) → xs = ys
  | [], [], _, _, _ => rfl
  | [], y :: ys, _, _, h => absurd ((h y).mpr List.mem_cons_self) (by simp)
  | x :: xs, [], _, _, h => absurd ((h x).mp List.mem_cons_self) (by simp)
  | x :: xs, y :: ys, hx, hy, h => by
    rw [List.pairwise_cons] at hx hy
    have e : x = y := by
      rcases List.mem_cons.mp ((h x).mp List.mem_cons_self) with e | m
      · exact e
      · rcases List.mem_cons.mp ((h y).mpr List.mem_cons_self) with e | m2
        · exact e.symm
        · have := hy.1 x m
          have := hx.1 y m2
          omega
    subst e
    have nx : x ∉ xs := fun m => by have := hx.1 x m; omega
    have ny : x ∉ ys := fun m => by have := hy.1 x m; omega
    rw [asc_one hx.2 hy.2 fun k => ?_]
    constructor
    · intro m
      rcases List.mem_cons.mp ((h k).mp (List.mem_cons_of_mem _ m)) with e | m2
      · subst e; exact absurd m nx
      · exact m2
    · intro m
      rcases List.mem_cons.mp ((h k).mpr (List.mem_cons_of_mem _ m)) with e | m2
      · subst e; exact absurd m ny
      · exact m2
theorem dedup_asc (l : List Nat) (L : Nat) : ((Fn.dedupSort l L).map fun n : Nat => (n : Int)).Pairwise (· < ·) := by
  unfold Fn.dedupSort
  rw [List.pairwise_map]
  refine List.Pairwise.filter _ ?_
  exact (List.pairwise_lt_range (n := L)).imp fun h => by omega
theorem loop_lt {F : Fn} {r b : Nat} (h : F.loopOf r = some (some b)) : b < F.words.length := by
  unfold Fn.loopOf at h
  by_cases q : F.words.length ≤ r
  · rw [if_pos q] at h; cases h
  · rw [if_neg q] at h
    obtain ⟨l, hl, h⟩ := bs h
    have hf : l.find? (F.wordIs "each") = some b := Option.some.inj h
    have := List.find?_some hf
    unfold Fn.wordIs at this
    have := of_decide_eq_true this
    exact (List.getElem?_eq_some_iff.mp this).1
theorem loops_at {F : Fn} : ∀ {rs : List Nat} {ls : List (Option Nat)} {i r : Nat}, F.loopsOf rs = some ls → rs[i]? = some r → ∃ o, ls[i]? = some o ∧ F.loopOf r = some o
  | [], ls, i, r, h, e => by simp at e
  | q :: rs, ls, i, r, h, e => by
    unfold Fn.loopsOf at h
    obtain ⟨o, ho, h⟩ := bs h
    obtain ⟨ms, hms, h⟩ := bs h
    cases h
    cases i with
    | zero => cases e; exact ⟨o, rfl, ho⟩
    | succ i =>
      obtain ⟨m, h1, h2⟩ := loops_at hms (show rs[i]? = some r by simpa using e)
      exact ⟨m, by simpa using h1, h2⟩
theorem loops_len {F : Fn} : ∀ {rs : List Nat} {ls : List (Option Nat)}, F.loopsOf rs = some ls → ls.length = rs.length
  | [], ls, h => by unfold Fn.loopsOf at h; cases h; rfl
  | q :: rs, ls, h => by
    unfold Fn.loopsOf at h
    obtain ⟨o, ho, h⟩ := bs h
    obtain ⟨ms, hms, h⟩ := bs h
    cases h
    rw [List.length_cons, List.length_cons, loops_len hms]
/-! states -/
def RndAt (K : PySem.W.Frag) (H : Hp) (r : Addr) (rs : List (Nat × Int)) : Prop := ∃ ps : List Addr, OxDT.NoD H r ∧ SqT K H r (ps.map V.ref) ∧ Paired (fun p (x : Nat × Int) => SqT K H p [.int (x.1 : Int), .int x.2]) ps rs
def StAt (K : PySem.W.Frag) (H : Hp) (v : V) (s : RSt) : Prop := ∃ a sv r, v = .ref a ∧ SqT K H a [sv, .ref r, .str s.mark, .int s.owed, .int s.asked, .int s.taken] ∧ Dp K H sv (spotD s.spot) ∧ RndAt K H r s.rounds
theorem RndAt.same {K : PySem.W.Frag} {H H' : Hp} {r : Addr} {rs : List (Nat × Int)} (h : RndAt K H r rs) (s : Same H H') : RndAt K H' r rs := by
  obtain ⟨ps, ⟨o, xs, h1, h2⟩, h3, h4⟩ := h
  exact ⟨ps, ⟨o, xs, s _ _ h1, h2⟩, Evl.ex_t s h3, Paired.mapP h4 fun _ _ z => Evl.ex_t s z⟩
theorem StAt.same {K : PySem.W.Frag} {H H' : Hp} {v : V} {t : RSt} (h : StAt K H v t) (s : Same H H') : StAt K H' v t := by
  obtain ⟨a, sv, r, rfl, h1, h2, h3⟩ := h
  exact ⟨a, sv, r, rfl, Evl.ex_t s h1, h2.mono s, h3.same s⟩
theorem rnd_all {K : PySem.W.Frag} {H : Hp} : ∀ {ps : List Addr} {rs : List (Nat × Int)}, Paired (fun p (x : Nat × Int) => SqT K H p [.int (x.1 : Int), .int x.2]) ps rs → DpAll K H (ps.map V.ref) (rs.map fun p => PyData.tuple [.int p.1, .int p.2])
  | _, _, .nil => .nil
  | _, _, .cons h t => .cons (.tup h (.cons (.int _) (.cons (.int _) .nil))) (rnd_all t)
theorem RndAt.dp {K : PySem.W.Frag} {H : Hp} {r : Addr} {rs : List (Nat × Int)} (h : RndAt K H r rs) : Dp K H (.ref r) (rndD rs) := by
  obtain ⟨ps, _, h3, h4⟩ := h
  exact .tup h3 (rnd_all h4)
theorem StAt.dp {K : PySem.W.Frag} {H : Hp} {v : V} {t : RSt} (h : StAt K H v t) : Dp K H v (stD t) := by
  obtain ⟨a, sv, r, rfl, h1, h2, h3⟩ := h
  exact .tup h1 (.cons h2 (.cons h3.dp (.cons (.str _) (.cons (.int _) (.cons (.int _) (.cons (.int _) .nil))))))
theorem rnd_kvs {K : PySem.W.Frag} {H : Hp} : ∀ {ps : List Addr} {rs : List (Nat × Int)}, Paired (fun p (x : Nat × Int) => SqT K H p [.int (x.1 : Int), .int x.2]) ps rs → Paired (fun p (kv : Key × V) => SqT K H p [kV kv.1, kv.2]) ps (mapK V.int rs)
  | _, _, .nil => .nil
  | _, _, .cons h t => .cons h (rnd_kvs t)
section
variable {K : PySem.W.Frag} {H H' : Hp} {σ : L2.St} {tA : TA} {ta tb te : TE} {D : Ends}
theorem q_par3 {i j l : Nat} {v u x : V} {tz : TS} (h : Evl.EvA tA σ H [v, u, x]) (k : ∀ H1, Same H H1 → tz D (((σ.set i (some v)).set j (some u)).set l (some x)) H1) : tSeq (tPar3 i j l tA) tz D σ H := h H (Evl.Ex.refl H) _ fun H1 e1 => ⟨v, u, x, rfl, k H1 e1⟩
/-- d[name] of the lengths -/
theorem lookup_len : ∀ (l : List (Str × Int)) (b : Str), valV (lenK l) (.inr b) = (l.lookup b).map V.int
  | [], b => rfl
  | (k, x) :: l, b => by
    have ih := lookup_len l b
    unfold valV lenK at ih ⊢
    rw [List.map_cons, List.find?_cons, List.lookup_cons]
    by_cases h : b = k
    · subst h
      simp
    · have h1 : decide (((.inr k : Key)) = .inr b) = false := by
        refine decide_eq_false fun e => h ?_
        injection e with e
        exact e.symm
      have h2 : (b == k) = false := by simpa using h
      rw [h1, h2]
      exact ih
theorem ev_len1 {d : Addr} {ls : List (Str × Int)} {u : Str} {n : Int} (hd : H d = some (.dK (lenK ls))) (ha : Evl.Ev ta σ H (.ref d)) (hk : Evl.Ev tb σ H (.str u)) (hn : ls.lookup u = some n) : Evl.Ev (tDGet ta tb) σ H (.int n) := fun H1 e1 Q q =>
  ha H1 e1 _ fun H2 e2 => hk H2 (e1.trans e2) _ fun H3 e3 => by
    have g := DGet.k (k := .inr u) (e3 _ _ (e2 _ _ (e1 _ _ hd)))
    rw [lookup_len, hn] at g
    exact ⟨d, _, rfl, g, q H3 (e2.trans e3)⟩
/-- dict(t) of a state's rounds, asked for one -/
theorem ev_dictT {r : Addr} {rs : List (Nat × Int)} {b : Nat} {n : Int} (hr : RndAt K H r rs) (ha : Evl.Ev ta σ H (.ref r)) (hb : Evl.Ev tb σ H (.int b)) (hn : (dOf rs).lookup b = some n) : Evl.Ev (tDGet (tCB (OxDT.rDictT K) (tCons ta tNil)) tb) σ H (.int n) := fun H1 e1 Q q =>
  ha H1 e1 _ fun H2 e2 => by
    obtain ⟨ps, hn1, h3, h4⟩ := hr.same (Same.trans e1 e2)
    refine ⟨r, ps, mapK V.int rs, rfl, h3, hn1, rnd_kvs h4, fun p hp => ?_⟩
    have e3 := Same.new (o := .dK (mergeK [] (mapK V.int rs))) hp
    refine hb _ (Same.trans (Same.trans e1 e2) e3) _ fun H4 e4 => ?_
    have g := DGet.k (k := .inl (b : Int)) (e4 _ _ (upd_same (H := H2) (a := p) (o := .dK (mergeK [] (mapK V.int rs)))))
    have hm := merge_dOf rs []
    rw [show mergeK [] (mapK V.int rs) = mapK V.int (dOf rs) from hm, show valV (mapK V.int (dOf rs)) (.inl (b : Int)) = _ from lookup_keys V.int (dOf rs) b, hn] at g
    exact ⟨p, _, rfl, g, q H4 (Same.trans (Same.trans e2 e3) e4)⟩
end
section
variable {K : PySem.W.Frag} {H H' : Hp} {σ : L2.St} {td tk tv : TE} {D : Ends}
/-- d[k] = n on the numbers -/
theorem s_put {d : Addr} {ns : List (Nat × Int)} {b : Nat} {n : Int} (hv : Evl.Ev tv σ H (.int n)) (hd : Evl.Ev td σ H (.ref d)) (hk : Evl.Ev tk σ H (.int b)) (h : H d = some (.dK (numK ns))) (hz : ns.length < 90000)
    (k : ∀ H1, Same H H1 → D.nx σ (upd H1 d (.dK (numK (put ns b n))))) : sDPut td tk tv D σ H :=
  hv H (Evl.Ex.refl H) _ fun H1 e1 => hd H1 e1 _ fun H2 e2 => hk H2 (Same.trans e1 e2) _ fun H3 e3 => by
    have hd3 := e3 _ _ (e2 _ _ (e1 _ _ h))
    have g := DPut.k (k := .inl (b : Int)) (v := .int n) hd3 (Evl.sz_lt (by unfold numK mapK; rw [List.length_map]; omega))
    rw [show putK (numK ns) (.inl (b : Int)) (.int n) = numK (put ns b n) from putK_map V.int ns b n] at g
    exact ⟨d, _, rfl, g, k H3 (Same.trans (Same.trans e1 e2) e3)⟩
/-- d.get(k, 0) on the numbers -/
theorem ev_get0 {d : Addr} {ns : List (Nat × Int)} {b : Nat} (hd : Evl.Ev td σ H (.ref d)) (hk : Evl.Ev tk σ H (.int b)) (h : H d = some (.dK (numK ns))) : Evl.Ev (tDGet2 td tk (tC (.int 0))) σ H (.int ((ns.lookup b).getD 0)) := fun H1 e1 Q q =>
  hd H1 e1 _ fun H2 e2 => ⟨d, rfl, .inl ⟨_, .inl (e2 _ _ (e1 _ _ h))⟩, hk H2 (Same.trans e1 e2) _ fun H3 e3 => by
    have g := DGet.k (k := .inl (b : Int)) (e3 _ _ (e2 _ _ (e1 _ _ h)))
    rw [show valV (numK ns) (.inl (b : Int)) = _ from lookup_keys V.int ns b] at g
    refine ⟨_, g, ?_⟩
    have := q H3 (Same.trans e2 e3)
    cases hl : ns.lookup b with
    | none => rw [hl] at this; exact this
    | some n => rw [hl] at this; exact this⟩
end
theorem stAfter_len (F : Fn) {s t : RSt} {mv : Str} (h : F.stateAfter s mv = some t) : t.spot.events.length ≤ s.spot.events.length + 1 := by
  unfold Fn.stateAfter at h
  obtain ⟨sp, hsp, h⟩ := bs h
  obtain ⟨rs, hrs, h⟩ := bs h
  have := next_len F hsp
  by_cases c : mv ≠ "go"
  · rw [if_pos c] at h; cases h; exact this
  · rw [if_neg c] at h
    obtain ⟨wd, hw, h⟩ := bs h
    cases h
    exact this
theorem dpAll_app {K : PySem.W.Frag} {H : Hp} : ∀ {ds es : List PyData} {vs us : List V}, DpAll K H vs ds → DpAll K H us es → DpAll K H (vs ++ us) (ds ++ es)
  | [], es, vs, us, h, h2 => by rw [dp_nil h]; exact h2
  | d :: ds, es, vs, us, h, h2 => by
    obtain ⟨u, us', rfl, h3, h4⟩ := dp_cons h
    exact .cons h3 (dpAll_app h4 h2)
/-! promises of the motion -/
def spFirstSt (K : PySem.W.Frag) (c : Addr) : Sp := fun vs H Q _ => ∃ a m n F s, vs = [.ref a, .str m, .int n] ∧ IsFn K c H a F ∧ F.firstState m n = some s ∧ ∀ u H', Same H H' → StAt K H' u s → Q u H'
def spPoss (K : PySem.W.Frag) (c : Addr) : Sp := fun vs H Q _ => ∃ a d v F ls s ms, vs = [.ref a, .ref d, v] ∧ IsFn K c H a F ∧ H d = some (.dK (lenK ls)) ∧ StAt K H v s ∧ F.possible ls s = some ms ∧ ∀ p H', H p = none → Same H H' → H' p = some (.lst (ms.map V.str)) → Q (.ref p) H'
def spFaultOf (K : PySem.W.Frag) (c : Addr) : Sp := fun vs H Q _ => ∃ a v m F s o, vs = [.ref a, v, .str m] ∧ IsFn K c H a F ∧ StAt K H v s ∧ F.faultOf s m = some o ∧ ∀ H', Same H H' → Q (oS o) H'
def spRounds (K : PySem.W.Frag) (c : Addr) : Sp := fun vs H Q _ => ∃ a v m u F s sp rs, vs = [.ref a, v, .str m, u] ∧ IsFn K c H a F ∧ StAt K H v s ∧ Dp K H u (spotD sp) ∧ sp.events.length < 1000 ∧ s.rounds.length < 1000 ∧ F.roundsAfter s m sp = some rs ∧ ∀ r H', Same H H' → RndAt K H' r rs → Q (.ref r) H'
def spStAfter (K : PySem.W.Frag) (c : Addr) : Sp := fun vs H Q _ => ∃ a v m F s t, vs = [.ref a, v, .str m] ∧ IsFn K c H a F ∧ StAt K H v s ∧ s.spot.events.length < 900 ∧ s.rounds.length < 900 ∧ F.stateAfter s m = some t ∧ ∀ u H', Same H H' → StAt K H' u t → Q u H'
end PySem.Fl
end
section
set_option Elab.async false
set_option autoImplicit false
set_option linter.all false
set_option maxRecDepth 100000
set_option maxHeartbeats 4000000
namespace K45
open PySem PySem.Spec PyProof.Rows L2 PySem.OxE LawC PySem.Fl
section
variable {P : Program} {w : World} {K : PySem.W.Frag} {mg : Str → Option Value} {base : Heap} {A0 : Ad}
theorem sv_o {c : Addr} {m : Fn → Nat → Option (Option Nat)} {a : Addr} {F : Fn} {r : Nat} {o : Option Nat} {H : Hp} (hF : IsFn K c H a F) (hm : m F r = some o) : Evl.SpV (spO K c m) [.ref a, .int (r : Int)] H (oI o) := fun H1 e1 Q q E => ⟨a, r, F, o, rfl, hF.same e1, hm, fun H2 e2 => q H2 e2⟩
theorem ok_live_loops (T : Txt P K mg A0) : FnOk P w K mg base CX0 2 A0.f_live_loops A0.fd_live_loops ["function", "spot"] (spLive K A0.c_Function) := by
  have G_loop_of : FnOk P w K mg base CX0 1 A0.f_loop_of A0.fd_loop_of ["function", "row"] (spO K A0.c_Function Fn.loopOf) := ok_loop_of T
  refine T.F_live_loops.ok sc_live_loops (fun vs H Q E h => ?_) (fun cdv A outer s H vs Q E hr h => ?_)
  · obtain ⟨a, v, F, s, ns, rfl, _⟩ := h
    rfl
  · obtain ⟨a, v, F, sp, ns, rfl, hF, hd, hm, hz, k⟩ := h
    refine ⟨_, (pss_cons (ps_set (i := 2) sc_live_loops.nd rfl (Or.inl rfl) (pe_op op_cat (pe_lst (pa_cons (pe_ix ix_tup (pv 1) pe_int (fun _ _ => rfl)) pa_nil)) (pe_lc (own := [("event", 3)]) (g := gName 3) (tt := tYes) (by rfl) sc_live_loops.nd (pi_tup (pe_ix ix_tup (pv 1) pe_int (fun _ _ => rfl))) (blkOk_by (N := ["function", "spot", "rows", "event", "loops", "row", "loop"]) (sc := defScope s_live_loops) (by decide +kernel)) (fun _ _ _ _ _ => (pg_name (i := 3) sc_live_loops.nd rfl (Or.inl rfl))) (fun _ _ _ _ _ => pts_nil) (fun _ _ _ _ _ => (pe_ix (r := rIxT K) ix_tup (pv 3) pe_int (fun _ _ => rfl))))))
 (pss_cons (ps_setLc (i := 4) (own := [("row", 5)]) (g := gName 5) (tt := tYes) rfl sc_live_loops.nd rfl rfl (sw_true rfl rfl rfl (by decide +kernel)) (pi_list (pv 2)) (blkOk_by (N := ["function", "spot", "rows", "event", "loops", "row", "loop"]) (sc := defScope s_live_loops) (by decide +kernel)) (fun _ _ _ _ _ => (pg_name (i := 5) sc_live_loops.nd rfl (Or.inl rfl))) (fun _ _ _ _ _ => pts_nil) (fun _ _ _ _ _ => (pe_call G_loop_of (hr.mono (by decide)) rfl T.m_loop_of T.F_loop_of.kp T.b_loop_of .nil pass0 (pa_cons (pv 0) (pa_cons (pv 5) pa_nil)))))
 (pss_one (ps_ret (pe_callB (cr_sortedSet rfl) (by rfl) T.z_sorted (by decide +kernel) (pa_cons (OxSet.pe_sc (OxSet.kindI _) (own := [("loop", 6)]) (g := gName 6) (by rfl) sc_live_loops.nd (pi_list (pv 4)) (blkOk_by (N := ["function", "spot", "rows", "event", "loops", "row", "loop"]) (sc := defScope s_live_loops) (by decide +kernel)) (fun _ _ _ _ _ => (pg_name (i := 6) sc_live_loops.nd rfl (Or.inl rfl))) (fun _ _ _ _ _ => (pts_one (pt_cmpR op_notN (pv 6) pe_non (nomark _)))) (fun _ _ _ _ _ => (pv 6))) pa_nil)))))), ?_⟩
    have C := T.fc
    obtain ⟨sa, tv, ev, rfl, hs, ht, he⟩ := spot_part hd
    obtain ⟨ev', as, hev, hse, hpe⟩ := evs_part he
    cases hev
    unfold Fn.liveLoops at hm
    obtain ⟨ls, hls, hm⟩ := bs hm
    cases hm
    have hlen := pairL hpe
    have hl2 := loops_len hls
    refine Evl.q_asgL (xs := [.int (sp.row : Int)] ++ intsL (sp.events.map fun e => e.2)) (el_catLL (Evl.el_lst (Evl.ea_cons (ev_ixK (k := 0) (Evl.ev_var rfl) hs rfl) Evl.ea_nil) (by simp)) (el_mapT (xs := as.map V.ref) (ev_ixK (k := 2) (Evl.ev_var rfl) hs rfl) hse (by unfold intsL; simp [hlen]) (by rw [List.length_map, hlen]; omega) (fun x => rfl) fun i x y H1 e1 hx hy => ?_) (by unfold intsL; simp; omega)) fun lr H1 h0 e1 h1 => ?_
    · unfold intsL at hy
      rw [List.map_map, List.getElem?_map] at hy
      obtain ⟨e, he1, he2⟩ := Option.map_eq_some_iff.mp hy
      obtain ⟨ai, ha1, ha2⟩ := pairAt hpe he1
      rw [List.getElem?_map, ha1] at hx
      obtain rfl : V.ref ai = x := Option.some.inj hx
      rw [← he2]
      exact ev_ixK (k := 1) (Evl.ev_var rfl) (Evl.ex_t e1 ha2) rfl
    refine Evl.q_asgL (xs := ls.map oI) (el_mapL (xs := [.int (sp.row : Int)] ++ intsL (sp.events.map fun e => e.2)) (Evl.ev_var rfl) (SqL.of h1) (by unfold intsL; rw [List.length_map, hl2]; simp) (by unfold intsL; simp; omega) (fun x => rfl) fun i x y H2 e2 hx hy => ?_) fun ll H2 h02 e2 h2 => ?_
    · replace hx : ((sp.row :: sp.events.map fun e => e.2).map natV)[i]? = some x := hx
      rw [List.getElem?_map] at hx
      obtain ⟨r, hr1, hr2⟩ := Option.map_eq_some_iff.mp hx
      obtain ⟨o, ho1, ho2⟩ := loops_at hls hr1
      rw [List.getElem?_map, ho1] at hy
      obtain rfl : oI o = y := Option.some.inj hy
      subst hr2
      exact Evl.ev_call (vs := [.ref a, .int (r : Int)]) (Evl.ea_cons (Evl.ev_var rfl) (Evl.ea_cons (Evl.ev_var rfl) Evl.ea_nil)) (sv_o (hF.same (Same.trans e1 e2)) ho2)
    have s2 := Same.trans e1 e2
    have hin : ∀ i b, ls[i]? = some (some b) → b < F.words.length := fun i b hb => by
      have hil := (List.getElem?_eq_some_iff.mp hb).1
      obtain ⟨o, ho1, ho2⟩ := loops_at (i := i) hls (List.getElem?_eq_getElem (by omega))
      rw [hb] at ho1
      cases ho1
      exact loop_lt ho2
    refine ⟨_, rfl, ll, rfl, ⟨_, SqL.of h2⟩, fun Dl hD => ?_⟩
    let seen (i : Nat) : List Nat := (ls.take i).filterMap id
    have seen_none : ∀ i, ls[i]? = some none → seen (i + 1) = seen i := fun i h => by
      show (ls.take (i + 1)).filterMap id = (ls.take i).filterMap id
      rw [List.take_add_one, h, List.filterMap_append]
      simp
    have seen_some : ∀ i b, ls[i]? = some (some b) → seen (i + 1) = seen i ++ [b] := fun i b h => by
      show (ls.take (i + 1)).filterMap id = (ls.take i).filterMap id ++ [b]
      rw [List.take_add_one, h, List.filterMap_append]
      simp
    refine sc_it walk_l (fun i H' => Same H2 H' ∧ ∃ S : Int → Bool, (∀ j : Nat, S j = decide (j ∈ seen i)) ∧ (∀ z : Int, z < 0 → S z = false) ∧ H' Dl = some (SetO w Dl S ((List.range F.words.length).filter (· ∈ seen i)).length)) ⟨Same.new hD, fun _ => false, fun j => by simp [seen], fun z _ => rfl, ?_⟩ (fun i H' _ q => Evl.ex_l q.1 (SqL.of h2)) (fun i x H3 H4 hi q y => ?_) fun H' q => ?_
    · have : ((List.range F.words.length).filter (· ∈ seen 0)).length = 0 := by simp [seen]
      rw [this]
      exact upd_same
    · obtain ⟨q1, S, q2, q3, q4⟩ := q
      obtain ⟨rfl, hx⟩ := y
      rw [List.getElem?_map] at hx
      obtain ⟨o, ho1, rfl⟩ := Option.map_eq_some_iff.mp hx
      refine ⟨rfl, ?_⟩
      refine (et_some (o := o) (Evl.ev_var rfl)) H4 (Evl.Ex.refl _) _ fun H5 e5 => ?_
      cases o with
      | none =>
        rw [if_neg (by decide)]
        refine ⟨Same.trans q1 e5, S, fun j => ?_, q3, ?_⟩
        · rw [seen_none i ho1]; exact q2 j
        · rw [seen_none i ho1]; exact e5 _ _ q4
      | some b =>
        rw [if_pos (show (some b).isSome = true from rfl)]
        have hb := hin i b ho1
        refine ⟨_, rfl, (S, _), _, e5 _ _ q4, ⟨(b : Int), rfl, ?_, rfl⟩, fun c oc hc => ?_, fun j => S j || decide (j = (b : Int)), fun j => ?_, fun z hz => ?_, ?_⟩
        · have := few_le (seen i) F.words.length
          have := hF.few
          show ((List.range F.words.length).filter (· ∈ seen i)).length + 1 < scanBound
          unfold scanBound
          omega
        · rw [upd_ne (ne_of_none hc hD)]
          exact e5 _ _ (q1 c oc hc)
        · show (S (j : Int) || decide ((j : Int) = (b : Int))) = _
          rw [q2 j, seen_some i b ho1]
          have : decide ((j : Int) = (b : Int)) = decide (j = b) := by
            by_cases h : j = b
            · subst h; simp
            · have h2 : ¬ (j : Int) = (b : Int) := by omega
              simp [h, h2]
          rw [this]
          simp
        · show (S z || decide (z = (b : Int))) = false
          rw [q3 z hz]
          have : ¬ z = (b : Int) := by omega
          simp [this]
        · rw [upd_same]
          show some (SetO w Dl _ (if S (b : Int) = true then _ else _)) = _
          rw [seen_some i b ho1]
          have hS : S (b : Int) = decide (b ∈ seen i) := q2 b
          by_cases hm : b ∈ seen i
          · rw [if_pos (show S (b : Int) = true by rw [hS]; exact decide_eq_true hm), few_same hm]
          · rw [if_neg (show ¬ S (b : Int) = true by rw [hS]; simpa using hm), few_add hm _ hb]
    · obtain ⟨q1, S, q2, q3, q4⟩ := q
      have hall : seen (ls.map oI).length = ls.filterMap id := by
        show (ls.take (ls.map oI).length).filterMap id = _
        rw [List.length_map, List.take_of_length_le (Nat.le_refl _)]
      rw [hall] at q2 q4
      refine ⟨Dl, S, _, rfl, q4, by have := few_le (ls.filterMap id) F.words.length; have := hF.few; omega, fun ns' p hn1 hn2 hn3 hp => ?_⟩
      have hns : ns' = (Fn.dedupSort (ls.filterMap id) F.words.length).map fun n : Nat => (n : Int) := by
        refine asc_one hn1 (dedup_asc _ _) fun z => ?_
        rw [hn2 z]
        constructor
        · intro hz
          have h0 : 0 ≤ z := by
            by_cases h : z < 0
            · rw [q3 z h] at hz; cases hz
            · omega
          obtain ⟨n, rfl⟩ := Int.eq_ofNat_of_zero_le h0
          rw [q2 n] at hz
          have hmem := of_decide_eq_true hz
          refine List.mem_map.mpr ⟨n, ?_, rfl⟩
          unfold Fn.dedupSort
          refine List.mem_filter.mpr ⟨List.mem_range.mpr ?_, decide_eq_true hmem⟩
          obtain ⟨o, ho, hid⟩ := List.mem_filterMap.mp hmem
          obtain ⟨i, hi⟩ := List.getElem?_of_mem ho
          cases o with
          | none => cases hid
          | some b =>
            have : b = n := Option.some.inj hid
            rw [← this]
            exact hin i b hi
        · intro hz
          obtain ⟨n, hn, rfl⟩ := List.mem_map.mp hz
          unfold Fn.dedupSort at hn
          rw [q2 n]
          exact (List.mem_filter.mp hn).2
      refine k p _ ?_ (Same.trans (Same.trans s2 q1) (Same.new hp)) ?_
      · exact Evl.fresh_back (Same.trans s2 q1) hp
      · rw [upd_same, hns]
        unfold intsL
        rw [List.map_map]
        rfl
end

end K45
end
section
set_option Elab.async false
set_option autoImplicit false
set_option linter.all false
set_option maxRecDepth 100000
set_option maxHeartbeats 4000000
namespace K45
open PySem PySem.Spec PyProof.Rows L2 PySem.OxE LawC PySem.Fl
theorem isOut_orV {m : Str} : (decide (m = "out") || decide (m = "both")) = isOut m := rfl
section
variable {P : Program} {w : World} {K : PySem.W.Frag} {mg : Str → Option Value} {base : Heap} {A0 : Ad}
theorem ok_is_out (T : Txt P K mg A0) : FnOk P w K mg base CX0 1 A0.f_is_out A0.fd_is_out ["mark"] (spMk isOut) := by
  refine T.F_is_out.ok sc_is_out (fun vs H Q E h => ?_) (fun cdv A outer s H vs Q E hr h => ?_)
  · obtain ⟨m, rfl, _⟩ := h
    rfl
  · obtain ⟨m, rfl, k⟩ := h
    refine ⟨_, (pss_one (ps_ret (pe_or (pe_cmpR op_eq (pv 0) pe_str (nomark _)) (pe_one (pe_cmpR op_eq (pv 0) pe_str (nomark _)))))), ?_⟩
    exact Evl.s_ret (v := .bl (isOut m)) (Evl.ev_orV (Evl.ev_is (Evl.ev_op (Evl.ev_var rfl) Evl.ev_c (Evl.rv_eq rfl)) (by simp)) fun _ => Evl.ev_is (Evl.ev_op (Evl.ev_var rfl) Evl.ev_c (Evl.rv_eq rfl)) (by simp)) fun H1 e1 => k H1 e1
theorem ok_is_in (T : Txt P K mg A0) : FnOk P w K mg base CX0 1 A0.f_is_in A0.fd_is_in ["mark"] (spMk isIn) := by
  refine T.F_is_in.ok sc_is_in (fun vs H Q E h => ?_) (fun cdv A outer s H vs Q E hr h => ?_)
  · obtain ⟨m, rfl, _⟩ := h
    rfl
  · obtain ⟨m, rfl, k⟩ := h
    refine ⟨_, (pss_one (ps_ret (pe_or (pe_cmpR op_eq (pv 0) pe_str (nomark _)) (pe_one (pe_cmpR op_eq (pv 0) pe_str (nomark _)))))), ?_⟩
    exact Evl.s_ret (v := .bl (isIn m)) (Evl.ev_orV (Evl.ev_is (Evl.ev_op (Evl.ev_var rfl) Evl.ev_c (Evl.rv_eq rfl)) (by simp)) fun _ => Evl.ev_is (Evl.ev_op (Evl.ev_var rfl) Evl.ev_c (Evl.rv_eq rfl)) (by simp)) fun H1 e1 => k H1 e1
theorem ok_mark_of (T : Txt P K mg A0) : FnOk P w K mg base CX0 1 A0.f_mark_of A0.fd_mark_of ["sending", "reading"] spMarkOf := by
  refine T.F_mark_of.ok sc_mark_of (fun vs H Q E h => ?_) (fun cdv A outer s H vs Q E hr h => ?_)
  · obtain ⟨a, b, rfl, _⟩ := h
    rfl
  · obtain ⟨a, b, rfl, k⟩ := h
    refine ⟨_, (pss_cons (ps_if (PW.pt (pw_and (pt_val (pv 0)) (pw_and1 (pt_val (pv 1)))))
 (pss_one (ps_ret pe_str))
 pss_nil)
 (pss_cons (ps_if (pt_val (pv 0))
 (pss_one (ps_ret pe_str))
 pss_nil)
 (pss_one (ps_ret (pe_ifExp (pt_val (pv 1)) pe_str pe_str))))), ?_⟩
    refine Evl.q_when (b := a && b) (Evl.et_and (Evl.et_B (Evl.ev_var rfl)) fun _ => Evl.et_B (Evl.ev_var rfl)) (fun h H1 e1 => ?_) (fun h H1 e1 => ?_)
    · exact Evl.s_ret Evl.ev_c fun H2 e2 => by
        have := k H2 (Same.trans e1 e2)
        rw [show markOf a b = "both" from if_pos h] at this
        exact this
    · refine Evl.q_when (b := a) (Evl.et_B (Evl.ev_var rfl)) (fun h1 H2 e2 => ?_) (fun h1 H2 e2 => ?_)
      · exact Evl.s_ret Evl.ev_c fun H3 e3 => by
          have := k H3 (Same.trans (Same.trans e1 e2) e3)
          rw [show markOf a b = "out" by unfold markOf; rw [if_neg (by simp [h]), if_pos h1]] at this
          exact this
      · refine Evl.s_ret (v := .str (if b = true then ("in" : Str) else ("whole" : Str))) (Evl.ev_if (b := b) (Evl.et_B (Evl.ev_var rfl)) (fun h2 => by rw [if_pos h2]; exact Evl.ev_c) (fun h2 => by rw [if_neg (by simp [h2])]; exact Evl.ev_c)) fun H3 e3 => ?_
        have := k H3 (Same.trans (Same.trans e1 e2) e3)
        rw [show markOf a b = (if b = true then ("in" : Str) else ("whole" : Str)) by unfold markOf; rw [if_neg (by simp [h]), if_neg (by simp [h1])]] at this
        exact this
theorem sv_mk {g : Str → Bool} {m : Str} {H : Hp} : Evl.SpV (spMk g) [.str m] H (.bl (g m)) := fun H1 e1 Q q E => ⟨m, rfl, fun H2 e2 => q H2 e2⟩
theorem ok_is_amid (T : Txt P K mg A0) : FnOk P w K mg base CX0 2 A0.f_is_amid A0.fd_is_amid ["word", "mark"] spAmid := by
  have G_is_out : FnOk P w K mg base CX0 1 A0.f_is_out A0.fd_is_out ["mark"] (spMk isOut) := ok_is_out T
  have G_is_in : FnOk P w K mg base CX0 1 A0.f_is_in A0.fd_is_in ["mark"] (spMk isIn) := ok_is_in T
  refine T.F_is_amid.ok sc_is_amid (fun vs H Q E h => ?_) (fun cdv A outer s H vs Q E hr h => ?_)
  · obtain ⟨w, m, rfl, _⟩ := h
    rfl
  · obtain ⟨wd, m, rfl, k⟩ := h
    refine ⟨_, (pss_cons (ps_if (PW.pt (pw_or (pt_cmpR op_eq (pv 0) pe_str (nomark _)) (pw_or1 (pt_cmpR op_eq (pv 0) pe_str (nomark _)))))
 (pss_one (ps_ret (pe_call G_is_out (hr.mono (by decide)) rfl T.m_is_out T.F_is_out.kp T.b_is_out .nil pass0 (pa_cons (pv 1) pa_nil))))
 pss_nil)
 (pss_cons (ps_if (pt_cmpR op_eq (pv 0) pe_str (nomark _))
 (pss_one (ps_ret (pe_not (pe_call G_is_out (hr.mono (by decide)) rfl T.m_is_out T.F_is_out.kp T.b_is_out .nil pass0 (pa_cons (pv 1) pa_nil)))))
 pss_nil)
 (pss_cons (ps_if (PW.pt (pw_or (pt_cmpR op_eq (pv 0) pe_str (nomark _)) (pw_or1 (pt_cmpR op_eq (pv 0) pe_str (nomark _)))))
 (pss_one (ps_ret (pe_call G_is_in (hr.mono (by decide)) rfl T.m_is_in T.F_is_in.kp T.b_is_in .nil pass0 (pa_cons (pv 1) pa_nil))))
 pss_nil)
 (pss_cons (ps_if (pt_cmpR op_eq (pv 0) pe_str (nomark _))
 (pss_one (ps_ret (pe_not (pe_call G_is_in (hr.mono (by decide)) rfl T.m_is_in T.F_is_in.kp T.b_is_in .nil pass0 (pa_cons (pv 1) pa_nil)))))
 pss_nil)
 (pss_one (ps_ret pe_bl)))))), ?_⟩
    have eo : ∀ H1, Evl.Ev (tCall (spMk isOut) [] E0 (tCons (tVar 1) tNil)) [some (.str wd), some (.str m)] H1 (.bl (isOut m)) := fun H1 => Evl.ev_call (vs := [.str m]) (Evl.ea_cons (Evl.ev_var rfl) Evl.ea_nil) sv_mk
    have ei : ∀ H1, Evl.Ev (tCall (spMk isIn) [] E0 (tCons (tVar 1) tNil)) [some (.str wd), some (.str m)] H1 (.bl (isIn m)) := fun H1 => Evl.ev_call (vs := [.str m]) (Evl.ea_cons (Evl.ev_var rfl) Evl.ea_nil) sv_mk
    refine Evl.q_when (b := decide (wd = "ask") || decide (wd = "begin")) (Evl.et_or (Evl.et_test (Evl.ev_is (Evl.ev_op (Evl.ev_var rfl) Evl.ev_c (Evl.rv_eq rfl)) (by simp))) fun _ => Evl.et_test (Evl.ev_is (Evl.ev_op (Evl.ev_var rfl) Evl.ev_c (Evl.rv_eq rfl)) (by simp))) (fun h H1 e1 => ?_) (fun h H1 e1 => ?_)
    · exact Evl.s_ret (eo H1) fun H2 e2 => by
        have := k H2 (Same.trans e1 e2)
        rw [show amid wd m = isOut m from if_pos h] at this
        exact this
    · refine Evl.q_when (b := decide (wd = "finish")) (Evl.et_test (Evl.ev_is (Evl.ev_op (Evl.ev_var rfl) Evl.ev_c (Evl.rv_eq rfl)) (by simp))) (fun h1 H2 e2 => ?_) (fun h1 H2 e2 => ?_)
      · refine Evl.s_ret (Evl.ev_notV (eo H2)) fun H3 e3 => ?_
        have := k H3 (Same.trans (Same.trans e1 e2) e3)
        rw [show amid wd m = !isOut m by unfold amid; rw [if_neg (by simp [h]), if_pos (of_decide_eq_true h1)]] at this
        exact this
      · refine Evl.q_when (b := decide (wd = "read") || decide (wd = "head")) (Evl.et_or (Evl.et_test (Evl.ev_is (Evl.ev_op (Evl.ev_var rfl) Evl.ev_c (Evl.rv_eq rfl)) (by simp))) fun _ => Evl.et_test (Evl.ev_is (Evl.ev_op (Evl.ev_var rfl) Evl.ev_c (Evl.rv_eq rfl)) (by simp))) (fun h2 H3 e3 => ?_) (fun h2 H3 e3 => ?_)
        · exact Evl.s_ret (ei H3) fun H4 e4 => by
            have := k H4 (Same.trans (Same.trans (Same.trans e1 e2) e3) e4)
            rw [show amid wd m = isIn m by unfold amid; rw [if_neg (by simp [h]), if_neg (of_decide_eq_false h1), if_pos h2]] at this
            exact this
        · refine Evl.q_when (b := decide (wd = "body")) (Evl.et_test (Evl.ev_is (Evl.ev_op (Evl.ev_var rfl) Evl.ev_c (Evl.rv_eq rfl)) (by simp))) (fun h3 H4 e4 => ?_) (fun h3 H4 e4 => ?_)
          · refine Evl.s_ret (Evl.ev_notV (ei H4)) fun H5 e5 => ?_
            have := k H5 (Same.trans (Same.trans (Same.trans (Same.trans e1 e2) e3) e4) e5)
            rw [show amid wd m = !isIn m by unfold amid; rw [if_neg (by simp [h]), if_neg (of_decide_eq_false h1), if_neg (by simp [h2]), if_pos (of_decide_eq_true h3)]] at this
            exact this
          · refine Evl.s_ret Evl.ev_c fun H5 e5 => ?_
            have := k H5 (Same.trans (Same.trans (Same.trans (Same.trans e1 e2) e3) e4) e5)
            rw [show amid wd m = false by unfold amid; rw [if_neg (by simp [h]), if_neg (of_decide_eq_false h1), if_neg (by simp [h2]), if_neg (of_decide_eq_false h3)]] at this
            exact this
theorem ok_row_fault (T : Txt P K mg A0) : FnOk P w K mg base CX0 3 A0.f_row_fault A0.fd_row_fault ["word", "mark", "owed"] spFault := by
  have G_is_amid : FnOk P w K mg base CX0 2 A0.f_is_amid A0.fd_is_amid ["word", "mark"] spAmid := ok_is_amid T
  refine T.F_row_fault.ok sc_row_fault (fun vs H Q E h => ?_) (fun cdv A outer s H vs Q E hr h => ?_)
  · obtain ⟨w, m, n, rfl, _⟩ := h
    rfl
  · obtain ⟨wd, m, n, rfl, k⟩ := h
    refine ⟨_, (pss_cons (ps_if (pt_cmpR op_notIn_seq (pv 0) (pe_glob (v := .ref _) rfl T.m_LW rfl) (by first | rfl | with_unfolding_all rfl))
 (pss_one (ps_ret pe_non))
 pss_nil)
 (pss_cons (ps_if (pt_cmpR op_eq (pv 1) pe_str (nomark _))
 (pss_one (ps_ret pe_str))
 pss_nil)
 (pss_cons (ps_if (pt_val (pe_call G_is_amid (hr.mono (by decide)) rfl T.m_is_amid T.F_is_amid.kp T.b_is_amid .nil pass0 (pa_cons (pv 0) (pa_cons (pv 1) pa_nil))))
 (pss_one (ps_ret pe_str))
 pss_nil)
 (pss_cons (ps_if (PW.pt (pw_and (PW.pt (pw_or (pt_cmpR op_eq (pv 0) pe_str (nomark _)) (pw_or1 (pt_cmpR op_eq (pv 0) pe_str (nomark _))))) (pw_and1 (pt_cmpR op_lt (pv 2) pe_int (nomark _)))))
 (pss_one (ps_ret pe_str))
 pss_nil)
 (pss_one (ps_ret pe_non)))))), ?_⟩
    refine Evl.q_when (b := !decide (wd ∈ LW)) (Evl.et_test (Evl.ev_is (Evl.ev_op (Evl.ev_var (v := .str wd) rfl) Evl.ev_c (Evl.rv_niT (T.q_LW _) rfl flat_strs)) (by rw [inV_str]))) (fun h H1 e1 => ?_) (fun h H1 e1 => ?_)
    · refine Evl.s_ret Evl.ev_c fun H2 e2 => ?_
      have := k H2 (Same.trans e1 e2)
      rw [show fault wd m n = none from if_pos (by simpa using h)] at this
      exact this
    · have hw : ¬ wd ∉ LW := by simpa using h
      refine Evl.q_when (b := decide (m = "closed")) (Evl.et_test (Evl.ev_is (Evl.ev_op (Evl.ev_var rfl) Evl.ev_c (Evl.rv_eq rfl)) (by simp))) (fun h1 H2 e2 => ?_) (fun h1 H2 e2 => ?_)
      · refine Evl.s_ret Evl.ev_c fun H3 e3 => ?_
        have := k H3 (Same.trans (Same.trans e1 e2) e3)
        rw [show fault wd m n = some ("closed" : Str) by unfold fault; rw [if_neg hw, if_pos (of_decide_eq_true h1)]] at this
        exact this
      · refine Evl.q_when (b := amid wd m) (Evl.et_B (Evl.ev_call (vs := [.str wd, .str m]) (Evl.ea_cons (Evl.ev_var rfl) (Evl.ea_cons (Evl.ev_var rfl) Evl.ea_nil)) fun H5 e5 Q q E => ⟨wd, m, rfl, fun H6 e6 => q H6 e6⟩)) (fun h2 H3 e3 => ?_) (fun h2 H3 e3 => ?_)
        · refine Evl.s_ret Evl.ev_c fun H4 e4 => ?_
          have := k H4 (Same.trans (Same.trans (Same.trans e1 e2) e3) e4)
          rw [show fault wd m n = some ("amid" : Str) by unfold fault; rw [if_neg hw, if_neg (of_decide_eq_false h1), if_pos h2]] at this
          exact this
        · refine Evl.q_when (b := (decide (wd = "read") || decide (wd = "head")) && decide (n < 1)) (Evl.et_and (Evl.et_or (Evl.et_test (Evl.ev_is (Evl.ev_op (Evl.ev_var rfl) Evl.ev_c (Evl.rv_eq rfl)) (by simp))) fun _ => Evl.et_test (Evl.ev_is (Evl.ev_op (Evl.ev_var rfl) Evl.ev_c (Evl.rv_eq rfl)) (by simp))) fun _ => Evl.et_test (Evl.ev_op (Evl.ev_var rfl) Evl.ev_c Evl.rv_I0)) (fun h3 H4 e4 => ?_) (fun h3 H4 e4 => ?_)
          · refine Evl.s_ret Evl.ev_c fun H5 e5 => ?_
            have := k H5 (Same.trans (Same.trans (Same.trans (Same.trans e1 e2) e3) e4) e5)
            rw [show fault wd m n = some ("starved" : Str) by unfold fault; rw [if_neg hw, if_neg (of_decide_eq_false h1), if_neg (by simp [h2]), if_pos h3]] at this
            exact this
          · refine Evl.s_ret Evl.ev_c fun H5 e5 => ?_
            have := k H5 (Same.trans (Same.trans (Same.trans (Same.trans e1 e2) e3) e4) e5)
            rw [show fault wd m n = none by unfold fault; rw [if_neg hw, if_neg (of_decide_eq_false h1), if_neg (by simp [h2]), if_neg (by simp [h3])]] at this
            exact this
theorem ok_mark_after (T : Txt P K mg A0) : FnOk P w K mg base CX0 2 A0.f_mark_after A0.fd_mark_after ["word", "mark"] spAfter := by
  have G_is_out : FnOk P w K mg base CX0 1 A0.f_is_out A0.fd_is_out ["mark"] (spMk isOut) := ok_is_out T
  have G_is_in : FnOk P w K mg base CX0 1 A0.f_is_in A0.fd_is_in ["mark"] (spMk isIn) := ok_is_in T
  have G_mark_of : FnOk P w K mg base CX0 1 A0.f_mark_of A0.fd_mark_of ["sending", "reading"] spMarkOf := ok_mark_of T
  refine T.F_mark_after.ok sc_mark_after (fun vs H Q E h => ?_) (fun cdv A outer s H vs Q E hr h => ?_)
  · obtain ⟨w, m, rfl, _⟩ := h
    rfl
  · obtain ⟨wd, m, rfl, k⟩ := h
    refine ⟨_, (pss_cons (ps_if (PW.pt (pw_or (pt_cmpR op_eq (pv 1) pe_str (nomark _)) (pw_or1 (pt_cmpR op_eq (pv 0) pe_str (nomark _)))))
 (pss_one (ps_ret pe_str))
 pss_nil)
 (pss_cons (ps_if (pt_cmpR op_eq (pv 0) pe_str (nomark _))
 (pss_one (ps_ret (pe_call G_mark_of (hr.mono (by decide)) rfl T.m_mark_of T.F_mark_of.kp T.b_mark_of .nil pass0 (pa_cons pe_bl (pa_cons (pe_call G_is_in (hr.mono (by decide)) rfl T.m_is_in T.F_is_in.kp T.b_is_in .nil pass0 (pa_cons (pv 1) pa_nil)) pa_nil)))))
 pss_nil)
 (pss_cons (ps_if (pt_cmpR op_eq (pv 0) pe_str (nomark _))
 (pss_one (ps_ret (pe_call G_mark_of (hr.mono (by decide)) rfl T.m_mark_of T.F_mark_of.kp T.b_mark_of .nil pass0 (pa_cons pe_bl (pa_cons (pe_call G_is_in (hr.mono (by decide)) rfl T.m_is_in T.F_is_in.kp T.b_is_in .nil pass0 (pa_cons (pv 1) pa_nil)) pa_nil)))))
 pss_nil)
 (pss_cons (ps_if (pt_cmpR op_eq (pv 0) pe_str (nomark _))
 (pss_one (ps_ret (pe_call G_mark_of (hr.mono (by decide)) rfl T.m_mark_of T.F_mark_of.kp T.b_mark_of .nil pass0 (pa_cons (pe_call G_is_out (hr.mono (by decide)) rfl T.m_is_out T.F_is_out.kp T.b_is_out .nil pass0 (pa_cons (pv 1) pa_nil)) (pa_cons pe_bl pa_nil)))))
 pss_nil)
 (pss_cons (ps_if (PW.pt (pw_or (pt_cmpR op_eq (pv 0) pe_str (nomark _)) (pw_or1 (pt_cmpR op_eq (pv 0) pe_str (nomark _)))))
 (pss_one (ps_ret (pe_call G_mark_of (hr.mono (by decide)) rfl T.m_mark_of T.F_mark_of.kp T.b_mark_of .nil pass0 (pa_cons (pe_call G_is_out (hr.mono (by decide)) rfl T.m_is_out T.F_is_out.kp T.b_is_out .nil pass0 (pa_cons (pv 1) pa_nil)) (pa_cons pe_bl pa_nil)))))
 pss_nil)
 (pss_one (ps_ret (pv 1)))))))), ?_⟩
    have eo : ∀ H1, Evl.Ev (tCall (spMk isOut) [] E0 (tCons (tVar 1) tNil)) [some (.str wd), some (.str m)] H1 (.bl (isOut m)) := fun H1 => Evl.ev_call (vs := [.str m]) (Evl.ea_cons (Evl.ev_var rfl) Evl.ea_nil) sv_mk
    have ei : ∀ H1, Evl.Ev (tCall (spMk isIn) [] E0 (tCons (tVar 1) tNil)) [some (.str wd), some (.str m)] H1 (.bl (isIn m)) := fun H1 => Evl.ev_call (vs := [.str m]) (Evl.ea_cons (Evl.ev_var rfl) Evl.ea_nil) sv_mk
    have em : ∀ {ta tb : TE} {H1 : Hp} (a b : Bool), (∀ H2, Evl.Ev ta [some (.str wd), some (.str m)] H2 (.bl a)) → (∀ H2, Evl.Ev tb [some (.str wd), some (.str m)] H2 (.bl b)) → Evl.Ev (tCall spMarkOf [] E0 (tCons ta (tCons tb tNil))) [some (.str wd), some (.str m)] H1 (.str (markOf a b)) := fun a b ha hb =>
      Evl.ev_call (vs := [.bl a, .bl b]) (Evl.ea_cons (ha _) (Evl.ea_cons (hb _) Evl.ea_nil)) fun H5 e5 Q q E => ⟨a, b, rfl, fun H6 e6 => q H6 e6⟩
    have ew : ∀ (u : Str) H1, Evl.EvT (tTest (tOp _ (tVar 0) (tC (.str u)))) [some (.str wd), some (.str m)] H1 (decide (wd = u)) := fun u H1 => Evl.et_test (Evl.ev_is (Evl.ev_op (Evl.ev_var rfl) Evl.ev_c (Evl.rv_eq rfl)) (by simp))
    refine Evl.q_when (b := decide (m = "closed") || decide (wd = "close")) (Evl.et_or (Evl.et_test (Evl.ev_is (Evl.ev_op (Evl.ev_var rfl) Evl.ev_c (Evl.rv_eq rfl)) (by simp))) fun _ => ew _ _) (fun h H1 e1 => ?_) (fun h H1 e1 => ?_)
    · refine Evl.s_ret Evl.ev_c fun H2 e2 => ?_
      have := k H2 (Same.trans e1 e2)
      rw [show after wd m = "closed" from if_pos h] at this
      exact this
    · have h' : ¬ (decide (m = "closed") || decide (wd = "close")) = true := by simp [h]
      refine Evl.q_when (b := decide (wd = "begin")) (ew _ _) (fun h1 H2 e2 => ?_) (fun h1 H2 e2 => ?_)
      · refine Evl.s_ret (em true (isIn m) (fun _ => Evl.ev_c) ei) fun H3 e3 => ?_
        have := k H3 (Same.trans (Same.trans e1 e2) e3)
        rw [show after wd m = markOf true (isIn m) by unfold after; rw [if_neg h', if_pos (of_decide_eq_true h1)]] at this
        exact this
      · refine Evl.q_when (b := decide (wd = "finish")) (ew _ _) (fun h2 H3 e3 => ?_) (fun h2 H3 e3 => ?_)
        · refine Evl.s_ret (em false (isIn m) (fun _ => Evl.ev_c) ei) fun H4 e4 => ?_
          have := k H4 (Same.trans (Same.trans (Same.trans e1 e2) e3) e4)
          rw [show after wd m = markOf false (isIn m) by unfold after; rw [if_neg h', if_neg (of_decide_eq_false h1), if_pos (of_decide_eq_true h2)]] at this
          exact this
        · refine Evl.q_when (b := decide (wd = "head")) (ew _ _) (fun h3 H4 e4 => ?_) (fun h3 H4 e4 => ?_)
          · refine Evl.s_ret (em (isOut m) true eo (fun _ => Evl.ev_c)) fun H5 e5 => ?_
            have := k H5 (Same.trans (Same.trans (Same.trans (Same.trans e1 e2) e3) e4) e5)
            rw [show after wd m = markOf (isOut m) true by unfold after; rw [if_neg h', if_neg (of_decide_eq_false h1), if_neg (of_decide_eq_false h2), if_pos (of_decide_eq_true h3)]] at this
            exact this
          · refine Evl.q_when (b := decide (wd = "body") || decide (wd = "drain")) (Evl.et_or (ew _ _) fun _ => ew _ _) (fun h4 H5 e5 => ?_) (fun h4 H5 e5 => ?_)
            · refine Evl.s_ret (em (isOut m) false eo (fun _ => Evl.ev_c)) fun H6 e6 => ?_
              have := k H6 (Same.trans (Same.trans (Same.trans (Same.trans (Same.trans e1 e2) e3) e4) e5) e6)
              rw [show after wd m = markOf (isOut m) false by unfold after; rw [if_neg h', if_neg (of_decide_eq_false h1), if_neg (of_decide_eq_false h2), if_neg (of_decide_eq_false h3), if_pos h4]] at this
              exact this
            · refine Evl.s_ret (Evl.ev_var rfl) fun H6 e6 => ?_
              have := k H6 (Same.trans (Same.trans (Same.trans (Same.trans (Same.trans e1 e2) e3) e4) e5) e6)
              rw [show after wd m = m by unfold after; rw [if_neg h', if_neg (of_decide_eq_false h1), if_neg (of_decide_eq_false h2), if_neg (of_decide_eq_false h3), if_neg (by simp [h4])]] at this
              exact this
end

section
variable {P : Program} {w : World} {K : PySem.W.Frag} {mg : Str → Option Value} {base : Heap} {A0 : Ad}
theorem ok_owed_change (T : Txt P K mg A0) : FnOk P w K mg base CX0 1 A0.f_owed_change A0.fd_owed_change ["word"] spChange := by
  refine T.F_owed_change.ok sc_owed_change (fun vs H Q E h => ?_) (fun cdv A outer s H vs Q E hr h => ?_)
  · obtain ⟨m, rfl, _⟩ := h
    rfl
  · obtain ⟨wd, rfl, k⟩ := h
    refine ⟨_, (pss_cons (ps_if (PW.pt (pw_or (pt_cmpR op_eq (pv 0) pe_str (nomark _)) (pw_or1 (pt_cmpR op_eq (pv 0) pe_str (nomark _)))))
 (pss_one (ps_ret pe_int))
 pss_nil)
 (pss_cons (ps_if (PW.pt (pw_or (pt_cmpR op_eq (pv 0) pe_str (nomark _)) (pw_or1 (pt_cmpR op_eq (pv 0) pe_str (nomark _)))))
 (pss_one (ps_ret (pe_un un_neg pe_int)))
 pss_nil)
 (pss_one (ps_ret pe_int)))), ?_⟩
    unfold change at k
    refine Evl.q_when (Evl.et_or (b := decide (wd = "finish")) (et_eqS (Evl.ev_var rfl) Evl.ev_c) fun _ => et_eqS (Evl.ev_var rfl) Evl.ev_c) (fun h H1 e1 => ?_) (fun h H1 e1 => ?_)
    · rw [if_pos h] at k
      exact Evl.s_ret Evl.ev_c fun H2 e2 => k H2 (Same.trans e1 e2)
    · rw [if_neg (by simp [h])] at k
      refine Evl.q_when (Evl.et_or (b := decide (wd = "body")) (et_eqS (Evl.ev_var rfl) Evl.ev_c) fun _ => et_eqS (Evl.ev_var rfl) Evl.ev_c) (fun h H2 e2 => ?_) (fun h H2 e2 => ?_)
      · rw [if_pos h] at k
        exact Evl.s_ret (Evl.ev_un Evl.ev_c Evl.ru_neg) fun H3 e3 => k H3 (Same.trans (Same.trans e1 e2) e3)
      · rw [if_neg (by simp [h])] at k
        exact Evl.s_ret Evl.ev_c fun H3 e3 => k H3 (Same.trans (Same.trans e1 e2) e3)
theorem ok_resets (T : Txt P K mg A0) : FnOk P w K mg base CX0 1 A0.f_resets A0.fd_resets ["word"] (spMk resets) := by
  refine T.F_resets.ok sc_resets (fun vs H Q E h => ?_) (fun cdv A outer s H vs Q E hr h => ?_)
  · obtain ⟨m, rfl, _⟩ := h
    rfl
  · obtain ⟨wd, rfl, k⟩ := h
    refine ⟨_, (pss_one (ps_ret (pe_or (pe_cmpR op_eq (pv 0) pe_str (nomark _)) (pe_one (pe_cmpR op_eq (pv 0) pe_str (nomark _)))))), ?_⟩
    exact Evl.s_ret (v := .bl (resets wd)) (Evl.ev_orV (ev_eqS (Evl.ev_var rfl) Evl.ev_c) fun _ => ev_eqS (Evl.ev_var rfl) Evl.ev_c) fun H1 e1 => k H1 e1
theorem ok_way_of (T : Txt P K mg A0) : FnOk P w K mg base CX0 1 A0.f_way_of A0.fd_way_of ["function", "spot"] (spWay K A0.c_Function) := by
  refine T.F_way_of.ok sc_way_of (fun vs H Q E h => ?_) (fun cdv A outer s H vs Q E hr h => ?_)
  · obtain ⟨a, v, F, s, rfl, _⟩ := h
    rfl
  · obtain ⟨a, v, F, sp, rfl, hF, hd, hz, k⟩ := h
    refine ⟨_, (pss_cons (ps_if (pt_cmpR op_lt (pe_ix ix_tup (pv 1) pe_int (fun _ _ => rfl)) (pe_callB call_len (by rfl) T.z_len PySem.boot_len (pa_cons (pe_fld (pv 0) rfl) pa_nil)) (nomark _))
 (pss_one (ps_ret pe_non))
 pss_nil)
 (pss_one (ps_ret (pe_ifExp (pt_cmpR op_gt (pe_callB call_len (by rfl) T.z_len PySem.boot_len (pa_cons (pe_ix ix_tup (pv 1) pe_int (fun _ _ => rfl)) pa_nil)) pe_int (nomark _)) (pe_ix ix_tup (pe_ix ix_tup (pv 1) pe_int (fun _ _ => rfl)) (pe_un un_neg pe_int) (fun _ _ => rfl)) (pe_tup pa_nil))))), ?_⟩
    have C := T.fc
    obtain ⟨sa, tv, ev, rfl, hs, ht, he⟩ := spot_part hd
    obtain ⟨ev', as, hev, hse, hpe⟩ := evs_part he
    cases hev
    have hlen := pairL hpe
    unfold Fn.wayOf at k
    refine Evl.q_when (et_ltN (ev_ixK (k := 0) (Evl.ev_var rfl) hs rfl) (ev_lenW hF C (Evl.ev_var rfl))) (fun h H1 e1 => ?_) (fun h H1 e1 => ?_)
    · rw [if_pos (of_decide_eq_true h)] at k
      exact Evl.s_ret Evl.ev_c fun H2 e2 => k _ H2 (Same.trans e1 e2) .non
    · rw [if_neg (of_decide_eq_false h)] at k
      cases hl : sp.events.getLast? with
      | none =>
        rw [hl] at k
        have h0 : sp.events = [] := by
          cases hz2 : sp.events with
          | nil => rfl
          | cons x xs => rw [hz2] at hl; simp at hl
        refine s_retD (d := .tuple []) (evd_if (b := false) (Evl.et_is (et_gtI (ev_lenT (ev_ixK (k := 2) (Evl.ev_var rfl) (Evl.ex_t e1 hs) rfl) (Evl.ex_t e1 hse)) Evl.ev_c) (by rw [List.length_map, hlen, h0]; rfl)) (fun z => by cases z) fun _ => evd_tup evds_nil (by simp)) fun u H2 e2 hu => k u H2 (Same.trans e1 e2) hu
      | some e =>
        rw [hl] at k
        have hne : sp.events ≠ [] := fun z => by rw [z] at hl; cases hl
        have hpos : 0 < sp.events.length := List.length_pos_iff.mpr hne
        obtain ⟨ae, ha1, ha2⟩ := pairAt hpe (show sp.events[sp.events.length - 1]? = some e by rw [← List.getLast?_eq_getElem?]; exact hl)
        have hlast : (as.map V.ref).getLast? = some (V.ref ae) := by rw [List.getLast?_eq_getElem?, List.length_map, hlen, List.getElem?_map, ha1]; rfl
        refine s_retD (d := evD e) (evd_if (b := true) (Evl.et_is (et_gtI (ev_lenT (ev_ixK (k := 2) (Evl.ev_var rfl) (Evl.ex_t e1 hs) rfl) (Evl.ex_t e1 hse)) Evl.ev_c) (by rw [List.length_map, hlen]; simpa using hpos)) (fun _ => evd_of (ev_ixE (ev_ixK (k := 2) (Evl.ev_var rfl) (Evl.ex_t e1 hs) rfl) (Evl.ex_t e1 hse) hlast) (ev_dp (Evl.ex_t e1 ha2))) (fun z => by cases z)) fun u H2 e2 hu => k u H2 (Same.trans e1 e2) hu
theorem ok_reason_of (T : Txt P K mg A0) : FnOk P w K mg base CX0 1 A0.f_reason_of A0.fd_reason_of ["way"] (spReason K) := by
  refine T.F_reason_of.ok sc_reason_of (fun vs H Q E h => ?_) (fun cdv A outer s H vs Q E hr h => ?_)
  · obtain ⟨v, wy, rfl, _⟩ := h
    rfl
  · obtain ⟨v, wy, rfl, hd, k⟩ := h
    refine ⟨_, (pss_cons (ps_if (PW.pt (pw_or (pt_cmpR op_eq (pe_callB call_len (by rfl) T.z_len PySem.boot_len (pa_cons (pv 0) pa_nil)) pe_int (nomark _)) (pw_or1 (pt_cmpR op_eq (pe_ix ix_tup (pv 0) pe_int (fun _ _ => rfl)) pe_str (nomark _)))))
 (pss_one (ps_ret pe_str))
 pss_nil)
 (pss_one (ps_ret (pe_ix ix_tup (pv 0) pe_int (fun _ _ => rfl))))), ?_⟩
    cases wy with
    | nil =>
      obtain ⟨t, vs, rfl, hs, hv⟩ := dp_tup (ds := []) hd
      obtain rfl := dp_nil hv
      refine Evl.q_when (b := true) (Evl.et_is (Evl.et_or (b := false) (Evl.et_test (Evl.ev_is (Evl.ev_op (ev_lenT (Evl.ev_var rfl) hs) Evl.ev_c (Evl.rv_eq rfl)) rfl)) fun z => by simp at z) (by simp)) (fun _ H1 e1 => ?_) (fun z => by cases z)
      exact Evl.s_ret Evl.ev_c fun H2 e2 => k H2 (Same.trans e1 e2)
    | cons e es =>
      obtain ⟨t, rfl, hs⟩ := ev_part (e := e) hd
      rw [show reason (e :: es) = (if e.1 = "return" then ("end" : Str) else e.1) from rfl] at k
      refine Evl.q_when (b := decide (e.1 = "return")) (Evl.et_is (Evl.et_or (a := false) (b := decide (e.1 = "return")) (Evl.et_test (Evl.ev_is (Evl.ev_op (ev_lenT (Evl.ev_var rfl) hs) Evl.ev_c (Evl.rv_eq rfl)) (by simp))) fun _ => et_eqS (ev_ixK (k := 0) (Evl.ev_var rfl) hs rfl) Evl.ev_c) (by simp)) (fun h H1 e1 => ?_) (fun h H1 e1 => ?_)
      · rw [if_pos (of_decide_eq_true h)] at k
        exact Evl.s_ret Evl.ev_c fun H2 e2 => k H2 (Same.trans e1 e2)
      · rw [if_neg (of_decide_eq_false h)] at k
        exact Evl.s_ret (ev_ixK (k := 0) (Evl.ev_var rfl) (Evl.ex_t e1 hs) rfl) fun H2 e2 => k H2 (Same.trans e1 e2)
end

end K45
end
section
set_option Elab.async false
set_option autoImplicit false
set_option linter.all false
set_option maxRecDepth 100000
set_option maxHeartbeats 4000000
namespace K45
open PySem PySem.Spec PyProof.Rows L2 PySem.OxE LawC PySem.Fl

section
variable {P : Program} {w : World} {K : PySem.W.Frag} {mg : Str → Option Value} {base : Heap} {A0 : Ad}
theorem ok_first_state (T : Txt P K mg A0) : FnOk P w K mg base CX0 5 A0.f_first_state A0.fd_first_state ["function", "mark", "owed"] (spFirstSt K A0.c_Function) := by
  have G_first_spot : FnOk P w K mg base CX0 4 A0.f_first_spot A0.fd_first_spot ["function"] (spFirst K A0.c_Function) := ok_first_spot T
  refine T.F_first_state.ok sc_first_state (fun vs H Q E h => ?_) (fun cdv A outer s H vs Q E hr h => ?_)
  · obtain ⟨a, m, n, F, s, rfl, _⟩ := h
    rfl
  · obtain ⟨a, m, n, F, st, rfl, hF, hm, k⟩ := h
    refine ⟨_, (pss_one (ps_ret (pe_tup (pa_cons (pe_call G_first_spot (hr.mono (by decide)) rfl T.m_first_spot T.F_first_spot.kp T.b_first_spot .nil pass0 (pa_cons (pv 0) pa_nil)) (pa_cons (OxDT.pe_tupF pa_nil) (pa_cons (pv 1) (pa_cons (pv 2) (pa_cons pe_int (pa_cons pe_int pa_nil))))))))), ?_⟩
    unfold Fn.firstState at hm
    obtain ⟨sp, hsp, hm⟩ := bs hm
    cases hm
    refine ⟨_, rfl, a, F, sp, rfl, hF, hsp, fun u H1 s1 hu => ?_⟩
    refine ⟨by show 0 ≤ sizeLine; decide, fun r o hr0 ho => ⟨_, rfl, _, rfl, by show 6 ≤ sizeLine; decide, fun p hp => ?_⟩⟩
    have s2 := Same.new (o := .frz o (.tup [])) hr0
    have s3 := Same.new (o := .tup [u, .ref r, .str m, .int n, .int 0, .int 0]) hp
    refine k _ _ (Same.trans (Same.trans s1 s2) s3) ⟨p, u, r, rfl, SqT.of upd_same, hu.mono (Same.trans s2 s3), [], ⟨o, [], s3 _ _ upd_same, ho⟩, Evl.ex_t s3 (.inl (.inr ⟨o, upd_same⟩)), .nil⟩
theorem ok_fault_of (T : Txt P K mg A0) : FnOk P w K mg base CX0 4 A0.f_fault_of A0.fd_fault_of ["function", "state", "move"] (spFaultOf K A0.c_Function) := by
  have G_row_fault : FnOk P w K mg base CX0 3 A0.f_row_fault A0.fd_row_fault ["word", "mark", "owed"] spFault := ok_row_fault T
  refine T.F_fault_of.ok sc_fault_of (fun vs H Q E h => ?_) (fun cdv A outer s H vs Q E hr h => ?_)
  · obtain ⟨a, v, m, F, s, o, rfl, _⟩ := h
    rfl
  · obtain ⟨a, v, mv, F, st, o, rfl, hF, hst, hm, k⟩ := h
    refine ⟨_, (pss_cons (ps_if (pt_cmpR op_ne (pv 2) pe_str (nomark _))
 (pss_one (ps_ret pe_non))
 pss_nil)
 (pss_cons (ps_par3 (i := 3) (j := 4) (l := 5) (by rfl) sc_fault_of.nd rfl rfl rfl (by decide) (by decide) (by decide) rfl rfl rfl (pa_cons (pe_ix ix_tup (pe_fld (pv 0) rfl) (pe_ix ix_tup (pe_ix ix_tup (pv 1) pe_int (fun _ _ => rfl)) pe_int (fun _ _ => rfl)) (fun _ _ => rfl)) (pa_cons (pe_ix ix_tup (pv 1) pe_int (fun _ _ => rfl)) (pa_cons (pe_ix ix_tup (pv 1) pe_int (fun _ _ => rfl)) pa_nil))) (by rfl))
 (pss_cons (ps_if (pt_cmpR op_eq (pv 3) pe_str (nomark _))
 (pss_cons (ps_set (i := 6) sc_fault_of.nd rfl (Or.inl rfl) (pe_or (pe_cmpR op_eq (pv 4) pe_str (nomark _)) (pe_one (pe_and (pe_cmpR op_eq (pv 4) pe_str (nomark _)) (pe_one (pe_cmpR op_eq (pv 5) pe_int (nomark _)))))))
 (pss_one (ps_ret (pe_ifExp (pt_val (pv 6)) pe_non pe_str))))
 pss_nil)
 (pss_one (ps_ret (pe_call G_row_fault (hr.mono (by decide)) rfl T.m_row_fault T.F_row_fault.kp T.b_row_fault .nil pass0 (pa_cons (pv 3) (pa_cons (pv 4) (pa_cons (pv 5) pa_nil))))))))), ?_⟩
    have C := T.fc
    obtain ⟨sa, sv, rr, rfl, hs, hsp, hrn⟩ := hst
    obtain ⟨pa, tv, ev, rfl, hps, _, _⟩ := spot_part hsp
    unfold Fn.faultOf at hm
    refine Evl.q_when (et_neS (Evl.ev_var rfl) Evl.ev_c) (fun h H1 e1 => ?_) (fun h H1 e1 => ?_)
    · rw [if_pos (by simpa using h)] at hm
      cases hm
      exact Evl.s_ret Evl.ev_c fun H2 e2 => k H2 (Same.trans e1 e2)
    · rw [if_neg (by simpa using h)] at hm
      obtain ⟨wd, hw, hm⟩ := bs hm
      refine q_par3 (Evl.ea_cons (ev_word (hF.same e1) C (Evl.ev_var rfl) (ev_ixK (k := 0) (ev_ixK (k := 0) (Evl.ev_var rfl) (Evl.ex_t e1 hs) rfl) (Evl.ex_t e1 hps) rfl) hw) (Evl.ea_cons (x := .str st.mark) (ev_ixK (k := 2) (Evl.ev_var rfl) (Evl.ex_t e1 hs) rfl) (Evl.ea_cons (x := .int st.owed) (ev_ixK (k := 3) (Evl.ev_var rfl) (Evl.ex_t e1 hs) rfl) Evl.ea_nil))) fun H2 e2 => ?_
      have s2 := Same.trans e1 e2
      refine Evl.q_when (et_eqS (Evl.ev_var rfl) Evl.ev_c) (fun h H3 e3 => ?_) (fun h H3 e3 => ?_)
      · rw [if_pos (of_decide_eq_true h)] at hm
        cases hm
        refine Evl.q_asg (v := .bl (decide (st.mark = "closed") || (decide (st.mark = "whole") && decide (st.owed = 0)))) (Evl.ev_orV (ev_eqS (Evl.ev_var rfl) Evl.ev_c) fun _ => Evl.ev_andV (ev_eqS (Evl.ev_var rfl) Evl.ev_c) fun _ => ev_eqI (Evl.ev_var rfl) Evl.ev_c) fun H4 e4 => ?_
        refine Evl.s_ret (v := oS (if (decide (st.mark = "closed") || (decide (st.mark = "whole") && decide (st.owed = 0))) then none else some "stale")) (Evl.ev_if (Evl.et_B (Evl.ev_var rfl)) (fun z => ?_) (fun z => ?_)) fun H5 e5 => k H5 (Same.trans (Same.trans (Same.trans s2 e3) e4) e5)
        · rw [if_pos z]; exact Evl.ev_c
        · rw [if_neg (by simp [z])]; exact Evl.ev_c
      · rw [if_neg (of_decide_eq_false h)] at hm
        cases hm
        exact Evl.s_ret (Evl.ev_call (vs := [.str wd, .str st.mark, .int st.owed]) (Evl.ea_cons (Evl.ev_var rfl) (Evl.ea_cons (Evl.ev_var rfl) (Evl.ea_cons (Evl.ev_var rfl) Evl.ea_nil))) fun H4 e4 Q4 q4 E4 => ⟨wd, st.mark, st.owed, rfl, fun H5 e5 => q4 H5 e5⟩) fun H4 e4 => k H4 (Same.trans (Same.trans s2 e3) e4)
theorem ok_possible (T : Txt P K mg A0) : FnOk P w K mg base CX0 3 A0.f_possible A0.fd_possible ["function", "lengths", "state"] (spPoss K A0.c_Function) := by
  have G_moves_of : FnOk P w K mg base CX0 2 A0.f_moves_of A0.fd_moves_of ["function", "row"] (spMoves K A0.c_Function) := ok_moves_of T
  refine T.F_possible.ok sc_possible (fun vs H Q E h => ?_) (fun cdv A outer s H vs Q E hr h => ?_)
  · obtain ⟨a, d, v, F, ls, s, ms, rfl, _⟩ := h
    rfl
  · obtain ⟨a, d, v, F, ls, st, ms, rfl, hF, hd, hst, hm, k⟩ := h
    refine ⟨_, (pss_cons (ps_set (i := 3) sc_possible.nd rfl (Or.inl rfl) (pe_ix ix_tup (pe_ix ix_tup (pv 2) pe_int (fun _ _ => rfl)) pe_int (fun _ _ => rfl)))
 (pss_cons (ps_if (pt_cmpR op_eq (pv 3) (pe_callB call_len (by rfl) T.z_len PySem.boot_len (pa_cons (pe_fld (pv 0) rfl) pa_nil)) (nomark _))
 (pss_one (ps_ret (pe_lst pa_nil)))
 pss_nil)
 (pss_cons (ps_set (i := 4) sc_possible.nd rfl (Or.inl rfl) (pe_ix ix_tup (pe_fld (pv 0) rfl) (pv 3) (fun _ _ => rfl)))
 (pss_cons (ps_if (pt_cmpR op_eq (pv 4) pe_str (nomark _))
 (pss_one (ps_ret (pe_lst (pa_cons (pe_ifExp (pt_cmpR op_gt (pe_dget (hu_of hr) (pv 1) (pe_ix ix_tup (pe_fld (pv 0) rfl) (pv 3) (fun _ _ => rfl)) (fun _ _ => rfl)) pe_int (nomark _)) pe_str pe_str) pa_nil))))
 pss_nil)
 (pss_cons (ps_if (pt_cmpR op_eq (pv 4) pe_str (nomark _))
 (pss_cons (ps_set (i := 5) sc_possible.nd rfl (Or.inl rfl) (pe_ix ix_tup (pe_fld (pv 0) rfl) (pv 3) (fun _ _ => rfl)))
 (pss_cons (ps_set (i := 6) sc_possible.nd rfl (Or.inl rfl) (pe_dget (hu_of hr) (pe_callTy (OxDT.call_dictT rfl) (by rfl) T.z_dict (by decide +kernel) (pa_cons (pe_ix ix_tup (pv 2) pe_int (fun _ _ => rfl)) pa_nil)) (pv 5) (fun _ _ => rfl)))
 (pss_one (ps_ret (pe_lst (pa_cons (pe_ifExp (pt_cmpR op_lt (pe_op op_add (pv 6) pe_int) (pe_dget (hu_of hr) (pv 1) (pe_ix ix_tup (pe_fld (pv 0) rfl) (pv 5) (fun _ _ => rfl)) (fun _ _ => rfl)) (nomark _)) pe_str pe_str) pa_nil))))))
 pss_nil)
 (pss_one (ps_ret (pe_call G_moves_of (hr.mono (by decide)) rfl T.m_moves_of T.F_moves_of.kp T.b_moves_of .nil pass0 (pa_cons (pv 0) (pa_cons (pv 3) pa_nil)))))))))), ?_⟩
    have C := T.fc
    obtain ⟨sa, sv, rr, rfl, hs, hsp, hrn⟩ := hst
    obtain ⟨pa, tv, ev, rfl, hps, _, _⟩ := spot_part hsp
    unfold Fn.possible at hm
    refine Evl.q_asg (v := .int (st.spot.row : Int)) (ev_ixK (k := 0) (ev_ixK (k := 0) (Evl.ev_var rfl) hs rfl) hps rfl) fun H1 e1 => ?_
    refine Evl.q_when (et_eqN (Evl.ev_var rfl) (ev_lenW (hF.same e1) C (Evl.ev_var rfl))) (fun h H2 e2 => ?_) (fun h H2 e2 => ?_)
    · rw [if_pos (of_decide_eq_true h)] at hm
      cases hm
      exact Evl.s_retL (Evl.el_lst Evl.ea_nil (by simp)) fun p H3 h0 e3 h3 => k p H3 (Evl.fresh_back e1 (Evl.fresh_back e2 h0)) (Same.trans (Same.trans e1 e2) e3) h3
    rw [if_neg (of_decide_eq_false h)] at hm
    obtain ⟨wd, hw, hm⟩ := bs hm
    have s2 := Same.trans e1 e2
    refine Evl.q_asg (ev_word (hF.same s2) C (Evl.ev_var rfl) (Evl.ev_var rfl) hw) fun H3 e3 => ?_
    have s3 := Same.trans s2 e3
    refine Evl.q_when (et_eqS (Evl.ev_var rfl) Evl.ev_c) (fun h H4 e4 => ?_) (fun h H4 e4 => ?_)
    · rw [if_pos (of_decide_eq_true h)] at hm
      obtain ⟨nm, hnm, hm⟩ := bs2 hm
      obtain ⟨l, hl, hm⟩ := bs hm
      cases hm
      have s4 := Same.trans s3 e4
      refine Evl.s_retL (xs := [.str (if l > 0 then "item" else "over")]) (Evl.el_lst (Evl.ea_cons (Evl.ev_if (b := decide (0 < l)) (et_gtI (ev_len1 (s4 _ _ hd) (Evl.ev_var rfl) (ev_name (hF.same s4) C (Evl.ev_var rfl) (Evl.ev_var rfl) hnm) hl) Evl.ev_c) (fun z => ?_) (fun z => ?_)) Evl.ea_nil) (by simp)) fun p H5 h0 e5 h5 => k p H5 (Evl.fresh_back s4 h0) (Same.trans s4 e5) h5
      · rw [if_pos (of_decide_eq_true z)]; exact Evl.ev_c
      · rw [if_neg (of_decide_eq_false z)]; exact Evl.ev_c
    rw [if_neg (of_decide_eq_false h)] at hm
    have s4 := Same.trans s3 e4
    refine Evl.q_when (et_eqS (Evl.ev_var rfl) Evl.ev_c) (fun h H5 e5 => ?_) (fun h H5 e5 => ?_)
    · rw [if_pos (of_decide_eq_true h)] at hm
      obtain ⟨o, ho, hm⟩ := bs2 hm
      obtain ⟨dn, hdn, hm⟩ := bs hm
      obtain ⟨nm, hnm, hm⟩ := bs2 hm
      obtain ⟨l, hl, hm⟩ := bs hm
      cases hm
      have s5 := Same.trans s4 e5
      refine Evl.q_asg (v := .int (o : Int)) (ev_opener (hF.same s5) C (Evl.ev_var rfl) (Evl.ev_var rfl) ho) fun H6 e6 => ?_
      have s6 := Same.trans s5 e6
      refine Evl.q_asg (v := .int dn) (ev_dictT (hrn.same s6) (ev_ixK (k := 1) (Evl.ev_var rfl) (Evl.ex_t s6 hs) rfl) (Evl.ev_var rfl) hdn) fun H7 e7 => ?_
      have s7 := Same.trans s6 e7
      refine Evl.s_retL (xs := [.str (if dn + 1 < l then "item" else "over")]) (Evl.el_lst (Evl.ea_cons (Evl.ev_if (b := decide (dn + 1 < l)) (et_ltI (Evl.ev_op (Evl.ev_var rfl) Evl.ev_c Evl.rv_I0) (ev_len1 (s7 _ _ hd) (Evl.ev_var rfl) (ev_name (hF.same s7) C (Evl.ev_var rfl) (Evl.ev_var rfl) hnm) hl)) (fun z => ?_) (fun z => ?_)) Evl.ea_nil) (by simp)) fun p H8 h0 e8 h8 => k p H8 (Evl.fresh_back s7 h0) (Same.trans s7 e8) h8
      · rw [if_pos (of_decide_eq_true z)]; exact Evl.ev_c
      · rw [if_neg (of_decide_eq_false z)]; exact Evl.ev_c
    rw [if_neg (of_decide_eq_false h)] at hm
    have s5 := Same.trans s4 e5
    exact Evl.s_retL (Evl.el_call (vs := [.ref a, .int (st.spot.row : Int)]) (Evl.ea_cons (Evl.ev_var rfl) (Evl.ea_cons (Evl.ev_var rfl) Evl.ea_nil)) fun H6 e6 Q6 q6 E6 => ⟨a, st.spot.row, F, ms, rfl, hF.same (Same.trans s5 e6), hm, fun p H7 h0 e7 h7 => q6 p H7 h0 e7 h7⟩) fun p H6 h0 e6 h6 => k p H6 (Evl.fresh_back s5 h0) (Same.trans s5 e6) h6
end

end K45
end
section
set_option Elab.async false
set_option autoImplicit false
set_option linter.all false
set_option maxRecDepth 100000
set_option maxHeartbeats 4000000
namespace K45
open PySem PySem.Spec PyProof.Rows L2 PySem.OxE LawC PySem.Fl

section
variable {P : Program} {w : World} {K : PySem.W.Frag} {mg : Str → Option Value} {base : Heap} {A0 : Ad}
theorem ok_rounds_after (T : Txt P K mg A0) : FnOk P w K mg base CX0 3 A0.f_rounds_after A0.fd_rounds_after ["function", "state", "move", "spot"] (spRounds K A0.c_Function) := by
  have G_live_loops : FnOk P w K mg base CX0 2 A0.f_live_loops A0.fd_live_loops ["function", "spot"] (spLive K A0.c_Function) := ok_live_loops T
  refine T.F_rounds_after.ok sc_rounds_after (fun vs H Q E h => ?_) (fun cdv A outer s H vs Q E hr h => ?_)
  · obtain ⟨a, v, m, u, F, s, sp, rs, rfl, _⟩ := h
    rfl
  · obtain ⟨a, v, mv, u, F, st, sp, rs, rfl, hF, hst, hu, hz1, hz2, hm, k⟩ := h
    refine ⟨_, (pss_cons (ps_set (i := 4) sc_rounds_after.nd rfl (Or.inl rfl) (pe_ix ix_tup (pe_ix ix_tup (pv 1) pe_int (fun _ _ => rfl)) pe_int (fun _ _ => rfl)))
 (pss_cons (ps_set (i := 5) sc_rounds_after.nd rfl (Or.inr rfl) (pe_callTy (OxDT.call_dictT rfl) (by rfl) T.z_dict (by decide +kernel) (pa_cons (pe_ix ix_tup (pv 1) pe_int (fun _ _ => rfl)) pa_nil)))
 (Evl.pss_cut (ps_if (PW.pt (pw_and (pt_cmpR op_eq (pv 2) pe_str (nomark _)) (pw_and1 (pt_cmpR op_eq (pe_ix ix_tup (pe_fld (pv 0) rfl) (pv 4) (fun _ _ => rfl)) pe_str (nomark _)))))
 (pss_one (ps_dput (hu_of hr) (pv 5) (pv 4) pe_int rfl))
 (pss_one (ps_if (pt_cmpR op_eq (pv 2) pe_str (nomark _))
 (pss_cons (ps_set (i := 6) sc_rounds_after.nd rfl (Or.inl rfl) (pe_ix ix_tup (pe_fld (pv 0) rfl) (pv 4) (fun _ _ => rfl)))
 (pss_one (ps_dput (hu_of hr) (pv 5) (pv 6) (pe_op op_add (pe_dget (hu_of hr) (pv 5) (pv 6) (fun _ _ => rfl)) pe_int) rfl)))
 pss_nil)))
 (pss_one (ps_ret (pe_callTy OxDT.call_tupF (by rfl) T.z_tuple (by decide +kernel) (pa_cons (pe_lc (own := [("loop", 6)]) (g := gName 6) (tt := tYes) (by rfl) sc_rounds_after.nd (pi_list (pe_call G_live_loops (hr.mono (by decide)) rfl T.m_live_loops T.F_live_loops.kp T.b_live_loops .nil pass0 (pa_cons (pv 0) (pa_cons (pv 3) pa_nil)))) (blkOk_by (N := ["function", "state", "move", "spot", "row", "done", "loop"]) (sc := defScope s_rounds_after) (by decide +kernel)) (fun _ _ _ _ _ => (pg_name (i := 6) sc_rounds_after.nd rfl (Or.inl rfl))) (fun _ _ _ _ _ => pts_nil) (fun _ _ _ _ _ => (pe_tup (pa_cons (pv 6) (pa_cons (pe_dget2 (hu_of hr) (pv 5) (pv 6) pe_int ⟨rfl, rfl, rfl, rfl⟩) pa_nil))))) pa_nil))))))), ?_⟩
    have C := T.fc
    obtain ⟨sa, sv, rr, rfl, hs, hsp, hrn⟩ := hst
    obtain ⟨pa, tv, ev, rfl, hps, _, _⟩ := spot_part hsp
    unfold Fn.roundsAfter at hm
    obtain ⟨dd, hdd, hm⟩ := bs hm
    obtain ⟨ll, hll, hm⟩ := bs hm
    cases hm
    refine Evl.q_asg (v := .int (st.spot.row : Int)) (ev_ixK (k := 0) (ev_ixK (k := 0) (Evl.ev_var rfl) hs rfl) hps rfl) fun H1 e1 => ?_
    obtain ⟨ps, hn1, h3, h4⟩ := hrn.same e1
    refine ⟨_, rfl, sa, _, 1, _, rfl, rfl, Evl.ex_t e1 hs, atI_nat (j := 1) rfl, rr, ps, mapK V.int st.rounds, rfl, h3, hn1, rnd_kvs h4, fun dn hdn => ?_⟩
    have hmg : mergeK [] (mapK V.int st.rounds) = numK (dOf st.rounds) := merge_dOf st.rounds []
    rw [hmg]
    have hlen0 : (dOf st.rounds).length < 1000 := by
      have := length_dOf st.rounds []
      simp only [List.length_nil, Nat.zero_add] at this
      unfold dOf
      omega
    have s2 : Same H (upd H1 dn (.dK (numK (dOf st.rounds)))) := Same.trans e1 (Same.new hdn)
    have hdnH : H dn = none := Evl.fresh_back e1 hdn
    refine Evl.q_cut (M := fun σ' H' => Same H H' ∧ H' dn = some (.dK (numK dd)) ∧ ∃ x6, σ' = [some (.ref a), some (.ref sa), some (.str mv), some u, some (.int (st.spot.row : Int)), some (.ref dn), x6]) ?_ fun σ' H' hM => ?_
    · have keep : ∀ {H2 : Hp} {o : HO}, Same H H2 → Same H (upd H2 dn o) := fun {H2 o} s b ob hb => by
        rw [upd_ne (ne_of_none hb hdnH)]
        exact s b ob hb
      unfold Fn.roundsD at hdd
      by_cases hmv : mv = "item"
      · rw [if_pos hmv] at hdd
        obtain ⟨wd, hw, hdd⟩ := bs hdd
        refine Evl.s_if (b := decide (wd = "each")) (Evl.et_is (Evl.et_and (a := true) (b := decide (wd = "each")) (Evl.et_is (et_eqS (Evl.ev_var rfl) Evl.ev_c) (by simp [hmv])) fun _ => et_eqS (ev_word (hF.same s2) C (Evl.ev_var rfl) (Evl.ev_var rfl) hw) Evl.ev_c) (by simp)) (fun h H3 e3 => ?_) (fun h H3 e3 => ?_)
        · rw [if_pos (of_decide_eq_true h)] at hdd
          cases hdd
          exact s_put (n := 0) Evl.ev_c (Evl.ev_var rfl) (Evl.ev_var rfl) (e3 _ _ upd_same) (by omega) fun H4 e4 => ⟨keep (Same.trans (Same.trans s2 e3) e4), upd_same, _, rfl⟩
        · rw [if_neg (of_decide_eq_false h)] at hdd
          obtain ⟨o, ho, hdd⟩ := bs2 hdd
          obtain ⟨n, hn, hdd⟩ := bs hdd
          cases hdd
          refine Evl.s_when (b := true) (Evl.et_is (et_eqS (Evl.ev_var rfl) Evl.ev_c) (by simp [hmv])) (fun _ H4 e4 => ?_) (fun z => by cases z)
          have s4 := Same.trans (Same.trans s2 e3) e4
          refine Evl.q_asg (v := .int (o : Int)) (ev_opener (hF.same s4) C (Evl.ev_var rfl) (Evl.ev_var rfl) ho) fun H5 e5 => ?_
          have hd5 : H5 dn = some (.dK (numK (dOf st.rounds))) := e5 _ _ (e4 _ _ (e3 _ _ upd_same))
          exact s_put (n := n + 1) (Evl.ev_op (ev_num hd5 (Evl.ev_var rfl) (Evl.ev_var rfl) hn) Evl.ev_c Evl.rv_I0) (Evl.ev_var rfl) (Evl.ev_var rfl) hd5 (by omega) fun H6 e6 => ⟨keep (Same.trans (Same.trans s4 e5) e6), upd_same, _, rfl⟩
      · rw [if_neg hmv] at hdd
        cases hdd
        refine Evl.s_if (b := false) (Evl.et_is (Evl.et_and (a := false) (b := true) (Evl.et_is (et_eqS (Evl.ev_var rfl) Evl.ev_c) (by simp [hmv])) fun z => by cases z) rfl) (fun z => by cases z) (fun _ H3 e3 => ?_)
        exact Evl.s_when (b := false) (Evl.et_is (et_eqS (Evl.ev_var rfl) Evl.ev_c) (by simp [hmv])) (fun z => by cases z) fun _ H4 e4 => ⟨Same.trans (Same.trans s2 e3) e4, e4 _ _ (e3 _ _ upd_same), _, rfl⟩
    · obtain ⟨s3, hd3, x6, rfl⟩ := hM
      refine ⟨_, rfl, _, rfl, a, u, F, sp, ll, rfl, hF.same s3, hu.mono s3, hll, hz1, fun lp H4 h0 e4 h4 => ?_⟩
      have hlz : ll.length ≤ 60 := by
        unfold Fn.liveLoops at hll
        obtain ⟨lo, hlo, hll⟩ := bs hll
        cases hll
        exact Nat.le_trans (few_le _ _) hF.few
      refine ⟨lp, rfl, ⟨_, SqL.of h4⟩, fun Dl hD => ?_⟩
      have hDH : H Dl = none := Evl.fresh_back (Same.trans s3 e4) hD
      refine lc_list (xs := intsL ll) (fun i H' => Same H4 H' ∧ ∃ qs : List Addr, qs.length = i ∧ Paired (fun p (x : Nat × Int) => SqT K H' p [.int (x.1 : Int), .int x.2]) qs ((ll.take i).map fun l => (l, (dd.lookup l).getD 0)) ∧ H' Dl = some (.lst (qs.map V.ref))) ⟨Same.new hD, [], rfl, .nil, upd_same⟩ (fun i H' _ q => Evl.ex_l q.1 (SqL.of h4)) (fun i x H5 hi q => ?_) fun H5 q => ?_
      · obtain ⟨q1, qs, q0, q2, q3⟩ := q
        have hil : i < ll.length := by
          have := (List.getElem?_eq_some_iff.mp hi).1
          unfold intsL at this
          rwa [List.length_map] at this
        obtain rfl : x = natV ll[i] := by
          unfold intsL at hi
          rw [List.getElem?_map, List.getElem?_eq_getElem hil] at hi
          exact (Option.some.inj hi).symm
        refine ⟨rfl, ?_⟩
        unfold tYes
        dsimp only
        rw [if_pos rfl]
        have hd5 := q1 _ _ (e4 _ _ hd3)
        refine (Evl.ea_cons (x := .int (ll[i] : Int)) (Evl.ev_var rfl) (Evl.ea_cons (ev_get0 (Evl.ev_var rfl) (Evl.ev_var rfl) hd5) Evl.ea_nil)) H5 (Evl.Ex.refl _) _ fun H6 e6 => ⟨by show 2 ≤ sizeLine; decide, fun p hp => ?_⟩
        have s6 := Same.new (o := .tup [.int (ll[i] : Int), .int ((dd.lookup ll[i]).getD 0)]) hp
        have hDp : Dl ≠ p := ne_of_none (e6 _ _ q3) hp
        refine ⟨_, s6 _ _ (e6 _ _ q3), Evl.sz_lt (by rw [List.length_map]; omega), fun b o hb => ?_, qs ++ [p], by rw [List.length_append, q0]; rfl, ?_, ?_⟩
        · rw [upd_ne (ne_of_none hb hD)]
          exact s6 _ _ (e6 _ _ (q1 b o hb))
        · rw [List.take_add_one, List.getElem?_eq_getElem hil, List.map_append]
          have ku : ∀ b xs, SqT K (upd H6 p (.tup [.int (ll[i] : Int), .int ((dd.lookup ll[i]).getD 0)])) b xs → SqT K (upd (upd H6 p (.tup [.int (ll[i] : Int), .int ((dd.lookup ll[i]).getD 0)])) Dl (.lst (qs.map V.ref ++ [.ref p]))) b xs := sqT_upd (fun ys z => by rw [s6 _ _ (e6 _ _ q3)] at z; cases z) (fun ob uu z => by rw [s6 _ _ (e6 _ _ q3)] at z; cases z)
          exact pair_snoc (Paired.mapP q2 fun _ _ z => ku _ _ (Evl.ex_t (Same.trans e6 s6) z)) (ku _ _ (SqT.of upd_same))
        · rw [upd_same, List.map_append]; rfl
      · obtain ⟨q1, qs, q0, q2, q3⟩ := q
        have hall : ll.take (intsL ll).length = ll := List.take_of_length_le (by unfold intsL; rw [List.length_map]; exact Nat.le_refl _)
        rw [hall] at q2
        refine ⟨Dl, _, rfl, SqL.of q3, fun r o hr0 ho => ?_⟩
        have s7 := Same.new (o := .frz o (.tup (qs.map V.ref))) hr0
        refine k r _ (Same.trans (Same.trans (Same.trans s3 e4) q1) s7) ⟨qs, ⟨o, _, upd_same, ho⟩, .inl (.inr ⟨o, upd_same⟩), Paired.mapP q2 fun _ _ z => Evl.ex_t s7 z⟩
end

end K45
end
section
set_option Elab.async false
set_option autoImplicit false
set_option linter.all false
set_option maxRecDepth 100000
set_option maxHeartbeats 4000000
namespace K45
open PySem PySem.Spec PyProof.Rows L2 PySem.OxE LawC PySem.Fl

section
variable {P : Program} {w : World} {K : PySem.W.Frag} {mg : Str → Option Value} {base : Heap} {A0 : Ad}
theorem ok_state_after (T : Txt P K mg A0) : FnOk P w K mg base CX0 5 A0.f_state_after A0.fd_state_after ["function", "state", "move"] (spStAfter K A0.c_Function) := by
  have G_next_spot : FnOk P w K mg base CX0 4 A0.f_next_spot A0.fd_next_spot ["function", "spot", "move"] (spNext K A0.c_Function) := ok_next_spot T
  have G_rounds_after : FnOk P w K mg base CX0 3 A0.f_rounds_after A0.fd_rounds_after ["function", "state", "move", "spot"] (spRounds K A0.c_Function) := ok_rounds_after T
  have G_owed_change : FnOk P w K mg base CX0 1 A0.f_owed_change A0.fd_owed_change ["word"] spChange := ok_owed_change T
  have G_resets : FnOk P w K mg base CX0 1 A0.f_resets A0.fd_resets ["word"] (spMk resets) := ok_resets T
  have G_mark_after : FnOk P w K mg base CX0 2 A0.f_mark_after A0.fd_mark_after ["word", "mark"] spAfter := ok_mark_after T
  refine T.F_state_after.ok sc_state_after (fun vs H Q E h => ?_) (fun cdv A outer s H vs Q E hr h => ?_)
  · obtain ⟨a, v, m, F, s, t, rfl, _⟩ := h
    rfl
  · obtain ⟨a, v, mv, F, st, t, rfl, hF, hst, hz1, hz2, hm, k⟩ := h
    refine ⟨_, (pss_cons (ps_set (i := 3) sc_state_after.nd rfl (Or.inl rfl) (pe_call G_next_spot (hr.mono (by decide)) rfl T.m_next_spot T.F_next_spot.kp T.b_next_spot .nil pass0 (pa_cons (pv 0) (pa_cons (pe_ix ix_tup (pv 1) pe_int (fun _ _ => rfl)) (pa_cons (pv 2) pa_nil)))))
 (pss_cons (ps_set (i := 4) sc_state_after.nd rfl (Or.inl rfl) (pe_call G_rounds_after (hr.mono (by decide)) rfl T.m_rounds_after T.F_rounds_after.kp T.b_rounds_after .nil pass0 (pa_cons (pv 0) (pa_cons (pv 1) (pa_cons (pv 2) (pa_cons (pv 3) pa_nil))))))
 (pss_cons (ps_asg (pe_slice sl_tupA (pv 1) (po_some pe_int) po_none) (pg_tup rfl (pgs_cons (pg_name (i := 5) sc_state_after.nd rfl (Or.inl rfl)) (pgs_cons (pg_name (i := 6) sc_state_after.nd rfl (Or.inl rfl)) (pgs_cons (pg_name (i := 7) sc_state_after.nd rfl (Or.inl rfl)) (pgs_cons (pg_name (i := 8) sc_state_after.nd rfl (Or.inl rfl)) pgs_nil))))))
 (pss_cons (ps_if (pt_cmpR op_ne (pv 2) pe_str (nomark _))
 (pss_one (ps_ret (pe_tup (pa_cons (pv 3) (pa_cons (pv 4) (pa_cons (pv 5) (pa_cons (pv 6) (pa_cons (pv 7) (pa_cons (pv 8) pa_nil)))))))))
 pss_nil)
 (pss_cons (ps_set (i := 9) sc_state_after.nd rfl (Or.inl rfl) (pe_ix ix_tup (pe_fld (pv 0) rfl) (pe_ix ix_tup (pe_ix ix_tup (pv 1) pe_int (fun _ _ => rfl)) pe_int (fun _ _ => rfl)) (fun _ _ => rfl)))
 (pss_cons (ps_set (i := 10) sc_state_after.nd rfl (Or.inl rfl) (pe_call G_owed_change (hr.mono (by decide)) rfl T.m_owed_change T.F_owed_change.kp T.b_owed_change .nil pass0 (pa_cons (pv 9) pa_nil)))
 (pss_cons (ps_set (i := 6) sc_state_after.nd rfl (Or.inl rfl) (pe_ifExp (pt_val (pe_call G_resets (hr.mono (by decide)) rfl T.m_resets T.F_resets.kp T.b_resets .nil pass0 (pa_cons (pv 9) pa_nil))) pe_int (pe_op op_add (pv 6) (pv 10))))
 (pss_one (ps_ret (pe_tup (pa_cons (pv 3) (pa_cons (pv 4) (pa_cons (pe_call G_mark_after (hr.mono (by decide)) rfl T.m_mark_after T.F_mark_after.kp T.b_mark_after .nil pass0 (pa_cons (pv 9) (pa_cons (pv 5) pa_nil))) (pa_cons (pv 6) (pa_cons (pe_op op_add (pv 7) (pe_callB (call_max2 rfl) (by rfl) T.z_max (by decide +kernel) (pa_cons pe_int (pa_cons (pv 10) pa_nil)))) (pa_cons (pe_op op_add (pv 8) (pe_callB (call_max2 rfl) (by rfl) T.z_max (by decide +kernel) (pa_cons pe_int (pa_cons (pe_un un_neg (pv 10)) pa_nil)))) pa_nil)))))))))))))))), ?_⟩
    have C := T.fc
    obtain ⟨sa, sv, rr, rfl, hs, hsp, hrn⟩ := id hst
    obtain ⟨pa, tv, ev, rfl, hps, _, _⟩ := spot_part hsp
    unfold Fn.stateAfter at hm
    obtain ⟨sp, hspp, hm⟩ := bs hm
    obtain ⟨rs, hrs, hm⟩ := bs hm
    refine q_asgD (d := spotD sp) (evd_call (vs := [.ref a, .ref pa, .str mv]) (Evl.ea_cons (Evl.ev_var rfl) (Evl.ea_cons (ev_ixK (k := 0) (Evl.ev_var rfl) hs rfl) (Evl.ea_cons (Evl.ev_var rfl) Evl.ea_nil))) fun H1 e1 Q1 q1 => ⟨a, .ref pa, mv, F, st.spot, sp, rfl, hF.same e1, hsp.mono e1, hspp, by omega, fun u H2 e2 hu => q1 u H2 e2 hu⟩) fun u H1 e1 hu => ?_
    have hev : sp.events.length < 1000 := by
      have := next_len F hspp
      omega
    refine ⟨_, rfl, _, rfl, _, rfl, _, rfl, a, .ref sa, mv, u, F, st, sp, rs, rfl, hF.same e1, hst.same e1, hu, hev, by omega, hrs, fun r H2 e2 hr2 => ?_⟩
    have s2 := Same.trans e1 e2
    refine ⟨_, rfl, 2, rfl, sa, _, rfl, Evl.ex_t s2 hs, fun z => absurd z.1 (by show ¬ (2 : Nat) = 0; decide), fun _ p hp => ?_⟩
    have s3 := Same.trans s2 (Same.new (o := .tup (cutV [.ref pa, .ref rr, .str st.mark, .int st.owed, .int st.asked, .int st.taken] (some 2) none)) hp)
    refine ⟨p, _, rfl, SqT.of upd_same, rfl, _, _, rfl, _, _, rfl, _, _, rfl, _, _, rfl, rfl, ?_⟩
    have hu3 := hu.mono (Same.trans e2 (Same.new (o := .tup (cutV [.ref pa, .ref rr, .str st.mark, .int st.owed, .int st.asked, .int st.taken] (some 2) none)) hp))
    have hr3 := hr2.same (Same.new (o := .tup (cutV [.ref pa, .ref rr, .str st.mark, .int st.owed, .int st.asked, .int st.taken] (some 2) none)) hp)
    refine Evl.q_when (et_neS (Evl.ev_var rfl) Evl.ev_c) (fun h H4 e4 => ?_) (fun h H4 e4 => ?_)
    · rw [if_pos (by simpa using h)] at hm
      cases hm
      refine Evl.s_retU (Evl.eu_tup (vs := [u, .ref r, .str st.mark, .int st.owed, .int st.asked, .int st.taken]) (Evl.ea_cons (Evl.ev_var rfl) (Evl.ea_cons (Evl.ev_var rfl) (Evl.ea_cons (Evl.ev_var rfl) (Evl.ea_cons (Evl.ev_var rfl) (Evl.ea_cons (Evl.ev_var rfl) (Evl.ea_cons (Evl.ev_var rfl) Evl.ea_nil)))))) (by simp)) fun q H5 hq e5 h5 => ?_
      exact k _ H5 (Same.trans (Same.trans s3 e4) e5) ⟨q, u, r, rfl, SqT.of h5, hu3.mono (Same.trans e4 e5), hr3.same (Same.trans e4 e5)⟩
    · rw [if_neg (by simpa using h)] at hm
      obtain ⟨wd, hw, hm⟩ := bs hm
      cases hm
      have s4 := Same.trans s3 e4
      refine Evl.q_asg (ev_word (hF.same s4) C (Evl.ev_var rfl) (ev_ixK (k := 0) (ev_ixK (k := 0) (Evl.ev_var rfl) (Evl.ex_t s4 hs) rfl) (Evl.ex_t s4 hps) rfl) hw) fun H5 e5 => ?_
      refine Evl.q_asg (v := .int (change wd)) (Evl.ev_call (vs := [.str wd]) (Evl.ea_cons (Evl.ev_var rfl) Evl.ea_nil) fun H6 e6 Q6 q6 E6 => ⟨wd, rfl, fun H7 e7 => q6 H7 e7⟩) fun H6 e6 => ?_
      refine Evl.q_asg (v := .int (if resets wd then 0 else st.owed + change wd)) (Evl.ev_if (b := resets wd) (Evl.et_B (Evl.ev_call (vs := [.str wd]) (Evl.ea_cons (Evl.ev_var rfl) Evl.ea_nil) sv_mk)) (fun z => by rw [if_pos z]; exact Evl.ev_c) (fun z => by rw [if_neg (by simp [z])]; exact Evl.ev_op (Evl.ev_var rfl) (Evl.ev_var rfl) Evl.rv_I0)) fun H7 e7 => ?_
      have s7 := Same.trans (Same.trans (Same.trans s4 e5) e6) e7
      refine Evl.s_retU (Evl.eu_tup (vs := [u, .ref r, .str (after wd st.mark), .int (if resets wd then 0 else st.owed + change wd), .int (st.asked + mx (change wd)), .int (st.taken + mx (-change wd))]) (Evl.ea_cons (Evl.ev_var rfl) (Evl.ea_cons (Evl.ev_var rfl) (Evl.ea_cons (Evl.ev_call (vs := [.str wd, .str st.mark]) (Evl.ea_cons (Evl.ev_var rfl) (Evl.ea_cons (Evl.ev_var rfl) Evl.ea_nil)) fun H8 e8 Q8 q8 E8 => ⟨wd, st.mark, rfl, fun H9 e9 => q8 H9 e9⟩) (Evl.ea_cons (Evl.ev_var rfl) (Evl.ea_cons (Evl.ev_op (Evl.ev_var rfl) (Evl.ev_max2 Evl.ev_c (Evl.ev_var rfl)) Evl.rv_I0) (Evl.ea_cons (Evl.ev_op (Evl.ev_var rfl) (Evl.ev_max2 Evl.ev_c (Evl.ev_un (Evl.ev_var rfl) Evl.ru_neg)) Evl.rv_I0) Evl.ea_nil)))))) (by simp)) fun q H8 hq e8 h8 => ?_
      have s8 : Same _ H8 := Same.trans (Same.trans (Same.trans (Same.trans e4 e5) e6) e7) e8
      exact k _ H8 (Same.trans s7 e8) ⟨q, u, r, rfl, SqT.of h8, hu3.mono s8, hr3.same s8⟩
end

end K45
end
section
set_option Elab.async false
set_option autoImplicit false
set_option linter.all false
set_option maxRecDepth 100000
set_option maxHeartbeats 2000000
/-! walks on the heap; their promises -/
namespace PySem.Fl
open PySem PySem.Spec PyProof.Rows L2 PySem.OxE LawC
/-- the walk W at x: its lengths' dict, its trail's list -/
def WAt (K : PySem.W.Frag) (cf c : Addr) (H : Hp) (x : Addr) (W : Wk) (dl tr : Addr) : Prop := ∃ dx f st ts, H x = some (.ins c dx (wkF f dl tr st (oS W.fault))) ∧ IsFn K cf H f W.F ∧ H dl = some (.dK (lenK W.lens)) ∧ StAt K H st W.st ∧ H tr = some (.lst ts) ∧ DpAll K H ts (trD W.trail)
theorem WAt.same {K : PySem.W.Frag} {cf c : Addr} {H H' : Hp} {x : Addr} {W : Wk} {dl tr : Addr} (h : WAt K cf c H x W dl tr) (s : Same H H') : WAt K cf c H' x W dl tr := by
  obtain ⟨dx, f, st, ts, h1, h2, h3, h4, h5, h6⟩ := h
  exact ⟨dx, f, st, ts, s _ _ h1, h2.same s, s _ _ h3, h4.same s, s _ _ h5, h6.mono s⟩
/-- what an object that is neither a tuple nor of a function's does not touch -/
structure Kp (H H' : Hp) (x : Addr) : Prop where
  k : ∀ b o, b ≠ x → H b = some o → H' b = some o
  nt : ∀ xs, H x ≠ some (.tup xs)
  nf : ∀ ob u, H x ≠ some (.frz ob u)
theorem Kp.sq {K : PySem.W.Frag} {H H' : Hp} {x : Addr} (h : Kp H H' x) : ∀ b xs, SqT K H b xs → SqT K H' b xs := fun b xs hb => by
  rcases hb with (hb | ⟨ob, hb⟩) | hb
  · exact .inl (.inl (h.k b _ (fun z => h.nt xs (by rw [← z]; exact hb)) hb))
  · exact .inl (.inr ⟨ob, h.k b _ (fun z => h.nf ob _ (by rw [← z]; exact hb)) hb⟩)
  · exact .inr hb
theorem kp_upd {H : Hp} {x : Addr} {o u : HO} (h : H x = some o) (nt : ∀ xs, o ≠ .tup xs) (nf : ∀ ob v, o ≠ .frz ob v) : Kp H (upd H x u) x :=
  ⟨fun b q ne hb => by rw [upd_ne ne]; exact hb, fun xs z => by rw [h] at z; exact nt xs (Option.some.inj z), fun ob v z => by rw [h] at z; exact nf ob v (Option.some.inj z)⟩
theorem IsFn.keep {K : PySem.W.Frag} {c : Addr} {H H' : Hp} {x a : Addr} {F : Fn} (h : IsFn K c H a F) (s : Kp H H' x) (hx : ∀ dx fs, H x ≠ some (.ins c dx fs)) (hd : ∀ ks, H x ≠ some (.dK ks)) : IsFn K c H' a F := by
  obtain ⟨dx, tl, tr, tw, tn, tt, to, dm, de, h⟩ := h
  exact ⟨dx, tl, tr, tw, tn, tt, to, dm, de, s.k _ _ (fun z => hx _ _ (by rw [← z]; exact h.obj)) h.obj, s.sq _ _ h.lists, s.sq _ _ h.rows, s.sq _ _ h.words, s.sq _ _ h.names, s.sq _ _ h.tries, s.sq _ _ h.openers,
    s.k _ _ (fun z => hd _ (by rw [← z]; exact h.mids)) h.mids, s.k _ _ (fun z => hd _ (by rw [← z]; exact h.ends)) h.ends, h.small⟩
theorem RndAt.keep {K : PySem.W.Frag} {H H' : Hp} {x r : Addr} {rs : List (Nat × Int)} (h : RndAt K H r rs) (s : Kp H H' x) : RndAt K H' r rs := by
  obtain ⟨ps, ⟨o, xs, h1, h2⟩, h3, h4⟩ := h
  exact ⟨ps, ⟨o, xs, s.k _ _ (fun z => s.nf _ _ (by rw [← z]; exact h1)) h1, h2⟩, s.sq _ _ h3, Paired.mapP h4 fun _ _ z => s.sq _ _ z⟩
theorem noL_spot (sp : Spot) : noL (spotD sp) = true := by
  have hi : ∀ ns : List Int, noL.noLs (ns.map PyData.int) = true := fun ns => by
    induction ns with
    | nil => rfl
    | cons n ns ih => rw [List.map_cons]; unfold noL.noLs; rw [ih]; rfl
  have he := noL_evs sp.events
  unfold spotD noL noL.noLs noL.noLs noL.noLs noL.noLs
  rw [he]
  have : noL (.tuple (sp.tries.map .int)) = true := by unfold noL; exact hi _
  rw [this]
  rfl
theorem StAt.keep {K : PySem.W.Frag} {H H' : Hp} {x : Addr} {v : V} {t : RSt} (h : StAt K H v t) (s : Kp H H' x) : StAt K H' v t := by
  obtain ⟨a, sv, r, rfl, h1, h2, h3⟩ := h
  exact ⟨a, sv, r, rfl, s.sq _ _ h1, Dp.keep s.sq h2 (noL_spot _), h3.keep s⟩
theorem trail_keep {K : PySem.W.Frag} {H H' : Hp} {x : Addr} {ts : List V} {tr : List (Nat × Str)} (h : DpAll K H ts (trD tr)) (s : Kp H H' x) : DpAll K H' ts (trD tr) := by
  refine DpAll.keep s.sq h ?_
  induction tr generalizing ts with
  | nil => rfl
  | cons p tr ih =>
    obtain ⟨u, us, rfl, h1, h2⟩ := dp_cons (show DpAll K H ts (_ :: trD tr) from h)
    show noL.noLs (_ :: trD tr) = true
    unfold noL.noLs
    rw [ih h2]
    rfl
theorem putK_new {kvs : List (Key × V)} {k : Key} {v : V} (h : ∀ p ∈ kvs, p.1 ≠ k) : putK kvs k v = kvs ++ [(k, v)] := by
  unfold putK
  rw [if_neg]
  intro z
  obtain ⟨p, hp, he⟩ := List.any_eq_true.mp z
  exact h p hp (of_decide_eq_true he)
section
variable {K : PySem.W.Frag} {H H' : Hp} {σ : L2.St} {td tk tv ta : TE} {D : Ends}
theorem walk_t {a : Addr} {xs : List V} : Walk (Itt K a) xs.length (fun H => SqT K H a xs) (YAt xs) :=
  ⟨fun i H hi q => ⟨xs, xs[i], q, List.getElem?_eq_getElem hi⟩, fun H q => ⟨xs, q, Nat.le_refl _⟩, fun i H x H' hi q y => ⟨y.1, y.2 xs q⟩⟩
theorem ev_lget0 {d : Addr} {ls : List (Str × Int)} {u : Str} (hd : Evl.Ev td σ H (.ref d)) (hk : Evl.Ev tk σ H (.str u)) (h : H d = some (.dK (lenK ls))) : Evl.Ev (tDGet2 td tk (tC (.int 0))) σ H (.int ((ls.lookup u).getD 0)) := fun H1 e1 Q q =>
  hd H1 e1 _ fun H2 e2 => ⟨d, rfl, .inl ⟨_, .inl (e2 _ _ (e1 _ _ h))⟩, hk H2 (Same.trans e1 e2) _ fun H3 e3 => by
    have g := DGet.k (k := .inr u) (e3 _ _ (e2 _ _ (e1 _ _ h)))
    rw [lookup_len] at g
    refine ⟨_, g, ?_⟩
    have := q H3 (Same.trans e2 e3)
    cases hl : ls.lookup u with
    | none => rw [hl] at this; exact this
    | some n => rw [hl] at this; exact this⟩
/-- o.f = e -/
theorem s_fld {x C dx : Addr} {fs : List (Str × V)} {f : Str} {v : V} (hv : Evl.Ev tv σ H v) (hx : Evl.Ev ta σ H (.ref x)) (h : H x = some (.ins C dx fs)) (c : Cls K C) (n : NoAttr K C f) (hz : fs.length < 1000) (k : ∀ H1, Same H H1 → D.nx σ (upd H1 x (.ins C dx (putF f v fs)))) : sFld K ta tv f D σ H :=
  hv H (Evl.Ex.refl H) _ fun H1 e1 => hx H1 e1 _ fun H2 e2 => ⟨x, C, dx, fs, rfl, e2 _ _ (e1 _ _ h), c, n, hz, k H2 (Same.trans e1 e2)⟩
theorem q_fld {x C dx : Addr} {fs : List (Str × V)} {f : Str} {v : V} {tz : TS} (hv : Evl.Ev tv σ H v) (hx : Evl.Ev ta σ H (.ref x)) (h : H x = some (.ins C dx fs)) (c : Cls K C) (n : NoAttr K C f) (hz : fs.length < 1000) (k : ∀ H1, Same H H1 → tz D σ (upd H1 x (.ins C dx (putF f v fs)))) : tSeq (sFld K ta tv f) tz D σ H :=
  s_fld (D := { D with nx := tz D }) hv hx h c n hz k
end
/-- o.f = f(..): the call's own end -/
theorem s_fldC {K : PySem.W.Frag} {H : Hp} {σ : L2.St} {ta : TE} {tA : TA} {sp : Sp} {E : XK} {f : Str} {D : Ends} {vs : List V} (h : Evl.EvA tA σ H vs) (k : ∀ H1, Same H H1 → sp vs H1 (fun y H2 => ta σ H2 fun x H3 => ∃ a C dx fs, x = .ref a ∧ H3 a = some (.ins C dx fs) ∧ Cls K C ∧ NoAttr K C f ∧ fs.length < 1000 ∧ D.nx σ (upd H3 a (.ins C dx (putF f y fs)))) E) :
    sFld K ta (tCall sp [] E tA) f D σ H := h H (Evl.Ex.refl H) _ fun H1 e1 => by
  show sp (vs ++ []) H1 _ E
  rw [List.append_nil]
  exact k H1 e1
theorem q_fldC {K : PySem.W.Frag} {H : Hp} {σ : L2.St} {ta : TE} {tA : TA} {sp : Sp} {E : XK} {f : Str} {D : Ends} {vs : List V} {tz : TS} (h : Evl.EvA tA σ H vs) (k : ∀ H1, Same H H1 → sp vs H1 (fun y H2 => ta σ H2 fun x H3 => ∃ a C dx fs, x = .ref a ∧ H3 a = some (.ins C dx fs) ∧ Cls K C ∧ NoAttr K C f ∧ fs.length < 1000 ∧ tz D σ (upd H3 a (.ins C dx (putF f y fs)))) E) :
    tSeq (sFld K ta (tCall sp [] E tA) f) tz D σ H := s_fldC (D := { D with nx := tz D }) h k
theorem but_none {x p : Addr} {H H' : Hp} (b : But x H H') (h : H' p = none) (hx : ∃ o, H' x = some o) : H p = none := by
  cases e : H p with
  | none => rfl
  | some o =>
    have ne : p ≠ x := fun z => by
      obtain ⟨o2, h2⟩ := hx
      rw [← z, h] at h2
      cases h2
    have := b p o ne e
    rw [h] at this
    cases this
theorem but_same {x : Addr} {H H1 H2 : Hp} (b : But x H H1) (s : Same H1 H2) : But x H H2 := fun c o h e => s _ _ (b c o h e)
theorem but_upd {x : Addr} {H H1 : Hp} {o : HO} (b : But x H H1) : But x H (upd H1 x o) := fun c u h e => by rw [upd_ne h]; exact b c u h e
def But2 (x q : Addr) (H H' : Hp) : Prop := ∀ b o, b ≠ x → b ≠ q → H b = some o → H' b = some o
theorem But2.of {x q : Addr} {H H' : Hp} (s : Same H H') : But2 x q H H' := fun b o _ _ h => s b o h
theorem But2.trans {x q : Addr} {H H1 H2 : Hp} (a : But2 x q H H1) (b : But2 x q H1 H2) : But2 x q H H2 := fun c o h1 h2 h => b c o h1 h2 (a c o h1 h2 h)
theorem But2.l {x q : Addr} {H : Hp} {o : HO} : But2 x q H (upd H x o) := fun b u h _ e => by rw [upd_ne h]; exact e
theorem But2.r {x q : Addr} {H : Hp} {o : HO} : But2 x q H (upd H q o) := fun b u _ h e => by rw [upd_ne h]; exact e
/-! promises -/
def spWInit (K : PySem.W.Frag) (cf c : Addr) : Sp := fun vs H Q _ => ∃ x f d dx F ls W, vs = [.ref x, .ref f, .ref d] ∧ H x = some (.ins c dx []) ∧ IsFn K cf H f F ∧ H d = some (.dK (lenK ls)) ∧ F.lists.Nodup ∧ F.lists.length ≤ 100 ∧ Wk.start F ls = some W ∧
  ∀ dl tr H', H dl = none → H tr = none → But x H H' → WAt K cf c H' x W dl tr → Q .non H'
def spWD (K : PySem.W.Frag) (cf c : Addr) (d : Wk → PyData) : Sp := fun vs H Q _ => ∃ x W dl tr, vs = [.ref x] ∧ WAt K cf c H x W dl tr ∧ W.st.spot.events.length < 1000 ∧ ∀ v H', Same H H' → Dp K H' v (d W) → Q v H'
def repD (W : Wk) : PyData := match W.way with
  | none => .none
  | some wy => .tuple [.str (reason wy), .int W.st.asked, .int W.st.taken]
def spWChoices (K : PySem.W.Frag) (cf c : Addr) : Sp := fun vs H Q _ => ∃ x W dl tr ms, vs = [.ref x] ∧ WAt K cf c H x W dl tr ∧ W.st.spot.events.length < 1000 ∧ W.choices = some ms ∧ ∀ p H', H p = none → Same H H' → H' p = some (.lst (ms.map V.str)) → Q (.ref p) H'
def spWStep (K : PySem.W.Frag) (cf c : Addr) : Sp := fun vs H Q _ => ∃ x mv W W2 dl tr, vs = [.ref x, .str mv] ∧ WAt K cf c H x W dl tr ∧ W.st.spot.events.length < 900 ∧ W.st.rounds.length < 900 ∧ W.trail.length < 9000 ∧ W.step mv = some W2 ∧
  ∀ H', But2 x tr H H' → WAt K cf c H' x W2 dl tr → Q (.bl (!W2.over)) H'
end PySem.Fl
end
section
set_option Elab.async false
set_option autoImplicit false
set_option linter.all false
set_option maxRecDepth 100000
set_option maxHeartbeats 4000000
namespace K45
open PySem PySem.Spec PyProof.Rows L2 PySem.OxE LawC PySem.Fl

section
variable {P : Program} {w : World} {K : PySem.W.Frag} {mg : Str → Option Value} {base : Heap} {A0 : Ad}
theorem ok_Walk_spot (T : Txt P K mg A0) : FnOk P w K mg base CX0 1 A0.f_Walk_spot A0.fd_Walk_spot ["self"] (spWD K A0.c_Function A0.c_Walk fun W => spotD W.st.spot) := by
  refine T.F_Walk_spot.ok sc_Walk_spot (fun vs H Q E h => ?_) (fun cdv A outer s H vs Q E hr h => ?_)
  · obtain ⟨x, W, dl, tr, rfl, _⟩ := h
    rfl
  · obtain ⟨x, W, dl, tr, rfl, hW, hz, k⟩ := h
    refine ⟨_, (pss_one (ps_ret (pe_ix ix_tup (pe_fld (pv 0) rfl) pe_int (fun _ _ => rfl)))), ?_⟩
    obtain ⟨dx, f, st, ts, hx, hf, hl, hst, htr, htd⟩ := id hW
    obtain ⟨sa, sv, rr, rfl, hs, hsp, hrn⟩ := hst
    obtain ⟨pa, tv, ev, rfl, hps, _, _⟩ := spot_part hsp
    have C := T.wc
    have es : ∀ {H1 : Hp}, Same H H1 → Evl.Ev (tFld K (tVar 0) "state") [some (.ref x)] H1 (.ref sa) := fun {H1} e => ev_fld (Evl.ev_var rfl) (e _ _ hx) C.cl C.n_state rfl
    have ef : ∀ {H1 : Hp}, Same H H1 → Evl.Ev (tFld K (tVar 0) "function") [some (.ref x)] H1 (.ref f) := fun {H1} e => ev_fld (Evl.ev_var rfl) (e _ _ hx) C.cl C.n_function rfl
    exact s_retD (evd_of (ev_ixK (k := 0) (es (Same.refl _)) hs rfl) hsp) k
theorem ok_Walk_mark (T : Txt P K mg A0) : FnOk P w K mg base CX0 1 A0.f_Walk_mark A0.fd_Walk_mark ["self"] (spWD K A0.c_Function A0.c_Walk fun W => .str W.st.mark) := by
  refine T.F_Walk_mark.ok sc_Walk_mark (fun vs H Q E h => ?_) (fun cdv A outer s H vs Q E hr h => ?_)
  · obtain ⟨x, W, dl, tr, rfl, _⟩ := h
    rfl
  · obtain ⟨x, W, dl, tr, rfl, hW, hz, k⟩ := h
    refine ⟨_, (pss_one (ps_ret (pe_ix ix_tup (pe_fld (pv 0) rfl) pe_int (fun _ _ => rfl)))), ?_⟩
    obtain ⟨dx, f, st, ts, hx, hf, hl, hst, htr, htd⟩ := id hW
    obtain ⟨sa, sv, rr, rfl, hs, hsp, hrn⟩ := hst
    obtain ⟨pa, tv, ev, rfl, hps, _, _⟩ := spot_part hsp
    have C := T.wc
    have es : ∀ {H1 : Hp}, Same H H1 → Evl.Ev (tFld K (tVar 0) "state") [some (.ref x)] H1 (.ref sa) := fun {H1} e => ev_fld (Evl.ev_var rfl) (e _ _ hx) C.cl C.n_state rfl
    have ef : ∀ {H1 : Hp}, Same H H1 → Evl.Ev (tFld K (tVar 0) "function") [some (.ref x)] H1 (.ref f) := fun {H1} e => ev_fld (Evl.ev_var rfl) (e _ _ hx) C.cl C.n_function rfl
    exact s_retD (evd_of (ev_ixK (k := 2) (es (Same.refl _)) hs rfl) (.str _)) k
theorem ok_Walk_owed (T : Txt P K mg A0) : FnOk P w K mg base CX0 1 A0.f_Walk_owed A0.fd_Walk_owed ["self"] (spWD K A0.c_Function A0.c_Walk fun W => .int W.st.owed) := by
  refine T.F_Walk_owed.ok sc_Walk_owed (fun vs H Q E h => ?_) (fun cdv A outer s H vs Q E hr h => ?_)
  · obtain ⟨x, W, dl, tr, rfl, _⟩ := h
    rfl
  · obtain ⟨x, W, dl, tr, rfl, hW, hz, k⟩ := h
    refine ⟨_, (pss_one (ps_ret (pe_ix ix_tup (pe_fld (pv 0) rfl) pe_int (fun _ _ => rfl)))), ?_⟩
    obtain ⟨dx, f, st, ts, hx, hf, hl, hst, htr, htd⟩ := id hW
    obtain ⟨sa, sv, rr, rfl, hs, hsp, hrn⟩ := hst
    obtain ⟨pa, tv, ev, rfl, hps, _, _⟩ := spot_part hsp
    have C := T.wc
    have es : ∀ {H1 : Hp}, Same H H1 → Evl.Ev (tFld K (tVar 0) "state") [some (.ref x)] H1 (.ref sa) := fun {H1} e => ev_fld (Evl.ev_var rfl) (e _ _ hx) C.cl C.n_state rfl
    have ef : ∀ {H1 : Hp}, Same H H1 → Evl.Ev (tFld K (tVar 0) "function") [some (.ref x)] H1 (.ref f) := fun {H1} e => ev_fld (Evl.ev_var rfl) (e _ _ hx) C.cl C.n_function rfl
    exact s_retD (evd_of (ev_ixK (k := 3) (es (Same.refl _)) hs rfl) (.int _)) k
theorem ok_Walk_asked (T : Txt P K mg A0) : FnOk P w K mg base CX0 1 A0.f_Walk_asked A0.fd_Walk_asked ["self"] (spWD K A0.c_Function A0.c_Walk fun W => .int W.st.asked) := by
  refine T.F_Walk_asked.ok sc_Walk_asked (fun vs H Q E h => ?_) (fun cdv A outer s H vs Q E hr h => ?_)
  · obtain ⟨x, W, dl, tr, rfl, _⟩ := h
    rfl
  · obtain ⟨x, W, dl, tr, rfl, hW, hz, k⟩ := h
    refine ⟨_, (pss_one (ps_ret (pe_ix ix_tup (pe_fld (pv 0) rfl) pe_int (fun _ _ => rfl)))), ?_⟩
    obtain ⟨dx, f, st, ts, hx, hf, hl, hst, htr, htd⟩ := id hW
    obtain ⟨sa, sv, rr, rfl, hs, hsp, hrn⟩ := hst
    obtain ⟨pa, tv, ev, rfl, hps, _, _⟩ := spot_part hsp
    have C := T.wc
    have es : ∀ {H1 : Hp}, Same H H1 → Evl.Ev (tFld K (tVar 0) "state") [some (.ref x)] H1 (.ref sa) := fun {H1} e => ev_fld (Evl.ev_var rfl) (e _ _ hx) C.cl C.n_state rfl
    have ef : ∀ {H1 : Hp}, Same H H1 → Evl.Ev (tFld K (tVar 0) "function") [some (.ref x)] H1 (.ref f) := fun {H1} e => ev_fld (Evl.ev_var rfl) (e _ _ hx) C.cl C.n_function rfl
    exact s_retD (evd_of (ev_ixK (k := 4) (es (Same.refl _)) hs rfl) (.int _)) k
theorem ok_Walk_taken (T : Txt P K mg A0) : FnOk P w K mg base CX0 1 A0.f_Walk_taken A0.fd_Walk_taken ["self"] (spWD K A0.c_Function A0.c_Walk fun W => .int W.st.taken) := by
  refine T.F_Walk_taken.ok sc_Walk_taken (fun vs H Q E h => ?_) (fun cdv A outer s H vs Q E hr h => ?_)
  · obtain ⟨x, W, dl, tr, rfl, _⟩ := h
    rfl
  · obtain ⟨x, W, dl, tr, rfl, hW, hz, k⟩ := h
    refine ⟨_, (pss_one (ps_ret (pe_ix ix_tup (pe_fld (pv 0) rfl) pe_int (fun _ _ => rfl)))), ?_⟩
    obtain ⟨dx, f, st, ts, hx, hf, hl, hst, htr, htd⟩ := id hW
    obtain ⟨sa, sv, rr, rfl, hs, hsp, hrn⟩ := hst
    obtain ⟨pa, tv, ev, rfl, hps, _, _⟩ := spot_part hsp
    have C := T.wc
    have es : ∀ {H1 : Hp}, Same H H1 → Evl.Ev (tFld K (tVar 0) "state") [some (.ref x)] H1 (.ref sa) := fun {H1} e => ev_fld (Evl.ev_var rfl) (e _ _ hx) C.cl C.n_state rfl
    have ef : ∀ {H1 : Hp}, Same H H1 → Evl.Ev (tFld K (tVar 0) "function") [some (.ref x)] H1 (.ref f) := fun {H1} e => ev_fld (Evl.ev_var rfl) (e _ _ hx) C.cl C.n_function rfl
    exact s_retD (evd_of (ev_ixK (k := 5) (es (Same.refl _)) hs rfl) (.int _)) k
theorem ok_Walk_done (T : Txt P K mg A0) : FnOk P w K mg base CX0 1 A0.f_Walk_done A0.fd_Walk_done ["self"] (spWD K A0.c_Function A0.c_Walk fun W => rndD W.st.rounds) := by
  refine T.F_Walk_done.ok sc_Walk_done (fun vs H Q E h => ?_) (fun cdv A outer s H vs Q E hr h => ?_)
  · obtain ⟨x, W, dl, tr, rfl, _⟩ := h
    rfl
  · obtain ⟨x, W, dl, tr, rfl, hW, hz, k⟩ := h
    refine ⟨_, (pss_one (ps_ret (pe_ix ix_tup (pe_fld (pv 0) rfl) pe_int (fun _ _ => rfl)))), ?_⟩
    obtain ⟨dx, f, st, ts, hx, hf, hl, hst, htr, htd⟩ := id hW
    obtain ⟨sa, sv, rr, rfl, hs, hsp, hrn⟩ := hst
    obtain ⟨pa, tv, ev, rfl, hps, _, _⟩ := spot_part hsp
    have C := T.wc
    have es : ∀ {H1 : Hp}, Same H H1 → Evl.Ev (tFld K (tVar 0) "state") [some (.ref x)] H1 (.ref sa) := fun {H1} e => ev_fld (Evl.ev_var rfl) (e _ _ hx) C.cl C.n_state rfl
    have ef : ∀ {H1 : Hp}, Same H H1 → Evl.Ev (tFld K (tVar 0) "function") [some (.ref x)] H1 (.ref f) := fun {H1} e => ev_fld (Evl.ev_var rfl) (e _ _ hx) C.cl C.n_function rfl
    exact s_retD (evd_of (ev_ixK (k := 1) (es (Same.refl _)) hs rfl) hrn.dp) k
theorem ok_Walk_steps (T : Txt P K mg A0) : FnOk P w K mg base CX0 1 A0.f_Walk_steps A0.fd_Walk_steps ["self"] (spWD K A0.c_Function A0.c_Walk fun W => .tuple (trD W.trail)) := by
  refine T.F_Walk_steps.ok sc_Walk_steps (fun vs H Q E h => ?_) (fun cdv A outer s H vs Q E hr h => ?_)
  · obtain ⟨x, W, dl, tr, rfl, _⟩ := h
    rfl
  · obtain ⟨x, W, dl, tr, rfl, hW, hz, k⟩ := h
    refine ⟨_, (pss_one (ps_ret (pe_callTy call_tuple_of (by rfl) T.z_tuple (by decide +kernel) (pa_cons (pe_fld (pv 0) rfl) pa_nil)))), ?_⟩
    obtain ⟨dx, f, st, ts, hx, hf, hl, hst, htr, htd⟩ := id hW
    obtain ⟨sa, sv, rr, rfl, hs, hsp, hrn⟩ := hst
    obtain ⟨pa, tv, ev, rfl, hps, _, _⟩ := spot_part hsp
    have C := T.wc
    have es : ∀ {H1 : Hp}, Same H H1 → Evl.Ev (tFld K (tVar 0) "state") [some (.ref x)] H1 (.ref sa) := fun {H1} e => ev_fld (Evl.ev_var rfl) (e _ _ hx) C.cl C.n_state rfl
    have ef : ∀ {H1 : Hp}, Same H H1 → Evl.Ev (tFld K (tVar 0) "function") [some (.ref x)] H1 (.ref f) := fun {H1} e => ev_fld (Evl.ev_var rfl) (e _ _ hx) C.cl C.n_function rfl
    exact s_retD (evd_tupOf (ev_fld (Evl.ev_var rfl) hx C.cl C.n_trail rfl) htr htd) k
theorem ok_Walk_way (T : Txt P K mg A0) : FnOk P w K mg base CX0 2 A0.f_Walk_way A0.fd_Walk_way ["self"] (spWD K A0.c_Function A0.c_Walk fun W => wayD W.way) := by
  have G_way_of : FnOk P w K mg base CX0 1 A0.f_way_of A0.fd_way_of ["function", "spot"] (spWay K A0.c_Function) := ok_way_of T
  refine T.F_Walk_way.ok sc_Walk_way (fun vs H Q E h => ?_) (fun cdv A outer s H vs Q E hr h => ?_)
  · obtain ⟨x, W, dl, tr, rfl, _⟩ := h
    rfl
  · obtain ⟨x, W, dl, tr, rfl, hW, hz, k⟩ := h
    refine ⟨_, (pss_one (ps_ret (pe_call G_way_of (hr.mono (by decide)) rfl T.m_way_of T.F_way_of.kp T.b_way_of .nil pass0 (pa_cons (pe_fld (pv 0) rfl) (pa_cons (pe_ix ix_tup (pe_fld (pv 0) rfl) pe_int (fun _ _ => rfl)) pa_nil))))), ?_⟩
    obtain ⟨dx, f, st, ts, hx, hf, hl, hst, htr, htd⟩ := id hW
    obtain ⟨sa, sv, rr, rfl, hs, hsp, hrn⟩ := hst
    obtain ⟨pa, tv, ev, rfl, hps, _, _⟩ := spot_part hsp
    have C := T.wc
    have es : ∀ {H1 : Hp}, Same H H1 → Evl.Ev (tFld K (tVar 0) "state") [some (.ref x)] H1 (.ref sa) := fun {H1} e => ev_fld (Evl.ev_var rfl) (e _ _ hx) C.cl C.n_state rfl
    have ef : ∀ {H1 : Hp}, Same H H1 → Evl.Ev (tFld K (tVar 0) "function") [some (.ref x)] H1 (.ref f) := fun {H1} e => ev_fld (Evl.ev_var rfl) (e _ _ hx) C.cl C.n_function rfl
    exact s_retD (evd_call (vs := [.ref f, .ref pa]) (Evl.ea_cons (ef (Same.refl _)) (Evl.ea_cons (ev_ixK (k := 0) (es (Same.refl _)) hs rfl) Evl.ea_nil)) fun H1 e1 Q1 q1 => ⟨f, .ref pa, W.F, W.st.spot, rfl, hf.same e1, hsp.mono e1, hz, fun u H2 e2 hu => q1 u H2 e2 hu⟩) k
theorem ok_Walk_is_over (T : Txt P K mg A0) : FnOk P w K mg base CX0 1 A0.f_Walk_is_over A0.fd_Walk_is_over ["self"] (spWD K A0.c_Function A0.c_Walk fun W => .bool W.over) := by
  refine T.F_Walk_is_over.ok sc_Walk_is_over (fun vs H Q E h => ?_) (fun cdv A outer s H vs Q E hr h => ?_)
  · obtain ⟨x, W, dl, tr, rfl, _⟩ := h
    rfl
  · obtain ⟨x, W, dl, tr, rfl, hW, hz, k⟩ := h
    refine ⟨_, (pss_one (ps_ret (pe_or (pe_cmpR op_notN (pe_fld (pv 0) rfl) pe_non (nomark _)) (pe_one (pe_cmpR op_eq (pe_ix ix_tup (pe_ix ix_tup (pe_fld (pv 0) rfl) pe_int (fun _ _ => rfl)) pe_int (fun _ _ => rfl)) (pe_callB call_len (by rfl) T.z_len PySem.boot_len (pa_cons (pe_fld (pe_fld (pv 0) rfl) rfl) pa_nil)) (nomark _)))))), ?_⟩
    obtain ⟨dx, f, st, ts, hx, hf, hl, hst, htr, htd⟩ := id hW
    obtain ⟨sa, sv, rr, rfl, hs, hsp, hrn⟩ := hst
    obtain ⟨pa, tv, ev, rfl, hps, _, _⟩ := spot_part hsp
    have C := T.wc
    have es : ∀ {H1 : Hp}, Same H H1 → Evl.Ev (tFld K (tVar 0) "state") [some (.ref x)] H1 (.ref sa) := fun {H1} e => ev_fld (Evl.ev_var rfl) (e _ _ hx) C.cl C.n_state rfl
    have ef : ∀ {H1 : Hp}, Same H H1 → Evl.Ev (tFld K (tVar 0) "function") [some (.ref x)] H1 (.ref f) := fun {H1} e => ev_fld (Evl.ev_var rfl) (e _ _ hx) C.cl C.n_function rfl
    refine Evl.s_ret (v := .bl W.over) (Evl.ev_orV (a := W.fault.isSome) (b := decide (W.st.spot.row = W.F.words.length)) ?_ fun _ => ev_eqN (ev_ixK (k := 0) (ev_ixK (k := 0) (es (Same.refl _)) hs rfl) hps rfl) (ev_lenW hf T.fc (ef (Same.refl _)))) fun H1 e1 => k _ H1 e1 (.bl _)
    refine Evl.ev_is (ev_notN (ev_fld (Evl.ev_var rfl) hx C.cl C.n_fault (v := oS W.fault) rfl)) ?_
    cases W.fault <;> simp [oS]
end

end K45
end
section
set_option Elab.async false
set_option autoImplicit false
set_option linter.all false
set_option maxRecDepth 100000
set_option maxHeartbeats 4000000
namespace K45
open PySem PySem.Spec PyProof.Rows L2 PySem.OxE LawC PySem.Fl

section
variable {P : Program} {w : World} {K : PySem.W.Frag} {mg : Str → Option Value} {base : Heap} {A0 : Ad}
theorem ok_Walk_report (T : Txt P K mg A0) : FnOk P w K mg base CX0 2 A0.f_Walk_report A0.fd_Walk_report ["self"] (spWD K A0.c_Function A0.c_Walk repD) := by
  have G_way_of : FnOk P w K mg base CX0 1 A0.f_way_of A0.fd_way_of ["function", "spot"] (spWay K A0.c_Function) := ok_way_of T
  have G_reason_of : FnOk P w K mg base CX0 1 A0.f_reason_of A0.fd_reason_of ["way"] (spReason K) := ok_reason_of T
  refine T.F_Walk_report.ok sc_Walk_report (fun vs H Q E h => ?_) (fun cdv A outer s H vs Q E hr h => ?_)
  · obtain ⟨x, W, dl, tr, rfl, _⟩ := h
    rfl
  · obtain ⟨x, W, dl, tr, rfl, hW, hz, k⟩ := h
    refine ⟨_, (pss_cons (ps_set (i := 1) sc_Walk_report.nd rfl (Or.inl rfl) (pe_call G_way_of (hr.mono (by decide)) rfl T.m_way_of T.F_way_of.kp T.b_way_of .nil pass0 (pa_cons (pe_fld (pv 0) rfl) (pa_cons (pe_ix ix_tup (pe_fld (pv 0) rfl) pe_int (fun _ _ => rfl)) pa_nil))))
 (pss_one (ps_ret (pe_ifExp (pt_cmpR op_isN (pv 1) pe_non (nomark _)) pe_non (pe_tup (pa_cons (pe_call G_reason_of (hr.mono (by decide)) rfl T.m_reason_of T.F_reason_of.kp T.b_reason_of .nil pass0 (pa_cons (pv 1) pa_nil)) (pa_cons (pe_ix ix_tup (pe_fld (pv 0) rfl) pe_int (fun _ _ => rfl)) (pa_cons (pe_ix ix_tup (pe_fld (pv 0) rfl) pe_int (fun _ _ => rfl)) pa_nil)))))))), ?_⟩
    obtain ⟨dx, f, st, ts, hx, hf, hl, hst, htr, htd⟩ := id hW
    obtain ⟨sa, sv, rr, rfl, hs, hsp, hrn⟩ := hst
    obtain ⟨pa, tv, ev, rfl, hps, _, _⟩ := spot_part hsp
    have C := T.wc
    have es : ∀ {H1 : Hp} {y : Option V}, Same H H1 → Evl.Ev (tFld K (tVar 0) "state") [some (.ref x), y] H1 (.ref sa) := fun {H1 y} e => ev_fld (Evl.ev_var rfl) (e _ _ hx) C.cl C.n_state rfl
    refine q_asgD (d := wayD (W.F.wayOf W.st.spot)) (evd_call (vs := [.ref f, .ref pa]) (Evl.ea_cons (ev_fld (Evl.ev_var rfl) hx C.cl C.n_function rfl) (Evl.ea_cons (ev_ixK (k := 0) (es (Same.refl _)) hs rfl) Evl.ea_nil)) fun H1 e1 Q1 q1 => ⟨f, .ref pa, W.F, W.st.spot, rfl, hf.same e1, hsp.mono e1, hz, fun u H2 e2 hu => q1 u H2 e2 hu⟩) fun u H1 e1 hu => ?_
    unfold repD Wk.way at k
    cases hw : W.F.wayOf W.st.spot with
    | none =>
      rw [hw] at hu k
      have hu' : u = .non := by
        cases hu
        rfl
      subst hu'
      exact s_retD (evd_if (b := true) (Evl.et_is (Evl.et_test (ev_isN (Evl.ev_var rfl))) (by simp)) (fun _ => evd_of Evl.ev_c .non) (fun z => by cases z)) fun v H2 e2 hv => k v H2 (Same.trans e1 e2) hv
    | some wy =>
      rw [hw] at hu k
      have hu' : ¬ u = .non := by
        intro z
        subst z
        cases wy <;> cases hu
      exact s_retD (evd_if (b := false) (Evl.et_is (Evl.et_test (ev_isN (Evl.ev_var rfl))) (by simp [hu'])) (fun z => by cases z) (fun _ => evd_tup (evds_cons (evd_of (v := .str (reason wy)) (Evl.ev_call (vs := [u]) (Evl.ea_cons (Evl.ev_var rfl) Evl.ea_nil) fun H2 e2 Q2 q2 E2 => ⟨u, wy, rfl, hu.mono e2, fun H3 e3 => q2 H3 e3⟩) (.str _)) (evds_cons (evd_of (ev_ixK (k := 4) (es e1) (Evl.ex_t e1 hs) rfl) (.int _)) (evds_cons (evd_of (ev_ixK (k := 5) (es e1) (Evl.ex_t e1 hs) rfl) (.int _)) evds_nil))) (by simp))) fun v H2 e2 hv => k v H2 (Same.trans e1 e2) hv
theorem sv_over {cf c : Addr} {x : Addr} {W : Wk} {dl tr : Addr} {H : Hp} (hW : WAt K cf c H x W dl tr) (hz : W.st.spot.events.length < 1000) : ∀ H1, Same H H1 → ∀ Q : VK, (∀ H2, Same H1 H2 → Q (.bl W.over) H2) → ∀ E, spWD K cf c (fun W => .bool W.over) [.ref x] H1 Q E := fun H1 e1 Q q E =>
  ⟨x, W, dl, tr, rfl, hW.same e1, hz, fun v H2 e2 hv => by cases hv; exact q H2 e2⟩
theorem ok_Walk_choices (T : Txt P K mg A0) : FnOk P w K mg base CX0 4 A0.f_Walk_choices A0.fd_Walk_choices ["self"] (spWChoices K A0.c_Function A0.c_Walk) := by
  have G_Walk_is_over : FnOk P w K mg base CX0 1 A0.f_Walk_is_over A0.fd_Walk_is_over ["self"] (spWD K A0.c_Function A0.c_Walk fun W => .bool W.over) := ok_Walk_is_over T
  have G_possible : FnOk P w K mg base CX0 3 A0.f_possible A0.fd_possible ["function", "lengths", "state"] (spPoss K A0.c_Function) := ok_possible T
  refine T.F_Walk_choices.ok sc_Walk_choices (fun vs H Q E h => ?_) (fun cdv A outer s H vs Q E hr h => ?_)
  · obtain ⟨x, W, dl, tr, ms, rfl, _⟩ := h
    rfl
  · obtain ⟨x, W, dl, tr, ms, rfl, hW, hz, hm, k⟩ := h
    refine ⟨_, (pss_one (ps_ret (pe_ifExp (pt_val (pe_prop (pv 0) T.wc.cl T.P_over G_Walk_is_over (hr.mono (by decide)) T.b_Walk_is_over .nil pass0 rfl)) (pe_lst pa_nil) (pe_call G_possible (hr.mono (by decide)) rfl T.m_possible T.F_possible.kp T.b_possible .nil pass0 (pa_cons (pe_fld (pv 0) rfl) (pa_cons (pe_fld (pv 0) rfl) (pa_cons (pe_fld (pv 0) rfl) pa_nil))))))), ?_⟩
    obtain ⟨dx, f, st, ts, hx, hf, hl, hst, htr, htd⟩ := id hW
    have C := T.wc
    unfold Wk.choices at hm
    refine ⟨_, rfl, x, dx, _, rfl, hx, sv_over hW hz H (Same.refl _) _ (fun H1 e1 => ⟨_, rfl, ?_⟩) _⟩
    by_cases ho : W.over = true
    · rw [if_pos ho] at hm
      cases hm
      rw [if_pos ho]
      exact (Evl.el_lst Evl.ea_nil (by simp)) H1 (Evl.Ex.refl _) _ fun p H2 h0 e2 h2 => k p H2 (Evl.fresh_back e1 h0) (Same.trans e1 e2) h2
    · rw [if_neg ho] at hm
      rw [if_neg ho]
      refine (Evl.el_call (sp := spPoss K A0.c_Function) (vs := [.ref f, .ref dl, st]) (dvs := []) (E := E0) (Evl.ea_cons (ev_fld (Evl.ev_var rfl) (e1 _ _ hx) C.cl C.n_function rfl) (Evl.ea_cons (ev_fld (Evl.ev_var rfl) (e1 _ _ hx) C.cl C.n_lengths rfl) (Evl.ea_cons (ev_fld (Evl.ev_var rfl) (e1 _ _ hx) C.cl C.n_state rfl) Evl.ea_nil))) fun H2 e2 Q2 q2 E2 => ⟨f, dl, st, W.F, W.lens, W.st, ms, rfl, hf.same (Same.trans e1 e2), e2 _ _ (e1 _ _ hl), hst.same (Same.trans e1 e2), hm, fun p H3 h0 e3 h3 => q2 p H3 h0 e3 h3⟩) H1 (Evl.Ex.refl _) _ fun p H2 h0 e2 h2 => k p H2 (Evl.fresh_back e1 h0) (Same.trans e1 e2) h2
end

end K45
end
section
set_option Elab.async false
set_option autoImplicit false
set_option linter.all false
set_option maxRecDepth 100000
set_option maxHeartbeats 4000000
namespace K45
open PySem PySem.Spec PyProof.Rows L2 PySem.OxE LawC PySem.Fl

section
variable {P : Program} {w : World} {K : PySem.W.Frag} {mg : Str → Option Value} {base : Heap} {A0 : Ad}
theorem ok_Walk_step (T : Txt P K mg A0) (hne : A0.c_Walk ≠ A0.c_Function) : FnOk P w K mg base CX0 6 A0.f_Walk_step A0.fd_Walk_step ["self", "move"] (spWStep K A0.c_Function A0.c_Walk) := by
  have G_Walk_is_over : FnOk P w K mg base CX0 1 A0.f_Walk_is_over A0.fd_Walk_is_over ["self"] (spWD K A0.c_Function A0.c_Walk fun W => .bool W.over) := ok_Walk_is_over T
  have G_Walk_choices : FnOk P w K mg base CX0 4 A0.f_Walk_choices A0.fd_Walk_choices ["self"] (spWChoices K A0.c_Function A0.c_Walk) := ok_Walk_choices T
  have G_fault_of : FnOk P w K mg base CX0 4 A0.f_fault_of A0.fd_fault_of ["function", "state", "move"] (spFaultOf K A0.c_Function) := ok_fault_of T
  have G_state_after : FnOk P w K mg base CX0 5 A0.f_state_after A0.fd_state_after ["function", "state", "move"] (spStAfter K A0.c_Function) := ok_state_after T
  refine T.F_Walk_step.ok sc_Walk_step (fun vs H Q E h => ?_) (fun cdv A outer s H vs Q E hr h => ?_)
  · obtain ⟨x, mv, W, W2, dl, tr, rfl, _⟩ := h
    rfl
  · obtain ⟨x, mv, W, W2, dl, tr, rfl, hW, hz1, hz2, hz3, hm, k⟩ := h
    refine ⟨_, (pss_cons (ps_if (pt_cmpR op_notIn_seq (pv 1) (pe_meth0 (pv 0) T.wc.cl T.M_Walk_choices G_Walk_choices (hr.mono (by decide)) T.b_Walk_choices .nil pass0) (by first | rfl | with_unfolding_all rfl))
 (pss_one ps_never)
 pss_nil)
 (pss_cons (ps_expr (pe_bm PySem.F.plainAttrs_list PySem.F.slot_list_append PySem.F.type_list_append mt_append (pe_fld (pv 0) rfl) (pa_cons (pe_tup (pa_cons (pe_ix ix_tup (pe_ix ix_tup (pe_fld (pv 0) rfl) pe_int (fun _ _ => rfl)) pe_int (fun _ _ => rfl)) (pa_cons (pv 1) pa_nil))) pa_nil)))
 (pss_cons (ps_fld (pv 0) (pe_call G_fault_of (hr.mono (by decide)) rfl T.m_fault_of T.F_fault_of.kp T.b_fault_of .nil pass0 (pa_cons (pe_fld (pv 0) rfl) (pa_cons (pe_fld (pv 0) rfl) (pa_cons (pv 1) pa_nil)))) rfl)
 (Evl.pss_cut (ps_if (pt_cmpR op_isN (pe_fld (pv 0) rfl) pe_non (nomark _))
 (pss_one (ps_fld (pv 0) (pe_call G_state_after (hr.mono (by decide)) rfl T.m_state_after T.F_state_after.kp T.b_state_after .nil pass0 (pa_cons (pe_fld (pv 0) rfl) (pa_cons (pe_fld (pv 0) rfl) (pa_cons (pv 1) pa_nil)))) rfl))
 pss_nil)
 (pss_one (ps_ret (pe_not (pe_prop (pv 0) T.wc.cl T.P_over G_Walk_is_over (hr.mono (by decide)) T.b_Walk_is_over .nil pass0 rfl)))))))), ?_⟩
    obtain ⟨dx, f, st, ts, hx, hf, hl, hst, htr, htd⟩ := id hW
    have C := T.wc
    unfold Wk.step at hm
    obtain ⟨cs, hcs, hm⟩ := bs hm
    by_cases hmem : mv ∈ cs
    case neg => rw [if_neg hmem] at hm; cases hm
    rw [if_pos hmem] at hm
    obtain ⟨fo, hfo, hm⟩ := bs hm
    refine Evl.q_when (b := false) (Evl.et_test (Evl.ev_is (Evl.ev_opL (xs := cs.map V.str) (x := .str mv) (Evl.ev_var rfl) (fun H1 e1 Q1 q1 => ⟨_, rfl, x, dx, _, rfl, e1 _ _ hx, (by rfl), x, W, dl, tr, cs, rfl, hW.same e1, by omega, hcs, fun p H2 h0 e2 h2 => q1 p H2 h0 e2 h2⟩) fun p H1 h1 e1 => Evl.rv_niL (SqL.of h1) rfl flat_strs) (by rw [inV_str]; simp [hmem]))) (fun z => by cases z) (fun _ H1 e1 => ?_)
    obtain ⟨sa, sv, rr, hsr, hs, hsp, hrn⟩ := id hst
    obtain ⟨pa, tv, ev, hpr, hps, _, _⟩ := spot_part hsp
    subst hsr hpr
    refine Evl.q_appU (ys := [.int (W.st.spot.row : Int), .str mv]) (e1 _ _ htr) (ev_fld (Evl.ev_var rfl) (e1 _ _ hx) C.cl C.n_trail rfl) (Evl.eu_tup (Evl.ea_cons (ev_ixK (k := 0) (ev_ixK (k := 0) (ev_fld (Evl.ev_var rfl) (e1 _ _ hx) C.cl C.n_state rfl) (Evl.ex_t e1 hs) rfl) (Evl.ex_t e1 hps) rfl) (Evl.ea_cons (Evl.ev_var rfl) Evl.ea_nil)) (by simp)) (by have := DpAll.length htd; unfold trD at this; rw [List.length_map] at this; omega) fun tp H2 h0 e2 h2 => ?_
    have s2 := Same.trans e1 e2
    have htr2 := s2 _ _ htr
    have hxtr : x ≠ tr := fun z => by rw [z, htr] at hx; cases hx
    have hltr : dl ≠ tr := fun z => by rw [z, htr] at hl; cases hl
    have k3 : Kp H2 (upd H2 tr (.lst (ts ++ [.ref tp]))) tr := kp_upd htr2 (fun xs z => by cases z) (fun ob v z => by cases z)
    have hf3 := (hf.same s2).keep k3 (fun d fs z => by rw [htr2] at z; cases z) (fun ks z => by rw [htr2] at z; cases z)
    have hst3 := (hst.same s2).keep k3
    have htd3 : DpAll K (upd H2 tr (.lst (ts ++ [.ref tp]))) (ts ++ [.ref tp]) (trD (W.trail ++ [(W.st.spot.row, mv)])) := by
      have a1 := trail_keep (htd.mono s2) k3
      have a2 : Dp K (upd H2 tr (.lst (ts ++ [.ref tp]))) (.ref tp) (.tuple [.int (W.st.spot.row : Int), .str mv]) := .tup (k3.sq _ _ (SqT.of h2)) (.cons (.int _) (.cons (.str _) .nil))
      unfold trD at a1 ⊢
      rw [List.map_append]
      exact dpAll_app a1 (.cons a2 .nil)
    have hx3 : (upd H2 tr (.lst (ts ++ [.ref tp]))) x = some (.ins A0.c_Walk dx (wkF f dl tr (.ref sa) (oS W.fault))) := by rw [upd_ne hxtr]; exact s2 _ _ hx
    have hl3 : (upd H2 tr (.lst (ts ++ [.ref tp]))) dl = some (.dK (lenK W.lens)) := by rw [upd_ne hltr]; exact s2 _ _ hl
    have b3 : But2 x tr H (upd H2 tr (.lst (ts ++ [.ref tp]))) := But2.trans (But2.of s2) But2.r
    have htr3 : (upd H2 tr (.lst (ts ++ [.ref tp]))) tr = some (.lst (ts ++ [.ref tp])) := upd_same
    generalize upd H2 tr (.lst (ts ++ [.ref tp])) = H3 at hf3 hst3 htd3 hx3 hl3 b3 htr3
    refine q_fld (v := oS fo) (Evl.ev_call (vs := [.ref f, .ref sa, .str mv]) (Evl.ea_cons (ev_fld (Evl.ev_var rfl) hx3 C.cl C.n_function rfl) (Evl.ea_cons (ev_fld (Evl.ev_var rfl) hx3 C.cl C.n_state rfl) (Evl.ea_cons (Evl.ev_var rfl) Evl.ea_nil))) fun H4 e4 Q4 q4 E4 => ⟨f, .ref sa, mv, W.F, W.st, fo, rfl, hf3.same e4, hst3.same e4, hfo, fun H5 e5 => q4 H5 e5⟩) (Evl.ev_var rfl) hx3 C.cl C.n_fault (by show (5 : Nat) < 1000; decide) fun H4 e4 => ?_
    have hx4 := e4 _ _ hx3
    have mk : ∀ {H5 : Hp} {st5 : V} {t : RSt} {y : V}, H5 x = some (.ins A0.c_Walk dx (wkF f dl tr st5 y)) → IsFn K A0.c_Function H5 f W.F → StAt K H5 st5 t → H5 dl = some (.dK (lenK W.lens)) → H5 tr = some (.lst (ts ++ [.ref tp])) → DpAll K H5 (ts ++ [.ref tp]) (trD (W.trail ++ [(W.st.spot.row, mv)])) → ∀ {st6 y6 : V}, 
        IsFn K A0.c_Function (upd H5 x (.ins A0.c_Walk dx (wkF f dl tr st6 y6))) f W.F ∧ StAt K (upd H5 x (.ins A0.c_Walk dx (wkF f dl tr st6 y6))) st5 t ∧ (upd H5 x (.ins A0.c_Walk dx (wkF f dl tr st6 y6))) dl = some (.dK (lenK W.lens)) ∧ (upd H5 x (.ins A0.c_Walk dx (wkF f dl tr st6 y6))) tr = some (.lst (ts ++ [.ref tp])) ∧ DpAll K (upd H5 x (.ins A0.c_Walk dx (wkF f dl tr st6 y6))) (ts ++ [.ref tp]) (trD (W.trail ++ [(W.st.spot.row, mv)])) := fun {H5 st5 t y} ax af as al at5 ad {st6 y6} => by
      have kk : Kp H5 (upd H5 x (.ins A0.c_Walk dx (wkF f dl tr st6 y6))) x := kp_upd ax (fun xs z => by cases z) (fun ob v z => by cases z)
      refine ⟨af.keep kk (fun d fs z => ?_) (fun ks z => by rw [ax] at z; cases z), as.keep kk, ?_, ?_, trail_keep ad kk⟩
      · rw [ax] at z
        have := Option.some.inj z
        injection this with q1 q2 q3
        exact hne q1
      · rw [upd_ne (fun z => by rw [z, ax] at al; cases al)]; exact al
      · rw [upd_ne (Ne.symm hxtr)]; exact at5
    obtain ⟨g1, g2, g3, g4, g5⟩ := mk (st6 := .ref sa) (y6 := oS fo) hx4 (hf3.same e4) (hst3.same e4) (e4 _ _ hl3) (e4 _ _ htr3) (htd3.mono e4)
    have b5 : But2 x tr H (upd H4 x (.ins A0.c_Walk dx (wkF f dl tr (.ref sa) (oS fo)))) := But2.trans (But2.trans b3 (But2.of e4)) But2.l
    show Evl.tCut _ _ _ _ (upd H4 x (.ins A0.c_Walk dx (wkF f dl tr (.ref sa) (oS fo))))
    have hx5 : (upd H4 x (.ins A0.c_Walk dx (wkF f dl tr (.ref sa) (oS fo)))) x = some (.ins A0.c_Walk dx (wkF f dl tr (.ref sa) (oS fo))) := upd_same
    generalize upd H4 x (.ins A0.c_Walk dx (wkF f dl tr (.ref sa) (oS fo))) = H5 at g1 g2 g3 g4 g5 b5 hx5
    refine Evl.q_cut (M := fun σ' H' => But2 x tr H H' ∧ WAt K A0.c_Function A0.c_Walk H' x W2 dl tr ∧ W2.st.spot.events.length < 1000 ∧ σ' = [some (.ref x), some (.str mv)]) ?_ fun σ' H' hM => ?_
    · cases fo with
      | some u =>
        cases hm
        exact Evl.s_when (b := false) (Evl.et_is (Evl.et_test (ev_isN (ev_fld (Evl.ev_var rfl) hx5 C.cl C.n_fault (v := .str u) rfl))) (by simp)) (fun z => by cases z) fun _ H6 e6 => ⟨But2.trans b5 (But2.of e6), ⟨dx, f, .ref sa, _, e6 _ _ hx5, g1.same e6, e6 _ _ g3, g2.same e6, e6 _ _ g4, g5.mono e6⟩, by show W.st.spot.events.length < 1000; omega, rfl⟩
      | none =>
        obtain ⟨t, ht, hm⟩ := bs hm
        cases hm
        refine Evl.s_when (b := true) (Evl.et_is (Evl.et_test (ev_isN (ev_fld (Evl.ev_var rfl) hx5 C.cl C.n_fault (v := .non) rfl))) (by simp)) (fun _ H6 e6 => ?_) fun z => by cases z
        refine s_fldC (vs := [.ref f, .ref sa, .str mv]) (Evl.ea_cons (ev_fld (Evl.ev_var rfl) (e6 _ _ hx5) C.cl C.n_function rfl) (Evl.ea_cons (ev_fld (Evl.ev_var rfl) (e6 _ _ hx5) C.cl C.n_state rfl) (Evl.ea_cons (Evl.ev_var rfl) Evl.ea_nil))) fun H7 e7 => ?_
        have s7 := Same.trans e6 e7
        refine ⟨f, .ref sa, mv, W.F, W.st, t, rfl, g1.same s7, g2.same s7, hz1, hz2, ht, fun u H8 e8 hu => ?_⟩
        have s8 := Same.trans s7 e8
        obtain ⟨j1, j2, j3, j4, j5⟩ := mk (st6 := u) (y6 := .non) (s8 _ _ hx5) (g1.same s8) (g2.same s8) (s8 _ _ g3) (s8 _ _ g4) (g5.mono s8)
        refine ⟨_, rfl, x, A0.c_Walk, dx, _, rfl, s8 _ _ hx5, C.cl, C.n_state, (by show (5 : Nat) < 1000; decide), ?_⟩
        have kk : Kp H8 (upd H8 x (.ins A0.c_Walk dx (wkF f dl tr u .non))) x := kp_upd (s8 _ _ hx5) (fun xs z => by cases z) (fun ob v z => by cases z)
        exact ⟨But2.trans (But2.trans b5 (But2.of s8)) But2.l, ⟨dx, f, u, _, upd_same, j1, j3, hu.keep kk, j4, j5⟩, by have := stAfter_len W.F ht; show t.spot.events.length < 1000; omega, rfl⟩
    · obtain ⟨b6, hW6, hz6, rfl⟩ := hM
      obtain ⟨dx6, f6, st6, ts6, hx6, _⟩ := id hW6
      refine ⟨_, rfl, x, dx6, _, rfl, hx6, sv_over hW6 hz6 H' (Same.refl _) _ (fun H7 e7 => ⟨_, rfl, ?_⟩) _⟩
      exact k H7 (But2.trans b6 (But2.of e7)) (hW6.same e7)
end

end K45
end
section
set_option Elab.async false
set_option autoImplicit false
set_option linter.all false
set_option maxRecDepth 100000
set_option maxHeartbeats 4000000
namespace K45
open PySem PySem.Spec PyProof.Rows L2 PySem.OxE LawC PySem.Fl

section
variable {P : Program} {w : World} {K : PySem.W.Frag} {mg : Str → Option Value} {base : Heap} {A0 : Ad}
theorem ok_Walk_init (T : Txt P K mg A0) (hne : A0.c_Walk ≠ A0.c_Function) : FnOk P w K mg base CX0 6 A0.f_Walk_init A0.fd_Walk_init ["self", "function", "lengths"] (spWInit K A0.c_Function A0.c_Walk) := by
  have G_first_state : FnOk P w K mg base CX0 5 A0.f_first_state A0.fd_first_state ["function", "mark", "owed"] (spFirstSt K A0.c_Function) := ok_first_state T
  refine T.F_Walk_init.ok sc_Walk_init (fun vs H Q E h => ?_) (fun cdv A outer s H vs Q E hr h => ?_)
  · obtain ⟨x, f, d, dx, F, ls, W, rfl, _⟩ := h
    rfl
  · obtain ⟨x, f, d, dx, F, ls, W, rfl, hx, hf, hl, hnd, hlz, hm, k⟩ := h
    refine ⟨_, (pss_cons (ps_fld (pv 0) (pv 1) rfl)
 (pss_cons (ps_fld (pv 0) (pe_dc (own := [("name", 3)]) (g := gName 3) (tt := tYes) (by rfl) sc_Walk_init.nd (pi_tup (pe_fld (pv 1) rfl)) (blkOk_by (N := ["self", "function", "lengths", "name"]) (sc := defScope s_Walk_init) (by decide +kernel)) (fun _ _ _ _ _ => (pg_name (i := 3) sc_Walk_init.nd rfl (Or.inl rfl))) (fun _ _ _ _ _ => pts_nil) (fun _ _ _ _ _ => (pv 3)) (fun _ _ _ _ _ => (pe_dget2 (hu_of hr) (pv 2) (pv 3) pe_int ⟨rfl, rfl, rfl, rfl⟩))) rfl)
 (pss_cons (ps_fld (pv 0) (pe_call G_first_state (hr.mono (by decide)) rfl T.m_first_state T.F_first_state.kp T.b_first_state .nil pass0 (pa_cons (pv 1) (pa_cons pe_str (pa_cons pe_int pa_nil)))) rfl)
 (pss_cons (ps_fld (pv 0) (pe_lst pa_nil) rfl)
 (pss_one (ps_fld (pv 0) pe_non rfl)))))), ?_⟩
    have C := T.wc
    unfold Wk.start at hm
    obtain ⟨st, hst, hm⟩ := bs hm
    cases hm
    refine q_fld (v := .ref f) (Evl.ev_var rfl) (Evl.ev_var rfl) hx C.cl C.n_function (by decide) fun H1 e1 => ?_
    have k1 : Kp H1 (upd H1 x (.ins A0.c_Walk dx (putF "function" (.ref f) []))) x := kp_upd (e1 _ _ hx) (fun xs z => by cases z) (fun ob v z => by cases z)
    have hf1 := (hf.same e1).keep k1 (fun d' fs z => by
      rw [e1 _ _ hx] at z
      have := Option.some.inj z
      injection this with q1 q2 q3
      exact hne q1) (fun ks z => by rw [e1 _ _ hx] at z; cases z)
    have hxd : d ≠ x := fun z => by rw [z, hx] at hl; cases hl
    have hl1 : (upd H1 x (.ins A0.c_Walk dx (putF "function" (.ref f) []))) d = some (.dK (lenK ls)) := by rw [upd_ne hxd]; exact e1 _ _ hl
    have hx1 : (upd H1 x (.ins A0.c_Walk dx (putF "function" (.ref f) []))) x = some (.ins A0.c_Walk dx [("function", .ref f)]) := upd_same
    have b1 : But x H (upd H1 x (.ins A0.c_Walk dx (putF "function" (.ref f) []))) := fun b o hb h => by rw [upd_ne hb]; exact e1 _ _ h
    generalize upd H1 x (.ins A0.c_Walk dx (putF "function" (.ref f) [])) = H2 at hf1 hl1 hx1 b1
    obtain ⟨dxf, tl, tr, tw, tn, tt, to, dm, de, hfa⟩ := id hf1
    -- the lengths
    refine ⟨_, rfl, f, _, _, _, _, rfl, hfa.obj, T.fc.cl, T.fc.n_lists, rfl, tl, rfl, ⟨_, hfa.lists⟩, fun Dl hD => ?_⟩
    refine dc_it walk_t (fun i H' => Same H2 H' ∧ H' Dl = some (.dK (lenK ((F.lists.take i).map fun n => (n, (ls.lookup n).getD 0))))) ⟨Same.new hD, upd_same⟩ (fun i H' _ q => Evl.ex_t q.1 hfa.lists) (fun i y H3 H4 hi q yy => ?_) fun H3 q => ?_
    · obtain ⟨q1, q2⟩ := q
      obtain ⟨rfl, hy⟩ := yy
      have hil : i < F.lists.length := by rwa [List.length_map] at hi
      rw [List.getElem?_map, List.getElem?_eq_getElem hil] at hy
      obtain rfl : V.str F.lists[i] = y := Option.some.inj hy
      refine ⟨rfl, ?_⟩
      unfold tYes
      dsimp only
      rw [if_pos rfl]
      refine ⟨_, rfl, ?_⟩
      refine (ev_lget0 (u := F.lists[i]) (Evl.ev_var rfl) (Evl.ev_var rfl) (q1 _ _ hl1)) H4 (Evl.Ex.refl _) _ fun H5 e5 => ⟨_, .inr F.lists[i], rfl, e5 _ _ q2, Evl.sz_lt (by unfold lenK; rw [List.length_map, List.length_map, List.length_take]; omega), fun b o hb => ?_, ?_⟩
      · rw [upd_ne (ne_of_none hb hD)]
        exact e5 _ _ (q1 b o hb)
      · rw [upd_same, List.take_add_one, List.getElem?_eq_getElem hil, List.map_append, putK_new]
        · unfold lenK
          rw [List.map_append]
          rfl
        · intro p hp z
          unfold lenK at hp
          obtain ⟨a1, ha1, rfl⟩ := List.mem_map.mp hp
          obtain ⟨n, hn, rfl⟩ := List.mem_map.mp ha1
          have e : n = F.lists[i] := by injection z
          obtain ⟨j, hj, hje⟩ := List.mem_take_iff_getElem.mp hn
          have hjl : j < F.lists.length := by omega
          have : j = i := (List.getElem_inj (h₀ := hjl) (h₁ := hil) hnd).mp (by rw [hje, e])
          omega
    · obtain ⟨q1, q2⟩ := q
      rw [List.length_map, List.take_of_length_le (Nat.le_refl _)] at q2
      have hxD : x ≠ Dl := ne_of_none hx1 hD
      have hDH : H Dl = none := but_none b1 hD ⟨_, hx1⟩
      refine ⟨_, rfl, x, A0.c_Walk, dx, _, rfl, q1 _ _ hx1, C.cl, C.n_lengths, (by show (1 : Nat) < 1000; decide), ?_⟩
      have keep : ∀ {H5 : Hp} {fs gs : List (Str × V)}, H5 x = some (.ins A0.c_Walk dx fs) → IsFn K A0.c_Function H5 f F → IsFn K A0.c_Function (upd H5 x (.ins A0.c_Walk dx gs)) f F ∧ Kp H5 (upd H5 x (.ins A0.c_Walk dx gs)) x := fun {H5 fs gs} h5 hf5 => by
        have kk : Kp H5 (upd H5 x (.ins A0.c_Walk dx gs)) x := kp_upd h5 (fun xs z => by cases z) (fun ob v z => by cases z)
        refine ⟨hf5.keep kk (fun d' fs' z => ?_) (fun ks z => by rw [h5] at z; cases z), kk⟩
        rw [h5] at z
        have := Option.some.inj z
        injection this with q1 q2 q3
        exact hne q1
      obtain ⟨hf4, _⟩ := keep (gs := [("function", .ref f), ("lengths", .ref Dl)]) (q1 _ _ hx1) (hf1.same q1)
      have hD4 : (upd H3 x (.ins A0.c_Walk dx [("function", .ref f), ("lengths", .ref Dl)])) Dl = some (.dK (lenK (F.lists.map fun n => (n, (ls.lookup n).getD 0)))) := by rw [upd_ne (Ne.symm hxD)]; exact q2
      have hx4 : (upd H3 x (.ins A0.c_Walk dx [("function", .ref f), ("lengths", .ref Dl)])) x = some (.ins A0.c_Walk dx [("function", .ref f), ("lengths", .ref Dl)]) := upd_same
      have b4 : But x H (upd H3 x (.ins A0.c_Walk dx [("function", .ref f), ("lengths", .ref Dl)])) := but_upd (but_same b1 q1)
      show tSeq _ _ _ _ (upd H3 x (.ins A0.c_Walk dx [("function", .ref f), ("lengths", .ref Dl)]))
      generalize upd H3 x (.ins A0.c_Walk dx [("function", .ref f), ("lengths", .ref Dl)]) = H4 at hf4 hD4 hx4 b4
      refine q_fldC (vs := [.ref f, .str "whole", .int 0]) (Evl.ea_cons (Evl.ev_var rfl) (Evl.ea_cons Evl.ev_c (Evl.ea_cons Evl.ev_c Evl.ea_nil))) fun H5 e5 => ⟨f, "whole", 0, F, st, rfl, hf4.same e5, hst, fun u H6 e6 hu => ?_⟩
      have s6 := Same.trans e5 e6
      refine ⟨_, rfl, x, A0.c_Walk, dx, _, rfl, s6 _ _ hx4, C.cl, C.n_state, (by show (2 : Nat) < 1000; decide), ?_⟩
      obtain ⟨hf7, kk7⟩ := keep (gs := [("function", .ref f), ("lengths", .ref Dl), ("state", u)]) (s6 _ _ hx4) (hf4.same s6)
      have hu7 := hu.keep kk7
      have hD7 : (upd H6 x (.ins A0.c_Walk dx [("function", .ref f), ("lengths", .ref Dl), ("state", u)])) Dl = some (.dK (lenK (F.lists.map fun n => (n, (ls.lookup n).getD 0)))) := by rw [upd_ne (Ne.symm hxD)]; exact s6 _ _ hD4
      have hx7 : (upd H6 x (.ins A0.c_Walk dx [("function", .ref f), ("lengths", .ref Dl), ("state", u)])) x = some (.ins A0.c_Walk dx [("function", .ref f), ("lengths", .ref Dl), ("state", u)]) := upd_same
      have b7 : But x H (upd H6 x (.ins A0.c_Walk dx [("function", .ref f), ("lengths", .ref Dl), ("state", u)])) := but_upd (but_same b4 s6)
      show tSeq _ _ _ _ (upd H6 x (.ins A0.c_Walk dx [("function", .ref f), ("lengths", .ref Dl), ("state", u)]))
      generalize upd H6 x (.ins A0.c_Walk dx [("function", .ref f), ("lengths", .ref Dl), ("state", u)]) = H7 at hf7 hu7 hD7 hx7 b7
      refine ⟨by show 0 ≤ sizeLine; decide, fun tr0 htr0 => ⟨_, rfl, x, A0.c_Walk, dx, _, rfl, (Same.new htr0) _ _ hx7, C.cl, C.n_trail, (by show (3 : Nat) < 1000; decide), ?_⟩⟩
      have s8 := Same.new (o := .lst []) htr0
      have hxt : x ≠ tr0 := ne_of_none hx7 htr0
      have htH : H tr0 = none := but_none b7 htr0 ⟨_, hx7⟩
      obtain ⟨hf9, kk9⟩ := keep (gs := [("function", .ref f), ("lengths", .ref Dl), ("state", u), ("trail", .ref tr0)]) (s8 _ _ hx7) (hf7.same s8)
      have hu9 := (hu7.same s8).keep kk9
      have hx9 : (upd (upd H7 tr0 (.lst [])) x (.ins A0.c_Walk dx [("function", .ref f), ("lengths", .ref Dl), ("state", u), ("trail", .ref tr0)])) x = some (.ins A0.c_Walk dx [("function", .ref f), ("lengths", .ref Dl), ("state", u), ("trail", .ref tr0)]) := upd_same
      have hD9 : (upd (upd H7 tr0 (.lst [])) x (.ins A0.c_Walk dx [("function", .ref f), ("lengths", .ref Dl), ("state", u), ("trail", .ref tr0)])) Dl = some (.dK (lenK (F.lists.map fun n => (n, (ls.lookup n).getD 0)))) := by rw [upd_ne (Ne.symm hxD)]; exact s8 _ _ hD7
      have ht9 : (upd (upd H7 tr0 (.lst [])) x (.ins A0.c_Walk dx [("function", .ref f), ("lengths", .ref Dl), ("state", u), ("trail", .ref tr0)])) tr0 = some (.lst []) := by rw [upd_ne (Ne.symm hxt)]; exact upd_same
      have b9 : But x H (upd (upd H7 tr0 (.lst [])) x (.ins A0.c_Walk dx [("function", .ref f), ("lengths", .ref Dl), ("state", u), ("trail", .ref tr0)])) := but_upd (but_same b7 s8)
      refine ⟨_, rfl, x, A0.c_Walk, dx, _, rfl, hx9, C.cl, C.n_fault, (by show (4 : Nat) < 1000; decide), ?_⟩
      obtain ⟨hfa', kka⟩ := keep (gs := [("function", .ref f), ("lengths", .ref Dl), ("state", u), ("trail", .ref tr0), ("fault", .non)]) hx9 hf9
      refine k Dl tr0 _ hDH htH (but_upd b9) ⟨dx, f, u, [], upd_same, hfa', ?_, hu9.keep kka, ?_, .nil⟩
      · exact (upd_ne (Ne.symm hxD)).trans hD9
      · exact (upd_ne (Ne.symm hxt)).trans ht9
end

end K45
end
section
set_option Elab.async false
set_option autoImplicit false
set_option linter.all false
set_option maxRecDepth 100000
set_option maxHeartbeats 2000000
/-! reading functions: readings and promises -/
namespace PySem.Fl
open PySem PySem.Spec PyProof.Rows L2 PySem.OxE LawC
def spMade : Sp := fun vs H Q _ => ∃ u cs, vs = [.str u, .str cs] ∧ u.cps.size ≤ 1000 ∧ ∀ H', Same H H' → Q (.bl (madeOf u cs)) H'
def spName : Sp := fun vs H Q _ => ∃ u, vs = [.str u] ∧ u.cps.size ≤ 1000 ∧ ∀ H', Same H H' → Q (.bl (decide (u.cps.size ≤ 3) && madeOf u letters)) H'
theorem walk_s {x : Str} : Walk (Its x) x.cps.size (fun _ => True) (fun i H v H' => H' = H ∧ ∃ c, x.cps[i]? = some c ∧ v = .str ⟨#[c]⟩) :=
  ⟨fun i H hi _ => hi, fun H _ => Nat.le_refl _, fun i H v H' hi _ y => y⟩
def spRow (K : PySem.W.Frag) : Sp := fun vs H Q _ => ∃ l ws, vs = [.ref l] ∧ SqL K H l (ws.map V.str) ∧ (∀ u ∈ ws, u.cps.size ≤ 1000) ∧ ws.length ≤ 1000 ∧ ∀ H', Same H H' → Q (.bl (isRow ws)) H'
section
variable {K : PySem.W.Frag} {H : Hp} {σ : L2.St} {te : TE} {t : TA}
theorem ea_star {p : Addr} {xs ys : List V} (h : Evl.Ev te σ H (.ref p)) (hp : ∀ H1, SqT K H1 p xs) (hr : Evl.EvA t σ H ys) : Evl.EvA (StX.tStar K te t) σ H (xs ++ ys) := fun H1 e1 Q q => h H1 e1 _ fun H2 e2 => ⟨p, xs, rfl, .inl (hp H2), hr H2 (e1.trans e2) _ fun H3 e3 => q H3 (e2.trans e3)⟩
end
end PySem.Fl
end
section
set_option Elab.async false
set_option autoImplicit false
set_option linter.all false
set_option maxRecDepth 100000
set_option maxHeartbeats 4000000
namespace K45
open PySem PySem.Spec PyProof.Rows L2 PySem.OxE LawC PySem.Fl

section
variable {P : Program} {w : World} {K : PySem.W.Frag} {mg : Str → Option Value} {base : Heap} {A0 : Ad}
theorem ok_is_made_of (T : Txt P K mg A0) : FnOk P w K mg base CX0 1 A0.f_is_made_of A0.fd_is_made_of ["text", "characters"] spMade := by
  refine T.F_is_made_of.ok sc_is_made_of (fun vs H Q E h => ?_) (fun cdv A outer s H vs Q E hr h => ?_)
  · obtain ⟨u, cs, rfl, _⟩ := h
    rfl
  · obtain ⟨u, cs, rfl, hz, k⟩ := h
    refine ⟨_, (pss_one (ps_ret (pe_and (pe_cmpR op_ne (pv 0) pe_str (nomark _)) (pe_one (pe_callB (cr_all rfl) (by rfl) T.z_all (by decide +kernel) (pa_cons (pe_lc (own := [("character", 2)]) (g := gName 2) (tt := tYes) (by rfl) sc_is_made_of.nd (pi_str (pv 0)) (blkOk_by (N := ["text", "characters", "character"]) (sc := defScope s_is_made_of) (by decide +kernel)) (fun _ _ _ _ _ => (pg_name (i := 2) sc_is_made_of.nd rfl (Or.inl rfl))) (fun _ _ _ _ _ => pts_nil) (fun _ _ _ _ _ => (pe_cmpR op_in_sign (pv 2) (pv 1) (by first | rfl | with_unfolding_all rfl)))) pa_nil)))))), ?_⟩
    refine Evl.s_ret (v := .bl (madeOf u cs)) (Evl.ev_andV (a := !decide (u = "")) (b := u.cps.toList.all fun c => decide (c ∈ cs.cps.toList)) (ev_neS (Evl.ev_var rfl) Evl.ev_c) fun _ => ?_) k
    intro H1 e1 Q1 q1
    refine ⟨_, rfl, u, rfl, fun Dl hD => ?_⟩
    refine lc_it walk_s (fun i H' => Same H1 H' ∧ H' Dl = some (.lst (((u.cps.toList.take i).map fun c => decide (c ∈ cs.cps.toList)).map V.bl))) ⟨Same.new hD, upd_same⟩ (fun _ _ _ _ => True.intro) (fun i y H2 H3 hi q yy => ?_) fun H2 q => ?_
    · obtain ⟨q1, q2⟩ := q
      obtain ⟨rfl, c, hc, rfl⟩ := yy
      have hc' : u.cps.toList[i]? = some c := by simpa using hc
      refine ⟨rfl, ?_⟩
      unfold tYes
      dsimp only
      rw [if_pos rfl]
      refine ⟨_, rfl, _, rfl, c, cs, rfl, rfl, _, q2, Evl.sz_lt (by rw [List.length_map, List.length_map, List.length_take]; omega), fun b o hb => ?_, ?_⟩
      · rw [upd_ne (ne_of_none hb hD)]
        exact q1 b o hb
      · rw [upd_same, List.take_add_one, hc', List.map_append, List.map_append]; rfl
    · obtain ⟨q1', q2⟩ := q
      have hall : u.cps.toList.take u.cps.size = u.cps.toList := List.take_of_length_le (by simp)
      rw [hall] at q2
      refine ⟨Dl, _, rfl, SqL.of q2, ?_⟩
      have := q1 H2 q1'
      rw [show ((u.cps.toList.map fun c => decide (c ∈ cs.cps.toList)).all id) = u.cps.toList.all (fun c => decide (c ∈ cs.cps.toList)) by rw [List.all_map]; rfl]
      exact this
theorem ok_is_list_name (T : Txt P K mg A0) : FnOk P w K mg base CX0 2 A0.f_is_list_name A0.fd_is_list_name ["text"] spName := by
  have G_is_made_of : FnOk P w K mg base CX0 1 A0.f_is_made_of A0.fd_is_made_of ["text", "characters"] spMade := ok_is_made_of T
  refine T.F_is_list_name.ok sc_is_list_name (fun vs H Q E h => ?_) (fun cdv A outer s H vs Q E hr h => ?_)
  · obtain ⟨u, rfl, _⟩ := h
    rfl
  · obtain ⟨u, rfl, hz, k⟩ := h
    refine ⟨_, (pss_one (ps_ret (pe_and (pe_cmpR op_le (pe_callB call_len_str (by rfl) T.z_len PySem.boot_len (pa_cons (pv 0) pa_nil)) pe_int (nomark _)) (pe_one (pe_call G_is_made_of (hr.mono (by decide)) rfl T.m_is_made_of T.F_is_made_of.kp T.b_is_made_of .nil pass0 (pa_cons (pv 0) (pa_cons (pe_glob rfl T.m_LETTERS T.r_LETTERS) pa_nil))))))), ?_⟩
    refine Evl.s_ret (v := .bl (decide (u.cps.size ≤ 3) && madeOf u letters)) (Evl.ev_andV (a := decide (u.cps.size ≤ 3)) (b := madeOf u letters) ?_ fun _ => Evl.ev_call (vs := [.str u, .str letters]) (Evl.ea_cons (Evl.ev_var rfl) (Evl.ea_cons Evl.ev_c Evl.ea_nil)) fun H1 e1 Q1 q1 E1 => ⟨u, letters, rfl, hz, fun H2 e2 => q1 H2 e2⟩) k
    refine Evl.ev_is (Evl.ev_op (Evl.ev_cb (z := .int (u.cps.size : Int)) (Evl.ea_cons (Evl.ev_var (v := .str u) rfl) Evl.ea_nil) fun H1 e1 Q1 q1 => ⟨u, rfl, Evl.sz_of (show u.cps.size ≤ 100000 by omega), q1 H1 (Evl.Ex.refl _)⟩) Evl.ev_c Evl.rv_I0) ?_
    by_cases h : u.cps.size ≤ 3
    · have : (u.cps.size : Int) ≤ 3 := by omega
      simp [h, this]
    · have : ¬ (u.cps.size : Int) ≤ 3 := by omega
      simp [h, this]
end

end K45
end
section
set_option Elab.async false
set_option autoImplicit false
set_option linter.all false
set_option maxRecDepth 100000
set_option maxHeartbeats 4000000
namespace K45
open PySem PySem.Spec PyProof.Rows L2 PySem.OxE LawC PySem.Fl

section
variable {P : Program} {w : World} {K : PySem.W.Frag} {mg : Str → Option Value} {base : Heap} {A0 : Ad}
theorem ok_is_row (T : Txt P K mg A0) : FnOk P w K mg base CX0 3 A0.f_is_row A0.fd_is_row ["words"] (spRow K) := by
  have G_is_list_name : FnOk P w K mg base CX0 2 A0.f_is_list_name A0.fd_is_list_name ["text"] spName := ok_is_list_name T
  refine T.F_is_row.ok sc_is_row (fun vs H Q E h => ?_) (fun cdv A outer s H vs Q E hr h => ?_)
  · obtain ⟨l, ws, rfl, _⟩ := h
    rfl
  · obtain ⟨l, ws, rfl, hl, hs, hz, k⟩ := h
    refine ⟨_, (pss_cons (ps_if (pt_cmpR op_eq (pe_callB call_len (by rfl) T.z_len PySem.boot_len (pa_cons (pv 0) pa_nil)) pe_int (nomark _))
 (pss_one (ps_ret (pe_or (pe_and (pe_cmpR op_eq (pe_ix ix_list (pv 0) pe_int (fun _ _ => rfl)) pe_str (nomark _)) (pe_one (pe_call G_is_list_name (hr.mono (by decide)) rfl T.m_is_list_name T.F_is_list_name.kp T.b_is_list_name .nil pass0 (pa_cons (pe_ix ix_list (pv 0) pe_int (fun _ _ => rfl)) pa_nil)))) (pe_one (pe_and (pe_cmpR op_eq (pe_ix ix_list (pv 0) pe_int (fun _ _ => rfl)) pe_str (nomark _)) (pe_one (pe_cmpR op_in_seq (pe_ix ix_list (pv 0) pe_int (fun _ _ => rfl)) (pe_tup (pa_cons pe_str (pa_cons pe_str (pa_cons pe_str pa_nil)))) (by first | rfl | with_unfolding_all rfl))))))))
 pss_nil)
 (pss_one (ps_ret (pe_and (pe_cmpR op_eq (pe_callB call_len (by rfl) T.z_len PySem.boot_len (pa_cons (pv 0) pa_nil)) pe_int (nomark _)) (pe_one (pe_cmpR op_in_seq (pe_ix ix_list (pv 0) pe_int (fun _ _ => rfl)) (pe_tup (StX.pa_star (pe_glob (v := .ref _) rfl T.m_PL rfl) (StX.pa_star (pe_glob (v := .ref _) rfl T.m_MI rfl) (pa_cons pe_str (pa_cons pe_str (pa_cons pe_str (pa_cons pe_str pa_nil))))))) (by first | rfl | with_unfolding_all rfl))))))), ?_⟩
    have el : ∀ {H1 : Hp}, Same H H1 → Evl.Ev _ [some (.ref l)] H1 (.int (ws.length : Int)) := fun {H1} e => Evl.ev_is (ev_lenL (K := K) (Evl.ev_var (i := 0) rfl) (Evl.ex_l e hl)) (by rw [List.length_map])
    have ix : ∀ {H1 : Hp} {i : Nat} {u : Str}, Same H H1 → ws[i]? = some u → Evl.Ev (tOp (rIxL K) (tVar 0) (tC (.int (i : Int)))) [some (.ref l)] H1 (.str u) := fun {H1 i u} e h => Evl.ev_op (Evl.ev_var rfl) Evl.ev_c (Evl.rv_ixL (Evl.ex_l e hl) (atI_nat (by rw [List.getElem?_map, h]; rfl)))
    refine Evl.q_when (et_eqN (m := 2) (el (Same.refl _)) Evl.ev_c) (fun h H1 e1 => ?_) (fun h H1 e1 => ?_)
    · match ws, of_decide_eq_true h with
      | [a, b], _ =>
        refine Evl.s_ret (v := .bl (isRow [a, b])) (Evl.ev_orV (a := decide (a = "each") && isName b) (b := decide (a = "retry") && decide (b ∈ (["1", "2", "3"] : List Str))) (Evl.ev_andV (ev_eqS (ix (i := 0) e1 rfl) Evl.ev_c) fun _ => Evl.ev_call (vs := [.str b]) (Evl.ea_cons (ix (i := 1) e1 rfl) Evl.ea_nil) fun H2 e2 Q2 q2 E2 => ⟨b, rfl, hs b (by simp), fun H3 e3 => q2 H3 e3⟩) fun _ => Evl.ev_andV (ev_eqS (ix (i := 0) e1 rfl) Evl.ev_c) fun _ => ?_) fun H2 e2 => k H2 (Same.trans e1 e2)
        exact Evl.ev_is (Evl.ev_inU (xs := (["1", "2", "3"] : List Str).map V.str) (ix (i := 1) e1 rfl) (Evl.eu_tup (Evl.ea_cons Evl.ev_c (Evl.ea_cons Evl.ev_c (Evl.ea_cons Evl.ev_c Evl.ea_nil))) (by simp)) rfl flat_strs) (by rw [inV_str])
    · have h2 : ws.length ≠ 2 := of_decide_eq_false h
      by_cases h1 : ws.length = 1
      · match ws, h1 with
        | [a], _ =>
          refine Evl.s_ret (v := .bl (isRow [a])) (Evl.ev_is (Evl.ev_andV (a := true) (b := decide (a ∈ plainW ++ middleW ++ (["maybe", "try", "shield", "end"] : List Str))) (Evl.ev_is (ev_eqN (m := 1) (el e1) Evl.ev_c) rfl) fun _ => ?_) (by simp [isRow])) fun H2 e2 => k H2 (Same.trans e1 e2)
          refine Evl.ev_is (Evl.ev_inU (xs := (plainW ++ middleW ++ (["maybe", "try", "shield", "end"] : List Str)).map V.str) (ix (i := 0) e1 rfl) (Evl.eu_tup ?_ (by simp [plainW, middleW])) rfl flat_strs) (by rw [inV_str])
          exact ea_star Evl.ev_c T.q_PL (ea_star Evl.ev_c T.q_MI (Evl.ea_cons Evl.ev_c (Evl.ea_cons Evl.ev_c (Evl.ea_cons Evl.ev_c (Evl.ea_cons Evl.ev_c Evl.ea_nil)))))
      · have hf : isRow ws = false := by
          match ws, h1, h2 with
          | [], _, _ => rfl
          | [_], h1, _ => exact absurd rfl h1
          | [_, _], _, h2 => exact absurd rfl h2
          | _ :: _ :: _ :: _, _, _ => rfl
        refine Evl.s_ret (v := .bl (isRow ws)) (Evl.ev_is (Evl.ev_andV (a := false) (b := true) (Evl.ev_is (ev_eqN (m := 1) (el e1) Evl.ev_c) (by rw [decide_eq_false h1])) fun z => by cases z) (by rw [hf]; rfl)) fun H2 e2 => k H2 (Same.trans e1 e2)
end

end K45
end
section
set_option Elab.async false
set_option autoImplicit false
set_option linter.all false
set_option maxRecDepth 100000
set_option maxHeartbeats 2000000
/-! readers on the heap; their promises -/
namespace PySem.Fl
open PySem PySem.Spec PyProof.Rows L2 PySem.OxE LawC
/-- what stands in it points at rows that were read -/
structure Rd.Ok (R : Rd) : Prop where
  st : ∀ o ∈ R.stack, o < R.words.length
  mi : ∀ p ∈ R.middles, p.2 < R.words.length
  few : R.words.length ≤ 60
  dp0 : R.stack.length ≤ R.words.length
  ms0 : R.middles.length ≤ R.words.length
  es0 : R.ends.length ≤ R.words.length
  os0 : R.openers.length ≤ R.words.length
  ek : (R.ends.map (·.1)).Nodup
theorem Rd.Ok.dp {R : Rd} (h : R.Ok) : R.stack.length ≤ 60 := Nat.le_trans h.dp0 h.few
theorem Rd.Ok.ms {R : Rd} (h : R.Ok) : R.middles.length ≤ 60 := Nat.le_trans h.ms0 h.few
theorem Rd.Ok.es {R : Rd} (h : R.Ok) : R.ends.length ≤ 60 := Nat.le_trans h.es0 h.few
theorem Rd.Ok.os {R : Rd} (h : R.Ok) : R.openers.length ≤ 60 := Nat.le_trans h.os0 h.few
theorem mem_put {α : Type} {l : List (Nat × α)} {k : Nat} {v : α} {q : Nat × α} (h : q ∈ put l k v) : q ∈ l ∨ q.2 = v := by
  unfold put at h
  by_cases c : (l.any fun p => decide (p.1 = k)) = true
  · rw [if_pos c] at h
    obtain ⟨p, hp, rfl⟩ := List.mem_map.mp h
    by_cases e : p.1 = k
    · rw [if_pos e]; exact .inr rfl
    · rw [if_neg e]; exact .inl hp
  · rw [if_neg c] at h
    rcases List.mem_append.mp h with h | h
    · exact .inl h
    · rw [List.mem_singleton.mp h]; exact .inr rfl
theorem keys_put {α : Type} (l : List (Nat × α)) (k : Nat) (v : α) (h : (l.map (·.1)).Nodup) : ((put l k v).map (·.1)).Nodup := by
  unfold put
  by_cases c : (l.any fun p => decide (p.1 = k)) = true
  · rw [if_pos c, List.map_map]
    have : ((fun p : Nat × α => p.1) ∘ fun p => if p.1 = k then (p.1, v) else p) = fun p => p.1 := by
      funext p
      by_cases e : p.1 = k
      · simp [e]
      · simp [e]
    rw [this]
    exact h
  · rw [if_neg c, List.map_append]
    refine List.nodup_append.mpr ⟨h, by simp, fun a ha b hb z => ?_⟩
    simp at hb
    subst z hb
    obtain ⟨p, hp, e⟩ := List.mem_map.mp ha
    exact c (List.any_eq_true.mpr ⟨p, hp, decide_eq_true e⟩)
theorem Rd.Ok.take {R : Rd} (h : R.Ok) (u : Str) (hz : R.words.length < 60) : (R.take u).Ok := by
  have l1 : (R.words ++ [u]).length = R.words.length + 1 := by simp
  have st1 : ∀ o ∈ R.stack, o < (R.words ++ [u]).length := fun o ho => by have := h.st o ho; omega
  have mi1 : ∀ p ∈ R.middles, p.2 < (R.words ++ [u]).length := fun o ho => by have := h.mi o ho; omega
  have f1 : (R.words ++ [u]).length ≤ 60 := by omega
  have d1 : R.stack.length ≤ (R.words ++ [u]).length := by have := h.dp0; omega
  have m1 : R.middles.length ≤ (R.words ++ [u]).length := by have := h.ms0; omega
  have e1 : R.ends.length ≤ (R.words ++ [u]).length := by have := h.es0; omega
  have o1 : (R.openers ++ [R.top]).length ≤ (R.words ++ [u]).length := by have := h.os0; simp; omega
  unfold Rd.take
  by_cases c1 : u ∈ openingW
  · simp only [if_pos c1]
    refine ⟨fun o ho => ?_, mi1, f1, ?_, m1, e1, o1, h.ek⟩
    · rcases List.mem_append.mp ho with q | q
      · exact st1 o q
      · rw [List.mem_singleton.mp q]; show _ < (R.words ++ [u]).length; omega
    · show (R.stack ++ [R.words.length]).length ≤ (R.words ++ [u]).length
      have := h.dp0
      simp; omega
  · simp only [if_neg c1]
    by_cases c2 : u ∈ middleW
    · simp only [if_pos c2]
      cases ht : R.top with
      | none => rw [ht] at o1; exact ⟨st1, mi1, f1, d1, m1, e1, o1, h.ek⟩
      | some o =>
        rw [ht] at o1
        refine ⟨st1, fun p hp => ?_, f1, d1, ?_, e1, o1, h.ek⟩
        · rcases mem_put hp with q | q
          · exact mi1 p q
          · rw [q]; show _ < (R.words ++ [u]).length; omega
        · show (put R.middles o R.words.length).length ≤ (R.words ++ [u]).length
          have := length_put R.middles o R.words.length
          have := h.ms0
          omega
    · simp only [if_neg c2]
      by_cases c3 : u = "end"
      · simp only [if_pos c3]
        cases ht : R.top with
        | none => rw [ht] at o1; subst c3; exact ⟨st1, mi1, f1, d1, m1, e1, o1, h.ek⟩
        | some o =>
          rw [ht] at o1
          subst c3
          refine ⟨fun o ho => st1 o ((List.dropLast_sublist _).subset ho), mi1, f1, ?_, m1, ?_, o1, ?_⟩
          · show R.stack.dropLast.length ≤ (R.words ++ [_]).length
            rw [List.length_dropLast]; omega
          · show (put R.ends o R.words.length).length ≤ (R.words ++ [_]).length
            have := length_put R.ends o R.words.length
            have := h.es0
            omega
          · exact keys_put _ _ _ h.ek
      · simp only [if_neg c3]
        exact ⟨st1, mi1, f1, d1, m1, e1, o1, h.ek⟩
theorem Rd.ok_nil : Rd.nil.Ok := ⟨fun o h => absurd h (by simp [Rd.nil]), fun o h => absurd h (by simp [Rd.nil]), by simp [Rd.nil], by simp [Rd.nil], by simp [Rd.nil], by simp [Rd.nil], by simp [Rd.nil], by simp [Rd.nil]⟩
def IsRd (c : Addr) (H : Hp) (x : Addr) (R : Rd) : Prop := ∃ dx lw ls lo dm de, RdAt c H x R dx lw ls lo dm de
theorem IsRd.same {c : Addr} {H H' : Hp} {x : Addr} {R : Rd} (h : IsRd c H x R) (s : Same H H') : IsRd c H' x R := by
  obtain ⟨dx, lw, ls, lo, dm, de, h⟩ := h
  exact ⟨dx, lw, ls, lo, dm, de, s _ _ h.obj, s _ _ h.words, s _ _ h.stack, s _ _ h.openers, s _ _ h.mids, s _ _ h.ends⟩
section
variable {K : PySem.W.Frag} {c : Addr} {H : Hp} {x : Addr} {R : Rd} {σ : L2.St} {ta te : TE}
/-- self.words[o] -/
theorem ev_rword {o : Nat} {u : Str} (h : IsRd c H x R) (C : RdC K c) (ha : Evl.Ev ta σ H (.ref x)) (ho : Evl.Ev te σ H (.int o)) (hw : R.words[o]? = some u) : Evl.Ev (tOp (rIxL K) (tFld K ta "words") te) σ H (.str u) := by
  obtain ⟨dx, lw, ls, lo, dm, de, h⟩ := h
  exact Evl.ev_op (ev_fld ha h.obj C.cl C.n_words rfl) ho (Evl.rv_ixL (SqL.of h.words) (atI_nat (by rw [List.getElem?_map, hw]; rfl)))
/-- self.stack[-1] -/
theorem ev_rtop {o : Nat} (h : IsRd c H x R) (C : RdC K c) (ha : Evl.Ev ta σ H (.ref x)) (ho : R.top = some o) : Evl.Ev (tOp (rIxL K) (tFld K ta "stack") (tUn (rU fun i => .int (-i)) (tC (.int 1)))) σ H (.int o) := by
  obtain ⟨dx, lw, ls, lo, dm, de, h⟩ := h
  refine Evl.ev_op (ev_fld ha h.obj C.cl C.n_stack rfl) (Evl.ev_un Evl.ev_c Evl.ru_neg) (Evl.rv_ixL (SqL.of h.stack) (atI_last ?_))
  rw [List.getLast?_map, show R.stack.getLast? = some o from ho]
  rfl
/-- the truth of self.stack -/
theorem et_stack (h : IsRd c H x R) (C : RdC K c) (ha : Evl.Ev ta σ H (.ref x)) : Evl.EvT (fun σ H Q => tFld K ta "stack" σ H fun x H' => ∃ k, TruV K x H' k ∧ Q k H') σ H R.top.isSome := by
  obtain ⟨dx, lw, ls, lo, dm, de, h⟩ := h
  intro H1 e1 Q q
  refine ev_fld ha h.obj C.cl C.n_stack rfl H1 e1 _ fun H2 e2 => ⟨_, .inl ⟨R.stack.map natV, SqL.of (e2 _ _ (e1 _ _ h.stack)), ?_⟩, q H2 e2⟩
  unfold Rd.top
  cases R.stack with
  | nil => rfl
  | cons a l => simp
/-- self.middles[o] -/
theorem ev_rmid {o m : Nat} (h : IsRd c H x R) (C : RdC K c) (ha : Evl.Ev ta σ H (.ref x)) (ho : Evl.Ev te σ H (.int o)) (hm : R.middles.lookup o = some m) : Evl.Ev (tDGet (tFld K ta "middles") te) σ H (.int m) := by
  obtain ⟨dx, lw, ls, lo, dm, de, h⟩ := h
  exact ev_dget (ev_fld ha h.obj C.cl C.n_middles rfl) ho h.mids ((lookup_keys natV R.middles o).trans (by rw [hm]; rfl))
theorem ev_notmid {o : Nat} (h : IsRd c H x R) (C : RdC K c) (ha : Evl.Ev ta σ H (.ref x)) (ho : Evl.Ev te σ H (.int o)) : Evl.Ev (tDNotIn te (tFld K ta "middles")) σ H (.bl (!R.hasMid o)) := by
  obtain ⟨dx, lw, ls, lo, dm, de, h⟩ := h
  intro H1 e1 Q q
  refine ho H1 e1 _ fun H2 e2 => ev_fld ha h.obj C.cl C.n_middles rfl H2 (Same.trans e1 e2) _ fun H3 e3 => ?_
  have g := DGet.k (k := .inl (o : Int)) (e3 _ _ (e2 _ _ (e1 _ _ h.mids)))
  rw [show valV (mapK natV R.middles) (.inl (o : Int)) = _ from lookup_keys natV R.middles o] at g
  refine ⟨dm, _, rfl, g, ?_⟩
  have := q H3 (Same.trans e2 e3)
  unfold Rd.hasMid at this
  cases hl : R.middles.lookup o with
  | none => rw [hl] at this; exact this
  | some m => rw [hl] at this; exact this
theorem lookup_mem {α : Type} {o : Nat} {m : α} : ∀ {l : List (Nat × α)}, l.lookup o = some m → (o, m) ∈ l
  | (k, v) :: l, h => by
    rw [List.lookup_cons] at h
    by_cases e : o = k
    · subst e
      simp at h
      subst h
      exact List.mem_cons_self
    · have : (o == k) = false := by simpa using e
      rw [this] at h
      exact List.mem_cons_of_mem _ (lookup_mem h)
/-- o in self.middles -/
theorem ev_inmid {o : Nat} (h : IsRd c H x R) (C : RdC K c) (ha : Evl.Ev ta σ H (.ref x)) (ho : Evl.Ev te σ H (.int o)) : Evl.Ev (tDIn te (tFld K ta "middles")) σ H (.bl (R.hasMid o)) := by
  obtain ⟨dx, lw, ls, lo, dm, de, h⟩ := h
  intro H1 e1 Q q
  refine ho H1 e1 _ fun H2 e2 => ev_fld ha h.obj C.cl C.n_middles rfl H2 (Same.trans e1 e2) _ fun H3 e3 => ?_
  have g := DGet.k (k := .inl (o : Int)) (e3 _ _ (e2 _ _ (e1 _ _ h.mids)))
  rw [show valV (mapK natV R.middles) (.inl (o : Int)) = _ from lookup_keys natV R.middles o] at g
  refine ⟨dm, _, rfl, g, ?_⟩
  have := q H3 (Same.trans e2 e3)
  unfold Rd.hasMid at this
  cases hl : R.middles.lookup o with
  | none => rw [hl] at this; exact this
  | some m => rw [hl] at this; exact this
end
def spRB (c : Addr) (m : Rd → Nat → Bool) : Sp := fun vs H Q _ => ∃ x o R, vs = [.ref x, .int (o : Nat)] ∧ IsRd c H x R ∧ R.Ok ∧ o < R.words.length ∧ ∀ H', Same H H' → Q (.bl (m R o)) H'
def spRS (c : Addr) (m : Rd → Str → Bool) : Sp := fun vs H Q _ => ∃ x u R, vs = [.ref x, .str u] ∧ IsRd c H x R ∧ R.Ok ∧ ∀ H', Same H H' → Q (.bl (m R u)) H'
def spRW (c : Addr) : Sp := fun vs H Q _ => ∃ x R, vs = [.ref x] ∧ IsRd c H x R ∧ R.Ok ∧ ∀ H', Same H H' → Q (oS R.openerWord) H'
def spRP (c : Addr) : Sp := fun vs H Q _ => ∃ x R, vs = [.ref x] ∧ IsRd c H x R ∧ R.Ok ∧ ∀ H', Same H H' → Q (oI R.loopPlace) H'
end PySem.Fl
end
section
set_option Elab.async false
set_option autoImplicit false
set_option linter.all false
set_option maxRecDepth 100000
set_option maxHeartbeats 4000000
namespace K45
open PySem PySem.Spec PyProof.Rows L2 PySem.OxE LawC PySem.Fl

section
variable {P : Program} {w : World} {K : PySem.W.Frag} {mg : Str → Option Value} {base : Heap} {A0 : Ad}
theorem ok_opener_word (T : Txt P K mg A0) : FnOk P w K mg base CX0 1 A0.f_Reader_opener_word A0.fd_Reader_opener_word ["self"] (spRW A0.c_Reader) := by
  refine T.F_Reader_opener_word.ok sc_Reader_opener_word (fun vs H Q E h => ?_) (fun cdv A outer s H vs Q E hr h => ?_)
  · obtain ⟨x, R, rfl, _⟩ := h
    rfl
  · obtain ⟨x, R, rfl, hR, ok, k⟩ := h
    refine ⟨_, (pss_one (ps_ret (pe_ifExp (pt_truth (pe_fld (pv 0) rfl) (fun _ => rfl)) (pe_ix ix_list (pe_fld (pv 0) rfl) (pe_ix ix_list (pe_fld (pv 0) rfl) (pe_un un_neg pe_int) (fun _ _ => rfl)) (fun _ _ => rfl)) pe_non))), ?_⟩
    have C := T.rc
    refine Evl.s_ret (v := oS R.openerWord) (Evl.ev_if (b := R.top.isSome) (et_stack hR C (Evl.ev_var rfl)) (fun z => ?_) (fun z => ?_)) k
    · obtain ⟨o, ho⟩ := Option.isSome_iff_exists.mp z
      have hlt : o < R.words.length := ok.st o (List.mem_of_getLast? ho)
      refine Evl.ev_is (ev_rword (u := R.words[o]) hR C (Evl.ev_var rfl) (ev_rtop hR C (Evl.ev_var rfl) ho) (List.getElem?_eq_getElem hlt)) ?_
      unfold Rd.openerWord
      rw [ho]
      show _ = oS (R.words[o]?)
      rw [List.getElem?_eq_getElem hlt]
      rfl
    · have : R.top = none := by simpa using z
      unfold Rd.openerWord
      rw [this]
      exact Evl.ev_c
theorem ok_is_second (T : Txt P K mg A0) : FnOk P w K mg base CX0 1 A0.f_Reader_is_second A0.fd_Reader_is_second ["self", "opener"] (spRB A0.c_Reader Rd.isSecond) := by
  refine T.F_Reader_is_second.ok sc_Reader_is_second (fun vs H Q E h => ?_) (fun cdv A outer s H vs Q E hr h => ?_)
  · obtain ⟨x, o, R, rfl, _⟩ := h
    rfl
  · obtain ⟨x, o, R, rfl, hR, ok, hlt, k⟩ := h
    refine ⟨_, (pss_one (ps_ret (pe_and (pe_cmpR op_eq (pe_ix ix_list (pe_fld (pv 0) rfl) (pv 1) (fun _ _ => rfl)) pe_str (nomark _)) (pe_one (pe_cmp (pc_din (hu_of hr) (pv 1) (pe_fld (pv 0) rfl))))))), ?_⟩
    have C := T.rc
    refine Evl.s_ret (v := .bl (R.isSecond o)) (Evl.ev_is (Evl.ev_andV (b := R.hasMid o) (ev_eqS (ev_rword (u := R.words[o]) hR C (Evl.ev_var rfl) (Evl.ev_var rfl) (List.getElem?_eq_getElem hlt)) Evl.ev_c) fun _ => ev_inmid hR C (Evl.ev_var rfl) (Evl.ev_var rfl)) ?_) k
    unfold Rd.isSecond Rd.wordIs
    rw [List.getElem?_eq_getElem hlt]
    simp
end

end K45
end
section
set_option Elab.async false
set_option autoImplicit false
set_option linter.all false
set_option maxRecDepth 100000
set_option maxHeartbeats 4000000
namespace K45
open PySem PySem.Spec PyProof.Rows L2 PySem.OxE LawC PySem.Fl

section
variable {P : Program} {w : World} {K : PySem.W.Frag} {mg : Str → Option Value} {base : Heap} {A0 : Ad}
theorem ok_is_rescue (T : Txt P K mg A0) : FnOk P w K mg base CX0 2 A0.f_Reader_is_rescue A0.fd_Reader_is_rescue ["self", "opener"] (spRB A0.c_Reader Rd.isRescue) := by
  have G_Reader_is_second : FnOk P w K mg base CX0 1 A0.f_Reader_is_second A0.fd_Reader_is_second ["self", "opener"] (spRB A0.c_Reader Rd.isSecond) := ok_is_second T
  refine T.F_Reader_is_rescue.ok sc_Reader_is_rescue (fun vs H Q E h => ?_) (fun cdv A outer s H vs Q E hr h => ?_)
  · obtain ⟨x, o, R, rfl, _⟩ := h
    rfl
  · obtain ⟨x, o, R, rfl, hR, ok, hlt, k⟩ := h
    refine ⟨_, (pss_one (ps_ret (pe_and (pe_meth (pv 0) T.rc.cl T.M_Reader_is_second G_Reader_is_second (hr.mono (by decide)) T.b_Reader_is_second .nil pass0 (pa_cons (pv 1) pa_nil)) (pe_one (pe_cmpR op_eq (pe_ix ix_list (pe_fld (pv 0) rfl) (pe_dget (hu_of hr) (pe_fld (pv 0) rfl) (pv 1) (fun _ _ => rfl)) (fun _ _ => rfl)) pe_str (nomark _)))))), ?_⟩
    have C := T.rc
    obtain ⟨dx, lw, ls, lo, dm, de, hA⟩ := id hR
    have e2 : R.isSecond o = true → ∃ m, R.middles.lookup o = some m ∧ m < R.words.length := fun z => by
      unfold Rd.isSecond at z
      have z2 := (Bool.and_eq_true_iff.mp z).2
      unfold Rd.hasMid at z2
      obtain ⟨m, hm⟩ := Option.isSome_iff_exists.mp z2
      exact ⟨m, hm, ok.mi _ (lookup_mem hm)⟩
    refine Evl.s_ret (v := .bl (R.isRescue o)) (Evl.ev_is (Evl.ev_andV (a := R.isSecond o) (b := match R.middles.lookup o with | some m => decide (R.words[m]? = some ("rescue" : Str)) | none => false) ?_ fun z => ?_) rfl) k
    · intro H1 e1 Q1 q1
      refine ⟨_, rfl, x, dx, _, rfl, e1 _ _ hA.obj, (by rfl), ?_⟩
      exact ⟨_, rfl, x, o, R, rfl, hR.same e1, ok, hlt, fun H2 e2 => q1 H2 e2⟩
    · obtain ⟨m, hm, hml⟩ := e2 z
      rw [hm]
      refine Evl.ev_is (ev_eqS (ev_rword (u := R.words[m]) hR C (Evl.ev_var rfl) (ev_rmid hR C (Evl.ev_var rfl) (Evl.ev_var rfl) hm) (List.getElem?_eq_getElem hml)) Evl.ev_c) ?_
      show V.bl (decide (R.words[m] = "rescue")) = V.bl (decide (R.words[m]? = some ("rescue" : Str)))
      rw [List.getElem?_eq_getElem hml]
      simp
end

end K45
end
section
set_option Elab.async false
set_option autoImplicit false
set_option linter.all false
set_option maxRecDepth 100000
set_option maxHeartbeats 2000000
/-! method calls as readings, for over enumerate, any, filters -/
namespace PySem.Fl
open PySem PySem.Spec PyProof.Rows L2 PySem.OxE LawC
section
variable {K : PySem.W.Frag} {H H' : Hp} {σ : L2.St} {ta tb te tl : TE} {D : Ends}
/-- o.m(..) by the promise -/
theorem ev_meth {C : Addr} {m : Str} {sp : Sp} {E : XK} {t : TA} {vs : List V} {a dx : Addr} {fs : List (Str × V)} {z : V} (ha : Evl.Ev ta σ H (.ref a)) (hH : H a = some (.ins C dx fs)) (hl : fs.lookup m = none) (ht : Evl.EvA t σ H vs) (hs : Evl.SpV sp (.ref a :: vs) H z) : Evl.Ev (tMeth C m sp [] E ta t) σ H z := fun H1 e1 Q q => ha H1 e1 _ fun H2 e2 => ⟨a, dx, fs, rfl, e2 _ _ (e1 _ _ hH), hl, ht H2 (Same.trans e1 e2) _ fun H3 e3 => by
  rw [List.append_nil]
  exact hs H3 (Same.trans (Same.trans e1 e2) e3) Q (fun H4 e4 => q H4 (Same.trans (Same.trans e2 e3) e4)) E⟩
theorem s_forE {a : Addr} {xs : List V} {g : TG} {tu : TS} (h : Evl.Ev tl σ H (.ref a)) (hx : SqL K H a xs) (Pv : Nat → L2.St → Hp → Prop) (h0 : ∀ H1, Same H H1 → Pv 0 σ H1) (hl : ∀ i σ' H', Pv i σ' H' → SqL K H' a xs)
    (hs : ∀ i x σ' H' T, xs[i]? = some x → Pv i σ' H' → H' T = none → g (.ref T) σ' (upd H' T (.tup [.int (i : Nat), x])) fun σ2 H2 => tu { D with nx := Pv (i + 1), ct := Pv (i + 1), bk := D.nx } σ2 H2) (hd : ∀ σ' H', Pv xs.length σ' H' → D.nx σ' H') : tFor (iEnum K (tCons tl tNil)) g tu D σ H := by
  unfold tFor iEnum
  exact (Evl.ea_cons h Evl.ea_nil) H (Evl.Ex.refl H) _ fun H1 e1 => ⟨a, xs, rfl, Evl.ex_l e1 hx, for_it walk_enum Pv (h0 H1 e1) (fun i σ H _ p => hl i σ H p) (fun i x σ' H' H2 hi p y => by
    obtain ⟨T, x1, x2, rfl, hT, rfl, h1, h2⟩ := y
    cases h1
    exact hs i x2 σ' H' T h2 p hT) hd⟩
theorem q_forE {a : Addr} {xs : List V} {g : TG} {tu tz : TS} (h : Evl.Ev tl σ H (.ref a)) (hx : SqL K H a xs) (Pv : Nat → L2.St → Hp → Prop) (h0 : ∀ H1, Same H H1 → Pv 0 σ H1) (hl : ∀ i σ' H', Pv i σ' H' → SqL K H' a xs)
    (hs : ∀ i x σ' H' T, xs[i]? = some x → Pv i σ' H' → H' T = none → g (.ref T) σ' (upd H' T (.tup [.int (i : Nat), x])) fun σ2 H2 => tu { D with nx := Pv (i + 1), ct := Pv (i + 1), bk := tz D } σ2 H2) (hd : ∀ σ' H', Pv xs.length σ' H' → tz D σ' H') : tSeq (tFor (iEnum K (tCons tl tNil)) g tu) tz D σ H := s_forE (D := { D with nx := tz D }) h hx Pv h0 hl hs hd
theorem g2 {i j : Nat} {a b : V} {T : Addr} {Q : L2.St → Hp → Prop} (h : Q ((σ.set i (some a)).set j (some b)) (upd H T (.tup [a, b]))) : gTup K 2 (gCons (gName i) (gCons (gName j) gNil)) (.ref T) σ (upd H T (.tup [a, b])) Q :=
  ⟨T, _, rfl, SqT.of upd_same, rfl, _, _, rfl, _, _, rfl, rfl, h⟩
theorem ev_any {bs : List Bool} (h : Evl.EvL te σ H (bs.map V.bl)) : Evl.Ev (tCB (rAny K) (tCons te tNil)) σ H (.bl (bs.any id)) := fun H1 e1 Q q => h H1 e1 _ fun p H2 hp e2 h2 => ⟨p, bs, rfl, SqL.of h2, q H2 e2⟩
/-- [x for x in a list if p x] -/
theorem el_filtL {a : Addr} {xs : List V} {p : V → Bool} {tt : TT} {j : Nat} {vs : List Nat} (h : Evl.Ev tl σ H (.ref a)) (hx : SqL K H a xs) (hz : xs.length ≤ 40000) (hw : ∀ x, wipe ((wipe σ vs).set j (some x)) vs = wipe σ vs)
    (ht : ∀ x H1, Evl.Ex H H1 → x ∈ xs → Evl.EvT tt ((wipe σ vs).set j (some x)) H1 (p x)) (he : ∀ x H1, Evl.Ex H H1 → x ∈ xs → Evl.Ev te ((wipe σ vs).set j (some x)) H1 x) : Evl.EvL (tLc (iList K tl) (gName j) tt te vs) σ H (xs.filter p) := fun H0 e Q q => h H0 e _ fun H1 e1 => ⟨a, rfl, ⟨xs, Evl.ex_l (e.trans e1) hx⟩, fun Dl hD =>
  lc_list (xs := xs) (fun i H' => Same H1 H' ∧ H' Dl = some (.lst ((xs.take i).filter p))) ⟨Same.new hD, upd_same⟩ (fun i H' _ p => Evl.ex_l ((e.trans e1).trans p.1) hx) (fun i x H' hi pp => by
    obtain ⟨p1, p2⟩ := pp
    have hm := List.mem_of_getElem? hi
    refine ⟨hw x, ?_⟩
    refine ht x H' ((e.trans e1).trans p1) hm H' (Evl.Ex.refl _) _ fun H2 e2 => ?_
    have tk : xs.take (i + 1) = xs.take i ++ [x] := by rw [List.take_add_one, hi]; rfl
    by_cases hp : p x = true
    · rw [if_pos hp]
      refine he x H2 (((e.trans e1).trans p1).trans e2) hm H2 (Evl.Ex.refl _) _ fun H3 e3 => ⟨_, e3 _ _ (e2 _ _ p2), Evl.sz_lt ?_, fun b o hb => ?_, ?_⟩
      · have := List.length_filter_le p (xs.take i)
        rw [List.length_take] at this
        omega
      · rw [upd_ne (ne_of_none hb hD)]
        exact e3 _ _ (e2 _ _ (p1 b o hb))
      · rw [upd_same, tk, List.filter_append, List.filter_cons, if_pos hp]; rfl
    · rw [if_neg hp]
      refine ⟨Same.trans p1 e2, ?_⟩
      rw [tk, List.filter_append, List.filter_cons, if_neg hp, List.filter_nil, List.append_nil]
      exact e2 _ _ p2) fun H' p => by
    rw [List.take_of_length_le (Nat.le_refl _)] at p
    exact q Dl H' (Evl.fresh_back e1 hD) (Same.trans e1 p.1) p.2⟩
theorem _root_.L2.Evl.el_is {xs ys : List V} (h : Evl.EvL te σ H xs) (e : xs = ys) : Evl.EvL te σ H ys := e ▸ h
theorem ev_lenNL {xs : List V} (h : Evl.EvL te σ H xs) : Evl.Ev (tCB (fun xs H Q => ∃ x n, xs = [x] ∧ LenV K x H n ∧ Q (V.int n) H) (tCons te tNil)) σ H (.int (xs.length : Int)) := fun H1 e1 Q q => h H1 e1 _ fun p H2 hp e2 h2 => ⟨_, _, rfl, .inl ⟨_, SqL.of h2, rfl⟩, q H2 e2⟩
theorem cutV_drop (xs : List V) (k : Nat) : cutV xs (some (k : Int)) none = xs.drop k := by
  unfold cutV
  rw [HT.sIx_nat, HT.sIx_none]
  by_cases h : k ≤ xs.length
  · rw [Nat.min_eq_left h, List.take_of_length_le (by rw [List.length_drop]; exact Nat.le_refl _)]
  · rw [Nat.min_eq_right (by omega), List.drop_eq_nil_of_le (Nat.le_refl _), List.drop_eq_nil_of_le (by omega), List.take_nil]
end
/-- what stands elsewhere than at those addresses stays -/
def ButL (as : List Addr) (H H' : Hp) : Prop := ∀ b o, b ∉ as → H b = some o → H' b = some o
theorem ButL.of {as : List Addr} {H H' : Hp} (s : Same H H') : ButL as H H' := fun b o _ h => s b o h
theorem ButL.trans {as : List Addr} {H H1 H2 : Hp} (a : ButL as H H1) (b : ButL as H1 H2) : ButL as H H2 := fun c o h1 h => b c o h1 (a c o h1 h)
theorem ButL.upd {as : List Addr} {H : Hp} {p : Addr} {o : HO} (h : p ∈ as) : ButL as H (upd H p o) := fun b u hb e => by rw [upd_ne (fun z => hb (by rw [z]; exact h))]; exact e
structure Apart (x lw ls lo dm de : Addr) : Prop where
  xw : x ≠ lw
  xs : x ≠ ls
  xo : x ≠ lo
  xm : x ≠ dm
  xe : x ≠ de
  ws : lw ≠ ls
  wo : lw ≠ lo
  wm : lw ≠ dm
  we : lw ≠ de
  so : ls ≠ lo
  sm : ls ≠ dm
  se : ls ≠ de
  om : lo ≠ dm
  oe : lo ≠ de
  me : dm ≠ de
section
variable {c : Addr} {H H' : Hp} {x : Addr} {R : Rd} {dx lw ls lo dm de : Addr}
theorem RdAt.same (h : RdAt c H x R dx lw ls lo dm de) (s : Same H H') : RdAt c H' x R dx lw ls lo dm de := ⟨s _ _ h.obj, s _ _ h.words, s _ _ h.stack, s _ _ h.openers, s _ _ h.mids, s _ _ h.ends⟩
theorem RdAt.setW (h : RdAt c H x R dx lw ls lo dm de) (ap : Apart x lw ls lo dm de) (ws : List Str) : RdAt c (upd H lw (.lst (ws.map V.str))) x { R with words := ws } dx lw ls lo dm de := by
  exact ⟨by rw [upd_ne ap.xw]; exact h.obj, upd_same, by rw [upd_ne (Ne.symm ap.ws)]; exact h.stack, by rw [upd_ne (Ne.symm ap.wo)]; exact h.openers, by rw [upd_ne (Ne.symm ap.wm)]; exact h.mids, by rw [upd_ne (Ne.symm ap.we)]; exact h.ends⟩
theorem RdAt.setS (h : RdAt c H x R dx lw ls lo dm de) (ap : Apart x lw ls lo dm de) (ns : List Nat) : RdAt c (upd H ls (.lst (ns.map natV))) x { R with stack := ns } dx lw ls lo dm de := by
  exact ⟨by rw [upd_ne ap.xs]; exact h.obj, by rw [upd_ne ap.ws]; exact h.words, upd_same, by rw [upd_ne (Ne.symm ap.so)]; exact h.openers, by rw [upd_ne (Ne.symm ap.sm)]; exact h.mids, by rw [upd_ne (Ne.symm ap.se)]; exact h.ends⟩
theorem RdAt.setO (h : RdAt c H x R dx lw ls lo dm de) (ap : Apart x lw ls lo dm de) (os : List (Option Nat)) : RdAt c (upd H lo (.lst (os.map oI))) x { R with openers := os } dx lw ls lo dm de := by
  exact ⟨by rw [upd_ne ap.xo]; exact h.obj, by rw [upd_ne ap.wo]; exact h.words, by rw [upd_ne ap.so]; exact h.stack, upd_same, by rw [upd_ne (Ne.symm ap.om)]; exact h.mids, by rw [upd_ne (Ne.symm ap.oe)]; exact h.ends⟩
theorem RdAt.setM (h : RdAt c H x R dx lw ls lo dm de) (ap : Apart x lw ls lo dm de) (ms : List (Nat × Nat)) : RdAt c (upd H dm (.dK (mapK natV ms))) x { R with middles := ms } dx lw ls lo dm de := by
  exact ⟨by rw [upd_ne ap.xm]; exact h.obj, by rw [upd_ne ap.wm]; exact h.words, by rw [upd_ne ap.sm]; exact h.stack, by rw [upd_ne ap.om]; exact h.openers, upd_same, by rw [upd_ne (Ne.symm ap.me)]; exact h.ends⟩
theorem RdAt.setE (h : RdAt c H x R dx lw ls lo dm de) (ap : Apart x lw ls lo dm de) (ms : List (Nat × Nat)) : RdAt c (upd H de (.dK (mapK natV ms))) x { R with ends := ms } dx lw ls lo dm de := by
  exact ⟨by rw [upd_ne ap.xe]; exact h.obj, by rw [upd_ne ap.we]; exact h.words, by rw [upd_ne ap.se]; exact h.stack, by rw [upd_ne ap.oe]; exact h.openers, by rw [upd_ne ap.me]; exact h.mids, upd_same⟩
end
section
variable {H : Hp} {σ : L2.St} {td tk tv : TE} {D : Ends}
/-- d[k] = v on a dict of numbers -/
theorem s_putN {α : Type} {f : α → V} {d : Addr} {ns : List (Nat × α)} {b : Nat} {n : α} (hv : Evl.Ev tv σ H (f n)) (hd : Evl.Ev td σ H (.ref d)) (hk : Evl.Ev tk σ H (.int b)) (h : H d = some (.dK (mapK f ns))) (hz : ns.length < 90000)
    (k : ∀ H1, Same H H1 → D.nx σ (upd H1 d (.dK (mapK f (put ns b n))))) : sDPut td tk tv D σ H :=
  hv H (Evl.Ex.refl H) _ fun H1 e1 => hd H1 e1 _ fun H2 e2 => hk H2 (Same.trans e1 e2) _ fun H3 e3 => by
    have hd3 := e3 _ _ (e2 _ _ (e1 _ _ h))
    have g := DPut.k (k := .inl (b : Int)) (v := f n) hd3 (Evl.sz_lt (by unfold mapK; rw [List.length_map]; omega))
    rw [putK_map f ns b n] at g
    exact ⟨d, _, rfl, g, k H3 (Same.trans (Same.trans e1 e2) e3)⟩
end
section
variable {K : PySem.W.Frag} {H : Hp} {σ : L2.St} {ta : TE} {D : Ends} {x C dx : Addr} {fs : List (Str × V)} {f : Str} {tz : TS}
/-- o.f = [] -/
theorem s_fldL0 (h : H x = some (.ins C dx fs)) (c : Cls K C) (n : NoAttr K C f) (hz : fs.length < 1000) (k : ∀ p H1, H1 p = some (.lst []) → H p = none → Same H H1 → D.nx σ (upd H1 x (.ins C dx (putF f (.ref p) fs)))) (ha : Evl.Ev ta σ H (.ref x) := by exact Evl.ev_var rfl) : sFld K ta (tLst tNil) f D σ H :=
  (Evl.el_lst Evl.ea_nil (by simp)) H (Evl.Ex.refl H) _ fun p H1 hp e1 h1 => ha H1 e1 _ fun H2 e2 => ⟨x, C, dx, fs, rfl, e2 _ _ (e1 _ _ h), c, n, hz, k p H2 (e2 _ _ h1) hp (Same.trans e1 e2)⟩
theorem q_fldL0 (h : H x = some (.ins C dx fs)) (c : Cls K C) (n : NoAttr K C f) (hz : fs.length < 1000) (k : ∀ p H1, H1 p = some (.lst []) → H p = none → Same H H1 → tz D σ (upd H1 x (.ins C dx (putF f (.ref p) fs)))) (ha : Evl.Ev ta σ H (.ref x) := by exact Evl.ev_var rfl) : tSeq (sFld K ta (tLst tNil) f) tz D σ H := s_fldL0 (D := { D with nx := tz D }) h c n hz k ha
/-- o.f = {} -/
theorem s_fldD0 (h : H x = some (.ins C dx fs)) (c : Cls K C) (n : NoAttr K C f) (hz : fs.length < 1000) (k : ∀ p H1, H1 p = some (.dK []) → H p = none → Same H H1 → D.nx σ (upd H1 x (.ins C dx (putF f (.ref p) fs)))) (ha : Evl.Ev ta σ H (.ref x) := by exact Evl.ev_var rfl) : sFld K ta tDNewK f D σ H :=
  fun p hp => by
    have e1 := Same.new (o := .dK []) hp
    exact ha _ e1 _ fun H2 e2 => ⟨x, C, dx, fs, rfl, e2 _ _ (e1 _ _ h), c, n, hz, k p H2 (e2 _ _ upd_same) hp (Same.trans e1 e2)⟩
theorem q_fldD0 (h : H x = some (.ins C dx fs)) (c : Cls K C) (n : NoAttr K C f) (hz : fs.length < 1000) (k : ∀ p H1, H1 p = some (.dK []) → H p = none → Same H H1 → tz D σ (upd H1 x (.ins C dx (putF f (.ref p) fs)))) (ha : Evl.Ev ta σ H (.ref x) := by exact Evl.ev_var rfl) : tSeq (sFld K ta tDNewK f) tz D σ H := s_fldD0 (D := { D with nx := tz D }) h c n hz k ha
end
def spTake (c : Addr) : Sp := fun vs H Q _ => ∃ x u R dx lw ls lo dm de, vs = [.ref x, .str u] ∧ RdAt c H x R dx lw ls lo dm de ∧ Apart x lw ls lo dm de ∧ R.Ok ∧ (u ∈ middleW ∨ u = "end" → R.top.isSome) ∧
  ∀ H', ButL [lw, ls, lo, dm, de] H H' → RdAt c H' x (R.take u) dx lw ls lo dm de → Q .non H'
def spRInit (c : Addr) : Sp := fun vs H Q _ => ∃ x dx, vs = [.ref x] ∧ H x = some (.ins c dx []) ∧
  ∀ lw ls lo dm de H', (∀ a ∈ [lw, ls, lo, dm, de], H a = none) → Apart x lw ls lo dm de → But x H H' → RdAt c H' x Rd.nil dx lw ls lo dm de → Q .non H'
end PySem.Fl
end
section
set_option Elab.async false
set_option autoImplicit false
set_option linter.all false
set_option maxRecDepth 100000
set_option maxHeartbeats 4000000
namespace K45
open PySem PySem.Spec PyProof.Rows L2 PySem.OxE LawC PySem.Fl

section
variable {P : Program} {w : World} {K : PySem.W.Frag} {mg : Str → Option Value} {base : Heap} {A0 : Ad}
theorem ok_loop_place (T : Txt P K mg A0) : FnOk P w K mg base CX0 1 A0.f_Reader_loop_place A0.fd_Reader_loop_place ["self"] (spRP A0.c_Reader) := by
  refine T.F_Reader_loop_place.ok sc_Reader_loop_place (fun vs H Q E h => ?_) (fun cdv A outer s H vs Q E hr h => ?_)
  · obtain ⟨x, R, rfl, _⟩ := h
    rfl
  · obtain ⟨x, R, rfl, hR, ok, k⟩ := h
    refine ⟨_, (pss_cons (ps_for PassesOwn.never rfl (pi_enum (by rfl) T.z_enumerate (pa_cons (pe_fld (pv 0) rfl) pa_nil)) (pg_tup rfl (pgs_cons (pg_name (i := 1) sc_Reader_loop_place.nd rfl (Or.inl rfl)) (pgs_cons (pg_name (i := 2) sc_Reader_loop_place.nd rfl (Or.inl rfl)) pgs_nil)))
 (pss_one (ps_if (pt_cmpR op_eq (pe_ix ix_list (pe_fld (pv 0) rfl) (pv 2) (fun _ _ => rfl)) pe_str (nomark _))
 (pss_one (ps_ret (pv 1)))
 pss_nil)))
 (pss_one (ps_ret pe_non))), ?_⟩
    have C := T.rc
    obtain ⟨dx, lw, ls, lo, dm, de, hA⟩ := id hR
    refine q_forE (xs := R.stack.map natV) (ev_fld (Evl.ev_var rfl) hA.obj C.cl C.n_stack rfl) (SqL.of hA.stack) (fun i σ' H' => Same H H' ∧ (∃ x1 x2, σ' = [some (.ref x), x1, x2]) ∧ ∀ (j : Nat) (o : Nat), j < i → R.stack[j]? = some o → R.wordIs "each" o = false) (fun H1 e1 => ⟨e1, ⟨_, _, rfl⟩, fun j o hj => absurd hj (Nat.not_lt_zero _)⟩) (fun i σ' H' p => SqL.of (p.1 _ _ hA.stack)) (fun i y σ' H' T' hi p hT => ?_) (fun σ' H' p => ?_)
    · obtain ⟨s1, ⟨x1, x2, rfl⟩, p3⟩ := p
      rw [List.getElem?_map] at hi
      obtain ⟨o, ho, rfl⟩ := Option.map_eq_some_iff.mp hi
      refine g2 ?_
      have s2 := Same.trans s1 (Same.new (o := .tup [.int (i : Nat), natV o]) hT)
      have hlt : o < R.words.length := ok.st o (List.mem_of_getElem? ho)
      refine Evl.s_when (b := decide (R.words[o] = "each")) (et_eqS (ev_rword (u := R.words[o]) (hR.same s2) C (Evl.ev_var rfl) (Evl.ev_var rfl) (List.getElem?_eq_getElem hlt)) Evl.ev_c) (fun h H3 e3 => ?_) (fun h H3 e3 => ?_)
      · have e := of_decide_eq_true h
        have hp : R.loopPlace = some i := by
          unfold Rd.loopPlace
          have hil := (List.getElem?_eq_some_iff.mp ho).1
          refine List.findIdx?_eq_some_iff_getElem.mpr ⟨hil, ?_, fun j hj => ?_⟩
          · have : R.stack[i] = o := (List.getElem?_eq_some_iff.mp ho).2
            rw [this]
            unfold Rd.wordIs
            rw [List.getElem?_eq_getElem hlt, e]
            exact decide_eq_true rfl
          · rw [p3 j R.stack[j] hj (List.getElem?_eq_getElem (by omega))]
            decide
        refine Evl.s_ret (v := .int (i : Int)) (Evl.ev_var rfl) fun H4 e4 => ?_
        have := k H4 (Same.trans (Same.trans s2 e3) e4)
        rw [hp] at this
        exact this
      · refine ⟨Same.trans s2 e3, ⟨_, _, rfl⟩, fun j o' hj ho' => ?_⟩
        rcases Nat.lt_succ_iff_lt_or_eq.mp hj with q | rfl
        · exact p3 j o' q ho'
        · rw [ho] at ho'
          cases ho'
          unfold Rd.wordIs
          rw [List.getElem?_eq_getElem hlt]
          exact decide_eq_false fun z => (of_decide_eq_false h) (Option.some.inj z)
    · obtain ⟨s1, _, p3⟩ := p
      have hp : R.loopPlace = none := by
        unfold Rd.loopPlace
        refine List.findIdx?_eq_none_iff.mpr fun o ho => ?_
        obtain ⟨j, hj⟩ := List.getElem?_of_mem ho
        exact p3 j o (by rw [List.length_map]; exact (List.getElem?_eq_some_iff.mp hj).1) hj
      refine Evl.s_ret (v := .non) Evl.ev_c fun H4 e4 => ?_
      have := k H4 (Same.trans s1 e4)
      rw [hp] at this
      exact this
end

end K45
end
section
set_option Elab.async false
set_option autoImplicit false
set_option linter.all false
set_option maxRecDepth 100000
set_option maxHeartbeats 4000000
namespace K45
open PySem PySem.Spec PyProof.Rows L2 PySem.OxE LawC PySem.Fl

section
variable {P : Program} {w : World} {K : PySem.W.Frag} {mg : Str → Option Value} {base : Heap} {A0 : Ad}
theorem place_lt {R : Rd} {p : Nat} (h : R.loopPlace = some p) : p < R.stack.length := by
  unfold Rd.loopPlace at h
  exact (List.findIdx?_eq_some_iff_getElem.mp h).1
theorem reset_cons {R : Rd} {u : Str} {o : Nat} {os : List Nat} : R.resetIn u (o :: os) = if (decide (u = "close") && R.wordIs "retry" o) = true then false else if R.isRescue o = true then true else R.resetIn u os := rfl
theorem ok_may_reset (T : Txt P K mg A0) : FnOk P w K mg base CX0 3 A0.f_Reader_may_reset A0.fd_Reader_may_reset ["self", "word"] (spRS A0.c_Reader Rd.mayReset) := by
  have G_Reader_loop_place : FnOk P w K mg base CX0 1 A0.f_Reader_loop_place A0.fd_Reader_loop_place ["self"] (spRP A0.c_Reader) := ok_loop_place T
  have G_Reader_is_rescue : FnOk P w K mg base CX0 2 A0.f_Reader_is_rescue A0.fd_Reader_is_rescue ["self", "opener"] (spRB A0.c_Reader Rd.isRescue) := ok_is_rescue T
  refine T.F_Reader_may_reset.ok sc_Reader_may_reset (fun vs H Q E h => ?_) (fun cdv A outer s H vs Q E hr h => ?_)
  · obtain ⟨x, u, R, rfl, _⟩ := h
    rfl
  · obtain ⟨x, u, R, rfl, hR, ok, k⟩ := h
    refine ⟨_, (pss_cons (ps_set (i := 2) sc_Reader_may_reset.nd rfl (Or.inl rfl) (pe_meth0 (pv 0) T.rc.cl T.M_Reader_loop_place G_Reader_loop_place (hr.mono (by decide)) T.b_Reader_loop_place .nil pass0))
 (pss_cons (ps_if (pt_cmpR op_isN (pv 2) pe_non (nomark _))
 (pss_one (ps_ret pe_bl))
 pss_nil)
 (pss_cons (ps_for PassesOwn.never rfl (pi_list (pe_slice sl_list (pe_fld (pv 0) rfl) (po_some (pe_op op_add (pv 2) pe_int)) po_none)) (pg_name (i := 3) sc_Reader_may_reset.nd rfl (Or.inl rfl))
 (pss_cons (ps_if (PW.pt (pw_and (pt_cmpR op_eq (pv 1) pe_str (nomark _)) (pw_and1 (pt_cmpR op_eq (pe_ix ix_list (pe_fld (pv 0) rfl) (pv 3) (fun _ _ => rfl)) pe_str (nomark _)))))
 (pss_one (ps_ret pe_bl))
 pss_nil)
 (pss_one (ps_if (pt_val (pe_meth (pv 0) T.rc.cl T.M_Reader_is_rescue G_Reader_is_rescue (hr.mono (by decide)) T.b_Reader_is_rescue .nil pass0 (pa_cons (pv 3) pa_nil)))
 (pss_one (ps_ret pe_bl))
 pss_nil))))
 (pss_one (ps_ret pe_bl))))), ?_⟩
    have C := T.rc
    obtain ⟨dx, lw, ls, lo, dm, de, hA⟩ := id hR
    refine Evl.q_asg (v := oI R.loopPlace) (ev_meth (vs := []) (Evl.ev_var rfl) hA.obj (by rfl) Evl.ea_nil fun H1 e1 Q1 q1 E1 => ⟨x, R, rfl, hR.same e1, ok, q1⟩) fun H1 e1 => ?_
    refine Evl.q_when (b := R.loopPlace.isNone) (et_none (Evl.ev_var rfl)) (fun h H2 e2 => ?_) (fun h H2 e2 => ?_)
    · refine Evl.s_ret (v := .bl true) Evl.ev_c fun H3 e3 => ?_
      have := k H3 (Same.trans (Same.trans e1 e2) e3)
      unfold Rd.mayReset at this
      rw [Option.isNone_iff_eq_none.mp h] at this
      exact this
    · cases hp : R.loopPlace with
      | none => rw [hp] at h; cases h
      | some p =>
        have s2 := Same.trans e1 e2
        have hpl := place_lt hp
        have hdp := ok.dp
        have hq : R.mayReset u = R.resetIn u (R.stack.drop (p + 1)) := by unfold Rd.mayReset; rw [hp]
        rw [hq] at k
        refine Evl.q_forNLn (xs := (R.stack.drop (p + 1)).map natV) (Evl.el_is (Evl.el_sl (lo := some ((p + 1 : Nat) : Int)) (hi := none) (ev_fld (Evl.ev_var rfl) (s2 _ _ hA.obj) C.cl C.n_stack rfl) (Evl.eo_some (ev_addN (n := p) (Evl.ev_var rfl) rfl)) Evl.eo_none (SqL.of (s2 _ _ hA.stack))) (by rw [cutV_drop, List.map_drop]))
          (fun pl i σ' H' => Same H2 H' ∧ H' pl = some (.lst ((R.stack.drop (p + 1)).map natV)) ∧ (∃ y, σ' = [some (.ref x), some (.str u), some (oI (some p)), y]) ∧ R.resetIn u ((R.stack.drop (p + 1)).drop i) = R.resetIn u (R.stack.drop (p + 1)))
          (fun pl H3 h0 e3 h3 => ⟨e3, h3, ⟨_, rfl⟩, rfl⟩) (fun pl i σ' H' hi q => SqL.of q.2.1) (fun pl i y σ' H' hi q => ?_) fun pl σ' H' q => ?_
        · obtain ⟨s3, h3, ⟨y0, rfl⟩, hq2⟩ := q
          rw [List.getElem?_map] at hi
          obtain ⟨o, ho, rfl⟩ := Option.map_eq_some_iff.mp hi
          have hmem : o ∈ R.stack := List.mem_of_mem_drop (List.mem_of_getElem? ho)
          have hlt : o < R.words.length := ok.st o hmem
          have hst : (R.stack.drop (p + 1)).drop i = o :: (R.stack.drop (p + 1)).drop (i + 1) := by
            have hl := (List.getElem?_eq_some_iff.mp ho).1
            rw [List.drop_eq_getElem_cons hl]
            congr 1
            exact (List.getElem?_eq_some_iff.mp ho).2
          rw [hst] at hq2
          rw [reset_cons] at hq2
          have s4 := Same.trans s2 s3
          have hwi : R.wordIs "retry" o = decide (R.words[o] = "retry") := by
            unfold Rd.wordIs
            rw [List.getElem?_eq_getElem hlt]
            simp
          refine Evl.q_when (b := decide (u = "close") && decide (R.words[o] = "retry")) (Evl.et_and (et_eqS (Evl.ev_var rfl) Evl.ev_c) fun _ => et_eqS (ev_rword (u := R.words[o]) (hR.same s4) C (Evl.ev_var rfl) (Evl.ev_var rfl) (List.getElem?_eq_getElem hlt)) Evl.ev_c) (fun hb H5 e5 => ?_) (fun hb H5 e5 => ?_)
          · rw [hwi, hb, if_pos rfl] at hq2
            refine Evl.s_ret (v := .bl false) Evl.ev_c fun H6 e6 => ?_
            have := k H6 (Same.trans (Same.trans s4 e5) e6)
            rw [← hq2] at this
            exact this
          · rw [hwi, hb, if_neg (by decide)] at hq2
            refine Evl.s_when (b := R.isRescue o) (Evl.et_B (ev_meth (vs := [.int (o : Int)]) (Evl.ev_var rfl) ((Same.trans s4 e5) _ _ hA.obj) (by rfl) (Evl.ea_cons (Evl.ev_var rfl) Evl.ea_nil) fun H6 e6 Q6 q6 E6 => ⟨x, o, R, rfl, hR.same (Same.trans (Same.trans s4 e5) e6), ok, hlt, q6⟩)) (fun hc H6 e6 => ?_) (fun hc H6 e6 => ?_)
            · rw [hc, if_pos rfl] at hq2
              refine Evl.s_ret (v := .bl true) Evl.ev_c fun H7 e7 => ?_
              have := k H7 (Same.trans (Same.trans (Same.trans s4 e5) e6) e7)
              rw [← hq2] at this
              exact this
            · rw [hc, if_neg (by decide)] at hq2
              exact ⟨Same.trans (Same.trans s3 e5) e6, (Same.trans e5 e6) _ _ h3, ⟨_, rfl⟩, hq2⟩
        · obtain ⟨s3, h3, _, hq2⟩ := q
          rw [List.length_map, List.drop_eq_nil_of_le (Nat.le_refl _)] at hq2
          refine Evl.s_ret (v := .bl false) Evl.ev_c fun H6 e6 => ?_
          have := k H6 (Same.trans (Same.trans s2 s3) e6)
          rw [← hq2] at this
          exact this
end

end K45
end
section
set_option Elab.async false
set_option autoImplicit false
set_option linter.all false
set_option maxRecDepth 100000
set_option maxHeartbeats 4000000
namespace K45
open PySem PySem.Spec PyProof.Rows L2 PySem.OxE LawC PySem.Fl

section
variable {P : Program} {w : World} {K : PySem.W.Frag} {mg : Str → Option Value} {base : Heap} {A0 : Ad}
theorem top_word {R : Rd} {o : Nat} (ok : R.Ok) (ho : R.top = some o) : ∃ u, R.words[o]? = some u ∧ R.openerWord = some u := by
  have hlt : o < R.words.length := ok.st o (List.mem_of_getLast? ho)
  refine ⟨R.words[o], List.getElem?_eq_getElem hlt, ?_⟩
  unfold Rd.openerWord
  rw [ho]
  exact List.getElem?_eq_getElem hlt
theorem top_none {R : Rd} (ho : R.top = none) : R.openerWord = none := by
  unfold Rd.openerWord
  rw [ho]
  rfl
theorem ok_may_middle (T : Txt P K mg A0) : FnOk P w K mg base CX0 2 A0.f_Reader_may_middle A0.fd_Reader_may_middle ["self", "word"] (spRS A0.c_Reader Rd.mayMiddle) := by
  have G_Reader_opener_word : FnOk P w K mg base CX0 1 A0.f_Reader_opener_word A0.fd_Reader_opener_word ["self"] (spRW A0.c_Reader) := ok_opener_word T
  refine T.F_Reader_may_middle.ok sc_Reader_may_middle (fun vs H Q E h => ?_) (fun cdv A outer s H vs Q E hr h => ?_)
  · obtain ⟨x, u, R, rfl, _⟩ := h
    rfl
  · obtain ⟨x, u, R, rfl, hR, ok, k⟩ := h
    refine ⟨_, (pss_cons (ps_set (i := 2) sc_Reader_may_middle.nd rfl (Or.inl rfl) (pe_ifExp (pt_cmpR op_eq (pv 1) pe_str (nomark _)) pe_str pe_str))
 (pss_one (ps_ret (pe_and (pe_cmpR op_eq (pe_meth0 (pv 0) T.rc.cl T.M_Reader_opener_word G_Reader_opener_word (hr.mono (by decide)) T.b_Reader_opener_word .nil pass0) (pv 2) (nomark _)) (pe_one (pe_cmp (pc_dnotin (hu_of hr) (pe_ix ix_list (pe_fld (pv 0) rfl) (pe_un un_neg pe_int) (fun _ _ => rfl)) (pe_fld (pv 0) rfl)))))))), ?_⟩
    have C := T.rc
    obtain ⟨dx, lw, ls, lo, dm, de, hA⟩ := id hR
    refine Evl.q_asg (v := .str (if u = "else" then "maybe" else "try")) (Evl.ev_if (b := decide (u = "else")) (et_eqS (Evl.ev_var rfl) Evl.ev_c) (fun z => Evl.ev_is Evl.ev_c (by rw [if_pos (of_decide_eq_true z)])) (fun z => Evl.ev_is Evl.ev_c (by rw [if_neg (of_decide_eq_false z)]))) fun H1 e1 => ?_
    have hd : R.mayMiddle u = match R.top with | none => false | some o => R.wordIs (if u = "else" then ("maybe" : Str) else "try") o && !R.hasMid o := rfl
    generalize (if u = "else" then ("maybe" : Str) else "try") = wd at hd
    refine Evl.s_ret (v := .bl (R.mayMiddle u)) (Evl.ev_is (Evl.ev_andV (a := decide (oS R.openerWord = .str wd)) (b := match R.top with | some o => !R.hasMid o | none => true) (Evl.ev_op (ev_meth (vs := []) (Evl.ev_var rfl) (e1 _ _ hA.obj) (by rfl) Evl.ea_nil fun H2 e2 Q2 q2 E2 => ⟨x, R, rfl, hR.same (Same.trans e1 e2), ok, q2⟩) (Evl.ev_var rfl) (Evl.rv_eq (by cases R.openerWord <;> rfl))) fun z => ?_) ?_) fun H2 e2 => k H2 (Same.trans e1 e2)
    · cases ht : R.top with
      | none =>
        rw [top_none ht] at z
        cases z
      | some o => exact ev_notmid (hR.same e1) C (Evl.ev_var rfl) (ev_rtop (hR.same e1) C (Evl.ev_var rfl) ht)
    · rw [hd]
      cases ht : R.top with
      | none => rw [top_none ht]; rfl
      | some o =>
        obtain ⟨v, h1, h2⟩ := top_word ok ht
        have e1 : R.wordIs wd o = decide (v = wd) := by
          unfold Rd.wordIs
          rw [h1]
          simp
        rw [h2]
        show V.bl (decide (V.str v = V.str wd) && !R.hasMid o) = V.bl (R.wordIs wd o && !R.hasMid o)
        rw [e1]
        have e2 : decide (V.str v = V.str wd) = decide (v = wd) := by simp
        rw [e2]
theorem ok_may_open (T : Txt P K mg A0) : FnOk P w K mg base CX0 2 A0.f_Reader_may_open A0.fd_Reader_may_open ["self", "word"] (spRS A0.c_Reader Rd.mayOpen) := by
  have G_Reader_loop_place : FnOk P w K mg base CX0 1 A0.f_Reader_loop_place A0.fd_Reader_loop_place ["self"] (spRP A0.c_Reader) := ok_loop_place T
  refine T.F_Reader_may_open.ok sc_Reader_may_open (fun vs H Q E h => ?_) (fun cdv A outer s H vs Q E hr h => ?_)
  · obtain ⟨x, u, R, rfl, _⟩ := h
    rfl
  · obtain ⟨x, u, R, rfl, hR, ok, k⟩ := h
    refine ⟨_, (pss_cons (ps_if (PW.pt (pw_or (pt_cmpR op_ge (pe_callB call_len (by rfl) T.z_len PySem.boot_len (pa_cons (pe_fld (pv 0) rfl) pa_nil)) (pe_glob rfl T.m_MOST_DEEP T.r_MOST_DEEP) (nomark _)) (pw_or1 (PW.pt (pw_and (pt_cmpR op_eq (pv 1) pe_str (nomark _)) (pw_and1 (pt_cmpR op_notN (pe_meth0 (pv 0) T.rc.cl T.M_Reader_loop_place G_Reader_loop_place (hr.mono (by decide)) T.b_Reader_loop_place .nil pass0) pe_non (nomark _))))))))
 (pss_one (ps_ret pe_bl))
 pss_nil)
 (pss_one (ps_ret (pe_or (pe_cmpR op_ne (pv 1) pe_str (nomark _)) (pe_one (pe_cmpR op_lt (pe_callB call_len (by rfl) T.z_len PySem.boot_len (pa_cons (pe_lc (own := [("one", 2)]) (g := gName 2) (te := tVar 2) (tt := tTest (tOp rEq (tOp (rIxL K) (tFld K (tVar 0) "words") (tVar 2)) (tC (.str "retry")))) (by rfl) sc_Reader_may_open.nd (pi_list (pe_fld (pv 0) rfl)) (blkOk_by (N := ["self", "word", "one"]) (sc := defScope s_Reader_may_open) (by decide +kernel)) (fun _ _ _ _ _ => (pg_name (i := 2) sc_Reader_may_open.nd rfl (Or.inl rfl))) (fun _ _ _ _ _ => (pts_one (pt_cmpR op_eq (pe_ix (r := rIxL K) ix_list (pe_fld (pv 0) rfl) (pv 2) (fun _ _ => rfl)) pe_str (nomark _)))) (fun _ _ _ _ _ => (pv 2))) pa_nil)) pe_int (nomark _))))))), ?_⟩
    have C := T.rc
    obtain ⟨dx, lw, ls, lo, dm, de, hA⟩ := id hR
    have hdp := ok.dp
    have el : Evl.Ev _ _ H (.int (R.stack.length : Int)) := Evl.ev_is (ev_lenL (K := K) (ev_fld (Evl.ev_var (σ := [some (.ref x), some (.str u)]) (i := 0) rfl) hA.obj C.cl C.n_stack rfl) (SqL.of hA.stack)) (by rw [List.length_map])
    refine Evl.q_when (b := decide (R.stack.length ≥ 5) || (decide (u = "each") && R.loopPlace.isSome)) (Evl.et_or (et_geN (m := 5) el Evl.ev_c) fun _ => Evl.et_and (et_eqS (Evl.ev_var rfl) Evl.ev_c) fun _ => et_some (ev_meth (vs := []) (Evl.ev_var rfl) hA.obj (by rfl) Evl.ea_nil fun H1 e1 Q1 q1 E1 => ⟨x, R, rfl, hR.same e1, ok, q1⟩)) (fun h H1 e1 => ?_) (fun h H1 e1 => ?_)
    · refine Evl.s_ret (v := .bl false) Evl.ev_c fun H2 e2 => ?_
      have := k H2 (Same.trans e1 e2)
      unfold Rd.mayOpen at this
      rw [if_pos h] at this
      exact this
    · have hd : R.mayOpen u = (!decide (u = "retry") || decide ((R.stack.filter (R.wordIs "retry")).length < 2)) := by
        unfold Rd.mayOpen
        rw [if_neg (by rw [h]; decide)]
        congr 1
        by_cases z : u = "retry"
        · subst z; rfl
        · simp [z]
      refine Evl.s_ret (v := .bl (R.mayOpen u)) (Evl.ev_is (Evl.ev_orV (a := !decide (u = "retry")) (b := decide ((R.stack.filter (R.wordIs "retry")).length < 2)) (ev_neS (Evl.ev_var rfl) Evl.ev_c) fun _ => ?_) (by rw [hd])) fun H2 e2 => k H2 (Same.trans e1 e2)
      have ev1 := e1
      refine Evl.ev_is (Evl.ev_op (ev_lenNL (xs := (R.stack.map natV).filter fun v => match v with | .int n => R.wordIs "retry" n.toNat | _ => false) (el_filtL (ev_fld (Evl.ev_var rfl) (e1 _ _ hA.obj) C.cl C.n_stack rfl) (SqL.of (e1 _ _ hA.stack)) (by rw [List.length_map]; omega) (fun y => rfl) (fun y H2 e2 hy => ?_) (fun y H2 e2 hy => Evl.ev_var rfl))) Evl.ev_c Evl.rv_I0) ?_
      · obtain ⟨o, ho, rfl⟩ := List.mem_map.mp hy
        have hlt : o < R.words.length := ok.st o ho
        have s2 := Same.trans e1 e2
        refine Evl.et_is (et_eqS (ev_rword (u := R.words[o]) (hR.same s2) C (Evl.ev_var rfl) (Evl.ev_var rfl) (List.getElem?_eq_getElem hlt)) Evl.ev_c) ?_
        show _ = R.wordIs "retry" o
        unfold Rd.wordIs
        rw [List.getElem?_eq_getElem hlt]
        simp
      · rw [List.filter_map, List.length_map]
        show V.bl (decide (((R.stack.filter (R.wordIs "retry")).length : Int) < 2)) = _
        congr 1
        by_cases z : (R.stack.filter (R.wordIs "retry")).length < 2
        · rw [decide_eq_true z]; exact decide_eq_true (by omega)
        · rw [decide_eq_false z]; exact decide_eq_false (by omega)
end

end K45
end
section
set_option Elab.async false
set_option autoImplicit false
set_option linter.all false
set_option maxRecDepth 100000
set_option maxHeartbeats 4000000
namespace K45
open PySem PySem.Spec PyProof.Rows L2 PySem.OxE LawC PySem.Fl

section
variable {P : Program} {w : World} {K : PySem.W.Frag} {mg : Str → Option Value} {base : Heap} {A0 : Ad}
theorem ok_fits (T : Txt P K mg A0) : FnOk P w K mg base CX0 4 A0.f_Reader_fits A0.fd_Reader_fits ["self", "word"] (spRS A0.c_Reader Rd.fits) := by
  have G_Reader_may_middle : FnOk P w K mg base CX0 2 A0.f_Reader_may_middle A0.fd_Reader_may_middle ["self", "word"] (spRS A0.c_Reader Rd.mayMiddle) := ok_may_middle T
  have G_Reader_may_open : FnOk P w K mg base CX0 2 A0.f_Reader_may_open A0.fd_Reader_may_open ["self", "word"] (spRS A0.c_Reader Rd.mayOpen) := ok_may_open T
  have G_Reader_opener_word : FnOk P w K mg base CX0 1 A0.f_Reader_opener_word A0.fd_Reader_opener_word ["self"] (spRW A0.c_Reader) := ok_opener_word T
  have G_Reader_is_second : FnOk P w K mg base CX0 1 A0.f_Reader_is_second A0.fd_Reader_is_second ["self", "opener"] (spRB A0.c_Reader Rd.isSecond) := ok_is_second T
  have G_Reader_may_reset : FnOk P w K mg base CX0 3 A0.f_Reader_may_reset A0.fd_Reader_may_reset ["self", "word"] (spRS A0.c_Reader Rd.mayReset) := ok_may_reset T
  refine T.F_Reader_fits.ok sc_Reader_fits (fun vs H Q E h => ?_) (fun cdv A outer s H vs Q E hr h => ?_)
  · obtain ⟨x, u, R, rfl, _⟩ := h
    rfl
  · obtain ⟨x, u, R, rfl, hR, ok, k⟩ := h
    refine ⟨_, (pss_cons (ps_if (pt_cmpR op_in_seq (pv 1) (pe_glob (v := .ref _) rfl T.m_MI rfl) (by first | rfl | with_unfolding_all rfl))
 (pss_one (ps_ret (pe_meth (pv 0) T.rc.cl T.M_Reader_may_middle G_Reader_may_middle (hr.mono (by decide)) T.b_Reader_may_middle .nil pass0 (pa_cons (pv 1) pa_nil))))
 pss_nil)
 (pss_cons (ps_if (pt_cmpR op_in_seq (pv 1) (pe_glob (v := .ref _) rfl T.m_OP rfl) (by first | rfl | with_unfolding_all rfl))
 (pss_one (ps_ret (pe_meth (pv 0) T.rc.cl T.M_Reader_may_open G_Reader_may_open (hr.mono (by decide)) T.b_Reader_may_open .nil pass0 (pa_cons (pv 1) pa_nil))))
 pss_nil)
 (pss_cons (ps_if (pt_cmpR op_eq (pv 1) pe_str (nomark _))
 (pss_cons (ps_set (i := 2) sc_Reader_fits.nd rfl (Or.inl rfl) (pe_meth0 (pv 0) T.rc.cl T.M_Reader_opener_word G_Reader_opener_word (hr.mono (by decide)) T.b_Reader_opener_word .nil pass0))
 (pss_one (ps_ret (pe_and (pe_cmpR op_notN (pv 2) pe_non (nomark _)) (pe_one (pe_or (pe_cmpR op_ne (pv 2) pe_str (nomark _)) (pe_one (pe_cmp (pc_din (hu_of hr) (pe_ix ix_list (pe_fld (pv 0) rfl) (pe_un un_neg pe_int) (fun _ _ => rfl)) (pe_fld (pv 0) rfl))))))))))
 pss_nil)
 (pss_cons (ps_if (pt_cmpR op_eq (pv 1) pe_str (nomark _))
 (pss_one (ps_ret (pe_not (pe_callB (cr_any rfl) (by rfl) T.z_any (by decide +kernel) (pa_cons (pe_lc (own := [("opener", 2)]) (g := gName 2) (tt := tYes) (by rfl) sc_Reader_fits.nd (pi_list (pe_fld (pv 0) rfl)) (blkOk_by (N := ["self", "word", "opener"]) (sc := defScope s_Reader_fits) (by decide +kernel)) (fun _ _ _ _ _ => (pg_name (i := 2) sc_Reader_fits.nd rfl (Or.inl rfl))) (fun _ _ _ _ _ => pts_nil) (fun _ _ _ _ _ => (pe_meth (pv 0) T.rc.cl T.M_Reader_is_second G_Reader_is_second (hr.mono (by decide)) T.b_Reader_is_second .nil pass0 (pa_cons (pv 2) pa_nil)))) pa_nil)))))
 pss_nil)
 (pss_one (ps_ret (pe_or (pe_cmpR op_notIn_seq (pv 1) (pe_tup (pa_cons pe_str (pa_cons pe_str pa_nil))) (by first | rfl | with_unfolding_all rfl)) (pe_one (pe_meth (pv 0) T.rc.cl T.M_Reader_may_reset G_Reader_may_reset (hr.mono (by decide)) T.b_Reader_may_reset .nil pass0 (pa_cons (pv 1) pa_nil)))))))))), ?_⟩
    have C := T.rc
    obtain ⟨dx, lw, ls, lo, dm, de, hA⟩ := id hR
    have hdp := ok.dp
    have ms : ∀ {m : Rd → Str → Bool} {H1 : Hp}, Same H H1 → Evl.SpV (spRS A0.c_Reader m) (.ref x :: [.str u]) H1 (.bl (m R u)) := fun {m H1} e1 H2 e2 Q2 q2 E2 => ⟨x, u, R, rfl, hR.same (Same.trans e1 e2), ok, q2⟩
    refine Evl.q_when (b := decide (u ∈ middleW)) (Evl.et_test (ev_inW (Evl.ev_var rfl) T.q_MI)) (fun h H1 e1 => ?_) (fun h1 H1 e1 => ?_)
    · refine Evl.s_ret (v := .bl (R.mayMiddle u)) (ev_meth (vs := [.str u]) (Evl.ev_var rfl) (e1 _ _ hA.obj) (by rfl) (Evl.ea_cons (Evl.ev_var rfl) Evl.ea_nil) (ms e1)) fun H2 e2 => ?_
      have := k H2 (Same.trans e1 e2)
      unfold Rd.fits at this
      rw [if_pos (of_decide_eq_true h)] at this
      exact this
    have n1 := of_decide_eq_false h1
    refine Evl.q_when (b := decide (u ∈ openingW)) (Evl.et_test (ev_inW (Evl.ev_var rfl) T.q_OP)) (fun h H2 e2 => ?_) (fun h2 H2 e2 => ?_)
    · refine Evl.s_ret (v := .bl (R.mayOpen u)) (ev_meth (vs := [.str u]) (Evl.ev_var rfl) ((Same.trans e1 e2) _ _ hA.obj) (by rfl) (Evl.ea_cons (Evl.ev_var rfl) Evl.ea_nil) (ms (Same.trans e1 e2))) fun H3 e3 => ?_
      have := k H3 (Same.trans (Same.trans e1 e2) e3)
      unfold Rd.fits at this
      rw [if_neg n1, if_pos (of_decide_eq_true h)] at this
      exact this
    have n2 := of_decide_eq_false h2
    have s2 := Same.trans e1 e2
    refine Evl.q_when (b := decide (u = "end")) (et_eqS (Evl.ev_var rfl) Evl.ev_c) (fun h H3 e3 => ?_) (fun h3 H3 e3 => ?_)
    · have s3 := Same.trans s2 e3
      refine Evl.q_asg (v := oS R.openerWord) (ev_meth (vs := []) (Evl.ev_var rfl) (s3 _ _ hA.obj) (by rfl) Evl.ea_nil fun H4 e4 Q4 q4 E4 => ⟨x, R, rfl, hR.same (Same.trans s3 e4), ok, q4⟩) fun H4 e4 => ?_
      have s4 := Same.trans s3 e4
      refine Evl.s_ret (v := .bl (R.fits u)) ?_ fun H5 e5 => k H5 (Same.trans s4 e5)
      unfold Rd.fits
      rw [if_neg n1, if_neg n2, if_pos (of_decide_eq_true h)]
      cases ht : R.top with
      | none =>
        rw [top_none ht]
        exact Evl.ev_is (Evl.ev_andV (a := false) (b := true) (Evl.ev_is (ev_notN (Evl.ev_var rfl)) rfl) fun z => by cases z) rfl
      | some o =>
        obtain ⟨v, g1, g2⟩ := top_word ok ht
        rw [g2]
        refine Evl.ev_is (Evl.ev_andV (a := true) (b := (!decide (v = "try")) || R.hasMid o) (Evl.ev_is (ev_notN (Evl.ev_var rfl)) rfl) fun _ => Evl.ev_orV (a := !decide (v = "try")) (ev_neS (Evl.ev_var rfl) Evl.ev_c) fun _ => ev_inmid (hR.same s4) C (Evl.ev_var rfl) (ev_rtop (hR.same s4) C (Evl.ev_var rfl) ht)) ?_
        show V.bl (true && _) = V.bl (!R.wordIs "try" o || R.hasMid o)
        rw [Bool.true_and]
        congr 3
        unfold Rd.wordIs
        rw [g1]
        simp
    have n3 := of_decide_eq_false h3
    have s3 := Same.trans s2 e3
    refine Evl.q_when (b := decide (u = "return")) (et_eqS (Evl.ev_var rfl) Evl.ev_c) (fun h H4 e4 => ?_) (fun h4 H4 e4 => ?_)
    · have s4 := Same.trans s3 e4
      refine Evl.s_ret (v := .bl (R.fits u)) ?_ fun H5 e5 => k H5 (Same.trans s4 e5)
      unfold Rd.fits
      rw [if_neg n1, if_neg n2, if_neg n3, if_pos (of_decide_eq_true h)]
      refine Evl.ev_is (Evl.ev_notV (ev_any (bs := R.stack.map R.isSecond) (el_mapL (xs := R.stack.map natV) (ev_fld (Evl.ev_var rfl) (s4 _ _ hA.obj) C.cl C.n_stack rfl) (SqL.of (s4 _ _ hA.stack)) (by simp) (by rw [List.length_map]; omega) (fun y => rfl) fun i y z H5 e5 hy hz => ?_))) (by rw [List.any_map]; rfl)
      rw [List.getElem?_map] at hy
      obtain ⟨o, ho, rfl⟩ := Option.map_eq_some_iff.mp hy
      rw [List.getElem?_map, List.getElem?_map, ho] at hz
      cases hz
      exact ev_meth (vs := [.int (o : Int)]) (Evl.ev_var rfl) ((Same.trans s4 e5) _ _ hA.obj) (by rfl) (Evl.ea_cons (Evl.ev_var rfl) Evl.ea_nil) fun H6 e6 Q6 q6 E6 => ⟨x, o, R, rfl, hR.same (Same.trans (Same.trans s4 e5) e6), ok, ok.st o (List.mem_of_getElem? ho), q6⟩
    have n4 := of_decide_eq_false h4
    have s4 := Same.trans s3 e4
    refine Evl.s_ret (v := .bl (R.fits u)) ?_ fun H5 e5 => k H5 (Same.trans s4 e5)
    unfold Rd.fits
    rw [if_neg n1, if_neg n2, if_neg n3, if_neg n4]
    refine Evl.ev_is (Evl.ev_orV (a := !decide (u ∈ (["drain", "close"] : List Str))) (b := R.mayReset u) (Evl.ev_is (Evl.ev_niU (xs := (["drain", "close"] : List Str).map V.str) (Evl.ev_var rfl) (Evl.eu_tup (Evl.ea_cons Evl.ev_c (Evl.ea_cons Evl.ev_c Evl.ea_nil)) (by simp)) rfl flat_strs) (by rw [inV_str])) fun _ => ev_meth (vs := [.str u]) (Evl.ev_var rfl) (s4 _ _ hA.obj) (by rfl) (Evl.ea_cons (Evl.ev_var rfl) Evl.ea_nil) (ms s4)) ?_
    congr 2
    by_cases a1 : u = "drain"
    · subst a1; rfl
    · by_cases a2 : u = "close"
      · subst a2; rfl
      · simp [a1, a2]
end

end K45
end
section
set_option Elab.async false
set_option autoImplicit false
set_option linter.all false
set_option maxRecDepth 100000
set_option maxHeartbeats 4000000
namespace K45
open PySem PySem.Spec PyProof.Rows L2 PySem.OxE LawC PySem.Fl

section
variable {P : Program} {w : World} {K : PySem.W.Frag} {mg : Str → Option Value} {base : Heap} {A0 : Ad}
theorem ok_take (T : Txt P K mg A0) : FnOk P w K mg base CX0 1 A0.f_Reader_take A0.fd_Reader_take ["self", "word"] (spTake A0.c_Reader) := by
  refine T.F_Reader_take.ok sc_Reader_take (fun vs H Q E h => ?_) (fun cdv A outer s H vs Q E hr h => ?_)
  · obtain ⟨x, u, R, dx, lw, ls, lo, dm, de, rfl, _⟩ := h
    rfl
  · obtain ⟨x, u, R, dx, lw, ls, lo, dm, de, rfl, hA, ap, ok, ht, k⟩ := h
    refine ⟨_, (pss_cons (ps_set (i := 2) sc_Reader_take.nd rfl (Or.inl rfl) (pe_callB call_len (by rfl) T.z_len PySem.boot_len (pa_cons (pe_fld (pv 0) rfl) pa_nil)))
 (pss_cons (ps_expr (pe_bm PySem.F.plainAttrs_list PySem.F.slot_list_append PySem.F.type_list_append mt_append (pe_fld (pv 0) rfl) (pa_cons (pe_ifExp (pt_truth (pe_fld (pv 0) rfl) (fun _ => rfl)) (pe_ix ix_list (pe_fld (pv 0) rfl) (pe_un un_neg pe_int) (fun _ _ => rfl)) pe_non) pa_nil)))
 (pss_cons (ps_expr (pe_bm PySem.F.plainAttrs_list PySem.F.slot_list_append PySem.F.type_list_append mt_append (pe_fld (pv 0) rfl) (pa_cons (pv 1) pa_nil)))
 (pss_one (ps_if (pt_cmpR op_in_seq (pv 1) (pe_glob (v := .ref _) rfl T.m_OP rfl) (by first | rfl | with_unfolding_all rfl))
 (pss_one (ps_expr (pe_bm PySem.F.plainAttrs_list PySem.F.slot_list_append PySem.F.type_list_append mt_append (pe_fld (pv 0) rfl) (pa_cons (pv 2) pa_nil))))
 (pss_one (ps_if (pt_cmpR op_in_seq (pv 1) (pe_glob (v := .ref _) rfl T.m_MI rfl) (by first | rfl | with_unfolding_all rfl))
 (pss_one (ps_dput (hu_of hr) (pe_fld (pv 0) rfl) (pe_ix ix_list (pe_fld (pv 0) rfl) (pe_un un_neg pe_int) (fun _ _ => rfl)) (pv 2) rfl))
 (pss_one (ps_if (pt_cmpR op_eq (pv 1) pe_str (nomark _))
 (pss_one (ps_dput (hu_of hr) (pe_fld (pv 0) rfl) (pe_bm0 PySem.F.plainAttrs_list PySem.F.slot_list_pop PySem.F.type_list_pop mt_pop (pe_fld (pv 0) rfl)) (pv 2) rfl))
 pss_nil))))))))), ?_⟩
    have C := T.rc
    have hR : IsRd A0.c_Reader H x R := ⟨_, _, _, _, _, _, hA⟩
    have hz1 := ok.few
    have hz2 := ok.os
    have hz3 := ok.dp
    have hz4 := ok.ms
    have hz5 := ok.es
    refine Evl.q_asg (v := .int (R.words.length : Int)) (Evl.ev_is (ev_lenL (ev_fld (Evl.ev_var rfl) hA.obj C.cl C.n_words rfl) (SqL.of hA.words)) (by rw [List.length_map])) fun H1 e1 => ?_
    have h1 := hA.same e1
    refine Evl.q_app h1.openers (ev_fld (Evl.ev_var rfl) h1.obj C.cl C.n_openers rfl) (v := oI R.top) (Evl.ev_if (b := R.top.isSome) (et_stack (hR.same e1) C (Evl.ev_var rfl)) (fun z => ?_) (fun z => ?_)) (by rw [List.length_map]; omega) fun H2 e2 => ?_
    · obtain ⟨o, ho⟩ := Option.isSome_iff_exists.mp z
      rw [ho]
      exact ev_rtop (hR.same e1) C (Evl.ev_var rfl) ho
    · cases hto : R.top with
      | some o => rw [hto] at z; cases z
      | none => exact Evl.ev_c
    have h2 : RdAt A0.c_Reader (upd H2 lo (.lst (R.openers.map oI ++ [oI R.top]))) x { R with openers := R.openers ++ [R.top] } dx lw ls lo dm de := by
      have := (h1.same e2).setO ap (R.openers ++ [R.top])
      rw [List.map_append] at this
      exact this
    have b2 : ButL [lw, ls, lo, dm, de] H (upd H2 lo (.lst (R.openers.map oI ++ [oI R.top]))) := ButL.trans (ButL.of (Same.trans e1 e2)) (ButL.upd (by simp))
    generalize upd H2 lo (.lst (R.openers.map oI ++ [oI R.top])) = H3 at h2 b2
    refine Evl.q_app h2.words (ev_fld (Evl.ev_var rfl) h2.obj C.cl C.n_words rfl) (v := .str u) (Evl.ev_var rfl) (by rw [List.length_map]; show R.words.length < 100000; omega) fun H4 e4 => ?_
    have h4 : RdAt A0.c_Reader (upd H4 lw (.lst (R.words.map V.str ++ [.str u]))) x { R with words := R.words ++ [u], openers := R.openers ++ [R.top] } dx lw ls lo dm de := by
      have := (h2.same e4).setW ap (R.words ++ [u])
      rw [List.map_append] at this
      exact this
    have b4 : ButL [lw, ls, lo, dm, de] H (upd H4 lw (.lst (R.words.map V.str ++ [.str u]))) := ButL.trans (ButL.trans b2 (ButL.of e4)) (ButL.upd (by simp))
    show tIfS _ _ _ _ _ (upd H4 lw (.lst (R.words.map V.str ++ [.str u])))
    generalize upd H4 lw (.lst (R.words.map V.str ++ [.str u])) = H5 at h4 b4
    refine Evl.s_if (b := decide (u ∈ openingW)) (Evl.et_test (ev_inW (Evl.ev_var rfl) T.q_OP)) (fun h H6 e6 => ?_) (fun h H6 e6 => ?_)
    · have h6 := h4.same e6
      refine Evl.s_app h6.stack (ev_fld (Evl.ev_var rfl) h6.obj C.cl C.n_stack rfl) (v := natV R.words.length) (Evl.ev_var rfl) (by rw [List.length_map]; show R.stack.length < 100000; omega) fun H7 e7 => ?_
      refine k _ (ButL.trans (ButL.trans b4 (ButL.of (Same.trans e6 e7))) (ButL.upd (by simp))) ?_
      have := (h6.same e7).setS ap (R.stack ++ [R.words.length])
      rw [List.map_append] at this
      unfold Rd.take
      simp only [if_pos (of_decide_eq_true h)]
      exact this
    have n1 := of_decide_eq_false h
    refine Evl.s_if (b := decide (u ∈ middleW)) (Evl.et_test (ev_inW (Evl.ev_var rfl) T.q_MI)) (fun h H7 e7 => ?_) (fun h7 H7 e7 => ?_)
    · have hu := of_decide_eq_true h
      obtain ⟨o, ho⟩ := Option.isSome_iff_exists.mp (ht (.inl hu))
      have h7 := h4.same (Same.trans e6 e7)
      refine s_putN (f := natV) (n := R.words.length) (Evl.ev_var rfl) (ev_fld (Evl.ev_var rfl) h7.obj C.cl C.n_middles rfl) (ev_rtop (R := { R with words := R.words ++ [u], openers := R.openers ++ [R.top] }) ⟨_, _, _, _, _, _, h7⟩ C (Evl.ev_var rfl) ho) h7.mids (by show R.middles.length < 90000; omega) fun H8 e8 => ?_
      refine k _ (ButL.trans (ButL.trans b4 (ButL.of (Same.trans (Same.trans e6 e7) e8))) (ButL.upd (by simp))) ?_
      have := (h7.same e8).setM ap (put R.middles o R.words.length)
      unfold Rd.take
      simp only [if_neg n1, if_pos hu, ho]
      rw [ho] at this
      exact this
    have n2 := of_decide_eq_false h7
    refine Evl.s_when (b := decide (u = "end")) (et_eqS (Evl.ev_var rfl) Evl.ev_c) (fun h H8 e8 => ?_) (fun h8 H8 e8 => ?_)
    · have hu := of_decide_eq_true h
      obtain ⟨o, ho⟩ := Option.isSome_iff_exists.mp (ht (.inr hu))
      have h8 := h4.same (Same.trans (Same.trans e6 e7) e8)
      have hl : (R.stack.map natV)[(R.stack.map natV).length - 1]? = some (natV o) := by
        rw [← List.getLast?_eq_getElem?, List.getLast?_map, show R.stack.getLast? = some o from ho]
        rfl
      refine (Evl.ev_var (v := .int (R.words.length : Int)) rfl) H8 (Evl.Ex.refl _) _ fun H9 e9 => (ev_fld (Evl.ev_var rfl) h8.obj C.cl C.n_ends rfl) H9 e9 _ fun H10 e10 => ?_
      have h10 := h8.same (Same.trans e9 e10)
      refine (ev_fld (Evl.ev_var rfl) h10.obj C.cl C.n_stack rfl) H10 (Evl.Ex.refl _) _ fun H11 e11 => ?_
      have h11 := h10.same e11
      refine ⟨Or.inl ⟨rfl, _, SqL.of h11.stack⟩, ls, _, natV o, rfl, rfl, h11.stack, hl, ?_⟩
      have h13 := h11.setS ap R.stack.dropLast
      rw [List.map_dropLast] at h13
      have b13 : ButL [lw, ls, lo, dm, de] H (upd H11 ls (.lst (R.stack.map natV).dropLast)) := ButL.trans (ButL.trans b4 (ButL.of (Same.trans (Same.trans (Same.trans (Same.trans e6 e7) e8) (Same.trans e9 e10)) e11))) (ButL.upd (by simp))
      have g := DPut.k (k := .inl (o : Int)) (v := .int (R.words.length : Int)) h13.ends (Evl.sz_lt (by unfold mapK; rw [List.length_map]; show R.ends.length < 100000; omega))
      rw [show putK (mapK natV R.ends) (.inl (o : Int)) (.int (R.words.length : Int)) = mapK natV (put R.ends o R.words.length) from putK_map natV R.ends o R.words.length] at g
      refine ⟨de, _, rfl, g, k _ (ButL.trans b13 (ButL.upd (by simp))) ?_⟩
      have := h13.setE ap (put R.ends o R.words.length)
      unfold Rd.take
      simp only [if_neg n1, if_neg n2, if_pos hu, ho]
      rw [ho] at this
      subst hu
      exact this
    · have n3 := of_decide_eq_false h8
      refine k _ (ButL.trans b4 (ButL.of (Same.trans (Same.trans e6 e7) e8))) ?_
      have := h4.same (Same.trans (Same.trans e6 e7) e8)
      unfold Rd.take
      simp only [if_neg n1, if_neg n2, if_neg n3]
      exact this
theorem ok_Reader_init (T : Txt P K mg A0) : FnOk P w K mg base CX0 1 A0.f_Reader_init A0.fd_Reader_init ["self"] (spRInit A0.c_Reader) := by
  refine T.F_Reader_init.ok sc_Reader_init (fun vs H Q E h => ?_) (fun cdv A outer s H vs Q E hr h => ?_)
  · obtain ⟨x, dx, rfl, _⟩ := h
    rfl
  · obtain ⟨x, dx, rfl, hx, k⟩ := h
    refine ⟨_, (pss_cons (ps_fld (pv 0) (pe_lst pa_nil) rfl)
 (pss_cons (ps_fld (pv 0) (pe_lst pa_nil) rfl)
 (pss_cons (ps_fld (pv 0) (pe_lst pa_nil) rfl)
 (pss_cons (ps_fld (pv 0) pe_dnewK rfl)
 (pss_one (ps_fld (pv 0) pe_dnewK rfl)))))), ?_⟩
    have C := T.rc
    refine q_fldL0 hx C.cl C.n_words (by simp) fun lw H1 h1 n1 s1 => ?_
    have x1 : (upd H1 x (.ins A0.c_Reader dx (putF "words" (.ref lw) []))) x = some (.ins A0.c_Reader dx [("words", .ref lw)]) := upd_same
    have nw : x ≠ lw := ne_of_none hx n1
    have w1 : (upd H1 x (.ins A0.c_Reader dx (putF "words" (.ref lw) []))) lw = some (.lst []) := by rw [upd_ne (Ne.symm nw)]; exact h1
    have b1 : But x H (upd H1 x (.ins A0.c_Reader dx (putF "words" (.ref lw) []))) := but_upd (But.ofSame s1)
    generalize upd H1 x (.ins A0.c_Reader dx (putF "words" (.ref lw) [])) = G1 at x1 w1 b1
    refine q_fldL0 x1 C.cl C.n_stack (by simp) fun ls H2 h2 n2 s2 => ?_
    have x2 : (upd H2 x (.ins A0.c_Reader dx (putF "stack" (.ref ls) [("words", .ref lw)]))) x = some (.ins A0.c_Reader dx [("words", .ref lw), ("stack", .ref ls)]) := upd_same
    have ns : x ≠ ls := ne_of_none x1 n2
    have nws : lw ≠ ls := ne_of_none w1 n2
    have w2 : (upd H2 x (.ins A0.c_Reader dx (putF "stack" (.ref ls) [("words", .ref lw)]))) lw = some (.lst []) := by rw [upd_ne (Ne.symm nw)]; exact s2 _ _ w1
    have t2 : (upd H2 x (.ins A0.c_Reader dx (putF "stack" (.ref ls) [("words", .ref lw)]))) ls = some (.lst []) := by rw [upd_ne (Ne.symm ns)]; exact h2
    have ls0 := but_none b1 n2 ⟨_, x1⟩
    have b2 : But x H (upd H2 x (.ins A0.c_Reader dx (putF "stack" (.ref ls) [("words", .ref lw)]))) := but_upd (but_same b1 s2)
    generalize upd H2 x (.ins A0.c_Reader dx (putF "stack" (.ref ls) [("words", .ref lw)])) = G2 at x2 w2 t2 b2
    refine q_fldL0 x2 C.cl C.n_openers (by simp) fun lo H3 h3 n3 s3 => ?_
    have x3 : (upd H3 x (.ins A0.c_Reader dx (putF "openers" (.ref lo) [("words", .ref lw), ("stack", .ref ls)]))) x = some (.ins A0.c_Reader dx [("words", .ref lw), ("stack", .ref ls), ("openers", .ref lo)]) := upd_same
    have no : x ≠ lo := ne_of_none x2 n3
    have nwo : lw ≠ lo := ne_of_none w2 n3
    have nso : ls ≠ lo := ne_of_none t2 n3
    have w3 : (upd H3 x (.ins A0.c_Reader dx (putF "openers" (.ref lo) [("words", .ref lw), ("stack", .ref ls)]))) lw = some (.lst []) := by rw [upd_ne (Ne.symm nw)]; exact s3 _ _ w2
    have t3 : (upd H3 x (.ins A0.c_Reader dx (putF "openers" (.ref lo) [("words", .ref lw), ("stack", .ref ls)]))) ls = some (.lst []) := by rw [upd_ne (Ne.symm ns)]; exact s3 _ _ t2
    have o3 : (upd H3 x (.ins A0.c_Reader dx (putF "openers" (.ref lo) [("words", .ref lw), ("stack", .ref ls)]))) lo = some (.lst []) := by rw [upd_ne (Ne.symm no)]; exact h3
    have lo0 := but_none b2 n3 ⟨_, x2⟩
    have b3 : But x H (upd H3 x (.ins A0.c_Reader dx (putF "openers" (.ref lo) [("words", .ref lw), ("stack", .ref ls)]))) := but_upd (but_same b2 s3)
    generalize upd H3 x (.ins A0.c_Reader dx (putF "openers" (.ref lo) [("words", .ref lw), ("stack", .ref ls)])) = G3 at x3 w3 t3 o3 b3
    refine q_fldD0 x3 C.cl C.n_middles (by simp) fun dm H4 h4 n4 s4 => ?_
    have x4 : (upd H4 x (.ins A0.c_Reader dx (putF "middles" (.ref dm) [("words", .ref lw), ("stack", .ref ls), ("openers", .ref lo)]))) x = some (.ins A0.c_Reader dx [("words", .ref lw), ("stack", .ref ls), ("openers", .ref lo), ("middles", .ref dm)]) := upd_same
    have nm : x ≠ dm := ne_of_none x3 n4
    have nwm : lw ≠ dm := ne_of_none w3 n4
    have nsm : ls ≠ dm := ne_of_none t3 n4
    have nom : lo ≠ dm := ne_of_none o3 n4
    have w4 : (upd H4 x (.ins A0.c_Reader dx (putF "middles" (.ref dm) [("words", .ref lw), ("stack", .ref ls), ("openers", .ref lo)]))) lw = some (.lst []) := by rw [upd_ne (Ne.symm nw)]; exact s4 _ _ w3
    have t4 : (upd H4 x (.ins A0.c_Reader dx (putF "middles" (.ref dm) [("words", .ref lw), ("stack", .ref ls), ("openers", .ref lo)]))) ls = some (.lst []) := by rw [upd_ne (Ne.symm ns)]; exact s4 _ _ t3
    have o4 : (upd H4 x (.ins A0.c_Reader dx (putF "middles" (.ref dm) [("words", .ref lw), ("stack", .ref ls), ("openers", .ref lo)]))) lo = some (.lst []) := by rw [upd_ne (Ne.symm no)]; exact s4 _ _ o3
    have m4 : (upd H4 x (.ins A0.c_Reader dx (putF "middles" (.ref dm) [("words", .ref lw), ("stack", .ref ls), ("openers", .ref lo)]))) dm = some (.dK []) := by rw [upd_ne (Ne.symm nm)]; exact h4
    have dm0 := but_none b3 n4 ⟨_, x3⟩
    have b4 : But x H (upd H4 x (.ins A0.c_Reader dx (putF "middles" (.ref dm) [("words", .ref lw), ("stack", .ref ls), ("openers", .ref lo)]))) := but_upd (but_same b3 s4)
    generalize upd H4 x (.ins A0.c_Reader dx (putF "middles" (.ref dm) [("words", .ref lw), ("stack", .ref ls), ("openers", .ref lo)])) = G4 at x4 w4 t4 o4 m4 b4
    refine s_fldD0 x4 C.cl C.n_ends (by simp) fun de H5 h5 n5 s5 => ?_
    have ne : x ≠ de := ne_of_none x4 n5
    have de0 := but_none b4 n5 ⟨_, x4⟩
    refine k lw ls lo dm de _ (fun a ha => ?_) ⟨nw, ns, no, nm, ne, nws, nwo, nwm, ne_of_none w4 n5, nso, nsm, ne_of_none t4 n5, nom, ne_of_none o4 n5, ne_of_none m4 n5⟩ (but_upd (but_same b4 s5)) ⟨upd_same, ?_, ?_, ?_, ?_, ?_⟩
    · simp only [List.mem_cons, List.not_mem_nil, or_false] at ha
      rcases ha with rfl | rfl | rfl | rfl | rfl
      · exact n1
      · exact ls0
      · exact lo0
      · exact dm0
      · exact de0
    · rw [upd_ne (Ne.symm nw)]; exact s5 _ _ w4
    · rw [upd_ne (Ne.symm ns)]; exact s5 _ _ t4
    · rw [upd_ne (Ne.symm no)]; exact s5 _ _ o4
    · rw [upd_ne (Ne.symm nm)]; exact s5 _ _ m4
    · rw [upd_ne (Ne.symm ne)]; exact h5
end

end K45
end
section
set_option Elab.async false
set_option autoImplicit false
set_option linter.all false
set_option maxRecDepth 100000
set_option maxHeartbeats 2000000
/-! sets of texts: their members as a list without order; add; sorted -/
namespace OxSetT
open PySem PySem.Spec PyProof.Rows L2 PySem.OxE
def txOf (e : Int × Value) : Str := match e.2 with
  | .str k _ => k
  | _ => ""
def IsTx (w : World) (e : Int × Value) : Prop := ∃ k tk, e.2 = Value.str k tk ∧ e.1 = hashStr w k
/-- the set at a, its members the texts of L -/
def At (w : World) (h : Heap) (a : Addr) (L : List Str) : Prop :=
  ∃ ob es ep tb, h.get? a = some ob ∧ ob.ExactSet ∧ ob.data = .set es ep tb ∧ (∀ e ∈ es.toList, IsTx w e) ∧ (es.toList.map txOf).Perm L ∧ L.Nodup ∧ es.size < scanBound ∧ tb.fits es.size = true ∧ Ris tb.place.toList ∧ (w.params.followText "set-order" = true ∨ tb.led = true)
section
variable {P : Program} {w : World} {A : Around} {E : Value → Shared → Prop} {s : Shared} {h h' : Heap} {a : Addr} {L : List Str}
theorem At.at (R : At w h a L) (k : ∀ ob, h.get? a = some ob → h'.get? a = some ob) : At w h' a L := by
  obtain ⟨ob, es, ep, tb, ho, r⟩ := R
  exact ⟨ob, es, ep, tb, k ob ho, r⟩
theorem is_self (P : Program) (w : World) (k : Str) (u : Tok) : (strKind P w).is k (.str k u) = true := by
  show Value.isStrOf k (.str k u) = true
  unfold Value.isStrOf
  simp
theorem is_tx (P : Program) {e : Int × Value} (g : IsTx w e) (k : Str) : (strKind P w).is k e.2 = true ↔ txOf e = k := by
  obtain ⟨j, tk, e1, _⟩ := g
  unfold txOf
  rw [e1]
  show Value.isStrOf k (.str j tk) = true ↔ j = k
  unfold Value.isStrOf
  simp
theorem elems_tx (P : Program) {l : List (Int × Value)} (g : ∀ e ∈ l, IsTx w e) : ElemsOf (strKind P w) l := fun e he => by
  obtain ⟨k, tk, e1, e2⟩ := g e he
  refine ⟨⟨k, ?_, e2⟩, by rw [e1]; rfl⟩
  rw [e1]
  exact is_self P w k tk
theorem mem_tx (P : Program) {l : List (Int × Value)} (g : ∀ e ∈ l, IsTx w e) (k : Str) : k ∈ l.map txOf ↔ ∃ e ∈ l, (strKind P w).is k e.2 = true := by
  rw [List.mem_map]
  exact ⟨fun ⟨e, he, q⟩ => ⟨e, he, (is_tx P (g e he) k).mpr q⟩, fun ⟨e, he, q⟩ => ⟨e, he, (is_tx P (g e he) k).mp q⟩⟩
theorem typed (R : At w s.heap a L) : s.TypeIs (.ref a) "set" := by
  obtain ⟨ob, es, ep, tb, ho, hx, _⟩ := R
  exact ⟨ob, ho, hx.1⟩
/-- the end of an add: the table is laid anew where it is too full -/
theorem add_end {g : Bool → Sem Unit} (hg : ∀ (b : Bool) (s1 : Shared) (Q1 : Unit → Shared → Prop), Q1 () s1 → wpAny (model P w) A (g b) Q1 E s1)
    {ob : Obj} {es : Array (Int × Value)} {ep : Nat} {tb : SetTable} (ho : s.heap.get? a = some ob) (hx : ob.ExactSet) (hd : ob.data = .set es ep tb)
    {es1 : Array (Int × Value)} {tb2 : SetTable} {M : List Str} (gd : ∀ e ∈ es1.toList, IsTx w e) (hp : (es1.toList.map txOf).Perm M) (nd : M.Nodup)
    (hb : es1.size < scanBound) (hf : tb2.fits es1.size = true) (hr : Ris tb2.place.toList) (hl : w.params.followText "set-order" = true ∨ tb2.led = true) {dum : Bool} {R : Option Bool → Shared → Prop}
    (fin : ∀ hh, Heap.SameBut a s.heap hh → At w hh a M → R (some true) { s with heap := hh }) :
    wpAny (model P w) A (do
        storeSet a es1 tb2
        if (!dum && tb2.tooFull) = true then do
            g (relayAll tb2 es1 (SetTable.grown es1.size)).2.2
            storeSet a (relayAll tb2 es1 (SetTable.grown es1.size)).1 (relayAll tb2 es1 (SetTable.grown es1.size)).2.1
            pure (some true)
          else pure (some true)) R E s := by
  have gone := Heap.SameBut.update s.heap a (Obj.putSet es1 tb2)
  have there := store_at (es' := es1) (t' := tb2) ho hd
  refine wpAny_bind (wpAny_storeSet_of ho hd ?_ (fits_of_scanBound hb))
  by_cases full : (!dum && tb2.tooFull) = true
  · rw [if_pos full]
    have p3 := relayAll_perm tb2 es1 (SetTable.grown es1.size)
    have f3 := relayAll_fits tb2 es1 (SetTable.grown es1.size)
    have r3 := relayAll_ris tb2 es1 (SetTable.grown es1.size)
    have l3 := relayAll_led tb2 es1 (SetTable.grown es1.size)
    generalize relayAll tb2 es1 (SetTable.grown es1.size) = W at p3 f3 r3 l3 ⊢
    obtain ⟨es3, tb3, gv⟩ := W
    simp only at p3 f3 r3 l3 ⊢
    have same : es3.size = es1.size := by rw [← Array.length_toList, p3.length_eq, Array.length_toList]
    have b3 : es3.size < scanBound := same ▸ hb
    refine wpAny_bind (hg _ _ _ (wpAny_bind (wpAny_storeSet_of there rfl (wpAny_pure (fin _ (gone.trans (Heap.SameBut.update _ a _)) ?_)) (fits_of_scanBound b3))))
    exact ⟨_, es3, _, tb3, store_at (es' := es3) (t' := tb3) there rfl, hx, rfl, fun e he => gd e (p3.mem_iff.mp he), (p3.map txOf).trans hp, nd, b3, f3, r3, hl.imp id fun z => l3.trans z⟩
  · rw [if_neg full]
    exact wpAny_pure (fin _ gone ⟨_, es1, _, tb2, there, hx, rfl, gd, hp, nd, hb, hf, hr, hl⟩)
/-- what stands behind an add of k -/
def plus (L : List Str) (k : Str) : List Str := if k ∈ L then L else k :: L
theorem add_h {k : Str} {tk : Tok} {Q : Bool → Shared → Prop} (R : At w s.heap a L) (room : L.length + 1 < scanBound)
    (hQ : ∀ hh, Heap.SameBut a s.heap hh → At w hh a (plus L k) → Q (!decide (k ∈ L)) { s with heap := hh }) :
    wpAny (model P w) A (setAddHashed a (.str k tk) ((strKind P w).hash k)) Q E s := by
  obtain ⟨ob, es, ep, tb, ho, hx, hd, gd, hp, nd, hb, hf, hr, hl⟩ := R
  have kk : (strKind P w).is k (.str k tk) = true := is_self P w k tk
  have el := elems_tx P gd
  have count : es.size = L.length := by rw [← Array.length_toList, ← List.length_map (f := txOf), hp.length_eq]
  unfold setAddHashed setAddHashedIn
  refine wpAny_holding (wpAny_bind (wpAny_setState_of ho hd hf ?_))
  simp only
  rw [byScan_of rfl hb el]
  simp only [↓reduceIte]
  unfold setAddByScan
  refine wpAny_bind (wpAny_bind (wpAny_rule (wpAny_bind (wpAny_setScan_of kk ho hd hf el ?_))))
  cases at0 : List.findIdx? (fun e => (strKind P w).is k e.2) es.toList with
  | some j =>
    obtain ⟨hj, pj, _⟩ := List.findIdx?_eq_some_iff_getElem.mp at0
    have inL : k ∈ L := hp.mem_iff.mp ((mem_tx P gd k).mpr ⟨_, List.getElem_mem hj, pj⟩)
    have q := hQ s.heap (Heap.SameBut.refl a s.heap) (by unfold plus; rw [if_pos inL]; exact ⟨ob, es, ep, tb, ho, hx, hd, gd, hp, nd, hb, hf, hr, hl⟩)
    rw [decide_eq_true inL] at q
    exact wpAny_pure (wpAny_pure q)
  | none =>
    have notL : k ∉ L := fun z => by
      obtain ⟨e, he, q⟩ := (mem_tx P gd k).mp (hp.mem_iff.mpr z)
      have := List.findIdx?_eq_none_iff.mp at0 e he
      rw [q] at this
      cases this
    have gave : ∀ (b : Bool) {s1 : Shared} {Q1 : Unit → Shared → Prop}, Q1 () s1 → wpAny (model P w) A (match b with | true => rule "set.scan.the-table-gave-way" | false => pure ()) Q1 E s1 := by
      intro b s1 Q1 q
      cases b
      · exact wpAny_pure q
      · exact wpAny_rule q
    have p1 := layNew_perm tb es ((strKind P w).hash k) (.str k tk)
    have f1 := layNew_fits tb es ((strKind P w).hash k) (.str k tk)
    have r1 := layNew_ris tb es ((strKind P w).hash k) (.str k tk) hr
    have l1 := layNew_led tb es ((strKind P w).hash k) (.str k tk)
    generalize layNew tb es ((strKind P w).hash k) (.str k tk) = W at p1 f1 r1 l1 ⊢
    obtain ⟨es1, tb1, dum, gv⟩ := W
    simp only at p1 f1 r1 l1 ⊢
    rw [Array.toList_push] at p1
    have pc : es1.toList.Perm (((strKind P w).hash k, Value.str k tk) :: es.toList) := p1.trans (List.perm_append_singleton _ _)
    have pm : (es1.toList.map txOf).Perm (k :: L) := (pc.map txOf).trans (List.Perm.cons k hp)
    have gd1 : ∀ e ∈ es1.toList, IsTx w e := fun e he => by
      rcases List.mem_cons.mp (pc.mem_iff.mp he) with z | z
      · subst z
        exact ⟨k, tk, rfl, rfl⟩
      · exact gd e z
    have nd1 : (k :: L).Nodup := List.nodup_cons.mpr ⟨notL, nd⟩
    have size1 : es1.size = es.size + 1 := by rw [← Array.length_toList, pc.length_eq, List.length_cons, Array.length_toList]
    have b1 : es1.size < scanBound := by omega
    have led1 : w.params.followText "set-order" = true ∨ tb1.led = true := hl.imp id fun z => l1.trans z
    have fin : ∀ hh, Heap.SameBut a s.heap hh → At w hh a (k :: L) → Q true { s with heap := hh } := fun hh sb r => by
      have q := hQ hh sb (by unfold plus; rw [if_neg notL]; exact r)
      rw [decide_eq_false notL] at q
      exact q
    refine wpAny_bind (gave _ ?_)
    by_cases pl : tb1.plain = true
    · rw [if_pos pl]
      refine wpAny_bind ?_
      rw [hashByValue_scannable 8 (x := Value.str k tk) rfl]
      refine wpAny_pure (add_end ?_ ho hx hd gd1 pm nd1 b1 ?_ ?_ ?_ fun hh sb r => ?_)
      · intro b s1 Q1 q
        cases b
        · exact wpAny_pure q
        · exact wpAny_rule q
      · exact SetTable.fits_plain_off f1
      · exact r1
      · exact led1
      · exact wpAny_pure (fin hh sb r)
    · rw [if_neg pl]
      refine wpAny_bind (wpAny_pure ?_)
      simp only [↓reduceIte]
      refine add_end ?_ ho hx hd gd1 pm nd1 b1 f1 r1 led1 fun hh sb r => ?_
      · intro b s1 Q1 q
        cases b
        · exact wpAny_pure q
        · exact wpAny_rule q
      · exact wpAny_pure (fin hh sb r)
theorem add_call {k : Str} {tk : Tok} {Q : Value → Shared → Prop} (R : At w s.heap a L) (room : L.length + 1 < scanBound)
    (hQ : ∀ hh, Heap.SameBut a s.heap hh → At w hh a (plus L k) → Q .none { s with heap := hh, toks := s.toks + 1 }) :
    wpAny (model P w) A (call (.builtin "set.add") [.ref a, .str k tk]) Q E s := by
  refine wpAny_call_entry F.slot_set_add (typed R) F.entry_set_add ?_ (F.args_set_add_2 _ _)
  unfold Builtin.«set.add» Builtin.Frozenset.oneOther
  simp only [List.isEmpty_nil, bind_assoc]
  unfold Builtin.Frozenset.addrOf setAdd
  refine wpAny_bind (wpAny_pure ?_)
  refine wpAny_bind (wpAny_pure ?_)
  refine wpAny_bind (wpAny_holding (wpAny_bind ((strKind P w).pyHash (is_self P w k tk) (add_h (s := { s with toks := s.toks + 1 }) R room fun hh sb r => ?_))))
  exact wpAny_pure ⟨_, rfl, hQ hh sb r⟩
end
/-- the set of texts at a -/
def SetT (w : World) (a : Addr) (L : List Str) : HO := .ext fun h => At w h a L
section
variable {X : Cx}
theorem setT_new {w : World} {P : Program} {H : Hp} {h : Heap} {a : Addr} {L : List Str} (R : At w h a L) : ObjOk P w H h a (SetT w a L) := by
  have ⟨ob, _, _, _, ho, _⟩ := R
  exact ⟨R, ⟨ob, ho⟩, fun h1 h2 p k => At.at p k⟩
theorem setT_get {pins : List (Addr × Obj)} {σ : L2.St} {H : Hp} {s : Shared} {a : Addr} {L : List Str} (I : Inv X pins σ H s) (ha : H a = some (SetT X.w a L)) : At X.w s.heap a L := (I.hok a _ ha).1
def addT : List Str → V → List Str → Prop := fun L y M => ∃ k : Str, y = .str k ∧ L.length + 1 < scanBound ∧ M = plus L k
theorem at_fresh (w : World) {h : Heap} : At w (h.push (OxSet.fresh w)) h.objs.size [] :=
  ⟨_, #[], 0, _, Heap.get?_push_size _ rfl, ⟨rfl, rfl, rfl⟩, rfl, (fun e he => by simp at he), .nil, .nil, by decide, by rfl, by simp [Ris, SetTable.fresh], by
    cases q : w.params.followText "set-order"
    · exact .inr rfl
    · exact .inl rfl⟩
def kindT (X : Cx) : OxSet.Kind X (List Str) where
  so := fun a t => SetT X.w a t
  zero := []
  step := addT
  new := setT_new (at_fresh X.w)
  add := by
    intro Y pins σ H s E D t t' y u Q hP hw I hD hst r h
    obtain ⟨k, rfl, room, rfl⟩ := hst
    obtain ⟨tk, rfl⟩ := r
    rw [← hw] at hD h
    refine add_call (setT_get I hD) room fun hh sb new => h _ (I.write (e := D) (t' := s.toks + 1) (by rw [hD]; trivial) (.inl rfl) (fun b u hb hu => (sb.2 b hb).trans hu) ?_ (setT_new new))
    have ⟨ob, _, _, _, ho, _⟩ := new
    exact ⟨ob, ho⟩
/-- sorted(a set of texts) -/
def rSortedT (w : World) : List V → Hp → VK → Prop := fun vs H Q => ∃ (a : Addr) (L : List Str), vs = [V.ref a] ∧ H a = some (SetT w a L) ∧ L.length < 64 ∧
  ∀ (ys : List Str) (p : Addr), ys.Perm L → sortedS ys = true → H p = none → Q (.ref p) (upd H p (.lst (ys.map V.str)))
theorem strs_of : ∀ (l : List Value), (∀ v ∈ l, ∃ k tk, v = Value.str k tk) → ∃ ks, StrsAre l ks ∧ ks = l.map fun v => txOf (0, v)
  | [], _ => ⟨[], .nil, rfl⟩
  | v :: l, h => by
    obtain ⟨k, tk, rfl⟩ := h v List.mem_cons_self
    obtain ⟨ks, h1, h2⟩ := strs_of l fun u hu => h u (List.mem_cons_of_mem _ hu)
    exact ⟨k :: ks, .cons k tk h1, by rw [h2]; rfl⟩
theorem cr_sortedT (hc : X.calm = true) : CallR X (.builtin "sorted") (rSortedT X.w) := by
  intro pins s σ H vs us Q I r q
  obtain ⟨a, L, rfl, ha, h64, q⟩ := q
  rw [Vals.ref1 r]
  have R := setT_get I ha
  obtain ⟨ob, es, ep, tb, ho, hx, hd, gd, hp, nd, hb, hf, hr, hl⟩ := R
  refine Calls.call_function_entry kind_sorted plain_sorted entry_sorted (args_sorted1 _) ?_
  unfold Builtin.«sorted»
  refine wpAny_bind (m := checkCount "sorted" 1 1 _) (wpAny_pure ?_)
  refine wpAny_bind (collect_set (A := X.A.in1) (I.ok.hd hc) ⟨ob, ho, hx.1, hd⟩ hf hb hr hl fun s1 out k1 z1 g1 o1 pm => ?_)
  have size : out.length = L.length := by rw [pm.length_eq, List.length_map, ← List.length_map (f := txOf), hp.length_eq]
  obtain ⟨ks, hS, hks⟩ := strs_of out fun v hv => by
    obtain ⟨e, he, e1⟩ := List.mem_map.mp (pm.mem_iff.mp hv)
    obtain ⟨k, tk, e2, _⟩ := gd e he
    exact ⟨k, tk, e1.symm.trans e2⟩
  have pk : ks.Perm L := by
    rw [hks]
    refine (pm.map fun v => txOf (0, v)).trans ?_
    rw [List.map_map]
    exact hp
  refine wpAny_bind (wpAny_newList ?_ (by rw [size, sizeLine_eq]; omega))
  have here : (s1.heap.push (seqObj "list" out.toArray 0)).get? s1.heap.objs.size = some (seqObj "list" out.toArray 0) := Heap.get?_push_size _ rfl
  refine wpAny_bind (wpAny_holding (wpAny_call_entry slot_list_sort ⟨_, here, rfl⟩ entry_list_sort
    (list_sort_treeK strKind_oneLt here hS.keysOf (fun v1 v2 rest e => keyKind_strs (by rw [← e]; exact hS)) (by rw [size]; exact h64) fun st' p2 s2 => ?_) (args_list_sort _)))
  obtain ⟨ys, y1, y2, y3⟩ := sorted_out_str hS p2 s2
  obtain ⟨c, hc2⟩ := sortedHeap_at (vs := out) (out := (arrOf st').map (·.2)) here
  refine ⟨_, rfl, wpAny_pure ⟨_, rfl, ?_⟩⟩
  have keep : ∀ b u, s.heap.get? b = some u → (sortedHeap (s1.heap.push (seqObj "list" out.toArray 0)) s1.heap.objs.size out ((arrOf st').map (·.2))).get? b = some u := fun b u e => by
    have e2 := k1 b u e
    have lt := Heap.lt_size e2
    rw [sortedHeap_old (Nat.ne_of_lt lt) (by rw [size_push']; exact Nat.lt_succ_of_lt lt)]
    exact Heap.get?_push_of_some _ e2
  have py : ys.Perm L := y2.trans pk
  have lz : (ys.map V.str).length ≤ sizeLine := by rw [List.length_map, py.length_eq, sizeLine_eq]; omega
  have nn : H s1.heap.objs.size = none := I.hok.fresh z1
  have J : Inv X pins σ (upd H s1.heap.objs.size (.lst (ys.map V.str))) { s with heap := sortedHeap (s1.heap.push (seqObj "list" out.toArray 0)) s1.heap.objs.size out ((arrOf st').map (·.2)), gens := s1.gens, drawn := s1.drawn, toks := s1.toks } :=
    I.call (ch := []) (Un.laid keep z1 nn) (I.hok.laid keep z1 ⟨lz, ((arrOf st').map (·.2)).toList, c, vals_of_strs y1, hc2⟩) (by rw [g1]; exact I.bare) (fun _ z => nomatch z)
  have e : ({ s1 with heap := sortedHeap (s1.heap.push (seqObj "list" out.toArray 0)) s1.heap.objs.size out ((arrOf st').map (·.2)) } : Shared) = { s with heap := sortedHeap (s1.heap.push (seqObj "list" out.toArray 0)) s1.heap.objs.size out ((arrOf st').map (·.2)), gens := s1.gens, drawn := s1.drawn, toks := s1.toks } := by
    cases s1
    cases s
    cases o1
    rfl
  rw [e]
  exact ⟨.ref _, _, J, rfl, q ys _ py y3 nn⟩
end
end OxSetT
end
section
set_option Elab.async false
set_option autoImplicit false
set_option linter.all false
set_option maxRecDepth 100000
set_option maxHeartbeats 2000000
/-! a function's rows as text; what Function.__init__ makes -/
namespace PySem.Fl
open PySem PySem.Spec PyProof.Rows L2 PySem.OxE LawC
def rowT (ws : List Str) : Str := Txt.join " " ws
def rowsT (rows : List (List Str)) : Str := Txt.join "\n" (rows.map rowT)
def goodB (u : Str) : Bool := decide (u.cps.size ≠ 0) && decide (u.cps.size ≤ 8) && u.cps.toList.all fun c => decide (33 ≤ c) && decide (c < 127)
theorem good_words : ∀ a ∈ plainW ++ middleW ++ (["maybe", "try", "shield", "end"] : List Str), goodB a = true := by decide +kernel
theorem good_each : goodB "each" = true ∧ goodB "retry" = true := by decide +kernel
theorem good_nums : ∀ a ∈ (["1", "2", "3"] : List Str), goodB a = true := by decide +kernel
theorem good_letters : ∀ c ∈ letters.cps.toList, 33 ≤ c ∧ c < 127 := by decide +kernel
theorem space_no : ∀ c < 127, 33 ≤ c → Unicode.isSpace c = false := by decide +kernel
theorem good_name {b : Str} (h : isName b = true) : goodB b = true := by
  unfold isName madeOf at h
  obtain ⟨h1, h2⟩ := Bool.and_eq_true_iff.mp h
  obtain ⟨h3, h4⟩ := Bool.and_eq_true_iff.mp h2
  have h5 := of_decide_eq_true h1
  unfold goodB
  refine Bool.and_eq_true_iff.mpr ⟨Bool.and_eq_true_iff.mpr ⟨decide_eq_true fun z => ?_, decide_eq_true (by omega)⟩, List.all_eq_true.mpr fun c hc => ?_⟩
  · have e : b = "" := by
      have : b.cps = #[] := Array.eq_empty_of_size_eq_zero z
      exact Str.ext' this
    rw [decide_eq_true e] at h3
    cases h3
  · have := List.all_eq_true.mp h4 c hc
    have := good_letters c (of_decide_eq_true this)
    simp [this.1, this.2]
/-- the words of a row -/
theorem good_row {ws : List Str} (h : isRow ws = true) : (∃ a, ws = [a] ∧ goodB a = true ∧ a ≠ "each" ∧ a ≠ "retry") ∨ ∃ a b, ws = [a, b] ∧ goodB a = true ∧ goodB b = true ∧ ((a = "each" ∧ isName b = true) ∨ (a = "retry" ∧ b ∈ (["1", "2", "3"] : List Str))) := by
  unfold isRow at h
  split at h
  · rename_i a b
    right
    rcases Bool.or_eq_true_iff.mp h with h | h
    · obtain ⟨h1, h2⟩ := Bool.and_eq_true_iff.mp h
      have e := of_decide_eq_true h1
      exact ⟨a, b, rfl, by rw [e]; exact good_each.1, good_name h2, .inl ⟨e, h2⟩⟩
    · obtain ⟨h1, h2⟩ := Bool.and_eq_true_iff.mp h
      have e := of_decide_eq_true h1
      exact ⟨a, b, rfl, by rw [e]; exact good_each.2, good_nums b (of_decide_eq_true h2), .inr ⟨e, of_decide_eq_true h2⟩⟩
  · rename_i a
    left
    have hm := of_decide_eq_true h
    refine ⟨a, rfl, good_words a hm, fun z => ?_, fun z => ?_⟩
    · subst z; revert hm; decide +kernel
    · subst z; revert hm; decide +kernel
  · cases h
theorem good_ch {u : Str} (h : goodB u = true) {c : Nat} (hc : c ∈ TL.tl u) : 33 ≤ c ∧ c < 127 := by
  unfold goodB at h
  have := List.all_eq_true.mp (Bool.and_eq_true_iff.mp h).2 c hc
  simpa using this
theorem good_ne {u : Str} (h : goodB u = true) : TL.tl u ≠ [] := fun z => by
  unfold goodB at h
  have := of_decide_eq_true (Bool.and_eq_true_iff.mp (Bool.and_eq_true_iff.mp h).1).1
  have e : u.cps.size = u.cps.toList.length := by simp
  rw [e, show u.cps.toList = [] from z] at this
  exact this rfl
theorem good_len {u : Str} (h : goodB u = true) : (TL.tl u).length ≤ 8 := by
  unfold goodB at h
  have := of_decide_eq_true (Bool.and_eq_true_iff.mp (Bool.and_eq_true_iff.mp h).1).2
  simpa using this
theorem row_all {ws : List Str} (h : isRow ws = true) : ws ≠ [] ∧ ws.length ≤ 2 ∧ ∀ u ∈ ws, goodB u = true := by
  rcases good_row h with ⟨a, rfl, g, _⟩ | ⟨a, b, rfl, g1, g2, _⟩
  · exact ⟨by simp, by simp, fun u hu => by rw [List.mem_singleton.mp hu]; exact g⟩
  · refine ⟨by simp, by simp, fun u hu => ?_⟩
    rcases List.mem_cons.mp hu with e | e
    · rw [e]; exact g1
    · rw [List.mem_singleton.mp e]; exact g2
theorem tl_rowT (ws : List Str) : TL.tl (rowT ws) = TL.joinL [32] (ws.map TL.tl) := by
  unfold rowT
  rw [TL.join_eq, TL.tl_join]
  rfl
theorem words_rowT {ws : List Str} (h : isRow ws = true) : Txt.words (rowT ws) = ws := by
  obtain ⟨h1, h2, h3⟩ := row_all h
  refine TL.map_tl_inj ?_
  rw [TL.words_tl, tl_rowT, TL.wfold_join (ws.map TL.tl) [] (by simp [h1]) fun p hp => ?_]
  · rfl
  · obtain ⟨u, hu, rfl⟩ := List.mem_map.mp hp
    refine ⟨good_ne (h3 u hu), fun c hc => ?_⟩
    obtain ⟨c1, c2⟩ := good_ch (h3 u hu) hc
    exact space_no c c2 c1
theorem joinL_len (S : List Nat) (m : Nat) : ∀ ps : List (List Nat), (∀ p ∈ ps, p.length ≤ m) → (TL.joinL S ps).length ≤ ps.length * (m + S.length)
  | [], _ => by simp [TL.joinL]
  | [p], h => by
    have := h p (by simp)
    simp only [TL.joinL, List.length_singleton]
    omega
  | p :: q :: r, h => by
    have h1 := h p (by simp)
    have h2 := joinL_len S m (q :: r) fun x hx => h x (List.mem_cons_of_mem _ hx)
    have e : TL.joinL S (p :: q :: r) = p ++ (S ++ TL.joinL S (q :: r)) := rfl
    have e2 : (p :: q :: r).length = (q :: r).length + 1 := rfl
    rw [e, List.length_append, List.length_append, e2, Nat.succ_mul]
    omega
theorem row_len {ws : List Str} (h : isRow ws = true) : (rowT ws).length ≤ 18 := by
  obtain ⟨h1, h2, h3⟩ := row_all h
  rw [TL.len_tl, tl_rowT]
  have := joinL_len [32] 8 (ws.map TL.tl) fun p hp => by
    obtain ⟨u, hu, rfl⟩ := List.mem_map.mp hp
    exact good_len (h3 u hu)
  rw [List.length_map] at this
  have h4 : ws.length * (8 + [32].length) ≤ 2 * 9 := Nat.mul_le_mul h2 (by simp)
  omega
theorem row_noLf {ws : List Str} (h : isRow ws = true) : 10 ∉ TL.tl (rowT ws) := by
  have gc : ∀ {u : Str}, goodB u = true → (10 : Nat) ∉ TL.tl u := fun g z => by have := (good_ch g z).1; omega
  rcases good_row h with ⟨a, rfl, g, _⟩ | ⟨a, b, rfl, g1, g2, _⟩
  · rw [tl_rowT]
    exact gc g
  · rw [tl_rowT]
    show 10 ∉ TL.tl a ++ ([32] ++ TL.tl b)
    intro z
    rcases List.mem_append.mp z with z | z
    · exact gc g1 z
    · rcases List.mem_append.mp z with z | z
      · simp at z
      · exact gc g2 z
theorem split_rowsT {rows : List (List Str)} (h0 : rows ≠ []) (h : ∀ ws ∈ rows, isRow ws = true) : Txt.split (rowsT rows) "\n" = rows.map rowT := by
  unfold rowsT
  refine TL.split_join (s := 10) (S := []) (by decide +kernel) (by decide +kernel) (by simp [h0]) fun p hp => ?_
  obtain ⟨ws, hw, rfl⟩ := List.mem_map.mp hp
  exact row_noLf (h ws hw)
theorem rowsT_len {rows : List (List Str)} (hz : rows.length ≤ 24) (h : ∀ ws ∈ rows, isRow ws = true) : (rowsT rows).length ≤ 500 := by
  rw [TL.len_tl]
  unfold rowsT
  rw [TL.join_eq, TL.tl_join]
  have := joinL_len (TL.tl "\n") 18 ((rows.map rowT).map TL.tl) fun p hp => by
    obtain ⟨u, hu, rfl⟩ := List.mem_map.mp hp
    obtain ⟨ws, hw, rfl⟩ := List.mem_map.mp hu
    have := row_len (h ws hw)
    rwa [TL.len_tl] at this
  rw [List.length_map, List.length_map] at this
  have h4 : rows.length * (18 + (TL.tl "\n").length) ≤ 24 * 19 := Nat.mul_le_mul hz (by decide +kernel)
  omega
theorem row_join {ws : List Str} (h : isRow ws = true) : (ws.map (·.length)).sum + ws.length * (" " : Str).length ≤ 16777216 := by
  rcases good_row h with ⟨a, rfl, g, _⟩ | ⟨a, b, rfl, g1, g2, _⟩
  · have := good_len g
    rw [← TL.len_tl] at this
    have e : (" " : Str).length = 1 := by decide +kernel
    simp [e]; omega
  · have h1 := good_len g1
    have h2 := good_len g2
    rw [← TL.len_tl] at h1 h2
    have e : (" " : Str).length = 1 := by decide +kernel
    simp [e]; omega
def nameOf : List Str → Option Str
  | [a, b] => if a = "each" then some b else none
  | _ => none
def triesOf : List Str → Option Int
  | [a, b] => if a = "retry" then intText? b else none
  | _ => none
theorem int_nums : ∀ a ∈ (["1", "2", "3"] : List Str), (∃ n, intText? a = some n) ∧ a.length ≤ 640 := by
  intro a ha
  simp only [List.mem_cons, List.not_mem_nil, or_false] at ha
  rcases ha with rfl | rfl | rfl
  · exact ⟨⟨1, by decide +kernel⟩, by decide +kernel⟩
  · exact ⟨⟨2, by decide +kernel⟩, by decide +kernel⟩
  · exact ⟨⟨3, by decide +kernel⟩, by decide +kernel⟩
/-- the names of the lists, each once, in no order -/
def namesL (rows : List (List Str)) : List Str := rows.foldl (fun L ws => match nameOf ws with | some n => OxSetT.plus L n | none => L) []
def mkFn (ys : List Str) (rows : List (List Str)) (R : Rd) : Fn := ⟨ys, rows.map rowT, R.words, rows.map nameOf, rows.map triesOf, R.openers, R.ends.map fun p => (p.1, R.middles.lookup p.1), R.ends⟩
theorem names_take {rows : List (List Str)} {i : Nat} {ws : List Str} (h : rows[i]? = some ws) : namesL (rows.take (i + 1)) = match nameOf ws with | some n => OxSetT.plus (namesL (rows.take i)) n | none => namesL (rows.take i) := by
  unfold namesL
  rw [List.take_add_one, h, Option.toList_some, List.foldl_append]
  rfl
theorem plus_len (L : List Str) (k : Str) : (OxSetT.plus L k).length ≤ L.length + 1 := by
  unfold OxSetT.plus
  by_cases h : k ∈ L
  · rw [if_pos h]; omega
  · rw [if_neg h]; exact Nat.le_refl _
theorem names_len : ∀ (rows : List (List Str)) (L : List Str), (rows.foldl (fun L ws => match nameOf ws with | some n => OxSetT.plus L n | none => L) L).length ≤ L.length + rows.length
  | [], L => by simp
  | ws :: rows, L => by
    rw [List.foldl_cons]
    refine Nat.le_trans (names_len rows _) ?_
    rw [List.length_cons]
    cases nameOf ws with
    | none => show L.length + rows.length ≤ _; omega
    | some n =>
      show (OxSetT.plus L n).length + rows.length ≤ _
      have := plus_len L n
      omega
def rJoin (K : PySem.W.Frag) : V → List V → Hp → VK → Prop := fun x xs H Q => ∃ a p, ∃ ys : List Str, x = V.str a ∧ xs = [V.ref p] ∧ (SqL K H p (ys.map V.str) ∨ SqT K H p (ys.map V.str)) ∧ (ys.map (·.length)).sum + ys.length * a.length ≤ 16777216 ∧ Q (.str (Txt.join a ys)) H
/-! what stands while Function.__init__ runs: the object at x, the reader, the rows' lists, the tuples made so far -/
structure FI (K : PySem.W.Frag) (c cR : Addr) (x dx xr : Addr) (R : Rd) (dxr lw ls lo dm de pp : Addr) (as : List Addr) (rows : List (List Str)) (H0 H : Hp) (fs : List (Str × V)) (ts : List (Addr × List V)) : Prop where
  obj : H x = some (.ins c dx fs)
  rd : RdAt cR H xr R dxr lw ls lo dm de
  ne : xr ≠ x
  parts : H pp = some (.lst (as.map V.ref))
  rws : Paired (fun a (ws : List Str) => H a = some (.lst (ws.map V.str))) as rows
  tups : ∀ q ∈ ts, SqT K H q.1 q.2
  but : But x H0 H
section
variable {K : PySem.W.Frag} {c cR : Addr} {x dx xr : Addr} {R : Rd} {dxr lw ls lo dm de pp : Addr} {as : List Addr} {rows : List (List Str)} {H0 H H' : Hp} {fs : List (Str × V)} {ts : List (Addr × List V)}
theorem FI.same (h : FI K c cR x dx xr R dxr lw ls lo dm de pp as rows H0 H fs ts) (s : Same H H') : FI K c cR x dx xr R dxr lw ls lo dm de pp as rows H0 H' fs ts :=
  ⟨s _ _ h.obj, h.rd.same s, h.ne, s _ _ h.parts, Paired.mapP h.rws fun _ _ z => s _ _ z, fun q hq => Evl.ex_t s (h.tups q hq), but_same h.but s⟩
theorem FI.tup (h : FI K c cR x dx xr R dxr lw ls lo dm de pp as rows H0 H fs ts) {p : Addr} {xs : List V} (hp : SqT K H p xs) : FI K c cR x dx xr R dxr lw ls lo dm de pp as rows H0 H fs ((p, xs) :: ts) :=
  ⟨h.obj, h.rd, h.ne, h.parts, h.rws, fun q hq => by
    rcases List.mem_cons.mp hq with rfl | hq
    · exact hp
    · exact h.tups q hq, h.but⟩
theorem FI.put (h : FI K c cR x dx xr R dxr lw ls lo dm de pp as rows H0 H fs ts) (f : Str) (v : V) : FI K c cR x dx xr R dxr lw ls lo dm de pp as rows H0 (upd H x (.ins c dx (putF f v fs))) (putF f v fs) ts := by
  have n1 : ∀ {b : Addr} {xs : List V}, H b = some (.lst xs) → b ≠ x := fun hb z => by rw [z, h.obj] at hb; cases hb
  have n2 : ∀ {b : Addr} {xs : List (Key × V)}, H b = some (.dK xs) → b ≠ x := fun hb z => by rw [z, h.obj] at hb; cases hb
  have kk : Kp H (upd H x (.ins c dx (putF f v fs))) x := kp_upd h.obj (fun xs z => by cases z) (fun ob v z => by cases z)
  refine ⟨upd_same, ⟨?_, ?_, ?_, ?_, ?_, ?_⟩, h.ne, ?_, Paired.mapP h.rws fun a ws z => ?_, fun q hq => kk.sq _ _ (h.tups q hq), but_upd h.but⟩
  · rw [upd_ne h.ne]; exact h.rd.obj
  · rw [upd_ne (n1 h.rd.words)]; exact h.rd.words
  · rw [upd_ne (n1 h.rd.stack)]; exact h.rd.stack
  · rw [upd_ne (n1 h.rd.openers)]; exact h.rd.openers
  · rw [upd_ne (n2 h.rd.mids)]; exact h.rd.mids
  · rw [upd_ne (n2 h.rd.ends)]; exact h.rd.ends
  · rw [upd_ne (n1 h.parts)]; exact h.parts
  · rw [upd_ne (n1 z)]; exact z
theorem FI.row (h : FI K c cR x dx xr R dxr lw ls lo dm de pp as rows H0 H fs ts) {i : Nat} {y : V} (hy : (as.map V.ref)[i]? = some y) : ∃ a ws, y = .ref a ∧ as[i]? = some a ∧ rows[i]? = some ws ∧ H a = some (.lst (ws.map V.str)) := by
  rw [List.getElem?_map] at hy
  obtain ⟨a, ha, rfl⟩ := Option.map_eq_some_iff.mp hy
  have hl := pairL h.rws
  have hil : i < rows.length := by rw [← hl]; exact (List.getElem?_eq_some_iff.mp ha).1
  obtain ⟨a2, h1, h2⟩ := pairAt h.rws (List.getElem?_eq_getElem hil)
  rw [ha] at h1
  cases h1
  exact ⟨a, _, rfl, ha, List.getElem?_eq_getElem hil, h2⟩
end
section
variable {K : PySem.W.Frag} {H : Hp} {σ : L2.St} {te ta tv : TE} {D : Ends}
/-- tuple(a new list) -/
theorem eu_tupL {xs : List V} (h : Evl.EvL te σ H xs) : Evl.EvU (tCB (fun xs H Q => ∃ p ys, xs = [V.ref p] ∧ ((SqL K H p ys ∧ ∀ l, H l = none → Q (V.ref l) (upd H l (.tup ys))) ∨ (SqT K H p ys ∧ Q (V.ref p) H))) (tCons te tNil)) σ H xs := fun H1 e1 Q q =>
  h H1 e1 _ fun p H2 hp e2 h2 => ⟨p, xs, rfl, .inl ⟨SqL.of h2, fun l hl => q l _ (Evl.fresh_back e2 hl) (Same.trans e2 (Same.new hl)) upd_same⟩⟩
/-- tuple(a list) -/
theorem eu_tupA {p : Addr} {xs : List V} (h : Evl.Ev te σ H (.ref p)) (hp : SqL K H p xs) : Evl.EvU (tCB (fun xs H Q => ∃ p ys, xs = [V.ref p] ∧ ((SqL K H p ys ∧ ∀ l, H l = none → Q (V.ref l) (upd H l (.tup ys))) ∨ (SqT K H p ys ∧ Q (V.ref p) H))) (tCons te tNil)) σ H xs := fun H1 e1 Q q =>
  h H1 e1 _ fun H2 e2 => ⟨p, xs, rfl, .inl ⟨Evl.ex_l (Same.trans e1 e2) hp, fun l hl => q l _ (Evl.fresh_back e2 hl) (Same.trans e2 (Same.new hl)) upd_same⟩⟩
/-- d.get(k, None) on a dict of numbers -/
theorem ev_getN {α : Type} {f : α → V} {td tk : TE} {d : Addr} {ns : List (Nat × α)} {b : Nat} (hd : Evl.Ev td σ H (.ref d)) (hk : Evl.Ev tk σ H (.int b)) (h : H d = some (.dK (mapK f ns))) : Evl.Ev (tDGet2 td tk (tC .non)) σ H (((ns.lookup b).map f).getD .non) := fun H1 e1 Q q =>
  hd H1 e1 _ fun H2 e2 => ⟨d, rfl, .inl ⟨_, .inl (e2 _ _ (e1 _ _ h))⟩, hk H2 (Same.trans e1 e2) _ fun H3 e3 => by
    have g := DGet.k (k := .inl (b : Int)) (e3 _ _ (e2 _ _ (e1 _ _ h)))
    rw [show valV (mapK f ns) (.inl (b : Int)) = _ from lookup_keys f ns b] at g
    exact ⟨_, g, q H3 (Same.trans e2 e3)⟩⟩
/-- o.f = a new tuple -/
theorem q_fldU {c cR : Addr} {x dx xr : Addr} {R : Rd} {dxr lw ls lo dm de pp : Addr} {as : List Addr} {rows : List (List Str)} {H0 : Hp} {fs : List (Str × V)} {ts : List (Addr × List V)} {f : Str} {xs : List V} {tz : TS} (hv : Evl.EvU tv σ H xs) (I : FI K c cR x dx xr R dxr lw ls lo dm de pp as rows H0 H fs ts) (cl : Cls K c) (n : NoAttr K c f) (hz : fs.length < 1000) (ha : Evl.Ev ta σ H (.ref x))
    (k : ∀ p H1, FI K c cR x dx xr R dxr lw ls lo dm de pp as rows H0 H1 (putF f (.ref p) fs) ((p, xs) :: ts) → tz D σ H1) : tSeq (sFld K ta tv f) tz D σ H :=
  hv H (Evl.Ex.refl H) _ fun p H1 hp e1 h1 => ha H1 e1 _ fun H2 e2 => by
    have I2 := I.same (Same.trans e1 e2)
    exact ⟨x, c, dx, fs, rfl, I2.obj, cl, n, hz, k p _ ((I2.tup (Evl.ex_t e2 (SqT.of h1))).put f (.ref p))⟩
end
/-- Function(text) -/
def spFInit (K : PySem.W.Frag) (c : Addr) : Sp := fun vs H Q _ => ∃ x dx rows R, vs = [.ref x, .str (rowsT rows)] ∧ H x = some (.ins c dx []) ∧ rows ≠ [] ∧ rows.length ≤ 24 ∧ readAll Rd.nil rows = some R ∧ R.stack = [] ∧ (namesL rows).length ≤ 3 ∧
  ∀ ys H', ys.Perm (namesL rows) → sortedS ys = true → But x H H' → IsFn K c H' x (mkFn ys rows R) → Q .non H'
/-- what is read at a row -/
theorem read_cons {R R' : Rd} {ws : List Str} {rest : List (List Str)} (h : readAll R (ws :: rest) = some R') : ∃ u us, ws = u :: us ∧ isRow ws = true ∧ R.fits u = true ∧ readAll (R.take u) rest = some R' := by
  unfold readAll at h
  cases ws with
  | nil => cases h
  | cons u us =>
    simp only at h
    by_cases c : (isRow (u :: us) && R.fits u) = true
    · rw [if_pos c] at h
      obtain ⟨c1, c2⟩ := Bool.and_eq_true_iff.mp c
      exact ⟨u, us, rfl, c1, c2, h⟩
    · rw [if_neg c] at h
      cases h
theorem read_rows : ∀ {rows : List (List Str)} {R R' : Rd}, readAll R rows = some R' → (∀ ws ∈ rows, isRow ws = true) ∧ R'.words.length = R.words.length + rows.length
  | [], R, R', h => by
    unfold readAll at h
    cases h
    exact ⟨fun ws hw => absurd hw (by simp), rfl⟩
  | ws :: rest, R, R', h => by
    obtain ⟨u, us, rfl, h1, h2, h3⟩ := read_cons h
    obtain ⟨g1, g2⟩ := read_rows h3
    refine ⟨fun vs hv => ?_, ?_⟩
    · rcases List.mem_cons.mp hv with rfl | hv
      · exact h1
      · exact g1 vs hv
    · rw [g2, take_words, List.length_append, List.length_cons]
      simp
      omega
where
  take_words {R : Rd} {u : Str} : (R.take u).words = R.words ++ [u] := by
    unfold Rd.take
    simp only
    split
    · rfl
    · split
      · split <;> rfl
      · split
        · split <;> rfl
        · rfl
theorem fits_top {R : Rd} {u : Str} (h : R.fits u = true) (hu : u ∈ middleW ∨ u = "end") : R.top.isSome := by
  unfold Rd.fits at h
  rcases hu with hu | hu
  · rw [if_pos hu] at h
    unfold Rd.mayMiddle at h
    cases ht : R.top with
    | none => rw [ht] at h; cases h
    | some o => rfl
  · subst hu
    rw [if_neg (by decide +kernel), if_neg (by decide +kernel), if_pos rfl] at h
    cases ht : R.top with
    | none => rw [ht] at h; cases h
    | some o => rfl
end PySem.Fl
end
section
set_option Elab.async false
set_option autoImplicit false
set_option linter.all false
set_option maxRecDepth 100000
set_option maxHeartbeats 4000000
namespace K45
open PySem PySem.Spec PyProof.Rows L2 PySem.OxE LawC PySem.Fl

section
variable {P : Program} {w : World} {K : PySem.W.Frag} {mg : Str → Option Value} {base : Heap} {A0 : Ad}
theorem ok_Function_init (T : Txt P K mg A0) : FnOk P w K mg base CX0 6 A0.f_Function_init A0.fd_Function_init ["self", "text"] (spFInit K A0.c_Function) := by
  have G_is_row : FnOk P w K mg base CX0 3 A0.f_is_row A0.fd_is_row ["words"] (spRow K) := ok_is_row T
  have G_Reader_init : FnOk P w K mg base CX0 1 A0.f_Reader_init A0.fd_Reader_init ["self"] (spRInit A0.c_Reader) := ok_Reader_init T
  have G_Reader_fits : FnOk P w K mg base CX0 4 A0.f_Reader_fits A0.fd_Reader_fits ["self", "word"] (spRS A0.c_Reader Rd.fits) := ok_fits T
  have G_Reader_take : FnOk P w K mg base CX0 1 A0.f_Reader_take A0.fd_Reader_take ["self", "word"] (spTake A0.c_Reader) := ok_take T
  refine T.F_Function_init.ok sc_Function_init (fun vs H Q E h => ?_) (fun cdv A outer s H vs Q E hr h => ?_)
  · obtain ⟨x, dx, rows, R, rfl, _⟩ := h
    rfl
  · obtain ⟨x, dx, rows, R, rfl, hx, hne, hz, hrd, hst, hnm, k⟩ := h
    refine ⟨_, (pss_cons (ps_if (pt_not (pt_val (pe_callB call_isi (by rfl) T.z_isinstance (by decide +kernel) (pa_cons (pv 1) (pa_cons (pe_bltn (v := .ty "str") (by rfl) T.z_str (by decide +kernel) rfl) pa_nil)))))
 (pss_one ps_never)
 pss_nil)
 (pss_cons (ps_setLc (i := 2) (own := [("row", 3)]) (g := gName 3) (tt := tYes) rfl sc_Function_init.nd rfl rfl (sw_true rfl rfl rfl (by decide +kernel)) (pi_list (pe_split (pv 1) pe_str)) (blkOk_by (N := ["self", "text", "parts", "row", "reader", "words", "opener"]) (sc := defScope s_Function_init) (by decide +kernel)) (fun _ _ _ _ _ => (pg_name (i := 3) sc_Function_init.nd rfl (Or.inl rfl))) (fun _ _ _ _ _ => pts_nil) (fun _ _ _ _ _ => (pe_words (pv 3))))
 (pss_cons (ps_if (pt_cmpR op_gt (pe_callB call_len (by rfl) T.z_len PySem.boot_len (pa_cons (pv 2) pa_nil)) (pe_glob rfl T.m_MOST_ROWS T.r_MOST_ROWS) (nomark _))
 (pss_one ps_never)
 pss_nil)
 (pss_cons (ps_set (i := 4) sc_Function_init.nd rfl (Or.inr rfl) (pe_make0 T.Mk_Reader G_Reader_init (hr.mono (by decide)) rfl T.m_Reader T.b_Reader_init .nil pass0))
 (pss_cons (ps_for PassesOwn.never rfl (pi_enum (by rfl) T.z_enumerate (pa_cons (pv 2) pa_nil)) (pg_tup rfl (pgs_cons (pg_name (i := 3) sc_Function_init.nd rfl (Or.inl rfl)) (pgs_cons (pg_name (i := 5) sc_Function_init.nd rfl (Or.inl rfl)) pgs_nil)))
 (pss_cons (ps_if (PW.pt (pw_or (pt_not (pt_val (pe_call G_is_row (hr.mono (by decide)) rfl T.m_is_row T.F_is_row.kp T.b_is_row .nil pass0 (pa_cons (pv 5) pa_nil)))) (pw_or1 (pt_not (pt_val (pe_meth (pv 4) T.rc.cl T.M_Reader_fits G_Reader_fits (hr.mono (by decide)) T.b_Reader_fits .nil pass0 (pa_cons (pe_ix (r := rIxL K) ix_list (pv 5) pe_int (fun _ _ => rfl)) pa_nil)))))))
 (pss_one ps_never)
 pss_nil)
 (pss_one (ps_expr (pe_meth (pv 4) T.rc.cl T.M_Reader_take G_Reader_take (hr.mono (by decide)) T.b_Reader_take .nil pass0 (pa_cons (pe_ix (r := rIxL K) ix_list (pv 5) pe_int (fun _ _ => rfl)) pa_nil))))))
 (pss_cons (ps_if (pt_truth (pe_fld (pv 4) rfl) (fun _ => rfl))
 (pss_one ps_never)
 pss_nil)
 (pss_cons (ps_fld (pv 0) (pe_callTy call_tuple_of (by rfl) T.z_tuple (by decide +kernel) (pa_cons (pe_callB (OxSetT.cr_sortedT rfl) (by rfl) T.z_sorted (by decide +kernel) (pa_cons (OxSet.pe_sc (OxSetT.kindT _) (own := [("words", 5)]) (g := gName 5) (tt := tTest (tOp rEq (tOp (rIxL K) (tVar 5) (tC (.int 0))) (tC (.str "each")))) (by rfl) sc_Function_init.nd (pi_list (pv 2)) (blkOk_by (N := ["self", "text", "parts", "row", "reader", "words", "opener"]) (sc := defScope s_Function_init) (by decide +kernel)) (fun _ _ _ _ _ => (pg_name (i := 5) sc_Function_init.nd rfl (Or.inl rfl))) (fun _ _ _ _ _ => (pts_one (pt_cmpR op_eq (pe_ix (r := rIxL K) ix_list (pv 5) pe_int (fun _ _ => rfl)) pe_str (nomark _)))) (fun _ _ _ _ _ => (pe_ix (r := rIxL K) ix_list (pv 5) pe_int (fun _ _ => rfl)))) pa_nil)) pa_nil)) rfl)
 (pss_cons (ps_if (pt_cmpR op_gt (pe_callB call_len (by rfl) T.z_len PySem.boot_len (pa_cons (pe_fld (pv 0) rfl) pa_nil)) (pe_glob rfl T.m_MOST_LISTS T.r_MOST_LISTS) (nomark _))
 (pss_one ps_never)
 pss_nil)
 (pss_cons (ps_fld (pv 0) (pe_callTy call_tuple_of (by rfl) T.z_tuple (by decide +kernel) (pa_cons (pe_lc (own := [("words", 5)]) (g := gName 5) (te := tM1 (rJoin K) (tC (.str " ")) (tVar 5)) (tt := tYes) (by rfl) sc_Function_init.nd (pi_list (pv 2)) (blkOk_by (N := ["self", "text", "parts", "row", "reader", "words", "opener"]) (sc := defScope s_Function_init) (by decide +kernel)) (fun _ _ _ _ _ => (pg_name (i := 5) sc_Function_init.nd rfl (Or.inl rfl))) (fun _ _ _ _ _ => pts_nil) (fun _ _ _ _ _ => (pe_join pe_str (pv 5)))) pa_nil)) rfl)
 (pss_cons (ps_fld (pv 0) (pe_callTy call_tuple_of (by rfl) T.z_tuple (by decide +kernel) (pa_cons (pe_fld (pv 4) rfl) pa_nil)) rfl)
 (pss_cons (ps_fld (pv 0) (pe_callTy call_tuple_of (by rfl) T.z_tuple (by decide +kernel) (pa_cons (pe_lc (own := [("words", 5)]) (g := gName 5) (tt := tYes) (by rfl) sc_Function_init.nd (pi_list (pv 2)) (blkOk_by (N := ["self", "text", "parts", "row", "reader", "words", "opener"]) (sc := defScope s_Function_init) (by decide +kernel)) (fun _ _ _ _ _ => (pg_name (i := 5) sc_Function_init.nd rfl (Or.inl rfl))) (fun _ _ _ _ _ => pts_nil) (fun _ _ _ _ _ => (pe_ifExp (pt_cmpR op_eq (pe_ix (r := rIxL K) ix_list (pv 5) pe_int (fun _ _ => rfl)) pe_str (nomark _)) (pe_ix (r := rIxL K) ix_list (pv 5) pe_int (fun _ _ => rfl)) pe_non))) pa_nil)) rfl)
 (pss_cons (ps_fld (pv 0) (pe_callTy call_tuple_of (by rfl) T.z_tuple (by decide +kernel) (pa_cons (pe_lc (own := [("words", 5)]) (g := gName 5) (tt := tYes) (by rfl) sc_Function_init.nd (pi_list (pv 2)) (blkOk_by (N := ["self", "text", "parts", "row", "reader", "words", "opener"]) (sc := defScope s_Function_init) (by decide +kernel)) (fun _ _ _ _ _ => (pg_name (i := 5) sc_Function_init.nd rfl (Or.inl rfl))) (fun _ _ _ _ _ => pts_nil) (fun _ _ _ _ _ => (pe_ifExp (pt_cmpR op_eq (pe_ix (r := rIxL K) ix_list (pv 5) pe_int (fun _ _ => rfl)) pe_str (nomark _)) (pe_callTy call_int_str (by rfl) T.z_int (by decide +kernel) (pa_cons (pe_ix (r := rIxL K) ix_list (pv 5) pe_int (fun _ _ => rfl)) pa_nil)) pe_non))) pa_nil)) rfl)
 (pss_cons (ps_fld (pv 0) (pe_callTy call_tuple_of (by rfl) T.z_tuple (by decide +kernel) (pa_cons (pe_fld (pv 4) rfl) pa_nil)) rfl)
 (pss_cons (ps_fld (pv 0) (pe_lock (pe_dc (own := [("opener", 6)]) (g := gName 6) (tk := tVar 6) (tv := tDGet2 (tFld K (tVar 4) "middles") (tVar 6) (tC .non)) (tt := tYes) (by rfl) sc_Function_init.nd (pi_keys (pe_fld (pv 4) rfl)) (blkOk_by (N := ["self", "text", "parts", "row", "reader", "words", "opener"]) (sc := defScope s_Function_init) (by decide +kernel)) (fun _ _ _ _ _ => (pg_name (i := 6) sc_Function_init.nd rfl (Or.inl rfl))) (fun _ _ _ _ _ => pts_nil) (fun _ _ _ _ _ => (pv 6)) (fun _ _ _ _ _ => (pe_dget2 (hu_of hr) (pe_fld (pv 4) rfl) (pv 6) pe_non ⟨rfl, rfl, rfl, rfl⟩)))) rfl)
 (pss_one (ps_fld (pv 0) (pe_fld (pv 4) rfl) rfl)))))))))))))))), ?_⟩
    have C := T.fc
    have D := T.rc
    obtain ⟨hrow, hwl⟩ := read_rows hrd
    have hwl2 : R.words.length = rows.length := by rw [hwl]; simp [Rd.nil]
    have hsp := split_rowsT hne hrow
    refine Evl.q_when (b := false) (Evl.et_is (Evl.et_not (Evl.et_B (ev_isi (b := true) (Evl.ev_var rfl) (.str _) (show kitB "str" "str" = some true by decide +kernel)))) rfl) (fun z => by cases z) (fun _ H1 e1 => ?_)
    -- the parts
    refine ⟨_, rfl, ⟨_, rfl⟩, _, _, rfl, rfl, (by decide +kernel), (by have := rowsT_len hz hrow; rw [sizeLine_eq]; omega), fun lp hlp => ⟨lp, rfl, ⟨_, SqL.of upd_same⟩, fun pp hpp => ?_⟩⟩
    rw [hsp] at hpp ⊢
    have e2 : Same H (upd H1 lp (.lst ((rows.map rowT).map V.str))) := Same.trans e1 (Same.new hlp)
    have hl2 : (upd H1 lp (.lst ((rows.map rowT).map V.str))) lp = some (.lst ((rows.map rowT).map V.str)) := upd_same
    generalize upd H1 lp (.lst ((rows.map rowT).map V.str)) = H2 at e2 hl2 hpp ⊢
    refine lc_it walk_l (fun i H' => Same H2 H' ∧ ∃ as : List Addr, H' pp = some (.lst (as.map V.ref)) ∧ Paired (fun a (ws : List Str) => a ≠ pp ∧ H' a = some (.lst (ws.map V.str))) as (rows.take i)) ⟨Same.new hpp, [], upd_same, .nil⟩ (fun i H' _ q => Evl.ex_l q.1 (SqL.of hl2)) (fun i y H3 H4 hi q yy => ?_) fun H3 q => ?_
    · obtain ⟨q1, as, q2, q3⟩ := q
      obtain ⟨rfl, hy⟩ := yy
      have hil : i < rows.length := by rwa [List.length_map, List.length_map] at hi
      rw [List.getElem?_map, List.getElem?_map, List.getElem?_eq_getElem hil] at hy
      obtain rfl : V.str (rowT rows[i]) = y := Option.some.inj hy
      have hr1 := hrow rows[i] (List.getElem_mem hil)
      refine ⟨rfl, ?_⟩
      unfold tYes
      dsimp only
      rw [if_pos rfl]
      have hlq := pairL q3
      rw [List.length_take, Nat.min_eq_left (by omega)] at hlq
      refine ⟨_, rfl, ⟨_, rfl⟩, _, rfl, rfl, (by have := row_len hr1; rw [sizeLine_eq]; omega), fun p hp => ?_⟩
      rw [words_rowT hr1]
      have hpne : pp ≠ p := ne_of_none q2 hp
      refine ⟨as.map V.ref, by rw [upd_ne hpne]; exact q2, Evl.sz_lt (by rw [List.length_map]; omega), ?_⟩
      have s5 : ∀ b o, H2 b = some o → (upd (upd H4 p (.lst (rows[i].map V.str))) pp (.lst (as.map V.ref ++ [V.ref p]))) b = some o := fun b o hb => by
        have hb4 := q1 b o hb
        rw [upd_ne (ne_of_none hb hpp), upd_ne (ne_of_none hb4 hp)]
        exact hb4
      refine ⟨s5, as ++ [p], by rw [upd_same, List.map_append]; rfl, ?_⟩
      rw [List.take_add_one, List.getElem?_eq_getElem hil]
      refine pair_snoc (Paired.mapP q3 fun a ws z => ?_) ?_
      · obtain ⟨hap, z⟩ := z
        refine ⟨hap, ?_⟩
        rw [upd_ne hap, upd_ne (ne_of_none z hp)]
        exact z
      · refine ⟨Ne.symm hpne, ?_⟩
        rw [upd_ne (Ne.symm hpne), upd_same]
    obtain ⟨q1, as, hpp3, q3⟩ := q
    rw [List.length_map, List.length_map, List.take_of_length_le (Nat.le_refl _)] at q3
    have has := pairL q3
    have s3 : Same H H3 := Same.trans e2 q1
    have hx3 := s3 _ _ hx
    refine Evl.q_when (b := false) (Evl.et_is (et_gtI (a := (rows.length : Int)) (b := 24) (Evl.ev_is (ev_lenL (Evl.ev_var rfl) (SqL.of hpp3)) (by rw [List.length_map, has])) Evl.ev_c) (decide_eq_false (by omega))) (fun z => by cases z) (fun _ H4 e4 => ?_)
    have s4 := Same.trans s3 e4
    have hpp4 := e4 _ _ hpp3
    have hx4 := e4 _ _ hx3
    have hrw4 : Paired (fun a (ws : List Str) => H4 a = some (.lst (ws.map V.str))) as rows := Paired.mapP q3 fun _ _ z => e4 _ _ z.2
    -- the reader
    refine fun xr dxr hxr hdxr hnx => ⟨xr, dxr, rfl, upd_same, fun lw ls lo dm de H5 hfr ap hbut hA0 => ⟨rfl, ?_⟩⟩
    have s5 : Same H4 H5 := fun b o hb => by
      have n1 : b ≠ xr := ne_of_none hb hxr
      refine hbut b o n1 ?_
      rw [upd_ne n1, upd_ne (ne_of_none hb hdxr)]
      exact hb
    have hfr4 : ∀ a ∈ [lw, ls, lo, dm, de], H4 a = none := fun a ha => by
      have := hfr a ha
      cases hq : H4 a with
      | none => rfl
      | some o =>
        have n1 : a ≠ xr := ne_of_none hq hxr
        rw [upd_ne n1, upd_ne (ne_of_none hq hdxr), hq] at this
        cases this
    have hxrx : xr ≠ x := fun z => by rw [z, hx4] at hxr; cases hxr
    refine q_forE (xs := as.map V.ref) (Evl.ev_var rfl) (SqL.of (s5 _ _ hpp4)) (fun i σ' H' => Same H4 H' ∧ ∃ Ri, RdAt A0.c_Reader H' xr Ri dxr lw ls lo dm de ∧ Ri.Ok ∧ Ri.words.length = i ∧ readAll Ri (rows.drop i) = some R ∧ ∃ y3 y5, σ' = [some (.ref x), some (.str (rowsT rows)), some (.ref pp), y3, some (.ref xr), y5, none]) (fun H6 e6 => ⟨Same.trans s5 e6, Rd.nil, hA0.same e6, Rd.ok_nil, rfl, hrd, _, _, rfl⟩) (fun i σ' H' p => SqL.of (p.1 _ _ hpp4)) (fun i y σ' H' T' hi p hT => ?_) (fun σ' H' p => ?_)
    · obtain ⟨s6, Ri, hRi, oki, hli, hri, y3, y5, rfl⟩ := p
      refine g2 ?_
      rw [List.getElem?_map] at hi
      obtain ⟨a, ha, rfl⟩ := Option.map_eq_some_iff.mp hi
      have hil : i < rows.length := by rw [← has]; exact (List.getElem?_eq_some_iff.mp ha).1
      obtain ⟨a2, h1, h2⟩ := pairAt hrw4 (List.getElem?_eq_getElem hil)
      rw [ha] at h1
      cases h1
      rw [List.drop_eq_getElem_cons hil] at hri
      obtain ⟨u, us, hws, hr1, hf1, hr2⟩ := read_cons hri
      have sT := Same.new (o := .tup [.int (i : Nat), .ref a]) hT
      have s7 := Same.trans s6 sT
      have hRT := hRi.same sT
      have hIs : IsRd A0.c_Reader _ xr Ri := ⟨_, _, _, _, _, _, hRT⟩
      have ix : ∀ {H7 : Hp} {y : Option V}, Same (upd H' T' (.tup [.int (i : Nat), .ref a])) H7 → Evl.Ev (tOp (rIxL K) (tVar 5) (tC (.int 0))) [some (.ref x), some (.str (rowsT rows)), some (.ref pp), y, some (.ref xr), some (.ref a), none] H7 (.str u) := fun {H7 y} e7 => Evl.ev_op (Evl.ev_var rfl) Evl.ev_c (Evl.rv_ixL (SqL.of (e7 _ _ (s7 _ _ h2))) (by rw [hws]; exact atI_nat (j := 0) rfl))
      refine Evl.q_when (b := false) (Evl.et_is (Evl.et_or (a := false) (b := false) (Evl.et_is (Evl.et_not (Evl.et_B (b := true) (Evl.ev_call (vs := [.ref a]) (Evl.ea_cons (Evl.ev_var rfl) Evl.ea_nil) fun H7 e7 Q7 q7 E7 => ⟨a, rows[i], rfl, SqL.of (e7 _ _ (s7 _ _ h2)), fun v hv => ?_, ?_, fun H8 e8 => by have := q7 H8 e8; rwa [← hr1] at this⟩))) rfl) fun _ => Evl.et_is (Evl.et_not (Evl.et_B (b := true) (ev_meth (vs := [.str u]) (Evl.ev_var rfl) hRT.obj (by rfl) (Evl.ea_cons (ix (Same.refl _)) Evl.ea_nil) fun H7 e7 Q7 q7 E7 => ⟨xr, u, Ri, rfl, hIs.same e7, oki, fun H8 e8 => by have := q7 H8 e8; rwa [← hf1] at this⟩))) rfl) rfl) (fun z => by cases z) (fun _ H7 e7 => ?_)
      · have := good_len ((row_all hr1).2.2 v hv)
        have e : v.cps.size = v.cps.toList.length := by simp
        rw [e]
        exact Nat.le_trans this (by decide)
      · have := (row_all hr1).2.1
        omega
      · have h7 := hRT.same e7
        refine ⟨_, rfl, xr, dxr, _, rfl, h7.obj, (by rfl), (ix e7) H7 (Evl.Ex.refl _) _ fun H8 e8 => ⟨xr, u, Ri, dxr, lw, ls, lo, dm, de, rfl, h7.same e8, ap, oki, fits_top hf1, fun H9 b9 r9 => ?_⟩⟩
        refine ⟨fun b o hb => b9 b o (fun hm => ?_) ((Same.trans s7 (Same.trans e7 e8)) b o hb), Ri.take u, r9, oki.take u (by omega), ?_, hr2, _, _, rfl⟩
        · have := hfr4 b hm
          rw [hb] at this
          cases this
        · rw [read_rows.take_words, List.length_append, hli]
          rfl
    obtain ⟨s6, Ri, hRi, oki, hli, hri, y3, y5, rfl⟩ := p
    rw [List.length_map, has, List.drop_eq_nil_of_le (Nat.le_refl _)] at hri
    unfold readAll at hri
    cases hri
    have hrt : R.top = none := by unfold Rd.top; rw [hst]; rfl
    have I0 : FI K A0.c_Function A0.c_Reader x dx xr R dxr lw ls lo dm de pp as rows H H' [] [] := ⟨s6 _ _ hx4, hRi, hxrx, s6 _ _ hpp4, Paired.mapP hrw4 fun _ _ z => s6 _ _ z, fun q hq => absurd hq (by simp), But.ofSame (Same.trans s4 s6)⟩
    refine Evl.q_when (b := false) (Evl.et_is (et_stack ⟨_, _, _, _, _, _, hRi⟩ D (Evl.ev_var rfl)) (by rw [hrt]; rfl)) (fun z => by cases z) (fun _ H7 e7 => ?_)
    have I1 := I0.same e7
    -- the lists
    have rowAt : ∀ {fs : List (Str × V)} {ts : List (Addr × List V)} {H8 : Hp} {i : Nat} {y : V}, FI K A0.c_Function A0.c_Reader x dx xr R dxr lw ls lo dm de pp as rows H H8 fs ts → (as.map V.ref)[i]? = some y → ∃ a ws, y = .ref a ∧ rows[i]? = some ws ∧ isRow ws = true ∧ H8 a = some (.lst (ws.map V.str)) := fun {fs ts H8 i y} I hy => by
      obtain ⟨a, ws, h1, h2, h3, h4⟩ := I.row hy
      exact ⟨a, ws, h1, h3, hrow ws (List.mem_of_getElem? h3), h4⟩
    refine ⟨_, rfl, pp, rfl, ⟨_, SqL.of I1.parts⟩, fun Dl hD => ?_⟩
    refine sc_it walk_l (fun i H' => Same H7 H' ∧ H' Dl = some (OxSetT.SetT w Dl (namesL (rows.take i)))) ⟨Same.new hD, upd_same⟩ (fun i H' _ q => Evl.ex_l q.1 (SqL.of I1.parts)) (fun i y H8 H9 hi q yy => ?_) fun H8 q => ?_
    · obtain ⟨q1, q2⟩ := q
      obtain ⟨rfl, hy⟩ := yy
      obtain ⟨a, ws, rfl, hwi, hr1, haw⟩ := rowAt (I1.same q1) hy
      refine ⟨rfl, ?_⟩
      have hnt := names_take hwi
      have hln : (namesL (rows.take i)).length ≤ 24 := by
        have := names_len (rows.take i) []
        rw [List.length_take] at this
        unfold namesL
        simp at this
        omega
      rcases good_row hr1 with ⟨u, rfl, _, n1, n2⟩ | ⟨u, v, rfl, _, _, hk⟩
      · refine (et_eqS (x := u) (y := "each") (Evl.ev_op (Evl.ev_var rfl) Evl.ev_c (Evl.rv_ixL (SqL.of haw) rfl)) Evl.ev_c) H9 (Evl.Ex.refl _) _ fun H10 e10 => ?_
        rw [decide_eq_false n1, if_neg (by decide)]
        refine ⟨Same.trans q1 e10, ?_⟩
        rw [hnt]
        exact e10 _ _ q2
      · refine (et_eqS (x := u) (y := "each") (Evl.ev_op (Evl.ev_var rfl) Evl.ev_c (Evl.rv_ixL (SqL.of haw) rfl)) Evl.ev_c) H9 (Evl.Ex.refl _) _ fun H10 e10 => ?_
        by_cases hu : u = "each"
        · rw [decide_eq_true hu, if_pos rfl]
          refine (Evl.ev_op (z := .str v) (Evl.ev_var rfl) Evl.ev_c (Evl.rv_ixL (SqL.of (e10 _ _ haw)) rfl)) H10 (Evl.Ex.refl _) _ fun H11 e11 => ?_
          refine ⟨_, _, e11 _ _ (e10 _ _ q2), ⟨v, rfl, (by show (namesL (rows.take i)).length + 1 < scanBound; unfold scanBound; omega), rfl⟩, fun b o hb => ?_, ?_⟩
          · rw [upd_ne (ne_of_none hb hD)]
            exact e11 _ _ (e10 _ _ (q1 b o hb))
          · rw [upd_same, hnt, show nameOf [u, v] = some v from if_pos hu]
            rfl
        · rw [decide_eq_false hu, if_neg (by decide)]
          refine ⟨Same.trans q1 e10, ?_⟩
          rw [hnt, show nameOf [u, v] = none from if_neg hu]
          exact e10 _ _ q2
    obtain ⟨q1, q2⟩ := q
    rw [List.length_map, has, List.take_of_length_le (Nat.le_refl _)] at q2
    have I2 := I1.same q1
    refine ⟨Dl, _, rfl, q2, (by omega), fun ys ly hperm hsrt hly => ⟨ly, _, rfl, .inl ⟨SqL.of upd_same, fun tl0 htl => ?_⟩⟩⟩
    have I3 := (I2.same (Same.new hly)).same (Same.new (o := .tup (ys.map V.str)) htl)
    refine ⟨_, rfl, x, A0.c_Function, dx, [], rfl, I3.obj, C.cl, C.n_lists, (by simp), ?_⟩
    have I4 := (I3.tup (p := tl0) (xs := ys.map V.str) (SqT.of upd_same)).put "lists" (.ref tl0)
    show tSeq _ _ _ _ (upd (upd (upd H8 ly (.lst (ys.map V.str))) tl0 (.tup (ys.map V.str))) x (.ins A0.c_Function dx (putF "lists" (.ref tl0) [])))
    generalize upd (upd (upd H8 ly (.lst (ys.map V.str))) tl0 (.tup (ys.map V.str))) x (.ins A0.c_Function dx (putF "lists" (.ref tl0) [])) = H9 at I4
    have hyl : ys.length ≤ 3 := by rw [hperm.length_eq]; exact hnm
    refine Evl.q_when (b := false) (Evl.et_is (et_gtI (a := (ys.length : Int)) (b := 3) (Evl.ev_is (ev_lenT (ev_fld (Evl.ev_var rfl) I4.obj C.cl C.n_lists rfl) (I4.tups _ List.mem_cons_self)) (by rw [List.length_map])) Evl.ev_c) (decide_eq_false (by omega))) (fun z => by cases z) (fun _ H10 e10 => ?_)
    have I5 := I4.same e10
    -- the rows
    refine q_fldU (xs := (rows.map rowT).map V.str) (eu_tupL (el_mapL (xs := as.map V.ref) (Evl.ev_var rfl) (SqL.of I5.parts) (by rw [List.length_map, List.length_map, List.length_map, has]) (by rw [List.length_map]; omega) (fun y => rfl) fun i y z H11 e11 hy hzz => ?_)) I5 C.cl C.n_rows (by show (1 : Nat) < 1000; decide) (Evl.ev_var rfl) fun tr0 H11 I6 => ?_
    · obtain ⟨a, ws, rfl, hwi, hr1, haw⟩ := rowAt (I5.same e11) hy
      rw [List.getElem?_map, List.getElem?_map, hwi] at hzz
      cases hzz
      exact fun H12 e12 Q12 q12 => ⟨⟨_, rfl⟩, _, rfl, _, a, ws, rfl, rfl, .inl (SqL.of (e12 _ _ haw)), row_join hr1, q12 H12 (Same.refl _)⟩
    -- the words
    refine q_fldU (xs := R.words.map V.str) (eu_tupA (ev_fld (Evl.ev_var rfl) I6.rd.obj D.cl D.n_words rfl) (SqL.of I6.rd.words)) I6 C.cl C.n_words (by show (2 : Nat) < 1000; decide) (Evl.ev_var rfl) fun tw0 H12 I7 => ?_
    -- the names
    refine q_fldU (xs := (rows.map nameOf).map oS) (eu_tupL (el_mapL (xs := as.map V.ref) (Evl.ev_var rfl) (SqL.of I7.parts) (by rw [List.length_map, List.length_map, List.length_map, has]) (by rw [List.length_map]; omega) (fun y => rfl) fun i y z H13 e13 hy hzz => ?_)) I7 C.cl C.n_names (by show (3 : Nat) < 1000; decide) (Evl.ev_var rfl) fun tn0 H13 I8 => ?_
    · obtain ⟨a, ws, rfl, hwi, hr1, haw⟩ := rowAt (I7.same e13) hy
      rw [List.getElem?_map, List.getElem?_map, hwi] at hzz
      cases hzz
      rcases good_row hr1 with ⟨u, rfl, _, n1, n2⟩ | ⟨u, v, rfl, _, _, hk⟩
      · exact Evl.ev_if (b := false) (Evl.et_is (et_eqS (x := u) (y := "each") (Evl.ev_op (Evl.ev_var rfl) Evl.ev_c (Evl.rv_ixL (SqL.of haw) rfl)) Evl.ev_c) (decide_eq_false n1)) (fun z => by cases z) fun _ => Evl.ev_c
      · refine Evl.ev_if (b := decide (u = "each")) (et_eqS (x := u) (y := "each") (Evl.ev_op (Evl.ev_var rfl) Evl.ev_c (Evl.rv_ixL (SqL.of haw) rfl)) Evl.ev_c) (fun z => ?_) fun z => ?_
        · refine Evl.ev_is (Evl.ev_op (z := .str v) (Evl.ev_var rfl) Evl.ev_c (Evl.rv_ixL (SqL.of haw) rfl)) ?_
          rw [show nameOf [u, v] = some v from if_pos (of_decide_eq_true z)]
          rfl
        · refine Evl.ev_is Evl.ev_c ?_
          rw [show nameOf [u, v] = none from if_neg (of_decide_eq_false z)]
          rfl
    -- the tries
    refine q_fldU (xs := (rows.map triesOf).map oZ) (eu_tupL (el_mapL (xs := as.map V.ref) (Evl.ev_var rfl) (SqL.of I8.parts) (by rw [List.length_map, List.length_map, List.length_map, has]) (by rw [List.length_map]; omega) (fun y => rfl) fun i y z H14 e14 hy hzz => ?_)) I8 C.cl C.n_tries (by show (4 : Nat) < 1000; decide) (Evl.ev_var rfl) fun tt0 H14 I9 => ?_
    · obtain ⟨a, ws, rfl, hwi, hr1, haw⟩ := rowAt (I8.same e14) hy
      rw [List.getElem?_map, List.getElem?_map, hwi] at hzz
      cases hzz
      rcases good_row hr1 with ⟨u, rfl, _, n1, n2⟩ | ⟨u, v, rfl, _, _, hk⟩
      · exact Evl.ev_if (b := false) (Evl.et_is (et_eqS (x := u) (y := "retry") (Evl.ev_op (Evl.ev_var rfl) Evl.ev_c (Evl.rv_ixL (SqL.of haw) rfl)) Evl.ev_c) (decide_eq_false n2)) (fun z => by cases z) fun _ => Evl.ev_c
      · refine Evl.ev_if (b := decide (u = "retry")) (et_eqS (x := u) (y := "retry") (Evl.ev_op (Evl.ev_var rfl) Evl.ev_c (Evl.rv_ixL (SqL.of haw) rfl)) Evl.ev_c) (fun z => ?_) fun z => ?_
        · have hu := of_decide_eq_true z
          have hv : v ∈ (["1", "2", "3"] : List Str) := by
            rcases hk with ⟨h1, _⟩ | ⟨_, h2⟩
            · rw [h1] at hu; exact absurd hu (by decide +kernel)
            · exact h2
          obtain ⟨⟨n, hn⟩, hlv⟩ := int_nums v hv
          refine Evl.ev_is (Evl.ev_cb (z := .int n) (Evl.ea_cons (Evl.ev_op (z := .str v) (Evl.ev_var rfl) Evl.ev_c (Evl.rv_ixL (SqL.of haw) rfl)) Evl.ea_nil) fun H15 e15 Q15 q15 => ⟨v, n, rfl, hn, hlv, q15 H15 (Same.refl _)⟩) ?_
          rw [show triesOf [u, v] = intText? v from if_pos hu, hn]
          rfl
        · refine Evl.ev_is Evl.ev_c ?_
          rw [show triesOf [u, v] = none from if_neg (of_decide_eq_false z)]
          rfl
    -- the openers
    refine q_fldU (xs := R.openers.map oI) (eu_tupA (ev_fld (Evl.ev_var rfl) I9.rd.obj D.cl D.n_openers rfl) (SqL.of I9.rd.openers)) I9 C.cl C.n_openers (by show (5 : Nat) < 1000; decide) (Evl.ev_var rfl) fun to0 H15 I10 => ?_
    -- the middles
    refine ⟨de, _, I10.rd.ends, trivial, fun od => ?_⟩
    have nre : xr ≠ de := ap.xe
    have hu1 : (upd H15 de (.frz od (.dK (mapK natV R.ends)))) xr = some (.ins A0.c_Reader dxr (rdF lw ls lo dm de)) := by rw [upd_ne nre]; exact I10.rd.obj
    have hu2 : (upd H15 de (.frz od (.dK (mapK natV R.ends)))) dm = some (.dK (mapK natV R.middles)) := by rw [upd_ne ap.me]; exact I10.rd.mids
    have hu3 : (upd H15 de (.frz od (.dK (mapK natV R.ends)))) de = some (.frz od (.dK (mapK natV R.ends))) := upd_same
    have hu4 : ∀ b o, b ≠ de → H15 b = some o → (upd H15 de (.frz od (.dK (mapK natV R.ends)))) b = some o := fun b o nb hb => by rw [upd_ne nb]; exact hb
    generalize upd H15 de (.frz od (.dK (mapK natV R.ends))) = H16 at hu1 hu2 hu3 hu4 ⊢
    unfold tDc iKeys
    refine (ev_fld (σ := [some (.ref x), some (.str (rowsT rows)), some (.ref pp), y3, some (.ref xr), y5, none]) (ta := tVar 4) (Evl.ev_var rfl) hu1 D.cl D.n_ends rfl) H16 (Evl.Ex.refl _) _ fun H17 e17 => ⟨de, od, rfl, .inl ⟨_, e17 _ _ hu3, fun Dm hDm => ?_⟩⟩
    refine dc_it walk_keys (fun i H' => Same H17 H' ∧ H' Dm = some (.dK (((R.ends.take i).map fun p => (p.1, R.middles.lookup p.1)).map fun p => (.inl (p.1 : Int), oI p.2)))) ⟨Same.new hDm, upd_same⟩ (fun i H' _ q => q.1 _ _ (e17 _ _ hu3)) (fun i y H18 H19 hi q yy => ?_) fun H18 q => ?_
    · obtain ⟨q1, q2⟩ := q
      obtain ⟨rfl, ky, vy, hky, rfl⟩ := yy
      have hil : i < R.ends.length := by unfold mapK at hi; rwa [List.length_map] at hi
      unfold mapK at hky
      rw [List.getElem?_map, List.getElem?_eq_getElem hil] at hky
      cases hky
      refine ⟨rfl, ?_⟩
      unfold tYes
      dsimp only
      rw [if_pos rfl]
      refine ⟨_, rfl, ?_⟩
      have s19 := Same.trans e17 q1
      have hle := oki.es
      refine (ev_getN (f := natV) (b := (R.ends[i]).1) (ev_fld (Evl.ev_var rfl) (s19 _ _ hu1) D.cl D.n_middles rfl) (Evl.ev_var rfl) (s19 _ _ hu2)) H19 (Evl.Ex.refl _) _ fun H20 e20 => ⟨_, .inl ((R.ends[i]).1 : Int), rfl, e20 _ _ q2, Evl.sz_lt (by rw [List.length_map, List.length_map, List.length_take]; omega), fun b o hb => ?_, ?_⟩
      · rw [upd_ne (ne_of_none hb hDm)]
        exact e20 _ _ (q1 b o hb)
      · rw [upd_same, List.take_add_one, List.getElem?_eq_getElem hil, Option.toList_some, List.map_append, List.map_append, putK_new]
        · have : ((R.middles.lookup (R.ends[i]).1).map natV).getD .non = oI (R.middles.lookup (R.ends[i]).1) := by cases R.middles.lookup (R.ends[i]).1 <;> rfl
          rw [this]
          rfl
        · intro p hp z
          obtain ⟨p1, hp1, rfl⟩ := List.mem_map.mp hp
          obtain ⟨p2, hp2, rfl⟩ := List.mem_map.mp hp1
          have e : p2.1 = (R.ends[i]).1 := by
            injection z with z
            exact Int.ofNat.inj z
          obtain ⟨j, hj, hje⟩ := List.mem_take_iff_getElem.mp hp2
          have hjl : j < R.ends.length := by omega
          have hnd := oki.ek
          have h1 : (R.ends.map (·.1))[j]'(by rw [List.length_map]; exact hjl) = (R.ends.map (·.1))[i]'(by rw [List.length_map]; exact hil) := by
            rw [List.getElem_map, List.getElem_map, hje]
            exact e
          have := (List.getElem_inj (h₀ := by rw [List.length_map]; exact hjl) (h₁ := by rw [List.length_map]; exact hil) hnd).mp h1
          omega
    obtain ⟨q1', q2'⟩ := q
    rw [show (mapK natV R.ends).length = R.ends.length by unfold mapK; rw [List.length_map], List.take_of_length_le (Nat.le_refl _)] at q2'
    refine ⟨q1' _ _ (e17 _ _ hu3), ?_⟩
    have s21 : Same H15 (upd H18 de (.dK (mapK natV R.ends))) := fun b o hb => by
      by_cases nb : b = de
      · subst nb
        rw [upd_same]
        exact (I10.rd.ends.symm.trans hb)
      · rw [upd_ne nb]
        exact q1' _ _ (e17 _ _ (hu4 b o nb hb))
    have nde : Dm ≠ de := fun z => by
      have := e17 _ _ hu3
      rw [← z, hDm] at this
      cases this
    have I11 := I10.same s21
    have hdm : (upd H18 de (.dK (mapK natV R.ends))) Dm = some (.dK ((R.ends.map fun p => (p.1, R.middles.lookup p.1)).map fun p => (.inl (p.1 : Int), oI p.2))) := by rw [upd_ne nde]; exact q2'
    generalize upd H18 de (.dK (mapK natV R.ends)) = H19 at I11 hdm ⊢
    refine ⟨_, rfl, x, A0.c_Function, dx, _, rfl, I11.obj, C.cl, C.n_middles, (by show (6 : Nat) < 1000; decide), ?_⟩
    have I12 := I11.put "middles" (.ref Dm)
    have ndx : Dm ≠ x := fun z => by rw [z, I11.obj] at hdm; cases hdm
    refine s_fld (v := .ref de) (ev_fld (Evl.ev_var rfl) I12.rd.obj D.cl D.n_ends rfl) (Evl.ev_var rfl) I12.obj C.cl C.n_ends (by show (7 : Nat) < 1000; decide) fun H21 e21 => ?_
    have I13 := (I12.same e21).put "ends" (.ref de)
    have tp : ∀ {p : Addr} {xs : List V}, (p, xs) ∈ [(to0, R.openers.map oI), (tt0, (rows.map triesOf).map oZ), (tn0, (rows.map nameOf).map oS), (tw0, R.words.map V.str), (tr0, (rows.map rowT).map V.str), (tl0, ys.map V.str)] → SqT K _ p xs := fun {p xs} hm => I13.tups (p, xs) hm
    refine k ys _ hperm hsrt I13.but ⟨dx, tl0, tr0, tw0, tn0, tt0, to0, Dm, de, I13.obj, tp (.tail _ (.tail _ (.tail _ (.tail _ (.tail _ (.head _)))))), tp (.tail _ (.tail _ (.tail _ (.tail _ (.head _))))), tp (.tail _ (.tail _ (.tail _ (.head _)))), tp (.tail _ (.tail _ (.head _))), tp (.tail _ (.head _)), tp (.head _), (upd_ne ndx).trans (e21 _ _ ((upd_ne ndx).trans hdm)), I13.rd.ends, ?_⟩
    show R.words.length ≤ 60
    omega
end

end K45
end
section
set_option Elab.async false
set_option autoImplicit false
set_option linter.all false
set_option maxRecDepth 100000
set_option maxHeartbeats 4000000
namespace K45
open PySem PySem.Spec PyProof.Rows L2 PySem.OxE LawC
section
variable {P : Program} {w : World} {K : PySem.W.Frag} {mg : Str → Option Value} {base : Heap} {A0 : Ad}
local macro_rules | `(tactic| walk_at "sz") => `(tactic| first | decide | (simp only [List.length_cons, List.length_nil, List.length_append]; omega) | (simp; done))
local macro_rules | `(tactic| walk_at "pow") => `(tactic| exact ⟨by decide, by decide, by first | decide | omega⟩)
local macro_rules | `(tactic| walk_at "mul") => `(tactic| first | exact .inl ⟨by decide, by decide⟩ | exact .inr ⟨by decide, by decide⟩ | exact .inl ⟨by omega, by omega⟩ | exact .inr ⟨by omega, by omega⟩)
local macro_rules | `(tactic| walk_at "pos") => `(tactic| first | (show (0 : Int) < _; decide) | (show (0 : Int) < _; omega))
local macro_rules | `(tactic| walk_at "fdiv") => `(tactic| exact wide_div (b := 100) (by first | decide | omega) (by first | decide | omega) (by decide) (by walk_at "sz"))
theorem ok_source (T : Txt P K mg A0) : FnOk P w K mg base CX0 1 A0.f_source A0.fd_source ["_law_script", "_law_place"] (spSource K) := by
  refine T.F_source.ok sc_source (fun vs H Q E h => ?_) (fun cdv A outer s H vs Q E hr h => ?_)
  · obtain ⟨a, ns, pl, rfl, _⟩ := h
    rfl
  · obtain ⟨a, ns, pl, rfl, hS, hp0, hp1, k⟩ := h
    refine ⟨_, (pss_cons (ps_set (i := 2) sc_source.nd rfl (Or.inl rfl) (pe_ifExp (pt_cmpR op_lt (pv 1) (pe_callB call_len (by rfl) T.z_len PySem.boot_len (pa_cons (pv 0) pa_nil)) (nomark _)) (pe_callTy call_int1 (by rfl) T.z_int (by decide +kernel) (pa_cons (pe_ix ix_list (pv 0) (pv 1) (fun _ _ => rfl)) pa_nil)) pe_int))
 (pss_cons (ps_set (i := 3) sc_source.nd rfl (Or.inl rfl) (pe_ifExp (pt_cmpR op_ge (pe_callB call_abs (by rfl) T.z_abs (by decide +kernel) (pa_cons (pv 2) pa_nil)) (pe_op op_pow pe_int pe_int) (nomark _)) (pe_callB call_abs (by rfl) T.z_abs (by decide +kernel) (pa_cons (pv 2) pa_nil)) pe_int))
 (pss_one (ps_ret (pe_lst (pa_cons (pv 3) (pa_cons (pe_op op_add (pe_op op_add (pe_op op_mod (pe_callTy call_int1 (by rfl) T.z_int (by decide +kernel) (pa_cons (pv 2) pa_nil)) pe_int) (pe_op op_mul pe_int (pv 1))) pe_int) (pa_cons pe_int pa_nil)))))))), ?_⟩
    have rest : ∀ (cell : Int) (D : Int), 0 ≤ D → ∀ p, H p = none → Q (.ref p) (upd H p (.lst [.int D, .int (cell % 2147483579 + 9176 * pl + 41), .int 0])) := fun cell D hD p hp => by
      have e0 := rem0 (a := cell) (n := 2147483579) (by decide)
      have e1 := rem1 (a := cell) (n := 2147483579) (by decide)
      exact k p _ hp (Same.new hp) ⟨⟨_, _, upd_same, hD, by omega, by unfold SM; omega⟩, Int.le_refl _⟩
    refine ⟨_, rfl, _, rfl, _, _, rfl, .inl ⟨_, hS, rfl⟩, _, _, rfl, rfl, _, rfl, ?_⟩
    rw [List.length_map]
    refine ite2 (fun c43 => ?_) (fun c43 => ?_)
    · have hlt : pl.toNat < ns.length := by have := of_decide_eq_true c43; omega
      refine ⟨_, rfl, _, rfl, _, _, _, .int ns[pl.toNat], rfl, rfl, hS, at_of (j := pl.toNat) (by omega) (by simp [hlt]), ?_⟩
      refine .inl ⟨_, rfl, ?_⟩
      refine ⟨_, rfl, _, rfl, _, _, rfl, rfl, (by walk_at "pow"), _, _, rfl, rfl, _, rfl, ?_⟩
      refine ite2 (fun c36 => ?_) (fun c36 => ?_)
      · refine ⟨_, rfl, _, rfl, ?_⟩
        refine ⟨_, rfl, _, rfl, ?_⟩
        refine .inl ⟨_, rfl, ?_⟩
        refine ⟨_, _, rfl, rfl, (by walk_at "pos"), _, rfl, _, _, rfl, rfl, (by walk_at "mul"), _, _, rfl, rfl, _, _, rfl, rfl, (by show 3 ≤ sizeLine; decide), fun p11 hp11 => ?_⟩
        exact rest _ _ (by split <;> omega) p11 hp11
      · refine ⟨_, rfl, _, rfl, ?_⟩
        refine .inl ⟨_, rfl, ?_⟩
        refine ⟨_, _, rfl, rfl, (by walk_at "pos"), _, rfl, _, _, rfl, rfl, (by walk_at "mul"), _, _, rfl, rfl, _, _, rfl, rfl, (by show 3 ≤ sizeLine; decide), fun p11 hp11 => ?_⟩
        exact rest _ _ (by decide) p11 hp11
    · refine ⟨_, rfl, _, rfl, _, _, rfl, rfl, (by walk_at "pow"), _, _, rfl, rfl, _, rfl, ?_⟩
      refine ite2 (fun c36 => ?_) (fun c36 => ?_)
      · refine ⟨_, rfl, _, rfl, ?_⟩
        refine ⟨_, rfl, _, rfl, ?_⟩
        refine .inl ⟨_, rfl, ?_⟩
        refine ⟨_, _, rfl, rfl, (by walk_at "pos"), _, rfl, _, _, rfl, rfl, (by walk_at "mul"), _, _, rfl, rfl, _, _, rfl, rfl, (by show 3 ≤ sizeLine; decide), fun p11 hp11 => ?_⟩
        exact rest _ _ (by decide) p11 hp11
      · refine ⟨_, rfl, _, rfl, ?_⟩
        refine .inl ⟨_, rfl, ?_⟩
        refine ⟨_, _, rfl, rfl, (by walk_at "pos"), _, rfl, _, _, rfl, rfl, (by walk_at "mul"), _, _, rfl, rfl, _, _, rfl, rfl, (by show 3 ≤ sizeLine; decide), fun p11 hp11 => ?_⟩
        exact rest _ _ (by decide) p11 hp11
theorem ok_draw (T : Txt P K mg A0) : FnOk P w K mg base CX0 1 A0.f_draw A0.fd_draw ["_law_source_here", "_law_many"] spDraw := by
  refine T.F_draw.ok sc_draw (fun vs H Q E h => ?_) (fun cdv A outer s H vs Q E hr h => ?_)
  · obtain ⟨p, t, n, rfl, _⟩ := h
    rfl
  · obtain ⟨p, t, n, rfl, ⟨⟨d, m, hp, hd, hm0, hm1⟩, ht0⟩, ht1, hn0, hn1, k⟩ := h
    unfold SM at hm1
    refine ⟨_, (pss_cons (ps_if (pt_cmpR op_gt (pe_ix ix_list (pv 0) pe_int (fun _ _ => rfl)) pe_int (nomark _))
 (pss_cons (ps_set (i := 2) sc_draw.nd rfl (Or.inl rfl) (pe_op op_mod (pe_callTy call_int1 (by rfl) T.z_int (by decide +kernel) (pa_cons (pe_ix ix_list (pv 0) pe_int (fun _ _ => rfl)) pa_nil)) (pv 1)))
 (pss_cons (ps_asg (pe_op op_fdivW (pe_ix ix_list (pv 0) pe_int (fun _ _ => rfl)) (pv 1)) (pg_sub (pv 0) pe_int set_list))
 (pss_one (ps_ret (pv 2)))))
 pss_nil)
 (pss_cons (ps_set (i := 3) sc_draw.nd rfl (Or.inl rfl) (pe_op op_add (pe_ix ix_list (pv 0) pe_int (fun _ _ => rfl)) pe_int))
 (pss_cons (ps_asg (pv 3) (pg_sub (pv 0) pe_int set_list))
 (pss_cons (ps_set (i := 4) sc_draw.nd rfl (Or.inl rfl) (pe_op op_mod (pe_callTy call_int1 (by rfl) T.z_int (by decide +kernel) (pa_cons (pe_op op_add (pe_op op_add (pe_op op_mul (pe_ix ix_list (pv 0) pe_int (fun _ _ => rfl)) pe_int) (pe_op op_mul (pe_op op_mul pe_int (pv 3)) (pv 3))) pe_int) pa_nil)) pe_int))
 (pss_cons (ps_asg (pv 4) (pg_sub (pv 0) pe_int set_list))
 (pss_one (ps_ret (pe_op op_mod (pe_op op_mod (pe_callTy call_int1 (by rfl) T.z_int (by decide +kernel) (pa_cons (pe_op op_add (pe_op op_pow (pe_op op_fdivW (pv 4) pe_int) pe_int) (pe_op op_fdivW (pv 4) pe_int)) pa_nil)) pe_int) (pv 1))))))))), ?_⟩
    refine ⟨_, rfl, _, _, _, .int d, rfl, rfl, (SqL.of hp), (by rfl), _, _, rfl, rfl, _, rfl, ?_⟩
    refine ite2 (fun c7 => ?_) (fun c7 => ?_)
    · refine ⟨_, rfl, _, _, _, .int d, rfl, rfl, (SqL.of hp), (by rfl), ?_⟩
      refine .inl ⟨_, rfl, ?_⟩
      refine ⟨_, rfl, _, _, rfl, rfl, (by walk_at "pos"), ?_⟩
      refine ⟨_, rfl, _, _, _, .int d, rfl, rfl, (SqL.of hp), (by rfl), _, rfl, _, _, rfl, rfl, (by walk_at "fdiv"), _, rfl, _, _, _, _, rfl, rfl, hp, (by rfl), ?_⟩
      refine ⟨_, rfl, ?_⟩
      exact k _ t _ (rem0 hn0) (rem1 hn0) (Int.le_refl _) (by omega) But.upd ⟨⟨_, _, upd_same, div0 hn0 hd, hm0, by unfold SM; omega⟩, ht0⟩
    · refine ⟨_, rfl, _, _, _, .int t, rfl, rfl, (SqL.of hp), (by rfl), _, _, rfl, rfl, ?_⟩
      refine ⟨_, rfl, _, rfl, _, _, _, _, rfl, rfl, hp, (by rfl), ?_⟩
      have hp' : upd H p (.lst ([V.int d, .int m, .int t].set 2 (.int (t + 1)))) p = some (srcV d m (t + 1)) := upd_same
      refine ⟨_, rfl, _, _, _, .int m, rfl, rfl, (SqL.of hp'), (by rfl), _, _, rfl, rfl, (by walk_at "mul"), _, rfl, _, _, rfl, rfl, (by walk_at "mul"), _, rfl, _, _, rfl, rfl, (by walk_at "mul"), _, _, rfl, rfl, _, _, rfl, rfl, ?_⟩
      refine .inl ⟨_, rfl, ?_⟩
      refine ⟨_, _, rfl, rfl, (by walk_at "pos"), ?_⟩
      have e0 := rem0 (a := m * 40692 + 12211 * (t + 1) * (t + 1) + 77) (n := 2147483399) (by decide)
      have e1 := rem1 (a := m * 40692 + 12211 * (t + 1) * (t + 1) + 77) (n := 2147483399) (by decide)
      generalize (m * 40692 + 12211 * (t + 1) * (t + 1) + 77) % 2147483399 = y at e0 e1
      refine ⟨_, rfl, _, rfl, _, _, _, _, rfl, rfl, hp', (by rfl), ?_⟩
      refine ⟨_, rfl, _, _, rfl, rfl, (by walk_at "fdiv"), _, _, rfl, rfl, (by walk_at "pow"), _, rfl, _, _, rfl, rfl, (by walk_at "fdiv"), _, _, rfl, rfl, ?_⟩
      refine .inl ⟨_, rfl, ?_⟩
      refine ⟨_, _, rfl, rfl, (by walk_at "pos"), _, rfl, _, _, rfl, rfl, (by walk_at "pos"), ?_⟩
      exact k _ (t + 1) _ (rem0 hn0) (rem1 hn0) (by omega) (Int.le_refl _) (But.trans But.upd But.upd) ⟨⟨_, _, upd_same, hd, by omega, by unfold SM; omega⟩, by omega⟩
theorem ok_of (T : Txt P K mg A0) : FnOk P w K mg base CX0 2 A0.f_of A0.fd_of ["_law_source_here", "_law_some"] (spOf K) := by
  have G_draw : FnOk P w K mg base CX0 1 A0.f_draw A0.fd_draw ["_law_source_here", "_law_many"] spDraw := ok_draw T
  refine T.F_of.ok sc_of (fun vs H Q E h => ?_) (fun cdv A outer s H vs Q E hr h => ?_)
  · obtain ⟨p, l, t, xs, rfl, _⟩ := h
    rfl
  · obtain ⟨p, l, t, xs, rfl, hp, ht1, hl, hx0, hx1, hne, k⟩ := h
    refine ⟨_, (pss_one (ps_ret (pe_ix ix_list (pv 1) (pe_call G_draw (hr.mono (by decide)) rfl T.m_draw T.F_draw.kp T.b_draw .nil pass0 (pa_cons (pv 0) (pa_cons (pe_callB call_len (by rfl) T.z_len PySem.boot_len (pa_cons (pv 1) pa_nil)) pa_nil))) (fun _ _ => rfl)))), ?_⟩
    refine ⟨_, rfl, _, rfl, _, rfl, _, _, rfl, .inl ⟨_, SqL.of hl, rfl⟩, p, t, _, rfl, hp, ht1, by omega, by omega, fun i t' H1 h0 h1 h2 h3 h4 h5 => ?_⟩
    have hi : i.toNat < xs.length := by omega
    refine ⟨l, xs, i, xs[i.toNat], rfl, rfl, SqL.of (h4 l _ (Ne.symm hne) hl), at_of (j := i.toNat) (by omega) (by simp [hi]), ?_⟩
    exact k _ t' _ (List.getElem_mem hi) h2 h3 h4 h5
/-- nothing is promised -/
def spNo : Sp := fun _ _ _ _ => False
def lowSame (K : PySem.W.Frag) : Nat → Sp
  | 0 => spNo
  | n + 1 => spSame K n
theorem ok_same (T : Txt P K mg A0) : ∀ n : Nat, FnOk P w K mg base CX0 (n + 1) A0.f_same A0.fd_same ["_law_actual", "_law_due_here"] (spSame K n) := by
  have main : ∀ n : Nat, FnOk P w K mg base CX0 n A0.f_same A0.fd_same ["_law_actual", "_law_due_here"] (lowSame K n) → FnOk P w K mg base CX0 (n + 1) A0.f_same A0.fd_same ["_law_actual", "_law_due_here"] (spSame K n) := fun n Gs => by
    refine T.F_same.ok sc_same (fun vs H Q E h => ?_) (fun cdv A outer s H vs Q E hr h => ?_)
    · obtain ⟨x, y, d, rfl, _⟩ := h
      rfl
    · obtain ⟨x, y, d, rfl, dx, dy, hn, hok, k⟩ := h
      refine ⟨_, (pss_cons (ps_if (PW.pt (pw_or (pt_cmpR op_isN (pv 1) pe_non (nomark _)) (pw_or1 (pt_val (pe_callB call_isi (by rfl) T.z_isinstance (by decide +kernel) (pa_cons (pv 1) (pa_cons (pe_bltn (v := .ty "bool") (by rfl) T.z_bool (by decide +kernel) rfl) pa_nil)))))))
 (pss_one (ps_ret (pe_ifExp (pt_cmpR op_isN (pv 1) pe_non (nomark _)) (pe_cmpR op_isN (pv 0) pe_non (nomark _)) (pe_and (pe_callB call_isi (by rfl) T.z_isinstance (by decide +kernel) (pa_cons (pv 0) (pa_cons (pe_bltn (v := .ty "bool") (by rfl) T.z_bool (by decide +kernel) rfl) pa_nil))) (pe_one (pe_cmpR op_eq (pv 0) (pv 1) (nomark _)))))))
 pss_nil)
 (pss_cons (ps_if (pt_cmpR op_ne (pe_callB call_isi (by rfl) T.z_isinstance (by decide +kernel) (pa_cons (pv 1) (pa_cons (pe_bltn (v := .ty "tuple") (by rfl) T.z_tuple (by decide +kernel) rfl) pa_nil))) (pe_callB call_isi (by rfl) T.z_isinstance (by decide +kernel) (pa_cons (pv 0) (pa_cons (pe_bltn (v := .ty "tuple") (by rfl) T.z_tuple (by decide +kernel) rfl) pa_nil))) (nomark _))
 (pss_one (ps_ret pe_bl))
 pss_nil)
 (pss_cons (ps_if (pt_cmpR op_ne (pe_callB call_isi (by rfl) T.z_isinstance (by decide +kernel) (pa_cons (pv 1) (pa_cons (pe_bltn (v := .ty "list") (by rfl) T.z_list (by decide +kernel) rfl) pa_nil))) (pe_callB call_isi (by rfl) T.z_isinstance (by decide +kernel) (pa_cons (pv 0) (pa_cons (pe_bltn (v := .ty "list") (by rfl) T.z_list (by decide +kernel) rfl) pa_nil))) (nomark _))
 (pss_one (ps_ret pe_bl))
 pss_nil)
 (pss_cons (ps_if (pt_val (pe_callB call_isiT (by rfl) T.z_isinstance (by decide +kernel) (pa_cons (pv 1) (pa_cons (pe_tup (pa_cons (pe_bltn (v := .ty "tuple") (by rfl) T.z_tuple (by decide +kernel) rfl) (pa_cons (pe_bltn (v := .ty "list") (by rfl) T.z_list (by decide +kernel) rfl) pa_nil))) pa_nil))))
 (pss_one (ps_ret (pe_and (pe_cmpR op_eq (pe_callB call_len (by rfl) T.z_len PySem.boot_len (pa_cons (pv 0) pa_nil)) (pe_callB call_len (by rfl) T.z_len PySem.boot_len (pa_cons (pv 1) pa_nil)) (nomark _)) (pe_one (pe_callB (cr_all rfl) (by rfl) T.z_all (by decide +kernel) (pa_cons (pe_lc (own := [("_law_one", 2), ("_law_two", 3)]) (g := gTup _ 2 (gCons (gName 2) (gCons (gName 3) gNil))) (tt := tYes) (by rfl) sc_same.nd (RZ.pi_zipA rfl T.z_zip (pa_cons (pv 0) (pa_cons (pv 1) pa_nil))) (blkOk_by (N := ["_law_actual", "_law_due_here", "_law_one", "_law_two"]) (sc := defScope s_same) (by decide +kernel)) (fun _ _ _ _ _ => (pg_tup rfl (pgs_cons (pg_name (i := 2) sc_same.nd rfl (Or.inl rfl)) (pgs_cons (pg_name (i := 3) sc_same.nd rfl (Or.inl rfl)) pgs_nil)))) (fun _ _ _ _ _ => pts_nil) (fun _ _ _ _ _ => (pe_call Gs hr rfl T.m_same T.F_same.kp T.b_same .nil pass0 (pa_cons (pv 2) (pa_cons (pv 3) pa_nil))))) pa_nil))))))
 pss_nil)
 (pss_cons (ps_if (pt_val (pe_callB call_isi (by rfl) T.z_isinstance (by decide +kernel) (pa_cons (pv 1) (pa_cons (pe_bltn (v := .ty "int") (by rfl) T.z_int (by decide +kernel) rfl) pa_nil))))
 (pss_one (ps_ret (pe_and (pe_callB call_isi (by rfl) T.z_isinstance (by decide +kernel) (pa_cons (pv 0) (pa_cons (pe_bltn (v := .ty "int") (by rfl) T.z_int (by decide +kernel) rfl) pa_nil))) (pe_and (pe_not (pe_callB call_isi (by rfl) T.z_isinstance (by decide +kernel) (pa_cons (pv 0) (pa_cons (pe_bltn (v := .ty "bool") (by rfl) T.z_bool (by decide +kernel) rfl) pa_nil)))) (pe_one (pe_cmpR op_eq (pv 0) (pv 1) (nomark _)))))))
 pss_nil)
 (pss_one (ps_ret (pe_and (pe_callB call_isi (by rfl) T.z_isinstance (by decide +kernel) (pa_cons (pv 0) (pa_cons (pe_bltn (v := .ty "str") (by rfl) T.z_str (by decide +kernel) rfl) pa_nil))) (pe_one (pe_cmpR op_eq (pv 0) (pv 1) (nomark _))))))))))), ?_⟩
      cases dx
      · -- None
        cases dy
        refine Evl.q_when (b := true) (Evl.et_or (a := true) (b := true) (Evl.et_test (Evl.ev_is (ev_isN (v := .non) (Evl.ev_var rfl)) (by rfl))) fun h => nomatch h) (fun _ H1 e1 => ?_) (fun h => nomatch h)
        exact Evl.s_ret (v := .bl true) (Evl.ev_if (b := true) (Evl.et_test (Evl.ev_is (ev_isN (v := .non) (Evl.ev_var rfl)) (by rfl))) (fun _ => Evl.ev_is (ev_isN (v := .non) (Evl.ev_var rfl)) (by rfl)) fun h => nomatch h) fun H2 e2 => k H2 (Same.trans e1 e2)
      · -- bool
        cases dy
        rename_i b
        refine Evl.q_when (b := true) (Evl.et_or (a := false) (b := true) (Evl.et_test (Evl.ev_is (ev_isN (v := .bl b) (Evl.ev_var rfl)) (by rfl))) fun _ => Evl.et_B (ev_isi (b := true) (Evl.ev_var rfl) (.bl b) (show kitB "bool" "bool" = some true by decide +kernel))) (fun _ H1 e1 => ?_) (fun h => nomatch h)
        exact Evl.s_ret (v := .bl true) (Evl.ev_if (b := false) (Evl.et_test (Evl.ev_is (ev_isN (v := .bl b) (Evl.ev_var rfl)) (by rfl))) (fun h => nomatch h) fun _ => Evl.ev_andV (a := true) (b := true) (ev_isi (b := true) (Evl.ev_var rfl) (.bl b) (show kitB "bool" "bool" = some true by decide +kernel)) fun _ => Evl.ev_is (Evl.ev_op (Evl.ev_var (v := .bl b) rfl) (Evl.ev_var (v := .bl b) rfl) (Evl.rv_eq rfl)) (by simp)) fun H2 e2 => k H2 (Same.trans e1 e2)
      · -- int
        rename_i i
        have dx : Dp K H (.int i) (.int i) := .int i
        cases dy
        have dy := dx
        refine Evl.q_when (b := false) (Evl.et_or (a := false) (b := false) (Evl.et_test (Evl.ev_is (ev_isN (v := .int _) (Evl.ev_var rfl)) (by rfl))) fun _ => Evl.et_B (ev_isi (b := false) (Evl.ev_var rfl) dy (show kitB "int" "bool" = some false by decide +kernel))) (fun h => nomatch h) fun _ H1 e1 => ?_
        refine Evl.q_when (b := false) (Evl.et_test (Evl.ev_is (Evl.ev_op (ev_isi (b := false) (Evl.ev_var rfl) (dy.mono e1) (show kitB "int" "tuple" = some false by decide +kernel)) (ev_isi (b := false) (Evl.ev_var rfl) (dx.mono e1) (show kitB "int" "tuple" = some false by decide +kernel)) (Evl.rv_ne rfl)) (by decide))) (fun h => nomatch h) fun _ H2 e2 => ?_
        have e2 := Same.trans e1 e2
        refine Evl.q_when (b := false) (Evl.et_test (Evl.ev_is (Evl.ev_op (ev_isi (b := false) (Evl.ev_var rfl) (dy.mono e2) (show kitB "int" "list" = some false by decide +kernel)) (ev_isi (b := false) (Evl.ev_var rfl) (dx.mono e2) (show kitB "int" "list" = some false by decide +kernel)) (Evl.rv_ne rfl)) (by decide))) (fun h => nomatch h) fun _ H3 e3 => ?_
        have e3 := Same.trans e2 e3
        refine Evl.q_when (b := false) (Evl.et_B (ev_isiT (Evl.ev_var rfl) (dy.mono e3) (kitA_int (K := K)))) (fun h => nomatch h) fun _ H4 e4 => ?_
        have e4 := Same.trans e3 e4
        refine Evl.q_when (b := true) (Evl.et_B (ev_isi (b := true) (Evl.ev_var rfl) (dy.mono e4) (show kitB "int" "int" = some true by decide +kernel))) (fun _ H5 e5 => ?_) (fun h => nomatch h)
        have e5 := Same.trans e4 e5
        exact Evl.s_ret (v := .bl true) (Evl.ev_andV (a := true) (b := true) (ev_isi (b := true) (Evl.ev_var rfl) (dx.mono e5) (show kitB "int" "int" = some true by decide +kernel)) fun _ => Evl.ev_andV (a := true) (b := true) (Evl.ev_is (Evl.ev_notV (a := false) (ev_isi (b := false) (Evl.ev_var rfl) (dx.mono e5) (show kitB "int" "bool" = some false by decide +kernel))) (by rfl)) fun _ => Evl.ev_is (Evl.ev_op (Evl.ev_var (v := .int i) rfl) (Evl.ev_var (v := .int i) rfl) (Evl.rv_eq rfl)) (by simp)) fun H2 e2 => k H2 (Same.trans e5 e2)
      · -- str
        rename_i i
        have dx : Dp K H (.str i) (.str i) := .str i
        cases dy
        have dy := dx
        refine Evl.q_when (b := false) (Evl.et_or (a := false) (b := false) (Evl.et_test (Evl.ev_is (ev_isN (v := .str _) (Evl.ev_var rfl)) (by rfl))) fun _ => Evl.et_B (ev_isi (b := false) (Evl.ev_var rfl) dy (show kitB "str" "bool" = some false by decide +kernel))) (fun h => nomatch h) fun _ H1 e1 => ?_
        refine Evl.q_when (b := false) (Evl.et_test (Evl.ev_is (Evl.ev_op (ev_isi (b := false) (Evl.ev_var rfl) (dy.mono e1) (show kitB "str" "tuple" = some false by decide +kernel)) (ev_isi (b := false) (Evl.ev_var rfl) (dx.mono e1) (show kitB "str" "tuple" = some false by decide +kernel)) (Evl.rv_ne rfl)) (by decide))) (fun h => nomatch h) fun _ H2 e2 => ?_
        have e2 := Same.trans e1 e2
        refine Evl.q_when (b := false) (Evl.et_test (Evl.ev_is (Evl.ev_op (ev_isi (b := false) (Evl.ev_var rfl) (dy.mono e2) (show kitB "str" "list" = some false by decide +kernel)) (ev_isi (b := false) (Evl.ev_var rfl) (dx.mono e2) (show kitB "str" "list" = some false by decide +kernel)) (Evl.rv_ne rfl)) (by decide))) (fun h => nomatch h) fun _ H3 e3 => ?_
        have e3 := Same.trans e2 e3
        refine Evl.q_when (b := false) (Evl.et_B (ev_isiT (Evl.ev_var rfl) (dy.mono e3) (kitA_str (K := K)))) (fun h => nomatch h) fun _ H4 e4 => ?_
        have e4 := Same.trans e3 e4
        refine Evl.q_when (b := false) (Evl.et_B (ev_isi (b := false) (Evl.ev_var rfl) (dy.mono e4) (show kitB "str" "int" = some false by decide +kernel))) (fun h => nomatch h) fun _ H5 e5 => ?_
        have e5 := Same.trans e4 e5
        exact Evl.s_ret (v := .bl true) (Evl.ev_andV (a := true) (b := true) (ev_isi (b := true) (Evl.ev_var rfl) (dx.mono e5) (show kitB "str" "str" = some true by decide +kernel)) fun _ => Evl.ev_is (Evl.ev_op (Evl.ev_var (v := .str i) rfl) (Evl.ev_var (v := .str i) rfl) (Evl.rv_eq rfl)) (by simp)) fun H2 e2 => k H2 (Same.trans e5 e2)
      · -- list
        rename_i xa xs ds hx ax
        obtain ⟨yr, rfl⟩ : ∃ a, y = .ref a := by cases dy; exact ⟨_, rfl⟩
        have dx := Dp.lst (K := K) (H := H) hx ax
        refine Evl.q_when (b := false) (Evl.et_or (a := false) (b := false) (Evl.et_test (Evl.ev_is (ev_isN (v := .ref _) (Evl.ev_var rfl)) (by rfl))) fun _ => Evl.et_B (ev_isi (b := false) (Evl.ev_var rfl) dy (show kitB "list" "bool" = some false by decide +kernel))) (fun h => nomatch h) fun _ H1 e1 => ?_
        refine Evl.q_when (b := false) (Evl.et_test (Evl.ev_is (Evl.ev_op (ev_isi (b := false) (Evl.ev_var rfl) (dy.mono e1) (show kitB "list" "tuple" = some false by decide +kernel)) (ev_isi (b := false) (Evl.ev_var rfl) (dx.mono e1) (show kitB "list" "tuple" = some false by decide +kernel)) (Evl.rv_ne rfl)) (by decide))) (fun h => nomatch h) fun _ H2 e2 => ?_
        have e2 := Same.trans e1 e2
        refine Evl.q_when (b := false) (Evl.et_test (Evl.ev_is (Evl.ev_op (ev_isi (b := true) (Evl.ev_var rfl) (dy.mono e2) (show kitB "list" "list" = some true by decide +kernel)) (ev_isi (b := true) (Evl.ev_var rfl) (dx.mono e2) (show kitB "list" "list" = some true by decide +kernel)) (Evl.rv_ne rfl)) (by decide))) (fun h => nomatch h) fun _ H3 e3 => ?_
        have e3 := Same.trans e2 e3
        refine Evl.q_when (b := true) (Evl.et_B (ev_isiT (Evl.ev_var rfl) (dy.mono e3) (kitA_lst (K := K)))) (fun _ H4 e4 => ?_) (fun h => nomatch h)
        have e4 := Same.trans e3 e4
        cases dy with
        | lst hy ay =>
          rename_i ya ys
          have hlen : xs.length = ys.length := DpAll.same_length ax ay
          have hx4 := Evl.ex_l e4 hx
          have hy4 := Evl.ex_l e4 hy
          have ez : decide (V.int (xs.length : Int) = V.int (ys.length : Int)) = true := decide_eq_true (by rw [hlen])
          refine ⟨_, rfl, _, _, rfl, .inl ⟨_, hx4, rfl⟩, _, rfl, _, _, rfl, .inl ⟨_, hy4, rfl⟩, rfl, _, rfl, ?_⟩
          rw [ez]
          refine ⟨_, rfl, _, rfl, _, _, _, _, rfl, .inl ⟨hx4, hy4, fun D hD => ?_⟩⟩
          have hnn : depAll ds + 1 ≤ n := by unfold dep at hn; exact hn
          cases n with
          | zero => omega
          | succ n =>
            refine zip_turns (K := K) (n := n) (walk_zip (by omega)) (fun H' e => ⟨Evl.ex_l e hx4, Evl.ex_l e hy4⟩) hD (ax.mono e4) (ay.mono e4) (by omega) (okD_lst hok ax) (fun T x y H' k hT hk => ⟨T, _, rfl, SqT.of hT, rfl, x, _, rfl, y, _, rfl, rfl, hk⟩) (fun _ _ => rfl) (fun _ _ => rfl) (fun _ _ => rfl) fun H' e hD' => ?_
            refine ⟨D, List.replicate xs.length true, rfl, SqL.of (by rw [List.map_replicate]; exact hD'), ?_⟩
            rw [List.all_replicate]
            have et : (if xs.length = 0 then true else id true) = true := by split <;> rfl
            exact k _ (Same.trans (Same.trans e4 e) (Same.refl _)) |> cast (by simp)
      · -- tuple
        rename_i xa xs ds hx ax
        obtain ⟨yr, rfl⟩ : ∃ a, y = .ref a := by cases dy; exact ⟨_, rfl⟩
        have dx := Dp.tup (K := K) (H := H) hx ax
        refine Evl.q_when (b := false) (Evl.et_or (a := false) (b := false) (Evl.et_test (Evl.ev_is (ev_isN (v := .ref _) (Evl.ev_var rfl)) (by rfl))) fun _ => Evl.et_B (ev_isi (b := false) (Evl.ev_var rfl) dy (show kitB "tuple" "bool" = some false by decide +kernel))) (fun h => nomatch h) fun _ H1 e1 => ?_
        refine Evl.q_when (b := false) (Evl.et_test (Evl.ev_is (Evl.ev_op (ev_isi (b := true) (Evl.ev_var rfl) (dy.mono e1) (show kitB "tuple" "tuple" = some true by decide +kernel)) (ev_isi (b := true) (Evl.ev_var rfl) (dx.mono e1) (show kitB "tuple" "tuple" = some true by decide +kernel)) (Evl.rv_ne rfl)) (by decide))) (fun h => nomatch h) fun _ H2 e2 => ?_
        have e2 := Same.trans e1 e2
        refine Evl.q_when (b := false) (Evl.et_test (Evl.ev_is (Evl.ev_op (ev_isi (b := false) (Evl.ev_var rfl) (dy.mono e2) (show kitB "tuple" "list" = some false by decide +kernel)) (ev_isi (b := false) (Evl.ev_var rfl) (dx.mono e2) (show kitB "tuple" "list" = some false by decide +kernel)) (Evl.rv_ne rfl)) (by decide))) (fun h => nomatch h) fun _ H3 e3 => ?_
        have e3 := Same.trans e2 e3
        refine Evl.q_when (b := true) (Evl.et_B (ev_isiT (Evl.ev_var rfl) (dy.mono e3) (kitA_tup (K := K)))) (fun _ H4 e4 => ?_) (fun h => nomatch h)
        have e4 := Same.trans e3 e4
        cases dy with
        | tup hy ay =>
          rename_i ya ys
          have hlen : xs.length = ys.length := DpAll.same_length ax ay
          have hx4 := Evl.ex_t e4 hx
          have hy4 := Evl.ex_t e4 hy
          have ez : decide (V.int (xs.length : Int) = V.int (ys.length : Int)) = true := decide_eq_true (by rw [hlen])
          refine ⟨_, rfl, _, _, rfl, .inr ⟨_, hx4, rfl⟩, _, rfl, _, _, rfl, .inr ⟨_, hy4, rfl⟩, rfl, _, rfl, ?_⟩
          rw [ez]
          refine ⟨_, rfl, _, rfl, _, _, _, _, rfl, .inr ⟨hx4, hy4, fun D hD => ?_⟩⟩
          have hnn : depAll ds + 1 ≤ n := by unfold dep at hn; exact hn
          cases n with
          | zero => omega
          | succ n =>
            refine zip_turns (K := K) (n := n) (walk_zipT hlen) (fun H' e => ⟨Evl.ex_t e hx4, Evl.ex_t e hy4⟩) hD (ax.mono e4) (ay.mono e4) (by omega) (okD_tup hok ax) (fun T x y H' k hT hk => ⟨T, _, rfl, SqT.of hT, rfl, x, _, rfl, y, _, rfl, rfl, hk⟩) (fun _ _ => rfl) (fun _ _ => rfl) (fun _ _ => rfl) fun H' e hD' => ?_
            refine ⟨D, List.replicate xs.length true, rfl, SqL.of (by rw [List.map_replicate]; exact hD'), ?_⟩
            rw [List.all_replicate]
            have et : (if xs.length = 0 then true else id true) = true := by split <;> rfl
            exact k _ (Same.trans (Same.trans e4 e) (Same.refl _)) |> cast (by simp)
  intro n
  induction n with
  | zero => exact main 0 ⟨fun _ _ _ _ h => h.elim, fun _ _ _ _ _ _ _ _ _ _ _ _ _ h => h.elim⟩
  | succ n ih => exact main (n + 1) ih

end
end K45
end
section
set_option Elab.async false
set_option autoImplicit false
set_option linter.all false
set_option maxRecDepth 100000
set_option maxHeartbeats 2000000
/-! what laws of walks do: b * n, is not True; walks as values; marks as a law of its own tells them -/
namespace PySem.Fl
open PySem PySem.Spec PyProof.Rows L2 PySem.OxE LawC
section
variable {X : Cx}
/-- a bool times a number -/
theorem op_mul_bi : OpR X (binaryOp .Mult) (fun x y H Q => ∃ k j, x = .bl k ∧ y = .int j ∧ Q (.int ((if k = true then (1 : Int) else 0) * j)) H) := by
  intro pins s σ H x y v u Q I rx ry h
  obtain ⟨k, j, rfl, rfl, q⟩ := h
  cases rx
  obtain ⟨t, rfl⟩ := ry
  exact IntBool.mul_bool_int ⟨.int ((if k = true then (1 : Int) else 0) * j), H, I.tok _, ⟨_, rfl⟩, q⟩
/-- is not, of truth values -/
theorem op_isntB : OpR X (compareOp .IsNot) (fun x y H Q => ∃ a b, x = .bl a ∧ y = .bl b ∧ Q (.bl (a != b)) H) := by
  intro pins s σ H x y v u Q I rx ry h
  obtain ⟨a, b, rfl, rfl, q⟩ := h
  cases rx
  cases ry
  exact PyProof.Rows.isnot_bool ⟨.bl (a != b), H, I, rfl, q⟩
end
def marks5 : List Str := ["whole", "out", "in", "both", "closed"]
theorem mark_cases {m : Str} (h : m ∈ marks5) : m = "whole" ∨ m = "out" ∨ m = "in" ∨ m = "both" ∨ m = "closed" := by
  unfold marks5 at h
  simpa using h
section
variable {K : PySem.W.Frag} {H : Hp} {σ : L2.St} {ta tb te : TE} {u : Str}
/-- u in (a, b): a tuple written -/
theorem ev_inT {ws : List Str} {t : TA} (ha : Evl.Ev ta σ H (.str u)) (ht : Evl.EvA t σ H (ws.map V.str)) (hz : ws.length ≤ 100000) : Evl.Ev (tOp (rIn K false) ta (tTup t)) σ H (.bl (decide (u ∈ ws))) := Evl.ev_is (Evl.ev_inU (xs := ws.map V.str) ha (Evl.eu_tup ht (by rw [List.length_map]; exact hz)) rfl flat_strs) (by rw [inV_str])
theorem ev_niT {ws : List Str} {t : TA} (ha : Evl.Ev ta σ H (.str u)) (ht : Evl.EvA t σ H (ws.map V.str)) (hz : ws.length ≤ 100000) : Evl.Ev (tOp (rIn K true) ta (tTup t)) σ H (.bl (!decide (u ∈ ws))) := Evl.ev_is (Evl.ev_niU (xs := ws.map V.str) ha (Evl.eu_tup ht (by rw [List.length_map]; exact hz)) rfl flat_strs) (by rw [inV_str])
end
def spLFault : Sp := fun vs H Q _ => ∃ (u m : Str) (n : Int), vs = [.str u, .str m, .int n] ∧ m ∈ marks5 ∧ 0 ≤ n ∧ ∀ H', Same H H' → Q (oS (fault u m n)) H'
def spLMark : Sp := fun vs H Q _ => ∃ (u m : Str), vs = [.str u, .str m] ∧ m ∈ marks5 ∧ ∀ H', Same H H' → Q (.str (after u m)) H'
def preOf (m : Str) (n : Nat) : List Str := List.replicate n ("ask" : Str) ++ (if m = "in" ∨ m = "both" then ([("head" : Str)]) else []) ++ (if m = "out" ∨ m = "both" then ([("begin" : Str)]) else []) ++ (if m = "closed" then ([("close" : Str)]) else [])
def owedOf (m : Str) (n : Nat) : Int := if m = "closed" then 0 else n
def spLPrefix : Sp := fun vs H Q _ => ∃ (p : Addr) (t : Int), vs = [.ref p] ∧ SrcAt H p t ∧ t < 90000 ∧
  ∀ (q l : Addr) (m : Str) (n : Nat) (t' : Int) (H' : Hp), m ∈ marks5 → n ≤ 6 → (m = "in" ∨ m = "both" → 1 ≤ n) → t ≤ t' → t' ≤ t + 3 → But p H H' → SrcAt H' p t' → q ≠ p → l ≠ p → H' q = some (.tup [.ref l, .str m, .int (owedOf m n)]) → H' l = some (.lst ((preOf m n).map V.str)) → Q (.ref q) H'
def innerOf (u : Str) : List Str := if u = "retry" then ["retry 2", "end"] else [u]
def bodyOf (k : Nat) (u : Str) : List Str := if k = 0 then innerOf u else if k = 1 then [("try" : Str)] ++ innerOf u ++ [("finally" : Str), "close", "end"] else if k = 2 then [("try" : Str)] ++ innerOf u ++ [("rescue" : Str), "close", "end"] else [("shield" : Str)] ++ innerOf u ++ [("end" : Str)]
def skipOf (k : Nat) : Int := if k = 0 then 0 else 1
def spLWrapped : Sp := fun vs H Q _ => ∃ (p : Addr) (t : Int) (u : Str), vs = [.ref p, .str u] ∧ SrcAt H p t ∧ t < 90000 ∧
  ∀ (q l : Addr) (k : Nat) (t' : Int) (H' : Hp), k < 4 → t ≤ t' → t' ≤ t + 1 → But p H H' → SrcAt H' p t' → q ≠ p → l ≠ p → H' q = some (.tup [.ref l, .int (skipOf k)]) → H' l = some (.lst ((bodyOf k u).map V.str)) → Q (.ref q) H'
def dueOf (u m : Str) (n : Int) : Option Str := if u = "retry" then (if m = "closed" ∨ (m = "whole" ∧ n = 0) then none else some "stale") else fault u m n
def spLDue : Sp := fun vs H Q _ => ∃ (u m : Str) (n : Int), vs = [.str u, .str m, .int n] ∧ m ∈ marks5 ∧ 0 ≤ n ∧ ∀ H', Same H H' → Q (oS (dueOf u m n)) H'
def spLAfter : Sp := fun vs H Q _ => ∃ (u m : Str) (n : Int), vs = [.str u, .str m, .int n] ∧ m ∈ marks5 ∧ ∀ q H', Same H H' → H' q = some (.tup [.str (after u m), .int (if resets u then 0 else n + change u)]) → Q (.ref q) H'
def nowD (W : Wk) : PyData := .tuple [spotD W.st.spot, .int W.st.asked, .int W.st.taken, rndD W.st.rounds]
def spLStays (K : PySem.W.Frag) (cf c : Addr) : Sp := fun vs H Q _ => ∃ (x b : V) (y : Addr) (W : Wk) (dl tr : Addr) (u : Str), vs = [.ref y, b, .str W.st.mark, .int W.st.owed, .str u] ∧ WAt K cf c H y W dl tr ∧ W.st.spot.events = [] ∧ W.st.spot.tries.length ≤ 100 ∧ W.st.rounds.length ≤ 100 ∧ W.fault = some u ∧ W.st.spot.row < W.F.words.length ∧ Dp K H b (nowD W) ∧ ∀ H', Same H H' → Q (.bl true) H'
end PySem.Fl
end
section
set_option Elab.async false
set_option autoImplicit false
set_option linter.all false
set_option maxRecDepth 100000
set_option maxHeartbeats 4000000
namespace K45
open PySem PySem.Spec PyProof.Rows L2 PySem.OxE LawC PySem.Fl

section
variable {P : Program} {w : World} {K : PySem.W.Frag} {mg : Str → Option Value} {base : Heap} {A0 : Ad}
theorem ok_lfault (T : Txt P K mg A0) : FnOk P w K mg base CX0 1 A0.f_fault A0.fd_fault ["_law_word", "_law_mark_here", "_law_owed"] spLFault := by
  refine T.F_fault.ok sc_fault (fun vs H Q E h => ?_) (fun cdv A outer s H vs Q E hr h => ?_)
  · obtain ⟨u, m, n, rfl, _⟩ := h
    rfl
  · obtain ⟨u, m, n, rfl, hm, hn, k⟩ := h
    refine ⟨_, (pss_cons (ps_if (pt_cmpR op_notIn_seq (pv 0) (pe_tup (pa_cons pe_str (pa_cons pe_str (pa_cons pe_str (pa_cons pe_str (pa_cons pe_str (pa_cons pe_str pa_nil))))))) (by first | rfl | with_unfolding_all rfl))
 (pss_one (ps_ret pe_non))
 pss_nil)
 (pss_cons (ps_if (pt_cmpR op_eq (pv 1) pe_str (nomark _))
 (pss_one (ps_ret pe_str))
 pss_nil)
 (pss_cons (ps_par (i := 3) (j := 4) (by rfl) sc_fault.nd rfl rfl (by decide) rfl rfl (pa_cons (pe_cmpR op_in_seq (pv 1) (pe_tup (pa_cons pe_str (pa_cons pe_str pa_nil))) (by first | rfl | with_unfolding_all rfl)) (pa_cons (pe_cmpR op_in_seq (pv 1) (pe_tup (pa_cons pe_str (pa_cons pe_str pa_nil))) (by first | rfl | with_unfolding_all rfl)) pa_nil)) (by rfl))
 (pss_cons (ps_set (i := 5) sc_fault.nd rfl (Or.inl rfl) (pe_disp (pps_cons pe_str (pv 3) (pps_cons pe_str (pv 3) (pps_cons pe_str (pe_not (pv 3)) (pps_cons pe_str (pv 4) (pps_cons pe_str (pv 4) pps_nil))))) rfl rfl (by simp) (by decide)))
 (pss_cons (ps_if (pt_val (pe_dget2 (hu_of hr) (pv 5) (pv 0) (pe_not (pv 4)) ⟨rfl, rfl, rfl, rfl⟩))
 (pss_one (ps_ret pe_str))
 pss_nil)
 (pss_one (ps_ret (pe_ifExp (PW.pt (pw_and (pt_cmpR op_in_seq (pv 0) (pe_tup (pa_cons pe_str (pa_cons pe_str pa_nil))) (by first | rfl | with_unfolding_all rfl)) (pw_and1 (pt_cmpR op_eq (pv 2) pe_int (nomark _))))) pe_str pe_non)))))))), ?_⟩
    refine Evl.q_when (b := !decide (u ∈ LW)) (Evl.et_test (ev_niT (ws := LW) (Evl.ev_var rfl) (Evl.ea_cons Evl.ev_c (Evl.ea_cons Evl.ev_c (Evl.ea_cons Evl.ev_c (Evl.ea_cons Evl.ev_c (Evl.ea_cons Evl.ev_c (Evl.ea_cons Evl.ev_c Evl.ea_nil)))))) (by decide))) (fun h H1 e1 => ?_) (fun h H1 e1 => ?_)
    · refine Evl.s_ret (v := .non) Evl.ev_c fun H2 e2 => ?_
      have := k H2 (Same.trans e1 e2)
      unfold fault at this
      rw [if_pos (by simpa using h)] at this
      exact this
    have hw : u ∈ LW := by simpa using h
    refine Evl.q_when (b := decide (m = "closed")) (et_eqS (Evl.ev_var rfl) Evl.ev_c) (fun h H2 e2 => ?_) (fun h2 H2 e2 => ?_)
    · refine Evl.s_ret (v := .str "closed") Evl.ev_c fun H3 e3 => ?_
      have := k H3 (Same.trans (Same.trans e1 e2) e3)
      unfold fault at this
      rw [if_neg (by simpa using hw), if_pos (of_decide_eq_true h)] at this
      exact this
    have hmc := of_decide_eq_false h2
    refine q_par (v := .bl (isOut m)) (u := .bl (isIn m)) (Evl.ea_cons (Evl.ev_is (ev_inT (ws := (["out", "both"] : List Str)) (Evl.ev_var rfl) (Evl.ea_cons Evl.ev_c (Evl.ea_cons Evl.ev_c Evl.ea_nil)) (by decide)) (by unfold isOut; simp)) (Evl.ea_cons (Evl.ev_is (ev_inT (ws := (["in", "both"] : List Str)) (Evl.ev_var rfl) (Evl.ea_cons Evl.ev_c (Evl.ea_cons Evl.ev_c Evl.ea_nil)) (by decide)) (by unfold isIn; simp)) Evl.ea_nil)) fun H3 e3 => ?_
    have s3 := Same.trans (Same.trans e1 e2) e3
    let kv : List (Key × V) := [(.inr "ask", .bl (isOut m)), (.inr "begin", .bl (isOut m)), (.inr "finish", .bl (!isOut m)), (.inr "read", .bl (isIn m)), (.inr "head", .bl (isIn m))]
    refine fun dp hdp => ⟨_, rfl, _, rfl, _, rfl, _, rfl, _, rfl, _, rfl, upd_same, kv, rfl, (by show 5 ≤ 15; decide), ?_⟩
    have s4 : Same H (upd (upd H3 dp (.dK [])) dp (.dK (mergeK [] kv))) := fun b o hb => by
      have nb := ne_of_none (s3 b o hb) hdp
      rw [upd_ne nb, upd_ne nb]
      exact s3 b o hb
    have hd4 : (upd (upd H3 dp (.dK [])) dp (.dK (mergeK [] kv))) dp = some (.dK (mergeK [] kv)) := upd_same
    dsimp only
    generalize upd (upd H3 dp (.dK [])) dp (.dK (mergeK [] kv)) = H4 at s4 hd4
    refine Evl.q_when (b := amid u m) (Evl.et_B fun H5 e5 Q5 q5 => ?_) (fun h H5 e5 => ?_) (fun h H5 e5 => ?_)
    · refine ⟨_, rfl, dp, rfl, .inl ⟨_, .inl (e5 _ _ hd4)⟩, _, rfl, _, rfl, _, rfl, _, DGet.k (k := .inr u) (e5 _ _ hd4), ?_⟩
      have e : (valV (mergeK [] kv) (.inr u)).getD (.bl (!isIn m)) = .bl (amid u m) := by
        unfold LW at hw
        simp only [List.mem_cons, List.not_mem_nil, or_false] at hw
        rcases hw with rfl | rfl | rfl | rfl | rfl | rfl <;> rfl
      rw [e]
      exact q5 H5 (Same.refl _)
    · refine Evl.s_ret (v := .str "amid") Evl.ev_c fun H6 e6 => ?_
      have := k H6 (Same.trans (Same.trans s4 e5) e6)
      unfold fault at this
      rw [if_neg (by simpa using hw), if_neg hmc, if_pos h] at this
      exact this
    · refine Evl.s_ret (v := oS (fault u m n)) ?_ fun H6 e6 => k H6 (Same.trans (Same.trans s4 e5) e6)
      unfold fault
      rw [if_neg (by simpa using hw), if_neg hmc, if_neg (by rw [h]; decide)]
      refine Evl.ev_if (b := (decide (u = "read") || decide (u = "head")) && decide (n = 0)) (Evl.et_and (Evl.et_is (Evl.et_test (ev_inT (ws := (["read", "head"] : List Str)) (Evl.ev_var rfl) (Evl.ea_cons Evl.ev_c (Evl.ea_cons Evl.ev_c Evl.ea_nil)) (by decide))) (by simp)) fun _ => et_eqI (Evl.ev_var rfl) Evl.ev_c) (fun z => ?_) (fun z => ?_)
      · refine Evl.ev_is Evl.ev_c ?_
        have e : decide (n < 1) = decide (n = 0) := by
          by_cases q : n = 0
          · subst q; rfl
          · rw [decide_eq_false q]; exact decide_eq_false (by omega)
        rw [e, if_pos z]
        rfl
      · refine Evl.ev_is Evl.ev_c ?_
        have e : decide (n < 1) = decide (n = 0) := by
          by_cases q : n = 0
          · subst q; rfl
          · rw [decide_eq_false q]; exact decide_eq_false (by omega)
        rw [e, if_neg (by rw [z]; decide)]
        rfl
end
section
variable {P : Program} {w : World} {K : PySem.W.Frag} {mg : Str → Option Value} {base : Heap} {A0 : Ad}
theorem ok_ldue (T : Txt P K mg A0) : FnOk P w K mg base CX0 2 A0.f_due A0.fd_due ["_law_word", "_law_mark_here", "_law_owed"] spLDue := by
  have G_fault : FnOk P w K mg base CX0 1 A0.f_fault A0.fd_fault ["_law_word", "_law_mark_here", "_law_owed"] spLFault := ok_lfault T
  refine T.F_due.ok sc_due (fun vs H Q E h => ?_) (fun cdv A outer s H vs Q E hr h => ?_)
  · obtain ⟨u, m, n, rfl, _⟩ := h
    rfl
  · obtain ⟨u, m, n, rfl, hm, hn, k⟩ := h
    refine ⟨_, (pss_cons (ps_if (pt_cmpR op_eq (pv 0) pe_str (nomark _))
 (pss_one (ps_ret (pe_ifExp (PW.pt (pw_or (pt_cmpR op_eq (pv 1) pe_str (nomark _)) (pw_or1 (PW.pt (pw_and (pt_cmpR op_eq (pv 1) pe_str (nomark _)) (pw_and1 (pt_cmpR op_eq (pv 2) pe_int (nomark _)))))))) pe_non pe_str)))
 pss_nil)
 (pss_one (ps_ret (pe_call G_fault (hr.mono (by decide)) rfl T.m_fault T.F_fault.kp T.b_fault .nil pass0 (pa_cons (pv 0) (pa_cons (pv 1) (pa_cons (pv 2) pa_nil))))))), ?_⟩
    refine Evl.q_when (b := decide (u = "retry")) (et_eqS (Evl.ev_var rfl) Evl.ev_c) (fun h H1 e1 => ?_) (fun h H1 e1 => ?_)
    · refine Evl.s_ret (v := oS (dueOf u m n)) ?_ fun H2 e2 => k H2 (Same.trans e1 e2)
      unfold dueOf
      rw [if_pos (of_decide_eq_true h)]
      refine Evl.ev_if (b := decide (m = "closed") || (decide (m = "whole") && decide (n = 0))) (Evl.et_or (et_eqS (Evl.ev_var rfl) Evl.ev_c) fun _ => Evl.et_and (et_eqS (Evl.ev_var rfl) Evl.ev_c) fun _ => et_eqI (Evl.ev_var rfl) Evl.ev_c) (fun z => ?_) (fun z => ?_)
      · refine Evl.ev_is Evl.ev_c ?_
        rw [if_pos (by simpa using z)]
        rfl
      · refine Evl.ev_is Evl.ev_c ?_
        rw [if_neg (fun q => by
          have : (decide (m = "closed") || (decide (m = "whole") && decide (n = 0))) = true := by simpa using q
          rw [this] at z
          cases z)]
        rfl
    · refine Evl.s_ret (v := oS (dueOf u m n)) (Evl.ev_call (vs := [.str u, .str m, .int n]) (Evl.ea_cons (Evl.ev_var rfl) (Evl.ea_cons (Evl.ev_var rfl) (Evl.ea_cons (Evl.ev_var rfl) Evl.ea_nil))) fun H2 e2 Q2 q2 E2 => ⟨u, m, n, rfl, hm, hn, fun H3 e3 => ?_⟩) fun H2 e2 => k H2 (Same.trans e1 e2)
      have := q2 H3 e3
      unfold dueOf at this
      rw [if_neg (of_decide_eq_false h)] at this
      exact this
end

end K45
end
section
set_option Elab.async false
set_option autoImplicit false
set_option linter.all false
set_option maxRecDepth 100000
set_option maxHeartbeats 4000000
namespace K45
open PySem PySem.Spec PyProof.Rows L2 PySem.OxE LawC PySem.Fl

section
variable {P : Program} {w : World} {K : PySem.W.Frag} {mg : Str → Option Value} {base : Heap} {A0 : Ad}
theorem after_ok {u m : Str} (hm : m ∈ marks5) (h1 : u ≠ "close") (h2 : m ≠ "closed") :
    markOf (if u ∈ (["begin", "finish"] : List Str) then decide (u = "begin") else isOut m) (if u ∈ (["head", "body", "drain"] : List Str) then decide (u = "head") else isIn m) = after u m := by
  by_cases b : u ∈ (["begin", "finish", "head", "body", "drain"] : List Str)
  · simp only [List.mem_cons, List.not_mem_nil, or_false] at b
    rcases mark_cases hm with rfl | rfl | rfl | rfl | rfl
    all_goals first
      | exact absurd rfl h2
      | (rcases b with rfl | rfl | rfl | rfl | rfl <;> rfl)
  · simp only [List.mem_cons, List.not_mem_nil, or_false, not_or] at b
    obtain ⟨b1, b2, b3, b4, b5⟩ := b
    have e1 : u ∉ (["begin", "finish"] : List Str) := fun z => by
      simp only [List.mem_cons, List.not_mem_nil, or_false] at z
      exact z.elim b1 b2
    have e2 : u ∉ (["head", "body", "drain"] : List Str) := fun z => by
      simp only [List.mem_cons, List.not_mem_nil, or_false] at z
      rcases z with z | z | z
      · exact b3 z
      · exact b4 z
      · exact b5 z
    rw [if_neg e1, if_neg e2]
    unfold after
    rw [decide_eq_false h2, decide_eq_false h1, if_neg b1, if_neg b2, if_neg b3, decide_eq_false b4, decide_eq_false b5]
    rcases mark_cases hm with rfl | rfl | rfl | rfl | rfl
    · rfl
    · rfl
    · rfl
    · rfl
    · exact absurd rfl h2
theorem ok_lmark (T : Txt P K mg A0) : FnOk P w K mg base CX0 1 A0.f_mark A0.fd_mark ["_law_word", "_law_mark_here"] spLMark := by
  refine T.F_mark.ok sc_mark (fun vs H Q E h => ?_) (fun cdv A outer s H vs Q E hr h => ?_)
  · obtain ⟨u, m, rfl, _⟩ := h
    rfl
  · obtain ⟨u, m, rfl, hm, k⟩ := h
    refine ⟨_, (pss_cons (ps_if (PW.pt (pw_or (pt_cmpR op_eq (pv 1) pe_str (nomark _)) (pw_or1 (pt_cmpR op_eq (pv 0) pe_str (nomark _)))))
 (pss_one (ps_ret pe_str))
 pss_nil)
 (pss_cons (ps_par (i := 2) (j := 3) (by rfl) sc_mark.nd rfl rfl (by decide) rfl rfl (pa_cons (pe_cmpR op_in_seq (pv 1) (pe_tup (pa_cons pe_str (pa_cons pe_str pa_nil))) (by first | rfl | with_unfolding_all rfl)) (pa_cons (pe_cmpR op_in_seq (pv 1) (pe_tup (pa_cons pe_str (pa_cons pe_str pa_nil))) (by first | rfl | with_unfolding_all rfl)) pa_nil)) (by rfl))
 (pss_cons (ps_if (pt_cmpR op_in_seq (pv 0) (pe_tup (pa_cons pe_str (pa_cons pe_str pa_nil))) (by first | rfl | with_unfolding_all rfl))
 (pss_one (ps_set (i := 2) sc_mark.nd rfl (Or.inl rfl) (pe_cmpR op_eq (pv 0) pe_str (nomark _))))
 pss_nil)
 (pss_cons (ps_if (pt_cmpR op_in_seq (pv 0) (pe_tup (pa_cons pe_str (pa_cons pe_str (pa_cons pe_str pa_nil)))) (by first | rfl | with_unfolding_all rfl))
 (pss_one (ps_set (i := 3) sc_mark.nd rfl (Or.inl rfl) (pe_cmpR op_eq (pv 0) pe_str (nomark _))))
 pss_nil)
 (pss_one (ps_ret (pe_ix ix_list (pe_ix ix_list (pe_lst (pa_cons (pe_lst (pa_cons pe_str (pa_cons pe_str pa_nil))) (pa_cons (pe_lst (pa_cons pe_str (pa_cons pe_str pa_nil))) pa_nil))) (pe_callTy call_int1 (by rfl) T.z_int (by decide +kernel) (pa_cons (pv 2) pa_nil)) (fun _ _ => rfl)) (pe_callTy call_int1 (by rfl) T.z_int (by decide +kernel) (pa_cons (pv 3) pa_nil)) (fun _ _ => rfl)))))))), ?_⟩
    refine Evl.q_when (b := decide (m = "closed") || decide (u = "close")) (Evl.et_or (et_eqS (Evl.ev_var rfl) Evl.ev_c) fun _ => et_eqS (Evl.ev_var rfl) Evl.ev_c) (fun h H1 e1 => ?_) (fun h H1 e1 => ?_)
    · refine Evl.s_ret (v := .str "closed") Evl.ev_c fun H2 e2 => ?_
      have := k H2 (Same.trans e1 e2)
      unfold after at this
      rw [if_pos h] at this
      exact this
    obtain ⟨h1, h2⟩ := Bool.or_eq_false_iff.mp h
    refine q_par (v := .bl (isOut m)) (u := .bl (isIn m)) (Evl.ea_cons (Evl.ev_is (ev_inT (ws := (["out", "both"] : List Str)) (Evl.ev_var rfl) (Evl.ea_cons Evl.ev_c (Evl.ea_cons Evl.ev_c Evl.ea_nil)) (by decide)) (by unfold isOut; simp)) (Evl.ea_cons (Evl.ev_is (ev_inT (ws := (["in", "both"] : List Str)) (Evl.ev_var rfl) (Evl.ea_cons Evl.ev_c (Evl.ea_cons Evl.ev_c Evl.ea_nil)) (by decide)) (by unfold isIn; simp)) Evl.ea_nil)) fun H3 e3 => ?_
    have s3 := Same.trans e1 e3
    refine Evl.q_ifAsg (b := decide (u ∈ (["begin", "finish"] : List Str))) (v := .bl (if u ∈ (["begin", "finish"] : List Str) then decide (u = "begin") else isOut m)) (Evl.et_test (ev_inT (ws := (["begin", "finish"] : List Str)) (Evl.ev_var rfl) (Evl.ea_cons Evl.ev_c (Evl.ea_cons Evl.ev_c Evl.ea_nil)) (by decide))) (fun z => Evl.ev_is (ev_eqS (Evl.ev_var rfl) Evl.ev_c) (by rw [if_pos (of_decide_eq_true z)])) (fun z => by rw [if_neg (of_decide_eq_false z)]; rfl) fun H4 e4 => ?_
    have s4 := Same.trans s3 e4
    refine Evl.q_ifAsg (b := decide (u ∈ (["head", "body", "drain"] : List Str))) (v := .bl (if u ∈ (["head", "body", "drain"] : List Str) then decide (u = "head") else isIn m)) (Evl.et_test (ev_inT (ws := (["head", "body", "drain"] : List Str)) (Evl.ev_var rfl) (Evl.ea_cons Evl.ev_c (Evl.ea_cons Evl.ev_c (Evl.ea_cons Evl.ev_c Evl.ea_nil))) (by decide))) (fun z => Evl.ev_is (ev_eqS (Evl.ev_var rfl) Evl.ev_c) (by rw [if_pos (of_decide_eq_true z)])) (fun z => by rw [if_neg (of_decide_eq_false z)]; rfl) fun H5 e5 => ?_
    have s5 := Same.trans s4 e5
    have hl := after_ok hm (of_decide_eq_false h2) (of_decide_eq_false h1)
    generalize (if u ∈ (["begin", "finish"] : List Str) then decide (u = "begin") else isOut m) = a at hl ⊢
    generalize (if u ∈ (["head", "body", "drain"] : List Str) then decide (u = "head") else isIn m) = b at hl ⊢
    refine ⟨by show 2 ≤ sizeLine; decide, fun p1 hp1 => ⟨by show 2 ≤ sizeLine; decide, fun p2 hp2 => ⟨by show 2 ≤ sizeLine; decide, fun p3 hp3 => ?_⟩⟩⟩
    have q1 := Same.new (o := .lst [.str "whole", .str "in"]) hp1
    have q2 := Same.new (o := .lst [.str "out", .str "both"]) hp2
    have q3 := Same.new (o := .lst [.ref p1, .ref p2]) hp3
    have l1 : (upd (upd (upd H5 p1 (.lst [.str "whole", .str "in"])) p2 (.lst [.str "out", .str "both"])) p3 (.lst [.ref p1, .ref p2])) p1 = some (.lst [.str "whole", .str "in"]) := q3 _ _ (q2 _ _ upd_same)
    have l2 : (upd (upd (upd H5 p1 (.lst [.str "whole", .str "in"])) p2 (.lst [.str "out", .str "both"])) p3 (.lst [.ref p1, .ref p2])) p2 = some (.lst [.str "out", .str "both"]) := q3 _ _ upd_same
    have s6 := Same.trans s5 (Same.trans (Same.trans q1 q2) q3)
    have kk := k _ s6
    rw [← hl] at kk
    refine ⟨_, rfl, .inr ⟨a, rfl, p3, _, _, .ref (if a then p2 else p1), rfl, rfl, SqL.of upd_same, by cases a <;> rfl, _, rfl, .inr ⟨b, rfl, ?_⟩⟩⟩
    cases a with
    | true => exact ⟨p2, _, _, .str (if b then "both" else "out"), rfl, rfl, SqL.of l2, by cases b <;> rfl, by cases b <;> exact kk⟩
    | false => exact ⟨p1, _, _, .str (if b then "in" else "whole"), rfl, rfl, SqL.of l1, by cases b <;> rfl, by cases b <;> exact kk⟩
theorem ok_lafter (T : Txt P K mg A0) : FnOk P w K mg base CX0 2 A0.f_after A0.fd_after ["_law_word", "_law_mark_here", "_law_owed"] spLAfter := by
  have G_mark : FnOk P w K mg base CX0 1 A0.f_mark A0.fd_mark ["_law_word", "_law_mark_here"] spLMark := ok_lmark T
  refine T.F_after.ok sc_after (fun vs H Q E h => ?_) (fun cdv A outer s H vs Q E hr h => ?_)
  · obtain ⟨u, m, n, rfl, _⟩ := h
    rfl
  · obtain ⟨u, m, n, rfl, hm, k⟩ := h
    refine ⟨_, (pss_cons (ps_set (i := 3) sc_after.nd rfl (Or.inl rfl) (pe_op op_sub (pe_callTy call_int1 (by rfl) T.z_int (by decide +kernel) (pa_cons (pe_cmpR op_in_seq (pv 0) (pe_tup (pa_cons pe_str (pa_cons pe_str pa_nil))) (by first | rfl | with_unfolding_all rfl)) pa_nil)) (pe_callTy call_int1 (by rfl) T.z_int (by decide +kernel) (pa_cons (pe_cmpR op_in_seq (pv 0) (pe_tup (pa_cons pe_str (pa_cons pe_str pa_nil))) (by first | rfl | with_unfolding_all rfl)) pa_nil))))
 (pss_one (ps_ret (pe_tup (pa_cons (pe_call G_mark (hr.mono (by decide)) rfl T.m_mark T.F_mark.kp T.b_mark .nil pass0 (pa_cons (pv 0) (pa_cons (pv 1) pa_nil))) (pa_cons (pe_ifExp (pt_cmpR op_in_seq (pv 0) (pe_tup (pa_cons pe_str (pa_cons pe_str pa_nil))) (by first | rfl | with_unfolding_all rfl)) pe_int (pe_op op_add (pv 2) (pv 3))) pa_nil)))))), ?_⟩
    have iB : ∀ {H1 : Hp} {σ : L2.St} {te : TE} {b : Bool}, Evl.Ev te σ H1 (.bl b) → Evl.Ev (tCB (fun xs H Q => (∃ i, xs = [V.int i] ∧ Q (V.int i) H) ∨ ∃ b, xs = [V.bl b] ∧ Q (V.int (b2i b)) H) (tCons te tNil)) σ H1 (.int (b2i b)) := fun {H1 σ te b} h => Evl.ev_cb (Evl.ea_cons h Evl.ea_nil) fun H2 e2 Q2 q2 => .inr ⟨b, rfl, q2 H2 (Same.refl _)⟩
    refine Evl.q_asg (v := .int (change u)) (Evl.ev_is (Evl.ev_op (iB (ev_inT (ws := (["ask", "finish"] : List Str)) (Evl.ev_var rfl) (Evl.ea_cons Evl.ev_c (Evl.ea_cons Evl.ev_c Evl.ea_nil)) (by decide))) (iB (ev_inT (ws := (["read", "body"] : List Str)) (Evl.ev_var rfl) (Evl.ea_cons Evl.ev_c (Evl.ea_cons Evl.ev_c Evl.ea_nil)) (by decide))) Evl.rv_I0) ?_) fun H1 e1 => ?_
    · unfold change
      by_cases b1 : u = "ask"
      · subst b1; rfl
      · by_cases b2 : u = "finish"
        · subst b2; rfl
        · by_cases b3 : u = "read"
          · subst b3; rfl
          · by_cases b4 : u = "body"
            · subst b4; rfl
            · simp [b1, b2, b3, b4, b2i]
    · refine Evl.s_retU (xs := [.str (after u m), .int (if resets u then 0 else n + change u)]) (Evl.eu_tup (Evl.ea_cons (Evl.ev_call (vs := [.str u, .str m]) (Evl.ea_cons (Evl.ev_var rfl) (Evl.ea_cons (Evl.ev_var rfl) Evl.ea_nil)) fun H2 e2 Q2 q2 E2 => ⟨u, m, rfl, hm, q2⟩) (Evl.ea_cons (Evl.ev_if (b := resets u) (Evl.et_is (Evl.et_test (ev_inT (ws := (["drain", "close"] : List Str)) (Evl.ev_var rfl) (Evl.ea_cons Evl.ev_c (Evl.ea_cons Evl.ev_c Evl.ea_nil)) (by decide))) (by unfold resets; simp)) (fun z => Evl.ev_is Evl.ev_c (by rw [if_pos z])) (fun z => Evl.ev_is (Evl.ev_op (Evl.ev_var rfl) (Evl.ev_var rfl) Evl.rv_I0) (by rw [if_neg (by rw [z]; decide)]))) Evl.ea_nil)) (by simp)) fun q H2 hq e2 h2 => k q H2 (Same.trans e1 e2) h2
end

end K45
end
section
set_option Elab.async false
set_option autoImplicit false
set_option linter.all false
set_option maxRecDepth 100000
set_option maxHeartbeats 4000000
namespace K45
open PySem PySem.Spec PyProof.Rows L2 PySem.OxE LawC PySem.Fl

section
variable {P : Program} {w : World} {K : PySem.W.Frag} {mg : Str → Option Value} {base : Heap} {A0 : Ad}
theorem src_upd {H : Hp} {p l : Addr} {o : HO} {t : Int} (s : SrcAt H p t) (h : p ≠ l) : SrcAt (upd H l o) p t := by
  obtain ⟨⟨d, m, e, r⟩, t0⟩ := s
  exact ⟨⟨d, m, by rw [upd_ne h]; exact e, r⟩, t0⟩
theorem but_updL {H H1 : Hp} {p l : Addr} {o : HO} (b : But p H H1) (h : H l = none) : But p H (upd H1 l o) := fun c u hc e => by
  rw [upd_ne (ne_of_none e h)]
  exact b c u hc e
theorem but_back {H H1 : Hp} {p l : Addr} {t : Int} (b : But p H H1) (s : SrcAt H1 p t) (h : H1 l = none) : H l = none := But.fresh b h s
theorem ok_lprefix (T : Txt P K mg A0) : FnOk P w K mg base CX0 3 A0.f_prefix A0.fd_prefix ["_law_source_here"] spLPrefix := by
  have G_draw : FnOk P w K mg base CX0 1 A0.f_draw A0.fd_draw ["_law_source_here", "_law_many"] spDraw := ok_draw T
  have G_of : FnOk P w K mg base CX0 2 A0.f_of A0.fd_of ["_law_source_here", "_law_some"] (spOf K) := ok_of T
  refine T.F_prefix.ok sc_prefix (fun vs H Q E h => ?_) (fun cdv A outer s H vs Q E hr h => ?_)
  · obtain ⟨p, t, rfl, _⟩ := h
    rfl
  · obtain ⟨p, t, rfl, hS, ht, k⟩ := h
    refine ⟨_, (pss_cons (ps_set (i := 1) sc_prefix.nd rfl (Or.inl rfl) (pe_call G_of (hr.mono (by decide)) rfl T.m_of T.F_of.kp T.b_of .nil pass0 (pa_cons (pv 0) (pa_cons (pe_lst (pa_cons pe_str (pa_cons pe_str (pa_cons pe_str (pa_cons pe_str (pa_cons pe_str (pa_cons pe_str pa_nil))))))) pa_nil))))
 (pss_cons (ps_set (i := 2) sc_prefix.nd rfl (Or.inl rfl) (pe_callB (call_max2 rfl) (by rfl) T.z_max (by decide +kernel) (pa_cons (pe_op op_add (pe_call G_draw (hr.mono (by decide)) rfl T.m_draw T.F_draw.kp T.b_draw .nil pass0 (pa_cons (pv 0) (pa_cons pe_int pa_nil))) (pe_op op_mul pe_int (pe_call G_draw (hr.mono (by decide)) rfl T.m_draw T.F_draw.kp T.b_draw .nil pass0 (pa_cons (pv 0) (pa_cons pe_int pa_nil))))) (pa_cons (pe_callTy call_int1 (by rfl) T.z_int (by decide +kernel) (pa_cons (pe_cmpR op_in_seq (pv 1) (pe_tup (pa_cons pe_str (pa_cons pe_str pa_nil))) (by first | rfl | with_unfolding_all rfl)) pa_nil)) pa_nil))))
 (pss_cons (ps_set (i := 3) sc_prefix.nd rfl (Or.inl rfl) (pe_op op_rep (pe_lst (pa_cons pe_str pa_nil)) (pv 2)))
 (Evl.pss_cut (ps_if (pt_cmpR op_in_seq (pv 1) (pe_tup (pa_cons pe_str (pa_cons pe_str pa_nil))) (by first | rfl | with_unfolding_all rfl))
 (pss_one (ps_expr (pe_bm PySem.F.plainAttrs_list PySem.F.slot_list_append PySem.F.type_list_append mt_append (pv 3) (pa_cons pe_str pa_nil))))
 pss_nil)
 (Evl.pss_cut (ps_if (pt_cmpR op_in_seq (pv 1) (pe_tup (pa_cons pe_str (pa_cons pe_str pa_nil))) (by first | rfl | with_unfolding_all rfl))
 (pss_one (ps_expr (pe_bm PySem.F.plainAttrs_list PySem.F.slot_list_append PySem.F.type_list_append mt_append (pv 3) (pa_cons pe_str pa_nil))))
 pss_nil)
 (Evl.pss_cut (ps_if (pt_cmpR op_eq (pv 1) pe_str (nomark _))
 (pss_one (ps_expr (pe_bm PySem.F.plainAttrs_list PySem.F.slot_list_append PySem.F.type_list_append mt_append (pv 3) (pa_cons pe_str pa_nil))))
 pss_nil)
 (pss_one (ps_ret (pe_tup (pa_cons (pv 3) (pa_cons (pv 1) (pa_cons (pe_ifExp (pt_cmpR op_eq (pv 1) pe_str (nomark _)) pe_int (pv 2)) pa_nil)))))))))))), ?_⟩
    have ne : ∀ {H1 : Hp} {l : Addr} {t1 : Int}, SrcAt H1 p t1 → H1 l = none → p ≠ l := fun s h => SrcAt.ne s h
    refine ⟨_, rfl, by show 6 ≤ sizeLine; decide, fun l hl => ⟨p, l, t, _, rfl, hS.new hl, by omega, upd_same, by show 0 < 6; decide, by show 6 < 1000; decide, ne hS hl, fun v t1 H1 hv h1 h2 b1 S1 => ?_⟩⟩
    have B1 : But p H H1 := But.trans (But.ofSame (Same.new hl)) b1
    obtain ⟨m, rfl, hm⟩ : ∃ m : Str, v = .str m ∧ m ∈ marks5 := by
      simp only [List.mem_cons, List.not_mem_nil, or_false] at hv
      rcases hv with rfl | rfl | rfl | rfl | rfl | rfl <;> exact ⟨_, rfl, by decide⟩
    have iB : ∀ {H1 : Hp} {σ : L2.St} {te : TE} {b : Bool}, Evl.Ev te σ H1 (.bl b) → Evl.Ev (tCB (fun xs H Q => (∃ i, xs = [V.int i] ∧ Q (V.int i) H) ∨ ∃ b, xs = [V.bl b] ∧ Q (V.int (b2i b)) H) (tCons te tNil)) σ H1 (.int (b2i b)) := fun {H1 σ te b} h => Evl.ev_cb (Evl.ea_cons h Evl.ea_nil) fun H2 e2 Q2 q2 => .inr ⟨b, rfl, q2 H2 (Same.refl _)⟩
    refine ⟨_, rfl, p, t1, 4, rfl, S1, by omega, by decide, by decide, fun k1 t2 H2 a0 a1 a2 a3 b2 S2 => ⟨_, rfl, p, t2, 2, rfl, S2, by omega, by decide, by decide, fun k2 t3 H3 c0 c1 c2 c3 b3 S3 => ⟨_, _, rfl, rfl, .inl ⟨by decide, by decide⟩, _, _, rfl, rfl, ?_⟩⟩⟩
    have B3 : But p H H3 := But.trans (But.trans B1 b2) b3
    refine (iB (ev_inT (ws := (["in", "both"] : List Str)) (Evl.ev_var (v := .str m) rfl) (Evl.ea_cons Evl.ev_c (Evl.ea_cons Evl.ev_c Evl.ea_nil)) (by decide))) H3 (Same.refl _) _ fun H4 e4 => ⟨_, _, rfl, ?_⟩
    obtain ⟨n, hn, hn6, hn1⟩ : ∃ n : Nat, (if b2i (decide (m ∈ (["in", "both"] : List Str))) > k1 + 3 * k2 then b2i (decide (m ∈ (["in", "both"] : List Str))) else k1 + 3 * k2) = (n : Int) ∧ n ≤ 6 ∧ (m = "in" ∨ m = "both" → 1 ≤ n) := by
      have hb : b2i (decide (m ∈ (["in", "both"] : List Str))) = if m = "in" ∨ m = "both" then 1 else 0 := by
        by_cases q : m = "in" ∨ m = "both"
        · rw [if_pos q, decide_eq_true (by simpa using q)]; rfl
        · rw [if_neg q, decide_eq_false (by simpa using q)]; rfl
      rw [hb]
      by_cases q : m = "in" ∨ m = "both"
      · rw [if_pos q]
        by_cases z : (1 : Int) > k1 + 3 * k2
        · rw [if_pos z]; exact ⟨1, rfl, by decide, fun _ => Nat.le_refl _⟩
        · rw [if_neg z]; exact ⟨(k1 + 3 * k2).toNat, by omega, by omega, fun _ => by omega⟩
      · rw [if_neg q]
        rw [if_neg (by omega)]
        exact ⟨(k1 + 3 * k2).toNat, by omega, by omega, fun z => absurd z q⟩
    dsimp only
    rw [hn]
    have S4 := S3.same e4
    have B4 : But p H H4 := But.trans B3 (But.ofSame e4)
    -- the asks
    refine ⟨by show 1 ≤ sizeLine; decide, fun l0 hl0 => ⟨_, rfl, l0, (n : Int), _, rfl, rfl, upd_same, by omega, by omega, by show 1 * (n : Int).toNat ≤ sizeLine; rw [sizeLine_eq]; omega, fun lr hlr => ?_⟩⟩
    have S5 := S4.new (o := .lst [.str "ask"]) hl0
    have nlr : p ≠ lr := ne S5 hlr
    have B5 : But p H (upd H4 l0 (.lst [.str "ask"])) := But.trans B4 (But.ofSame (Same.new hl0))
    have hlrH : H lr = none := but_back B5 S5 hlr
    have hfl : (List.replicate (n : Int).toNat [V.str "ask"]).flatten = (List.replicate n ("ask" : Str)).map V.str := by
      rw [Int.toNat_natCast]
      clear hn hn6 hn1 k
      induction n with
      | zero => rfl
      | succ n ih => rw [List.replicate_succ, List.flatten_cons, ih]; rfl
    rw [hfl]
    have S6 : SrcAt (upd (upd H4 l0 (.lst [.str "ask"])) lr (.lst ((List.replicate n ("ask" : Str)).map V.str))) p t3 := S5.new hlr
    have B6 : But p H (upd (upd H4 l0 (.lst [.str "ask"])) lr (.lst ((List.replicate n ("ask" : Str)).map V.str))) := but_updL B5 hlrH
    have L6 : (upd (upd H4 l0 (.lst [.str "ask"])) lr (.lst ((List.replicate n ("ask" : Str)).map V.str))) lr = some (.lst ((List.replicate n ("ask" : Str)).map V.str)) := upd_same
    show Evl.tCut _ _ _ _ (upd (upd H4 l0 (.lst [.str "ask"])) lr (.lst ((List.replicate n ("ask" : Str)).map V.str)))
    generalize upd (upd H4 l0 (.lst [.str "ask"])) lr (.lst ((List.replicate n ("ask" : Str)).map V.str)) = H6 at S6 B6 L6
    have app : ∀ {H7 : Hp} {xs : List Str} {v : Str} {c : Prop} [Decidable c], (c → SrcAt H7 p t3 ∧ But p H H7 ∧ H7 lr = some (.lst (xs.map V.str))) → c → SrcAt (upd H7 lr (.lst (xs.map V.str ++ [.str v]))) p t3 ∧ But p H (upd H7 lr (.lst (xs.map V.str ++ [.str v]))) ∧ (upd H7 lr (.lst (xs.map V.str ++ [.str v]))) lr = some (.lst ((xs ++ if c then [v] else []).map V.str)) := fun {H7 xs v c} _ h hc => by
      obtain ⟨h1, h2, h3⟩ := h hc
      refine ⟨src_upd h1 nlr, but_updL h2 hlrH, ?_⟩
      rw [upd_same, if_pos hc, List.map_append]
      rfl
    let M (xs : List Str) : L2.St → Hp → Prop := fun σ' H' => σ' = [some (.ref p), some (.str m), some (.int n), some (.ref lr)] ∧ SrcAt H' p t3 ∧ But p H H' ∧ H' lr = some (.lst (xs.map V.str))
    refine Evl.q_cut (M := M (List.replicate n ("ask" : Str) ++ (if m = "in" ∨ m = "both" then [("head" : Str)] else []))) ?_ fun σ' H' hM => ?_
    · refine Evl.s_when (b := decide (m ∈ (["in", "both"] : List Str))) (Evl.et_test (ev_inT (ws := (["in", "both"] : List Str)) (Evl.ev_var rfl) (Evl.ea_cons Evl.ev_c (Evl.ea_cons Evl.ev_c Evl.ea_nil)) (by decide))) (fun h H7 e7 => ?_) (fun h H7 e7 => ?_)
      · have hc : m = "in" ∨ m = "both" := by simpa using h
        refine Evl.s_app (e7 _ _ L6) (Evl.ev_var rfl) (v := .str "head") Evl.ev_c (by rw [List.length_map, List.length_replicate]; omega) fun H8 e8 => ⟨rfl, app (fun _ => ⟨S6.same (Same.trans e7 e8), But.trans B6 (But.ofSame (Same.trans e7 e8)), (Same.trans e7 e8) _ _ L6⟩) hc⟩
      · have hc : ¬ (m = "in" ∨ m = "both") := by simpa using h
        refine ⟨rfl, S6.same e7, But.trans B6 (But.ofSame e7), ?_⟩
        rw [if_neg hc, List.append_nil]
        exact e7 _ _ L6
    obtain ⟨rfl, S7, B7, L7⟩ := hM
    refine Evl.q_cut (M := M (List.replicate n ("ask" : Str) ++ (if m = "in" ∨ m = "both" then [("head" : Str)] else []) ++ (if m = "out" ∨ m = "both" then [("begin" : Str)] else []))) ?_ fun σ' H'' hM => ?_
    · refine Evl.s_when (b := decide (m ∈ (["out", "both"] : List Str))) (Evl.et_test (ev_inT (ws := (["out", "both"] : List Str)) (Evl.ev_var rfl) (Evl.ea_cons Evl.ev_c (Evl.ea_cons Evl.ev_c Evl.ea_nil)) (by decide))) (fun h H7 e7 => ?_) (fun h H7 e7 => ?_)
      · have hc : m = "out" ∨ m = "both" := by simpa using h
        refine Evl.s_app (e7 _ _ L7) (Evl.ev_var rfl) (v := .str "begin") Evl.ev_c (by rw [List.length_map, List.length_append, List.length_replicate]; split <;> simp <;> omega) fun H8 e8 => ⟨rfl, app (fun _ => ⟨S7.same (Same.trans e7 e8), But.trans B7 (But.ofSame (Same.trans e7 e8)), (Same.trans e7 e8) _ _ L7⟩) hc⟩
      · have hc : ¬ (m = "out" ∨ m = "both") := by simpa using h
        refine ⟨rfl, S7.same e7, But.trans B7 (But.ofSame e7), ?_⟩
        rw [if_neg hc, List.append_nil]
        exact e7 _ _ L7
    obtain ⟨rfl, S8, B8, L8⟩ := hM
    refine Evl.q_cut (M := M (preOf m n)) ?_ fun σ' H9 hM => ?_
    · refine Evl.s_when (b := decide (m = "closed")) (et_eqS (Evl.ev_var rfl) Evl.ev_c) (fun h H7 e7 => ?_) (fun h H7 e7 => ?_)
      · have hc := of_decide_eq_true h
        refine Evl.s_app (e7 _ _ L8) (Evl.ev_var rfl) (v := .str "close") Evl.ev_c (by rw [List.length_map, List.length_append, List.length_append, List.length_replicate]; split <;> split <;> simp <;> omega) fun H8 e8 => ⟨rfl, app (fun _ => ⟨S8.same (Same.trans e7 e8), But.trans B8 (But.ofSame (Same.trans e7 e8)), (Same.trans e7 e8) _ _ L8⟩) hc⟩
      · have hc := of_decide_eq_false h
        refine ⟨rfl, S8.same e7, But.trans B8 (But.ofSame e7), ?_⟩
        unfold preOf
        rw [if_neg hc, List.append_nil]
        exact e7 _ _ L8
    obtain ⟨rfl, S9, B9, L9⟩ := hM
    refine Evl.s_retU (xs := [.ref lr, .str m, .int (owedOf m n)]) (Evl.eu_tup (Evl.ea_cons (Evl.ev_var rfl) (Evl.ea_cons (Evl.ev_var rfl) (Evl.ea_cons (Evl.ev_if (b := decide (m = "closed")) (et_eqS (Evl.ev_var rfl) Evl.ev_c) (fun z => Evl.ev_is Evl.ev_c (by unfold owedOf; rw [if_pos (of_decide_eq_true z)])) (fun z => Evl.ev_is (Evl.ev_var rfl) (by unfold owedOf; rw [if_neg (of_decide_eq_false z)]))) Evl.ea_nil))) (by simp)) fun q H10 hq e10 h10 => ?_
    exact k q lr m n t3 H10 hm hn6 hn1 (by omega) (by omega) (But.trans B9 (But.ofSame e10)) (S9.same e10) (Ne.symm (ne S9 hq)) (Ne.symm nlr) h10 (e10 _ _ L9)
end

end K45
end
section
set_option Elab.async false
set_option autoImplicit false
set_option linter.all false
set_option maxRecDepth 100000
set_option maxHeartbeats 4000000
namespace K45
open PySem PySem.Spec PyProof.Rows L2 PySem.OxE LawC PySem.Fl

section
variable {P : Program} {w : World} {K : PySem.W.Frag} {mg : Str → Option Value} {base : Heap} {A0 : Ad}
theorem el_if {H : Hp} {σ : L2.St} {t : TT} {ta tb : TE} {b : Bool} {xs : List V} (h : Evl.EvT t σ H b) (h1 : b = true → Evl.EvL ta σ H xs) (h2 : b = false → Evl.EvL tb σ H xs) : Evl.EvL (tIf t ta tb) σ H xs := fun H1 e1 Q q => h H1 e1 _ fun H2 e2 => by
  cases b with
  | true => rw [if_pos rfl]; exact h1 rfl H2 (Same.trans e1 e2) Q fun p H3 hp e3 h3 => q p H3 (Evl.fresh_back e2 hp) (Same.trans e2 e3) h3
  | false => rw [if_neg (by decide)]; exact h2 rfl H2 (Same.trans e1 e2) Q fun p H3 hp e3 h3 => q p H3 (Evl.fresh_back e2 hp) (Same.trans e2 e3) h3
theorem inner_len (u : Str) : (innerOf u).length ≤ 2 := by unfold innerOf; split <;> simp
theorem ok_lwrapped (T : Txt P K mg A0) : FnOk P w K mg base CX0 2 A0.f_wrapped A0.fd_wrapped ["_law_source_here", "_law_word"] spLWrapped := by
  have G_draw : FnOk P w K mg base CX0 1 A0.f_draw A0.fd_draw ["_law_source_here", "_law_many"] spDraw := ok_draw T
  refine T.F_wrapped.ok sc_wrapped (fun vs H Q E h => ?_) (fun cdv A outer s H vs Q E hr h => ?_)
  · obtain ⟨p, t, u, rfl, _⟩ := h
    rfl
  · obtain ⟨p, t, u, rfl, hS, ht, k⟩ := h
    refine ⟨_, (pss_cons (ps_set (i := 2) sc_wrapped.nd rfl (Or.inl rfl) (pe_ifExp (pt_cmpR op_eq (pv 1) pe_str (nomark _)) (pe_lst (pa_cons pe_str (pa_cons pe_str pa_nil))) (pe_lst (pa_cons (pv 1) pa_nil))))
 (pss_cons (ps_set (i := 3) sc_wrapped.nd rfl (Or.inl rfl) (pe_call G_draw (hr.mono (by decide)) rfl T.m_draw T.F_draw.kp T.b_draw .nil pass0 (pa_cons (pv 0) (pa_cons pe_int pa_nil))))
 (pss_cons (ps_if (pt_cmpR op_eq (pv 3) pe_int (nomark _))
 (pss_one (ps_ret (pe_tup (pa_cons (pv 2) (pa_cons pe_int pa_nil)))))
 pss_nil)
 (pss_cons (ps_if (pt_cmpR op_eq (pv 3) pe_int (nomark _))
 (pss_one (ps_ret (pe_tup (pa_cons (pe_op op_cat (pe_op op_cat (pe_lst (pa_cons pe_str pa_nil)) (pv 2)) (pe_lst (pa_cons pe_str (pa_cons pe_str (pa_cons pe_str pa_nil))))) (pa_cons pe_int pa_nil)))))
 pss_nil)
 (pss_cons (ps_if (pt_cmpR op_eq (pv 3) pe_int (nomark _))
 (pss_one (ps_ret (pe_tup (pa_cons (pe_op op_cat (pe_op op_cat (pe_lst (pa_cons pe_str pa_nil)) (pv 2)) (pe_lst (pa_cons pe_str (pa_cons pe_str (pa_cons pe_str pa_nil))))) (pa_cons pe_int pa_nil)))))
 pss_nil)
 (pss_one (ps_ret (pe_tup (pa_cons (pe_op op_cat (pe_op op_cat (pe_lst (pa_cons pe_str pa_nil)) (pv 2)) (pe_lst (pa_cons pe_str pa_nil))) (pa_cons pe_int pa_nil)))))))))), ?_⟩
    have hil := inner_len u
    refine Evl.q_asgL (xs := (innerOf u).map V.str) (el_if (b := decide (u = "retry")) (et_eqS (Evl.ev_var rfl) Evl.ev_c) (fun z => Evl.el_is (Evl.el_lst (vs := [.str "retry 2", .str "end"]) (Evl.ea_cons Evl.ev_c (Evl.ea_cons Evl.ev_c Evl.ea_nil)) (by simp)) (by unfold innerOf; rw [if_pos (of_decide_eq_true z)]; rfl)) (fun z => Evl.el_is (Evl.el_lst (vs := [.str u]) (Evl.ea_cons (Evl.ev_var rfl) Evl.ea_nil) (by simp)) (by unfold innerOf; rw [if_neg (of_decide_eq_false z)]; rfl))) fun li H1 hli e1 L1 => ?_
    refine ⟨_, rfl, p, t, 4, rfl, hS.same e1, by omega, by decide, by decide, fun kk t1 H2 a0 a1 a2 a3 b2 S2 => ?_⟩
    dsimp only
    obtain ⟨kn, rfl, hk4⟩ : ∃ kn : Nat, kk = (kn : Int) ∧ kn < 4 := ⟨kk.toNat, by omega, by omega⟩
    have nli : li ≠ p := Ne.symm (SrcAt.ne hS hli)
    have Li2 := b2 _ _ nli L1
    have B2 : But p H H2 := But.trans (But.ofSame e1) b2
    -- what is given back: a new list and whether
    have ret : ∀ {H3 : Hp} {σ' : L2.St} {te : TE} {z : Int}, Same H2 H3 → Evl.EvL te σ' H3 ((bodyOf kn u).map V.str) → z = skipOf kn → tRet (tTup (tCons te (tCons (tC (.int z)) tNil))) { nx := fun _ H' => Q .non H', rt := Q } σ' H3 := fun {H3 σ' te z} s3 h hz => by
      refine h H3 (Same.refl _) _ fun l H4 hl e4 L4 => ⟨by show 2 ≤ sizeLine; decide, fun q hq => ?_⟩
      have S3 := S2.same s3
      have S4 := S3.same e4
      subst hz
      exact k q l kn t1 _ hk4 a2 a3 (But.trans B2 (But.ofSame (Same.trans (Same.trans s3 e4) (Same.new hq)))) (S4.new hq) (Ne.symm (SrcAt.ne S4 hq)) (Ne.symm (SrcAt.ne S3 hl)) upd_same ((Same.new hq) _ _ L4)
    have wrap : ∀ {H3 : Hp} {y : V} {a : Str}, Same H2 H3 → Evl.EvL (tOp rCat (tLst (tCons (tC (.str a)) tNil)) (tVar 2)) [some (.ref p), some (.str u), some (.ref li), some y] H3 (.str a :: (innerOf u).map V.str) := fun {H3 y a} s3 => el_catN (Evl.el_lst (Evl.ea_cons Evl.ev_c Evl.ea_nil) (by simp)) (Evl.ev_var rfl) (s3 _ _ Li2) (by rw [List.length_map]; simp; omega)
    refine Evl.q_when (b := decide (kn = 0)) (et_eqN (m := 0) (Evl.ev_var rfl) Evl.ev_c) (fun h H3 e3 => ?_) (fun h H3 e3 => ?_)
    · have h0 := of_decide_eq_true h
      subst h0
      refine Evl.s_retU (xs := [.ref li, .int 0]) (Evl.eu_tup (Evl.ea_cons (Evl.ev_var rfl) (Evl.ea_cons Evl.ev_c Evl.ea_nil)) (by simp)) fun q H4 hq e4 h4 => ?_
      exact k q li 0 t1 H4 hk4 a2 a3 (But.trans B2 (But.ofSame (Same.trans e3 e4))) (S2.same (Same.trans e3 e4)) (Ne.symm (SrcAt.ne (S2.same e3) hq)) nli h4 ((Same.trans e3 e4) _ _ Li2)
    have n0 := of_decide_eq_false h
    refine Evl.q_when (b := decide (kn = 1)) (et_eqN (m := 1) (Evl.ev_var rfl) Evl.ev_c) (fun h H4 e4 => ?_) (fun h1 H4 e4 => ?_)
    · have h0 := of_decide_eq_true h
      subst h0
      refine ret (Same.trans e3 e4) (Evl.el_is (el_catLL (xs := .str "try" :: (innerOf u).map V.str) (ys := [.str "finally", .str "close", .str "end"]) (wrap (Same.trans e3 e4)) (Evl.el_lst (vs := [.str "finally", .str "close", .str "end"]) (Evl.ea_cons Evl.ev_c (Evl.ea_cons Evl.ev_c (Evl.ea_cons Evl.ev_c Evl.ea_nil))) (by simp)) (by simp; omega)) ?_) rfl
      unfold bodyOf
      rw [if_neg (by decide), if_pos rfl, List.map_append, List.map_append]
      rfl
    have n1 := of_decide_eq_false h1
    refine Evl.q_when (b := decide (kn = 2)) (et_eqN (m := 2) (Evl.ev_var rfl) Evl.ev_c) (fun h H5 e5 => ?_) (fun h2 H5 e5 => ?_)
    · have h0 := of_decide_eq_true h
      subst h0
      have s5 := Same.trans (Same.trans e3 e4) e5
      refine ret s5 (Evl.el_is (el_catLL (xs := .str "try" :: (innerOf u).map V.str) (ys := [.str "rescue", .str "close", .str "end"]) (wrap s5) (Evl.el_lst (vs := [.str "rescue", .str "close", .str "end"]) (Evl.ea_cons Evl.ev_c (Evl.ea_cons Evl.ev_c (Evl.ea_cons Evl.ev_c Evl.ea_nil))) (by simp)) (by simp; omega)) ?_) rfl
      unfold bodyOf
      rw [if_neg (by decide), if_neg (by decide), if_pos rfl, List.map_append, List.map_append]
      rfl
    · have n2 := of_decide_eq_false h2
      have s5 := Same.trans (Same.trans e3 e4) e5
      refine ret s5 (Evl.el_is (el_catLL (xs := .str "shield" :: (innerOf u).map V.str) (ys := [.str "end"]) (wrap s5) (Evl.el_lst (vs := [.str "end"]) (Evl.ea_cons Evl.ev_c Evl.ea_nil) (by simp)) (by simp; omega)) ?_) (by unfold skipOf; rw [if_neg n0])
      unfold bodyOf
      rw [if_neg n0, if_neg n1, if_neg n2, List.map_append, List.map_append]
      rfl
end

end K45
end
section
set_option Elab.async false
set_option autoImplicit false
set_option linter.all false
set_option maxRecDepth 100000
set_option maxHeartbeats 2000000
/-! walks as a law reads them; the runs that a law goes through -/
namespace PySem.Fl
open PySem PySem.Spec PyProof.Rows L2 PySem.OxE LawC
section
variable {K : PySem.W.Frag} {cf c : Addr} {H : Hp} {σ : L2.St} {te : TE} {x dl tr : Addr} {W : Wk} {E : XK}
theorem evd_wprop {d : Wk → PyData} (h : Evl.Ev te σ H (.ref x)) (hW : WAt K cf c H x W dl tr) (hz : W.st.spot.events.length < 1000) : EvD K (tProp c (spWD K cf c d) [] E te) σ H (d W) := fun H1 e1 Q q => h H1 e1 _ fun H2 e2 => by
  have hW2 := hW.same (Same.trans e1 e2)
  obtain ⟨dx, f, st, ts, hx, _⟩ := id hW2
  exact ⟨x, dx, _, rfl, hx, x, W, dl, tr, rfl, hW2, hz, fun v H3 e3 hv => q v H3 (Same.trans e2 e3) hv⟩
theorem evd_wmeth {m : Str} {d : Wk → PyData} (h : Evl.Ev te σ H (.ref x)) (hW : WAt K cf c H x W dl tr) (hz : W.st.spot.events.length < 1000) (hm : ∀ f dl tr st fl, (wkF f dl tr st fl).lookup m = none) : EvD K (tMeth c m (spWD K cf c d) [] E te tNil) σ H (d W) := fun H1 e1 Q q => h H1 e1 _ fun H2 e2 => by
  have hW2 := hW.same (Same.trans e1 e2)
  obtain ⟨dx, f, st, ts, hx, _⟩ := id hW2
  exact ⟨x, dx, _, rfl, hx, hm _ _ _ _ _, x, W, dl, tr, rfl, hW2, hz, fun v H3 e3 hv => q v H3 (Same.trans e2 e3) hv⟩
theorem el_choices {ms : List Str} (h : Evl.Ev te σ H (.ref x)) (hW : WAt K cf c H x W dl tr) (hz : W.st.spot.events.length < 1000) (hm : W.choices = some ms) : Evl.EvL (tMeth c "choices" (spWChoices K cf c) [] E te tNil) σ H (ms.map V.str) := fun H1 e1 Q q => h H1 e1 _ fun H2 e2 => by
  have hW2 := hW.same (Same.trans e1 e2)
  obtain ⟨dx, f, st, ts, hx, _⟩ := id hW2
  exact ⟨x, dx, _, rfl, hx, rfl, x, W, dl, tr, ms, rfl, hW2, hz, hm, fun p H3 hp e3 h3 => q p H3 (Evl.fresh_back e2 hp) (Same.trans e2 e3) h3⟩
theorem ev_wfault (C : WkC K c) (h : Evl.Ev te σ H (.ref x)) (hW : WAt K cf c H x W dl tr) : Evl.Ev (tFld K te "fault") σ H (oS W.fault) := by
  obtain ⟨dx, f, st, ts, hx, _⟩ := id hW
  exact ev_fld h hx C.cl C.n_fault rfl
theorem ev_dInt {n : Int} (h : EvD K te σ H (.int n)) : Evl.Ev te σ H (.int n) := fun H1 e1 Q q => h H1 e1 Q fun v H2 e2 hv => by cases hv; exact q H2 e2
theorem ev_dStr {n : Str} (h : EvD K te σ H (.str n)) : Evl.Ev te σ H (.str n) := fun H1 e1 Q q => h H1 e1 Q fun v H2 e2 hv => by cases hv; exact q H2 e2
theorem ev_dBool {n : Bool} (h : EvD K te σ H (.bool n)) : Evl.Ev te σ H (.bl n) := fun H1 e1 Q q => h H1 e1 Q fun v H2 e2 hv => by cases hv; exact q H2 e2
theorem ev_dNone (h : EvD K te σ H .none) : Evl.Ev te σ H .non := fun H1 e1 Q q => h H1 e1 Q fun v H2 e2 hv => by cases hv; exact q H2 e2
theorem evd_L' {ms : List Str} (h : Evl.EvL te σ H (ms.map V.str)) : EvD K te σ H (.list (ms.map PyData.str)) := evd_L h
/-- xs + ys: the right one new -/
theorem el_catRL {ta tb : TE} {p : Addr} {xs ys : List V} (ha : Evl.Ev ta σ H (.ref p)) (hp : H p = some (.lst xs)) (hb : Evl.EvL tb σ H ys) (hz : xs.length + ys.length ≤ 100000) : Evl.EvL (tOp rCat ta tb) σ H (xs ++ ys) := fun H1 e1 Q q =>
  ha H1 e1 _ fun H2 e2 => hb H2 (e1.trans e2) _ fun b H3 hb0 e3 hb3 => ⟨p, b, xs, ys, rfl, rfl, e3 _ _ (e2 _ _ (e1 _ _ hp)), hb3, Evl.sz_of hz, fun r hr => q r _ (Evl.fresh_back (e2.trans e3) hr) ((e2.trans e3).trans (Evl.Ex.new hr)) upd_same⟩
/-- xs * n, xs new -/
theorem el_rep {ta tb : TE} {xs : List V} {n : Nat} (ha : Evl.EvL ta σ H xs) (hb : Evl.Ev tb σ H (.int (n : Int))) (hz : xs.length * n ≤ 100000) (hn : n ≤ 1000) : Evl.EvL (tOp rRep ta tb) σ H (List.replicate n xs).flatten := fun H1 e1 Q q =>
  ha H1 e1 _ fun p H2 hp e2 h2 => hb H2 (e1.trans e2) _ fun H3 e3 => ⟨p, (n : Int), xs, rfl, rfl, e3 _ _ h2, by omega, by omega, by rw [Int.toNat_natCast]; exact Evl.sz_of hz, fun r hr => by
    rw [Int.toNat_natCast]
    exact q r _ (Evl.fresh_back (e2.trans e3) hr) ((e2.trans e3).trans (Evl.Ex.new hr)) upd_same⟩
end
/-! the rows of k45's functions -/
def loopR (b : Bool) : List (List Str) := if b then [["each", "ab"], ["pause"], ["end"]] else []
def loopT (b : Bool) : List Str := if b then ["each ab", "pause", "end"] else []
def innerR (u : Str) : List (List Str) := if u = "retry" then [["retry", "2"], ["end"]] else [[u]]
def bodyR (k : Nat) (u : Str) : List (List Str) := if k = 0 then innerR u else if k = 1 then ([[("try" : Str)]] ++ innerR u ++ [[("finally" : Str)], ["close"], ["end"]]) else if k = 2 then ([[("try" : Str)]] ++ innerR u ++ [[("rescue" : Str)], ["close"], ["end"]]) else ([[("shield" : Str)]] ++ innerR u ++ [[("end" : Str)]])
def rowsOf (m : Str) (n : Nat) (b : Bool) (k : Nat) (u : Str) : List (List Str) := (preOf m n).map (fun v => [v]) ++ loopR b ++ bodyR k u ++ [[("check" : Str)]]
theorem rowT_one (u : Str) : rowT [u] = u := TL.ext_tl (by rw [tl_rowT]; rfl)
theorem rowT_retry : rowT ["retry", "2"] = "retry 2" := TL.ext_tl (by rw [tl_rowT]; decide +kernel)
theorem rowT_each : rowT ["each", "ab"] = "each ab" := TL.ext_tl (by rw [tl_rowT]; decide +kernel)
theorem inner_text (u : Str) : (innerR u).map rowT = innerOf u := by
  unfold innerR innerOf
  by_cases h : u = "retry"
  · rw [if_pos h, if_pos h, List.map_cons, List.map_cons, rowT_retry, rowT_one]; rfl
  · rw [if_neg h, if_neg h, List.map_cons, rowT_one]; rfl
theorem body_text (k : Nat) (u : Str) : (bodyR k u).map rowT = bodyOf k u := by
  unfold bodyR bodyOf
  have h := inner_text u
  split
  · exact h
  · split
    · simp [h, rowT_one]
    · split
      · simp [h, rowT_one]
      · simp [h, rowT_one]
theorem rows_text (m : Str) (n : Nat) (b : Bool) (k : Nat) (u : Str) : (rowsOf m n b k u).map rowT = preOf m n ++ loopT b ++ bodyOf k u ++ [("check" : Str)] := by
  unfold rowsOf
  rw [List.map_append, List.map_append, List.map_append, List.map_map, body_text]
  congr 2
  congr 1
  · rw [show (rowT ∘ fun v => [v]) = id from funext fun v => rowT_one v, List.map_id]
  · cases b with
    | false => rfl
    | true => simp [loopR, loopT, rowT_each, rowT_one]
def words11 : List Str := ["ask", "begin", "finish", "read", "head", "body", "retry", "drain", "close", "pause", "check"]
/-! a law's run: the last choice, as long as another row is there -/
structure Calm (W : Wk) : Prop where
  ev : W.st.spot.events = []
  ts : W.st.spot.tries.length ≤ 100
  rs : W.st.rounds.length ≤ 100
  tr : W.trail.length ≤ 1000
instance (W : Wk) : Decidable (Calm W) := decidable_of_iff (W.st.spot.events = [] ∧ W.st.spot.tries.length ≤ 100 ∧ W.st.rounds.length ≤ 100 ∧ W.trail.length ≤ 1000) ⟨fun h => ⟨h.1, h.2.1, h.2.2.1, h.2.2.2⟩, fun h => ⟨h.ev, h.ts, h.rs, h.tr⟩⟩
def lawTurn (row : Nat) (W : Wk) : Option Wk := if W.st.spot.row ≠ row ∧ W.over = false then W.choices.bind fun cs => cs.getLast?.bind fun mv => W.step mv else some W
def lawRun : Nat → Nat → Wk → Option Wk
  | 0, _, W => some W
  | k + 1, row, W => if Calm W then (lawTurn row W).bind (lawRun k row) else none
def rowAt (m : Str) (n : Nat) (b : Bool) (k : Nat) : Nat := (preOf m n).length + (if b then 3 else 0) + (if k = 0 then 0 else 1)
def stepsAt (m : Str) (n : Nat) (b : Bool) (c : Nat) (k : Nat) : Nat := (preOf m n).length + (if b then 1 + 2 * c else 0)
def lnamesOf (b : Bool) : List Str := if b then ["ab"] else []
/-- what is asked of the plain run -/
def PlainOK (m : Str) (n : Nat) (b : Bool) (c k : Nat) (u : Str) : Prop := ∃ R W0 W W2, readAll Rd.nil (rowsOf m n b k u) = some R ∧ R.stack = [] ∧ namesL (rowsOf m n b k u) = lnamesOf b ∧
  Wk.start (mkFn (lnamesOf b) (rowsOf m n b k u) R) [("ab", (c : Int))] = some W0 ∧ lawRun 60 (rowAt m n b k) W0 = some W ∧ Calm W ∧ W.over = false ∧ W.st.spot.row < W.F.words.length ∧ W.st.spot.row = rowAt m n b k ∧ W.st.mark = m ∧ W.st.owed = owedOf m n ∧ W.trail.length = stepsAt m n b c k ∧ W.step "go" = some W2 ∧
  (∀ v, dueOf u m (owedOf m n) = some v → W2 = { W with trail := W.trail ++ [(W.st.spot.row, ("go" : Str))], fault := some v }) ∧
  (dueOf u m (owedOf m n) = none → W2.fault = none ∧ Calm W2 ∧ W2.over = false ∧ W2.st.mark = after u m ∧ W2.st.owed = if resets u then 0 else owedOf m n + change u)
theorem pre_len (m : Str) (n : Nat) (h : n ≤ 6) : (preOf m n).length ≤ 8 := by
  unfold preOf
  simp only [List.length_append, List.length_replicate]
  by_cases h1 : m = "closed"
  · subst h1
    rw [if_neg (by decide), if_neg (by decide), if_pos rfl]
    simp; omega
  · rw [if_neg h1]
    split <;> split <;> simp <;> omega
theorem rows_len (m : Str) (n : Nat) (b : Bool) (k : Nat) (u : Str) (h : n ≤ 6) : (rowsOf m n b k u).length ≤ 24 := by
  have h1 := pre_len m n h
  have h2 : (innerR u).length ≤ 2 := by unfold innerR; split <;> simp
  have h3 : (bodyR k u).length ≤ 6 := by
    unfold bodyR
    split
    · omega
    · split
      · simp; omega
      · split
        · simp; omega
        · simp; omega
  have h4 : (loopR b).length ≤ 3 := by unfold loopR; split <;> simp
  unfold rowsOf
  simp only [List.length_append, List.length_map, List.length_singleton]
  omega
theorem rows_join : ∀ {rows : List (List Str)}, (∀ ws ∈ rows, isRow ws = true) → ((rows.map rowT).map (·.length)).sum ≤ rows.length * 18
  | [], _ => by simp
  | ws :: rows, h => by
    have h1 := row_len (h ws List.mem_cons_self)
    have h2 := rows_join fun v hv => h v (List.mem_cons_of_mem _ hv)
    rw [List.map_cons, List.map_cons, List.sum_cons, List.length_cons, Nat.succ_mul]
    omega
theorem But2.sq {K : PySem.W.Frag} {x q : Addr} {H H' : Hp} {C dx : Addr} {fs : List (Str × V)} {ys : List V} (b2 : But2 x q H H') (hx : H x = some (.ins C dx fs)) (hq : H q = some (.lst ys)) : ∀ b xs, SqT K H b xs → SqT K H' b xs := fun b xs hb => by
  have n1 : ∀ {o : HO}, H b = some o → (∀ a c e, o ≠ .ins a c e) → (∀ l, o ≠ .lst l) → H' b = some o := fun h h1 h2 => b2 b _ (fun z => by rw [z, hx] at h; exact h1 _ _ _ (Option.some.inj h).symm) (fun z => by rw [z, hq] at h; exact h2 _ (Option.some.inj h).symm) h
  rcases hb with (hb | ⟨ob, hb⟩) | hb
  · exact .inl (.inl (n1 hb (fun _ _ _ z => by cases z) fun _ z => by cases z))
  · exact .inl (.inr ⟨ob, n1 hb (fun _ _ _ z => by cases z) fun _ z => by cases z⟩)
  · exact .inr hb
theorem noL_now (W : Wk) : noL (nowD W) = true := by
  have hr : ∀ rs : List (Nat × Int), noL.noLs (rs.map fun p => PyData.tuple [.int p.1, .int p.2]) = true := fun rs => by
    induction rs with
    | nil => rfl
    | cons n ns ih => rw [List.map_cons]; unfold noL.noLs; rw [ih]; rfl
  have e1 := noL_spot W.st.spot
  have e2 : noL (rndD W.st.rounds) = true := by unfold rndD noL; exact hr _
  unfold nowD noL noL.noLs noL.noLs noL.noLs noL.noLs noL.noLs
  rw [e1, e2]
  rfl
theorem ev_lenD {K : PySem.W.Frag} {H : Hp} {σ : L2.St} {te : TE} {ds : List PyData} (h : EvD K te σ H (.tuple ds)) : Evl.Ev (tCB (fun xs H Q => ∃ x n, xs = [x] ∧ LenV K x H n ∧ Q (V.int n) H) (tCons te tNil)) σ H (.int ds.length) := fun H1 e1 Q q => h H1 e1 _ fun v H2 e2 hv => by
  obtain ⟨a, vs, rfl, hs, hds⟩ := dp_tup hv
  exact ⟨_, _, rfl, .inr ⟨vs, hs, rfl⟩, by rw [DpAll.length hds]; exact q H2 e2⟩
def spLHolds : Sp := fun vs H Q _ => ∃ p t, vs = [.ref p] ∧ SrcAt H p t ∧ t < 80000 ∧ ∀ t' H', t ≤ t' → t' ≤ t + 20 → But p H H' → SrcAt H' p t' → Q (.bl true) H'
end PySem.Fl
end
section
set_option Elab.async false
set_option autoImplicit false
set_option linter.all false
set_option maxRecDepth 100000
set_option maxHeartbeats 4000000
namespace K45
open PySem PySem.Spec PyProof.Rows L2 PySem.OxE LawC PySem.Fl

section
variable {P : Program} {w : World} {K : PySem.W.Frag} {mg : Str → Option Value} {base : Heap} {A0 : Ad}
theorem nowD_dep {W : Wk} (h : W.st.spot.events = []) : dep (nowD W) ≤ 3 := by
  have hi : ∀ ns : List Int, depAll (ns.map PyData.int) = 0 := fun ns => by
    induction ns with
    | nil => rfl
    | cons n ns ih => rw [List.map_cons]; unfold depAll; rw [ih]; rfl
  have hr : ∀ rs : List (Nat × Int), depAll (rs.map fun p => PyData.tuple [.int p.1, .int p.2]) ≤ 1 := fun rs => by
    induction rs with
    | nil => exact Nat.zero_le _
    | cons n ns ih => rw [List.map_cons]; unfold depAll; exact Nat.max_le.mpr ⟨by simp [dep, depAll], ih⟩
  have e1 : dep (spotD W.st.spot) = 2 := by
    unfold spotD evsD
    rw [h]
    unfold dep depAll depAll depAll depAll dep
    rw [hi]
    rfl
  have e2 : dep (rndD W.st.rounds) ≤ 2 := by
    unfold rndD dep
    have := hr W.st.rounds
    omega
  simp only [nowD, dep, depAll]
  rw [e1]
  omega
theorem nowD_ok {W : Wk} (h : W.st.spot.events = []) (h1 : W.st.spot.tries.length ≤ 100) (h2 : W.st.rounds.length ≤ 100) : okD (nowD W) = true := by
  have hi : ∀ ns : List Int, okDAll (ns.map PyData.int) = true := fun ns => by
    induction ns with
    | nil => rfl
    | cons n ns ih => rw [List.map_cons]; unfold okDAll; rw [ih]; rfl
  have hr : ∀ rs : List (Nat × Int), okDAll (rs.map fun p => PyData.tuple [.int p.1, .int p.2]) = true := fun rs => by
    induction rs with
    | nil => rfl
    | cons n ns ih => rw [List.map_cons]; unfold okDAll; rw [ih]; rfl
  have e0 : okD (.tuple (W.st.spot.tries.map .int)) = true := by
    unfold okD
    rw [hi, List.length_map]
    simp; omega
  have e1 : okD (spotD W.st.spot) = true := by
    unfold spotD evsD
    rw [h]
    unfold okD okDAll okDAll okDAll okDAll
    rw [e0]
    rfl
  have e2 : okD (rndD W.st.rounds) = true := by
    unfold rndD okD
    rw [hr, List.length_map]
    simp; omega
  unfold nowD
  unfold okD okDAll okDAll okDAll okDAll okDAll
  rw [e1, e2]
  rfl
theorem evd_now {H : Hp} {σ : L2.St} {y dl tr : Addr} {W : Wk} {i : Nat} (hv : σ[i]? = some (some (.ref y))) (hW : WAt K A0.c_Function A0.c_Walk H y W dl tr) (hz : W.st.spot.events.length < 1000) : EvD K (tTup (tCons (tProp A0.c_Walk (spWD K A0.c_Function A0.c_Walk fun W => spotD W.st.spot) [] E0 (tVar i)) (tCons (tProp A0.c_Walk (spWD K A0.c_Function A0.c_Walk fun W => .int W.st.asked) [] E0 (tVar i)) (tCons (tProp A0.c_Walk (spWD K A0.c_Function A0.c_Walk fun W => .int W.st.taken) [] E0 (tVar i)) (tCons (tMeth A0.c_Walk "done" (spWD K A0.c_Function A0.c_Walk fun W => rndD W.st.rounds) [] E0 (tVar i) tNil) tNil))))) σ H (nowD W) :=
  evd_tup (evds_cons (evd_wprop (Evl.ev_var hv) hW hz) (evds_cons (evd_wprop (Evl.ev_var hv) hW hz) (evds_cons (evd_wprop (Evl.ev_var hv) hW hz) (evds_cons (evd_wmeth (Evl.ev_var hv) hW hz (fun _ _ _ _ _ => rfl)) evds_nil)))) (by simp)
theorem ok_lstays (T : Txt P K mg A0) : FnOk P w K mg base CX0 6 A0.f_stays A0.fd_stays ["_law_walk", "_law_before", "_law_mark_here", "_law_owed", "_law_fault_here"] (spLStays K A0.c_Function A0.c_Walk) := by
  have G_same : FnOk P w K mg base CX0 4 A0.f_same A0.fd_same ["_law_actual", "_law_due_here"] (spSame K 3) := ok_same T 3
  have G_Walk_spot : FnOk P w K mg base CX0 1 A0.f_Walk_spot A0.fd_Walk_spot ["self"] (spWD K A0.c_Function A0.c_Walk fun W => spotD W.st.spot) := ok_Walk_spot T
  have G_Walk_mark : FnOk P w K mg base CX0 1 A0.f_Walk_mark A0.fd_Walk_mark ["self"] (spWD K A0.c_Function A0.c_Walk fun W => .str W.st.mark) := ok_Walk_mark T
  have G_Walk_owed : FnOk P w K mg base CX0 1 A0.f_Walk_owed A0.fd_Walk_owed ["self"] (spWD K A0.c_Function A0.c_Walk fun W => .int W.st.owed) := ok_Walk_owed T
  have G_Walk_asked : FnOk P w K mg base CX0 1 A0.f_Walk_asked A0.fd_Walk_asked ["self"] (spWD K A0.c_Function A0.c_Walk fun W => .int W.st.asked) := ok_Walk_asked T
  have G_Walk_taken : FnOk P w K mg base CX0 1 A0.f_Walk_taken A0.fd_Walk_taken ["self"] (spWD K A0.c_Function A0.c_Walk fun W => .int W.st.taken) := ok_Walk_taken T
  have G_Walk_way : FnOk P w K mg base CX0 2 A0.f_Walk_way A0.fd_Walk_way ["self"] (spWD K A0.c_Function A0.c_Walk fun W => wayD W.way) := ok_Walk_way T
  have G_Walk_is_over : FnOk P w K mg base CX0 1 A0.f_Walk_is_over A0.fd_Walk_is_over ["self"] (spWD K A0.c_Function A0.c_Walk fun W => .bool W.over) := ok_Walk_is_over T
  have G_Walk_report : FnOk P w K mg base CX0 2 A0.f_Walk_report A0.fd_Walk_report ["self"] (spWD K A0.c_Function A0.c_Walk repD) := ok_Walk_report T
  have G_Walk_done : FnOk P w K mg base CX0 1 A0.f_Walk_done A0.fd_Walk_done ["self"] (spWD K A0.c_Function A0.c_Walk fun W => rndD W.st.rounds) := ok_Walk_done T
  have G_Walk_choices : FnOk P w K mg base CX0 4 A0.f_Walk_choices A0.fd_Walk_choices ["self"] (spWChoices K A0.c_Function A0.c_Walk) := ok_Walk_choices T
  refine T.F_stays.ok sc_stays (fun vs H Q E h => ?_) (fun cdv A outer s H vs Q E hr h => ?_)
  · obtain ⟨x, b, y, W, dl, tr, u, rfl, _⟩ := h
    rfl
  · obtain ⟨x, b, y, W, dl, tr, u, rfl, hW, hev, hts, hrs, hfu, hrow, hb, k⟩ := h
    refine ⟨_, (pss_cons (ps_if (PW.pt (pw_or (pt_not (pt_val (pe_call G_same (hr.mono (by decide)) rfl T.m_same T.F_same.kp T.b_same .nil pass0 (pa_cons (pe_fld (pv 0) rfl) (pa_cons (pv 4) pa_nil))))) (pw_or (pt_cmpR op_isntB (pe_prop (pv 0) T.wc.cl T.P_over G_Walk_is_over (hr.mono (by decide)) T.b_Walk_is_over .nil pass0 rfl) pe_bl (nomark _)) (pw_or1 (pt_cmpR op_notN (pe_prop (pv 0) T.wc.cl T.P_way G_Walk_way (hr.mono (by decide)) T.b_Walk_way .nil pass0 rfl) pe_non (nomark _))))))
 (pss_one (ps_ret pe_bl))
 pss_nil)
 (pss_cons (ps_if (PW.pt (pw_or (pt_not (pt_val (pe_call G_same (hr.mono (by decide)) rfl T.m_same T.F_same.kp T.b_same .nil pass0 (pa_cons (pe_prop (pv 0) T.wc.cl T.P_mark G_Walk_mark (hr.mono (by decide)) T.b_Walk_mark .nil pass0 rfl) (pa_cons (pv 2) pa_nil))))) (pw_or (pt_not (pt_val (pe_call G_same (hr.mono (by decide)) rfl T.m_same T.F_same.kp T.b_same .nil pass0 (pa_cons (pe_prop (pv 0) T.wc.cl T.P_owed G_Walk_owed (hr.mono (by decide)) T.b_Walk_owed .nil pass0 rfl) (pa_cons (pv 3) pa_nil))))) (pw_or1 (pt_cmpR op_notN (pe_prop (pv 0) T.wc.cl T.P_report G_Walk_report (hr.mono (by decide)) T.b_Walk_report .nil pass0 rfl) pe_non (nomark _))))))
 (pss_one (ps_ret pe_bl))
 pss_nil)
 (pss_cons (ps_set (i := 5) sc_stays.nd rfl (Or.inl rfl) (pe_tup (pa_cons (pe_prop (pv 0) T.wc.cl T.P_spot G_Walk_spot (hr.mono (by decide)) T.b_Walk_spot .nil pass0 rfl) (pa_cons (pe_prop (pv 0) T.wc.cl T.P_asked G_Walk_asked (hr.mono (by decide)) T.b_Walk_asked .nil pass0 rfl) (pa_cons (pe_prop (pv 0) T.wc.cl T.P_taken G_Walk_taken (hr.mono (by decide)) T.b_Walk_taken .nil pass0 rfl) (pa_cons (pe_meth0 (pv 0) T.wc.cl T.M_Walk_done G_Walk_done (hr.mono (by decide)) T.b_Walk_done .nil pass0) pa_nil))))))
 (pss_one (ps_ret (pe_and (pe_call G_same (hr.mono (by decide)) rfl T.m_same T.F_same.kp T.b_same .nil pass0 (pa_cons (pv 5) (pa_cons (pv 1) pa_nil))) (pe_one (pe_call G_same (hr.mono (by decide)) rfl T.m_same T.F_same.kp T.b_same .nil pass0 (pa_cons (pe_meth0 (pv 0) T.wc.cl T.M_Walk_choices G_Walk_choices (hr.mono (by decide)) T.b_Walk_choices .nil pass0) (pa_cons (pe_lst pa_nil) pa_nil)))))))))), ?_⟩
    have C := T.wc
    have hz : W.st.spot.events.length < 1000 := by rw [hev]; decide
    have hway : W.way = none := by
      unfold Wk.way Fn.wayOf
      rw [if_pos hrow]
    have hover : W.over = true := by unfold Wk.over; rw [hfu]; rfl
    have hch : W.choices = some [] := by unfold Wk.choices; rw [if_pos hover]
    have hrep : repD W = .none := by unfold repD; rw [hway]
    refine Evl.q_when (b := false) (Evl.et_or (a := false) (b := false) (et_nsame (d := .str u) (evd_of (Evl.ev_is (ev_wfault C (Evl.ev_var rfl) hW) (by rw [hfu]; rfl)) (.str u)) (evd_var rfl (.str u))) fun _ => Evl.et_or (a := false) (b := false) (Evl.et_test (Evl.ev_op (x := .bl true) (y := .bl true) (Evl.ev_is (ev_dBool (evd_wprop (Evl.ev_var rfl) hW hz)) (by rw [hover])) Evl.ev_c fun H1 e1 Q1 q1 => ⟨true, true, rfl, rfl, q1 H1 (Same.refl _)⟩)) fun _ => Evl.et_is (Evl.et_test (ev_notN (v := .non) (ev_dNone (fun H1 e1 Q1 q1 => evd_wprop (d := fun W => wayD W.way) (Evl.ev_var rfl) hW hz H1 e1 Q1 fun v H2 e2 hv => q1 v H2 e2 (by rw [hway] at hv; exact hv))))) rfl) (fun z => by cases z) (fun _ H1 e1 => ?_)
    have hW1 := hW.same e1
    refine Evl.q_when (b := false) (Evl.et_or (a := false) (b := false) (et_nsame (d := .str W.st.mark) (evd_wprop (Evl.ev_var rfl) hW1 hz) (evd_var rfl (.str _))) fun _ => Evl.et_or (a := false) (b := false) (et_nsame (d := .int W.st.owed) (evd_wprop (Evl.ev_var rfl) hW1 hz) (evd_var rfl (.int _))) fun _ => Evl.et_is (Evl.et_test (ev_notN (v := .non) (ev_dNone (fun H2 e2 Q1 q1 => evd_wprop (d := repD) (Evl.ev_var rfl) hW1 hz H2 e2 Q1 fun v H3 e3 hv => q1 v H3 e3 (by rw [hrep] at hv; exact hv))))) rfl) (fun z => by cases z) (fun _ H2 e2 => ?_)
    have s2 := Same.trans e1 e2
    have hW2 := hW.same s2
    refine q_asgD (evd_now (i := 0) rfl hW2 hz) fun v H3 e3 hv => ?_
    have s3 := Same.trans s2 e3
    exact Evl.s_ret (v := .bl true) (Evl.ev_andV (a := true) (b := true) (ev_same (d := nowD W) (evd_var rfl hv) (evd_var rfl (hb.mono s3)) (nowD_dep hev) (nowD_ok hev hts hrs)) fun _ => ev_same (d := .list []) (evd_L (us := []) (el_choices (Evl.ev_var rfl) (hW.same s3) hz hch)) (evd_lst evds_nil (by simp)) (by show 1 ≤ 3; decide) (by rfl)) fun H4 e4 => k H4 (Same.trans s3 e4)
end

end K45
end
section
set_option Elab.async false
set_option autoImplicit false
set_option linter.all false
set_option maxRecDepth 100000
set_option maxHeartbeats 4000000
namespace K45
open PySem PySem.Spec PyProof.Rows L2 PySem.OxE LawC PySem.Fl

section
variable {P : Program} {w : World} {K : PySem.W.Frag} {mg : Str → Option Value} {base : Heap} {A0 : Ad}
theorem ok_lholds (T : Txt P K mg A0) (hne : A0.c_Walk ≠ A0.c_Function) (hPL : ∀ (m : Str) (n : Nat) (b : Bool) (c k : Nat) (u : Str), m ∈ marks5 → n ≤ 6 → (m = "in" ∨ m = "both" → 1 ≤ n) → c ≤ 5 → k < 4 → u ∈ words11 → PlainOK m n b c k u) : FnOk P w K mg base CX0 9 A0.f_holds A0.fd_holds ["_law_source_here"] spLHolds := by
  have G_draw : FnOk P w K mg base CX0 1 A0.f_draw A0.fd_draw ["_law_source_here", "_law_many"] spDraw := ok_draw T
  have G_of : FnOk P w K mg base CX0 2 A0.f_of A0.fd_of ["_law_source_here", "_law_some"] (spOf K) := ok_of T
  have G_same : FnOk P w K mg base CX0 4 A0.f_same A0.fd_same ["_law_actual", "_law_due_here"] (spSame K 3) := ok_same T 3
  have G_prefix : FnOk P w K mg base CX0 3 A0.f_prefix A0.fd_prefix ["_law_source_here"] spLPrefix := ok_lprefix T
  have G_wrapped : FnOk P w K mg base CX0 2 A0.f_wrapped A0.fd_wrapped ["_law_source_here", "_law_word"] spLWrapped := ok_lwrapped T
  have G_due : FnOk P w K mg base CX0 2 A0.f_due A0.fd_due ["_law_word", "_law_mark_here", "_law_owed"] spLDue := ok_ldue T
  have G_after : FnOk P w K mg base CX0 2 A0.f_after A0.fd_after ["_law_word", "_law_mark_here", "_law_owed"] spLAfter := ok_lafter T
  have G_stays : FnOk P w K mg base CX0 6 A0.f_stays A0.fd_stays ["_law_walk", "_law_before", "_law_mark_here", "_law_owed", "_law_fault_here"] (spLStays K A0.c_Function A0.c_Walk) := ok_lstays T
  have G_Function_init : FnOk P w K mg base CX0 6 A0.f_Function_init A0.fd_Function_init ["self", "text"] (spFInit K A0.c_Function) := ok_Function_init T
  have G_Walk_init : FnOk P w K mg base CX0 6 A0.f_Walk_init A0.fd_Walk_init ["self", "function", "lengths"] (spWInit K A0.c_Function A0.c_Walk) := ok_Walk_init T hne
  have G_Walk_step : FnOk P w K mg base CX0 6 A0.f_Walk_step A0.fd_Walk_step ["self", "move"] (spWStep K A0.c_Function A0.c_Walk) := ok_Walk_step T hne
  have G_Walk_spot : FnOk P w K mg base CX0 1 A0.f_Walk_spot A0.fd_Walk_spot ["self"] (spWD K A0.c_Function A0.c_Walk fun W => spotD W.st.spot) := ok_Walk_spot T
  have G_Walk_mark : FnOk P w K mg base CX0 1 A0.f_Walk_mark A0.fd_Walk_mark ["self"] (spWD K A0.c_Function A0.c_Walk fun W => .str W.st.mark) := ok_Walk_mark T
  have G_Walk_owed : FnOk P w K mg base CX0 1 A0.f_Walk_owed A0.fd_Walk_owed ["self"] (spWD K A0.c_Function A0.c_Walk fun W => .int W.st.owed) := ok_Walk_owed T
  have G_Walk_asked : FnOk P w K mg base CX0 1 A0.f_Walk_asked A0.fd_Walk_asked ["self"] (spWD K A0.c_Function A0.c_Walk fun W => .int W.st.asked) := ok_Walk_asked T
  have G_Walk_taken : FnOk P w K mg base CX0 1 A0.f_Walk_taken A0.fd_Walk_taken ["self"] (spWD K A0.c_Function A0.c_Walk fun W => .int W.st.taken) := ok_Walk_taken T
  have G_Walk_steps : FnOk P w K mg base CX0 1 A0.f_Walk_steps A0.fd_Walk_steps ["self"] (spWD K A0.c_Function A0.c_Walk fun W => .tuple (trD W.trail)) := ok_Walk_steps T
  have G_Walk_is_over : FnOk P w K mg base CX0 1 A0.f_Walk_is_over A0.fd_Walk_is_over ["self"] (spWD K A0.c_Function A0.c_Walk fun W => .bool W.over) := ok_Walk_is_over T
  have G_Walk_done : FnOk P w K mg base CX0 1 A0.f_Walk_done A0.fd_Walk_done ["self"] (spWD K A0.c_Function A0.c_Walk fun W => rndD W.st.rounds) := ok_Walk_done T
  have G_Walk_choices : FnOk P w K mg base CX0 4 A0.f_Walk_choices A0.fd_Walk_choices ["self"] (spWChoices K A0.c_Function A0.c_Walk) := ok_Walk_choices T
  refine T.F_holds.ok sc_holds (fun vs H Q E h => ?_) (fun cdv A outer s H vs Q E hr h => ?_)
  · obtain ⟨p, t, rfl, _⟩ := h
    rfl
  · obtain ⟨p, t, rfl, hS, ht, k⟩ := h
    refine ⟨_, (pss_cons (ps_asg (pe_call G_prefix (hr.mono (by decide)) rfl T.m_prefix T.F_prefix.kp T.b_prefix .nil pass0 (pa_cons (pv 0) pa_nil)) (pg_tup rfl (pgs_cons (pg_name (i := 1) sc_holds.nd rfl (Or.inl rfl)) (pgs_cons (pg_name (i := 2) sc_holds.nd rfl (Or.inl rfl)) (pgs_cons (pg_name (i := 3) sc_holds.nd rfl (Or.inl rfl)) pgs_nil)))))
 (pss_cons (ps_set (i := 4) sc_holds.nd rfl (Or.inl rfl) (pe_call G_of (hr.mono (by decide)) rfl T.m_of T.F_of.kp T.b_of .nil pass0 (pa_cons (pv 0) (pa_cons (pe_lst (pa_cons pe_str (pa_cons pe_str (pa_cons pe_str (pa_cons pe_str (pa_cons pe_str (pa_cons pe_str (pa_cons pe_str pa_nil)))))))) pa_nil))))
 (Evl.pss_cut (ps_if (pt_cmpR op_eq (pe_call G_draw (hr.mono (by decide)) rfl T.m_draw T.F_draw.kp T.b_draw .nil pass0 (pa_cons (pv 0) (pa_cons pe_int pa_nil))) pe_int (nomark _))
 (pss_one (ps_set (i := 4) sc_holds.nd rfl (Or.inl rfl) (pe_call G_of (hr.mono (by decide)) rfl T.m_of T.F_of.kp T.b_of .nil pass0 (pa_cons (pv 0) (pa_cons (pe_lst (pa_cons pe_str (pa_cons pe_str (pa_cons pe_str (pa_cons pe_str pa_nil))))) pa_nil)))))
 pss_nil)
 (pss_cons (ps_par (i := 5) (j := 6) (by rfl) sc_holds.nd rfl rfl (by decide) rfl rfl (pa_cons (pe_op op_mul (pe_call G_draw (hr.mono (by decide)) rfl T.m_draw T.F_draw.kp T.b_draw .nil pass0 (pa_cons (pv 0) (pa_cons pe_int pa_nil))) pe_int) (pa_cons (pe_call G_draw (hr.mono (by decide)) rfl T.m_draw T.F_draw.kp T.b_draw .nil pass0 (pa_cons (pv 0) (pa_cons pe_int pa_nil))) pa_nil)) (by rfl))
 (pss_cons (ps_asg (pe_call G_wrapped (hr.mono (by decide)) rfl T.m_wrapped T.F_wrapped.kp T.b_wrapped .nil pass0 (pa_cons (pv 0) (pa_cons (pv 4) pa_nil))) (pg_tup rfl (pgs_cons (pg_name (i := 7) sc_holds.nd rfl (Or.inl rfl)) (pgs_cons (pg_name (i := 8) sc_holds.nd rfl (Or.inl rfl)) pgs_nil))))
 (pss_cons (ps_set (i := 9) sc_holds.nd rfl (Or.inl rfl) (pe_op op_cat (pe_op op_cat (pe_op op_cat (pv 1) (pe_op op_rep (pe_lst (pa_cons pe_str (pa_cons pe_str (pa_cons pe_str pa_nil)))) (pe_op op_fdivW (pv 5) pe_int))) (pv 7)) (pe_lst (pa_cons pe_str pa_nil))))
 (pss_cons (ps_set (i := 10) sc_holds.nd rfl (Or.inl rfl) (pe_make T.Mk_Walk G_Walk_init (hr.mono (by decide)) rfl T.m_Walk T.b_Walk_init .nil pass0 (pa_cons (pe_make T.Mk_Function G_Function_init (hr.mono (by decide)) rfl T.m_Function T.b_Function_init .nil pass0 (pa_cons (pe_join pe_str (pv 9)) pa_nil)) (pa_cons (pe_disp (pps_cons pe_str (pv 6) pps_nil) rfl rfl (by simp) (by decide)) pa_nil))))
 (pss_cons (ps_set (i := 11) sc_holds.nd rfl (Or.inl rfl) (pe_op op_add (pe_op op_add (pe_callB call_len (by rfl) T.z_len PySem.boot_len (pa_cons (pv 1) pa_nil)) (pv 5)) (pv 8)))
 (Evl.pss_cut (ps_for PassesOwn.never rfl (pi_range1 rfl T.z_range (pa_cons pe_int pa_nil)) (pg_name (i := 12) sc_holds.nd rfl (Or.inl rfl))
 (pss_one (ps_if (PW.pt (pw_and (pt_cmpR op_ne (pe_ix ix_tup (pe_prop (pv 10) T.wc.cl T.P_spot G_Walk_spot (hr.mono (by decide)) T.b_Walk_spot .nil pass0 rfl) pe_int (fun _ _ => rfl)) (pv 11) (nomark _)) (pw_and1 (pt_not (pt_val (pe_prop (pv 10) T.wc.cl T.P_over G_Walk_is_over (hr.mono (by decide)) T.b_Walk_is_over .nil pass0 rfl))))))
 (pss_one (ps_expr (pe_meth (pv 10) T.wc.cl T.M_Walk_step G_Walk_step (hr.mono (by decide)) T.b_Walk_step .nil pass0 (pa_cons (pe_ix ix_list (pe_meth0 (pv 10) T.wc.cl T.M_Walk_choices G_Walk_choices (hr.mono (by decide)) T.b_Walk_choices .nil pass0) (pe_un un_neg pe_int) (fun _ _ => rfl)) pa_nil))))
 pss_nil)))
 (pss_cons (ps_if (PW.pt (pw_or (pt_val (pe_prop (pv 10) T.wc.cl T.P_over G_Walk_is_over (hr.mono (by decide)) T.b_Walk_is_over .nil pass0 rfl)) (pw_or (pt_not (pt_val (pe_call G_same (hr.mono (by decide)) rfl T.m_same T.F_same.kp T.b_same .nil pass0 (pa_cons (pe_prop (pv 10) T.wc.cl T.P_mark G_Walk_mark (hr.mono (by decide)) T.b_Walk_mark .nil pass0 rfl) (pa_cons (pv 2) pa_nil))))) (pw_or1 (pt_not (pt_val (pe_call G_same (hr.mono (by decide)) rfl T.m_same T.F_same.kp T.b_same .nil pass0 (pa_cons (pe_prop (pv 10) T.wc.cl T.P_owed G_Walk_owed (hr.mono (by decide)) T.b_Walk_owed .nil pass0 rfl) (pa_cons (pv 3) pa_nil)))))))))
 (pss_one (ps_ret pe_bl))
 pss_nil)
 (pss_cons (ps_set (i := 13) sc_holds.nd rfl (Or.inl rfl) (pe_tup (pa_cons (pe_prop (pv 10) T.wc.cl T.P_spot G_Walk_spot (hr.mono (by decide)) T.b_Walk_spot .nil pass0 rfl) (pa_cons (pe_prop (pv 10) T.wc.cl T.P_asked G_Walk_asked (hr.mono (by decide)) T.b_Walk_asked .nil pass0 rfl) (pa_cons (pe_prop (pv 10) T.wc.cl T.P_taken G_Walk_taken (hr.mono (by decide)) T.b_Walk_taken .nil pass0 rfl) (pa_cons (pe_meth0 (pv 10) T.wc.cl T.M_Walk_done G_Walk_done (hr.mono (by decide)) T.b_Walk_done .nil pass0) pa_nil))))))
 (pss_cons (ps_set (i := 14) sc_holds.nd rfl (Or.inl rfl) (pe_call G_due (hr.mono (by decide)) rfl T.m_due T.F_due.kp T.b_due .nil pass0 (pa_cons (pv 4) (pa_cons (pv 2) (pa_cons (pv 3) pa_nil)))))
 (pss_cons (ps_if (pt_not (pt_val (pe_call G_same (hr.mono (by decide)) rfl T.m_same T.F_same.kp T.b_same .nil pass0 (pa_cons (pe_meth (pv 10) T.wc.cl T.M_Walk_step G_Walk_step (hr.mono (by decide)) T.b_Walk_step .nil pass0 (pa_cons pe_str pa_nil)) (pa_cons (pe_cmpR op_isN (pv 14) pe_non (nomark _)) pa_nil)))))
 (pss_one (ps_ret pe_bl))
 pss_nil)
 (pss_cons (ps_if (pt_cmpR op_notN (pv 14) pe_non (nomark _))
 (pss_cons (ps_set (i := 15) sc_holds.nd rfl (Or.inl rfl) (pe_op op_add (pe_op op_add (pe_callB call_len (by rfl) T.z_len PySem.boot_len (pa_cons (pv 1) pa_nil)) (pe_op op_mul_bi (pe_cmpR op_gt (pv 5) pe_int (nomark _)) (pe_op op_add pe_int (pe_op op_mul pe_int (pv 6))))) pe_int))
 (pss_one (ps_ret (pe_and (pe_call G_stays (hr.mono (by decide)) rfl T.m_stays T.F_stays.kp T.b_stays .nil pass0 (pa_cons (pv 10) (pa_cons (pv 13) (pa_cons (pv 2) (pa_cons (pv 3) (pa_cons (pv 14) pa_nil)))))) (pe_one (pe_call G_same (hr.mono (by decide)) rfl T.m_same T.F_same.kp T.b_same .nil pass0 (pa_cons (pe_callB call_len (by rfl) T.z_len PySem.boot_len (pa_cons (pe_prop (pv 10) T.wc.cl T.P_steps G_Walk_steps (hr.mono (by decide)) T.b_Walk_steps .nil pass0 rfl) pa_nil)) (pa_cons (pv 15) pa_nil))))))))
 pss_nil)
 (pss_cons (ps_set (i := 16) sc_holds.nd rfl (Or.inl rfl) (pe_call G_after (hr.mono (by decide)) rfl T.m_after T.F_after.kp T.b_after .nil pass0 (pa_cons (pv 4) (pa_cons (pv 2) (pa_cons (pv 3) pa_nil)))))
 (pss_one (ps_ret (pe_and (pe_cmpR op_isN (pe_fld (pv 10) rfl) pe_non (nomark _)) (pe_and (pe_call G_same (hr.mono (by decide)) rfl T.m_same T.F_same.kp T.b_same .nil pass0 (pa_cons (pe_tup (pa_cons (pe_prop (pv 10) T.wc.cl T.P_mark G_Walk_mark (hr.mono (by decide)) T.b_Walk_mark .nil pass0 rfl) (pa_cons (pe_prop (pv 10) T.wc.cl T.P_owed G_Walk_owed (hr.mono (by decide)) T.b_Walk_owed .nil pass0 rfl) pa_nil))) (pa_cons (pv 16) pa_nil))) (pe_one (pe_call G_same (hr.mono (by decide)) rfl T.m_same T.F_same.kp T.b_same .nil pass0 (pa_cons (pe_prop (pv 10) T.wc.cl T.P_over G_Walk_is_over (hr.mono (by decide)) T.b_Walk_is_over .nil pass0 rfl) (pa_cons pe_bl pa_nil))))))))))))))))))))))), ?_⟩
    have C := T.wc
    refine ⟨_, rfl, p, t, rfl, hS, by omega, fun q l m n t1 H1 hm hn hn1 h1 h2 b1 S1 nq nl hq hl => ⟨q, _, rfl, SqT.of hq, rfl, _, _, rfl, _, _, rfl, _, _, rfl, rfl, ?_⟩⟩
    have how : 0 ≤ owedOf m n := by unfold owedOf; split <;> omega
    -- the word
    refine ⟨_, rfl, by show 7 ≤ sizeLine; decide, fun l7 hl7 => ⟨p, l7, t1, _, rfl, S1.new hl7, by omega, upd_same, by show 0 < 7; decide, by show 7 < 1000; decide, SrcAt.ne S1 hl7, fun v t2 H2 hv h3 h4 b2 S2 => ?_⟩⟩
    obtain ⟨u0, rfl, hu0⟩ : ∃ u : Str, v = .str u ∧ u ∈ words11 := by
      simp only [List.mem_cons, List.not_mem_nil, or_false] at hv
      rcases hv with rfl | rfl | rfl | rfl | rfl | rfl | rfl <;> exact ⟨_, rfl, by decide⟩
    have B2 : But p H H2 := But.trans b1 (But.trans (But.ofSame (Same.new hl7)) b2)
    have hl2 := b2 l _ nl ((Same.new hl7) _ _ hl)
    refine Evl.q_cut (M := fun σ' H' => ∃ (u : Str) (t' : Int), u ∈ words11 ∧ t2 ≤ t' ∧ t' ≤ t2 + 2 ∧ σ' = [some (.ref p), some (.ref l), some (.str m), some (.int (owedOf m n)), some (.str u), none, none, none, none, none, none, none, none, none, none, none, none] ∧ SrcAt H' p t' ∧ But p H H' ∧ H' l = some (.lst ((preOf m n).map V.str))) ?_ fun σ' H3 hM => ?_
    · refine ⟨_, rfl, p, t2, 5, rfl, S2, by omega, by decide, by decide, fun k5 t3 H3 a0 a1 a2 a3 b3 S3 => ⟨rfl, _, rfl, ?_⟩⟩
      have B3 : But p H H3 := But.trans B2 b3
      have hl3 := b3 l _ nl hl2
      refine ite2 (fun _ => ?_) (fun _ => ?_)
      · refine ⟨_, rfl, by show 4 ≤ sizeLine; decide, fun l4 hl4 => ⟨p, l4, t3, _, rfl, S3.new hl4, by omega, upd_same, by show 0 < 4; decide, by show 4 < 1000; decide, SrcAt.ne S3 hl4, fun v t4 H4 hv c1 c2 b4 S4 => ?_⟩⟩
        obtain ⟨u1, rfl, hu1⟩ : ∃ u : Str, v = .str u ∧ u ∈ words11 := by
          simp only [List.mem_cons, List.not_mem_nil, or_false] at hv
          rcases hv with rfl | rfl | rfl | rfl <;> exact ⟨_, rfl, by decide⟩
        exact ⟨u1, t4, hu1, by omega, by omega, rfl, S4, But.trans B3 (But.trans (But.ofSame (Same.new hl4)) b4), b4 l _ nl ((Same.new hl4) _ _ hl3)⟩
      · exact ⟨u0, t3, hu0, by omega, by omega, rfl, S3, B3, hl3⟩
    obtain ⟨u, t3, hu, d1, d2, rfl, S3, B3, hl3⟩ := hM
    -- the loop
    refine ⟨_, rfl, p, t3, 2, rfl, S3, by omega, by decide, by decide, fun k2 t4 H4 a0 a1 a2 a3 b4 S4 => ⟨_, _, rfl, rfl, .inl ⟨by omega, by omega⟩, _, rfl, p, t4, 6, rfl, S4, by omega, by decide, by decide, fun k6 t5 H5 c0 c1 c2 c3 b5 S5 => ⟨_, _, rfl, ?_⟩⟩⟩
    have B5 : But p H H5 := But.trans (But.trans B3 b4) b5
    have hl5 := b5 l _ nl (b4 l _ nl hl3)
    obtain ⟨b, hb⟩ : ∃ b : Bool, k2 * 3 = if b then 3 else 0 := by
      have : k2 = 0 ∨ k2 = 1 := by omega
      rcases this with rfl | rfl
      · exact ⟨false, rfl⟩
      · exact ⟨true, rfl⟩
    obtain ⟨c, rfl, hc5⟩ : ∃ c : Nat, k6 = (c : Int) ∧ c ≤ 5 := ⟨k6.toNat, by omega, by omega⟩
    dsimp only
    rw [hb]
    -- the row, wrapped
    refine ⟨_, rfl, _, rfl, p, t5, u, rfl, S5, by omega, fun q2 l2 kd t6 H6 hk e1 e2 b6 S6 nq2 nl2 hq2 hl6' => ⟨q2, _, rfl, SqT.of hq2, rfl, _, _, rfl, _, _, rfl, rfl, ?_⟩⟩
    have B6 : But p H H6 := But.trans B5 b6
    have hl6 := b6 l _ nl hl5
    obtain ⟨R, W0, W, W2, hread, hstk, hnam, hstart, hrun, hcalm, hover, hrow, hat, hmk, how2, htr, hstep, hdue1, hdue2⟩ := hPL m n b c kd u hm hn hn1 hc5 hk hu
    have hrows := rows_len m n b kd u hn
    obtain ⟨hir, _⟩ := read_rows hread
    have hpl := pre_len m n hn
    -- the text
    have hbl : (bodyOf kd u).length ≤ 6 := by
      rw [← body_text, List.length_map]
      unfold rowsOf at hrows
      have : (bodyR kd u).length ≤ 6 := by
        have h2 : (innerR u).length ≤ 2 := by unfold innerR; split <;> simp
        unfold bodyR
        split
        · omega
        · split
          · simp; omega
          · split
            · simp; omega
            · simp; omega
      exact this
    refine Evl.q_asgL (xs := ((rowsOf m n b kd u).map rowT).map V.str) (Evl.el_is (el_catLL (xs := (preOf m n).map V.str ++ (List.replicate (if b then 1 else 0) [V.str "each ab", V.str "pause", V.str "end"]).flatten ++ (bodyOf kd u).map V.str) (ys := [V.str "check"]) (el_catN (xs := (preOf m n).map V.str ++ (List.replicate (if b then 1 else 0) [V.str "each ab", V.str "pause", V.str "end"]).flatten) (el_catRL (Evl.ev_var rfl) hl6 (el_rep (xs := [V.str "each ab", V.str "pause", V.str "end"]) (n := if b then 1 else 0) (Evl.el_lst (Evl.ea_cons Evl.ev_c (Evl.ea_cons Evl.ev_c (Evl.ea_cons Evl.ev_c Evl.ea_nil))) (by simp)) (Evl.ev_is (Evl.ev_op (Evl.ev_var rfl) Evl.ev_c (Evl.rv_I ⟨by decide, by decide⟩)) (by cases b <;> rfl)) (by cases b <;> simp) (by cases b <;> simp)) (by cases b <;> simp <;> omega)) (Evl.ev_var rfl) hl6' (by cases b <;> simp <;> omega)) (Evl.el_lst (Evl.ea_cons Evl.ev_c Evl.ea_nil) (by simp)) (by cases b <;> simp <;> omega)) ?_) fun lt H7 hlt e7 ht7 => ?_
    · rw [rows_text]
      cases b <;> simp [loopT]
    have S7 := S6.same e7
    have B7 : But p H H7 := But.trans B6 (But.ofSame e7)
    have hl7 := e7 _ _ hl6
    have hsz : (((rowsOf m n b kd u).map rowT).map (·.length)).sum + ((rowsOf m n b kd u).map rowT).length * ("\n" : Str).length ≤ 16777216 := by
      have := rows_join hir
      rw [List.length_map, show ("\n" : Str).length = 1 by decide +kernel]
      omega
    -- the function, the lengths, the walk
    refine ⟨⟨_, rfl⟩, _, rfl, _, lt, (rowsOf m n b kd u).map rowT, rfl, rfl, .inl (SqL.of ht7), hsz, fun fx fdx g1 g2 g3 => ⟨fx, fdx, rowsOf m n b kd u, R, rfl, upd_same, by unfold rowsOf; simp, hrows, hread, hstk, by rw [hnam]; cases b <;> simp [lnamesOf], fun ys H8 hperm hsrt bF hF => ⟨rfl, ?_⟩⟩⟩
    rw [hnam] at hperm
    obtain rfl : ys = lnamesOf b := by
      cases b with
      | false => exact List.perm_nil.mp hperm
      | true => exact List.perm_singleton.mp hperm
    have e8 : Same H7 H8 := fun a o ha => by
      have n1 := ne_of_none ha g1
      refine bF a o n1 ?_
      rw [upd_ne n1, upd_ne (ne_of_none ha g2)]
      exact ha
    refine fun dp hdp => ⟨_, rfl, upd_same, [(.inr "ab", .int (c : Int))], rfl, (by show 1 ≤ 15; decide), ?_⟩
    have e9 : Same H8 (upd (upd H8 dp (.dK [])) dp (.dK (mergeK [] [(.inr "ab", .int (c : Int))]))) := fun a o ha => by
      have n1 := ne_of_none ha hdp
      rw [upd_ne n1, upd_ne n1]
      exact ha
    have hd9 : (upd (upd H8 dp (.dK [])) dp (.dK (mergeK [] [(.inr "ab", .int (c : Int))]))) dp = some (.dK (lenK [("ab", (c : Int))])) := upd_same
    dsimp only
    generalize upd (upd H8 dp (.dK [])) dp (.dK (mergeK [] [(.inr "ab", .int (c : Int))])) = H9 at e9 hd9 ⊢
    refine fun wx wdx g4 g5 g6 => ?_
    have e10 : Same H9 (upd (upd H9 wdx (.own wx)) wx (.ins A0.c_Walk wdx [])) := fun a o ha => by
      have n1 := ne_of_none ha g4
      rw [upd_ne n1, upd_ne (ne_of_none ha g5)]
      exact ha
    refine ⟨wx, fx, dp, wdx, _, _, W0, rfl, upd_same, (hF.same e9).same e10, e10 _ _ hd9, by cases b <;> simp [mkFn, lnamesOf], by cases b <;> simp [mkFn, lnamesOf], hstart, fun dl tr H10 hdl htr2 bW hW => ⟨rfl, ?_⟩⟩
    have e11 : Same H9 H10 := fun a o ha => bW a o (ne_of_none ha g4) (e10 _ _ ha)
    have s10 : Same H7 H10 := Same.trans (Same.trans e8 e9) e11
    have S10 := S7.same s10
    have B10 : But p H H10 := But.trans B7 (But.ofSame s10)
    have hl10 := s10 _ _ hl7
    have npw : p ≠ wx := SrcAt.ne (S7.same (Same.trans e8 e9)) g4
    have hwx0 : H wx = none := but_back (But.trans B7 (But.ofSame (Same.trans e8 e9))) (S7.same (Same.trans e8 e9)) g4
    have htr9 : H9 tr = none := by
      cases hq3 : H9 tr with
      | none => rfl
      | some o => rw [e10 _ _ hq3] at htr2; cases htr2
    have npt : p ≠ tr := SrcAt.ne (S7.same (Same.trans e8 e9)) htr9
    have htr0 : H tr = none := but_back (But.trans B7 (But.ofSame (Same.trans e8 e9))) (S7.same (Same.trans e8 e9)) htr9
    have nlw : l ≠ wx := ne_of_none ((Same.trans e8 e9) _ _ hl7) g4
    have nlt : l ≠ tr := ne_of_none ((Same.trans e8 e9) _ _ hl7) htr9
    -- what a step leaves
    have left : ∀ {Ha Hb : Hp}, But2 wx tr Ha Hb → SrcAt Ha p t6 → But p H Ha → Ha l = some (.lst ((preOf m n).map V.str)) → SrcAt Hb p t6 ∧ But p H Hb ∧ Hb l = some (.lst ((preOf m n).map V.str)) := fun {Ha Hb} bb sa ba la => by
      obtain ⟨⟨d, mm, hp, hrest⟩, ht0⟩ := sa
      exact ⟨⟨⟨d, mm, bb _ _ npw npt hp, hrest⟩, ht0⟩, fun a o ha hb2 => bb a o (ne_of_none hb2 hwx0) (ne_of_none hb2 htr0) (ba a o ha hb2), bb _ _ nlw nlt la⟩
    -- the row
    refine Evl.q_asg (v := .int (rowAt m n b kd : Nat)) (Evl.ev_is (Evl.ev_op (Evl.ev_op (ev_lenL (Evl.ev_var rfl) (SqL.of hl10)) (Evl.ev_var rfl) Evl.rv_I0) (Evl.ev_var rfl) Evl.rv_I0) ?_) fun H11 e12 => ?_
    · rw [List.length_map]
      unfold rowAt skipOf
      by_cases hk0 : kd = 0
      · cases b <;> simp [hk0]
      · cases b <;> simp [hk0]
    have S11 := S10.same e12
    have B11 : But p H H11 := But.trans B10 (But.ofSame e12)
    have hl11 := e12 _ _ hl10
    have hW11 := hW.same e12
    -- the run
    refine Evl.q_cut (M := fun σ' H' => ∃ y12, σ' = [some (.ref p), some (.ref l), some (.str m), some (.int (owedOf m n)), some (.str u), some (.int (if b then 3 else 0)), some (.int c), some (.ref l2), some (.int (skipOf kd)), some (.ref lt), some (.ref wx), some (.int (rowAt m n b kd : Nat)), y12, none, none, none, none] ∧ WAt K A0.c_Function A0.c_Walk H' wx W dl tr ∧ SrcAt H' p t6 ∧ But p H H' ∧ H' l = some (.lst ((preOf m n).map V.str))) ?_ fun σ' H12 hM => ?_
    · refine Evl.s_forR1 (n := 60) (Evl.ea_cons Evl.ev_c Evl.ea_nil) (by decide) (fun i σ' H' => ∃ y12 Wi, σ' = [some (.ref p), some (.ref l), some (.str m), some (.int (owedOf m n)), some (.str u), some (.int (if b then 3 else 0)), some (.int c), some (.ref l2), some (.int (skipOf kd)), some (.ref lt), some (.ref wx), some (.int (rowAt m n b kd : Nat)), y12, none, none, none, none] ∧ WAt K A0.c_Function A0.c_Walk H' wx Wi dl tr ∧ lawRun (60 - i) (rowAt m n b kd) Wi = some W ∧ SrcAt H' p t6 ∧ But p H H' ∧ H' l = some (.lst ((preOf m n).map V.str))) (fun Ha ea => ⟨_, W0, rfl, hW11.same ea, hrun, S11.same ea, But.trans B11 (But.ofSame ea), ea _ _ hl11⟩) (fun i σ' Ha hi hPv => ?_) fun σ' Ha hPv => ?_
      · obtain ⟨y12, Wi, rfl, hWi, hri, Sa, Ba, hla⟩ := hPv
        obtain ⟨k1, hk1⟩ : ∃ k1, 60 - i = k1 + 1 := ⟨60 - i - 1, by omega⟩
        have hk2 : 60 - (i + 1) = k1 := by omega
        rw [hk1] at hri
        unfold lawRun at hri
        by_cases hcl : Calm Wi
        case neg => rw [if_neg hcl] at hri; cases hri
        rw [if_pos hcl] at hri
        obtain ⟨Wj, hj1, hj2⟩ := bb hri
        have hz : Wi.st.spot.events.length < 1000 := by rw [hcl.ev]; decide
        refine Evl.s_when (b := (!decide (Wi.st.spot.row = rowAt m n b kd)) && !Wi.over) (Evl.et_and (Evl.et_test (Evl.ev_is (Evl.ev_op (x := .int (Wi.st.spot.row : Int)) (y := .int (rowAt m n b kd : Nat)) (fun Hb eb Qb qb => evd_wprop (d := fun W => spotD W.st.spot) (Evl.ev_var rfl) hWi hz Hb eb _ fun v Hc ec hv => by
          obtain ⟨pa, tv, ev, rfl, hps, _, _⟩ := spot_part hv
          exact ⟨pa, _, 0, _, rfl, rfl, hps, atI_nat (j := 0) rfl, qb Hc ec⟩) (Evl.ev_var rfl) (Evl.rv_ne rfl)) (by rw [dec_nat]))) fun _ => Evl.et_not (Evl.et_B (ev_dBool (evd_wprop (d := fun W => .bool W.over) (Evl.ev_var rfl) hWi hz)))) (fun hcond Hb eb => ?_) (fun hcond Hb eb => ?_)
        · obtain ⟨c1, c2⟩ := Bool.and_eq_true_iff.mp hcond
          have n1 : Wi.st.spot.row ≠ rowAt m n b kd := by simpa using c1
          have n2 : Wi.over = false := by simpa using c2
          unfold lawTurn at hj1
          rw [if_pos ⟨n1, n2⟩] at hj1
          obtain ⟨cs, hcs, hj1⟩ := bb hj1
          obtain ⟨mv, hmv, hj1⟩ := bb hj1
          have hWb := hWi.same eb
          obtain ⟨dxw, f, st, ts, hox, hrest⟩ := id hWb
          refine ⟨_, rfl, wx, dxw, _, rfl, hox, rfl, ?_⟩
          refine (el_choices (Evl.ev_var rfl) hWb hz hcs) Hb (Same.refl _) _ fun pc Hc hpc ec h3c => ⟨1, rfl, pc, _, _, .str mv, rfl, rfl, SqL.of h3c, atI_last (by rw [List.getLast?_map, hmv]; rfl), wx, mv, Wi, Wj, dl, tr, rfl, hWb.same ec, by rw [hcl.ev]; decide, by have := hcl.rs; omega, by have := hcl.tr; omega, hj1, fun Hd bd hWd => ?_⟩
          obtain ⟨x1, x2, x3⟩ := left bd (Sa.same (Same.trans eb ec)) (But.trans Ba (But.ofSame (Same.trans eb ec))) ((Same.trans eb ec) _ _ hla)
          exact ⟨_, Wj, rfl, hWd, by rw [hk2]; exact hj2, x1, x2, x3⟩
        · have hno : ¬ (Wi.st.spot.row ≠ rowAt m n b kd ∧ Wi.over = false) := fun z => by
            rw [decide_eq_false z.1, z.2] at hcond
            cases hcond
          unfold lawTurn at hj1
          rw [if_neg hno] at hj1
          cases hj1
          exact ⟨_, Wi, rfl, hWi.same eb, by rw [hk2]; exact hj2, Sa.same eb, But.trans Ba (But.ofSame eb), eb _ _ hla⟩
      · obtain ⟨y12, Wi, rfl, hWi, hri, Sa, Ba, hla⟩ := hPv
        have hri2 : lawRun 0 (rowAt m n b kd) Wi = some W := hri
        unfold lawRun at hri2
        cases hri2
        exact ⟨_, rfl, hWi, Sa, Ba, hla⟩
    obtain ⟨y12, rfl, hW12, S12, B12, hl12⟩ := hM
    have hz : W.st.spot.events.length < 1000 := by rw [hcalm.ev]; decide
    refine Evl.q_when (b := false) (Evl.et_or (a := false) (b := false) (Evl.et_is (Evl.et_B (ev_dBool (evd_wprop (d := fun W => .bool W.over) (Evl.ev_var rfl) hW12 hz))) hover) fun _ => Evl.et_or (a := false) (b := false) (et_nsame (d := .str m) (fun Ha ea Qa qa => evd_wprop (d := fun W => .str W.st.mark) (Evl.ev_var rfl) hW12 hz Ha ea Qa fun v Hb eb hv => qa v Hb eb (by rw [← hmk]; exact hv)) (evd_var rfl (.str m))) fun _ => et_nsame (d := .int (owedOf m n)) (fun Ha ea Qa qa => evd_wprop (d := fun W => .int W.st.owed) (Evl.ev_var rfl) hW12 hz Ha ea Qa fun v Hb eb hv => qa v Hb eb (by rw [← how2]; exact hv)) (evd_var rfl (.int _))) (fun z => by cases z) (fun _ H13 e13 => ?_)
    have hW13 := hW12.same e13
    refine q_asgD (evd_now (i := 10) rfl hW13 hz) fun vp H14 e14 hvp => ?_
    refine Evl.q_asg (v := oS (dueOf u m (owedOf m n))) (Evl.ev_call (vs := [.str u, .str m, .int (owedOf m n)]) (Evl.ea_cons (Evl.ev_var rfl) (Evl.ea_cons (Evl.ev_var rfl) (Evl.ea_cons (Evl.ev_var rfl) Evl.ea_nil))) fun Ha ea Qa qa Ea => ⟨u, m, _, rfl, hm, how, qa⟩) fun H15 e15 => ?_
    have s15 := Same.trans e13 (Same.trans e14 e15)
    have hW15 := hW12.same s15
    obtain ⟨dxw, f, st, ts, hox, hrest⟩ := id hW15
    -- the step
    refine ⟨_, rfl, wx, dxw, _, rfl, hox, rfl, wx, "go", W, W2, dl, tr, rfl, hW15, by rw [hcalm.ev]; decide, by have := hcalm.rs; omega, by have := hcalm.tr; omega, hstep, fun H16 b16 hW16 => ⟨_, rfl, rfl, .bl (!W2.over), _, .bool (!W2.over), rfl, .bl _, ?_, Nat.zero_le _, rfl, fun H17 e17 => ⟨true, rfl, ?_⟩⟩⟩
    · have e : decide (oS (dueOf u m (owedOf m n)) = V.non) = !W2.over := by
        cases hd : dueOf u m (owedOf m n) with
        | none => rw [(hdue2 hd).2.2.1]; rfl
        | some v => rw [hdue1 v hd]; rfl
      rw [e]
      exact .bl _
    dsimp only
    rw [if_neg (show ¬ (!true) = true by decide)]
    obtain ⟨S16, B16, hl16⟩ := left b16 (S12.same s15) (But.trans B12 (But.ofSame s15)) (s15 _ _ hl12)
    have S17 := S16.same e17
    have B17 : But p H H17 := But.trans B16 (But.ofSame e17)
    have hl17 := e17 _ _ hl16
    have hW17 := hW16.same e17
    have hvp16 : Dp K H16 vp (nowD W) := Dp.keep (But2.sq b16 hox hrest.2.2.2.1) (hvp.mono e15) (noL_now W)
    cases hd : dueOf u m (owedOf m n) with
    | some v =>
      obtain rfl := hdue1 v hd
      refine Evl.q_when (b := true) (Evl.et_is (Evl.et_test (ev_notN (v := .str v) (Evl.ev_var rfl))) rfl) (fun _ H18 e18 => ?_) (fun z => by cases z)
      refine Evl.q_asg (v := .int ((stepsAt m n b c kd + 1 : Nat) : Int)) (Evl.ev_is (Evl.ev_op (Evl.ev_op (ev_lenL (Evl.ev_var rfl) (SqL.of (e18 _ _ hl17))) (Evl.ev_op (x := .bl b) (z := .int (if b then 1 + 2 * (c : Int) else 0)) (Evl.ev_is (Evl.ev_op (Evl.ev_var rfl) Evl.ev_c Evl.rv_I0) (by cases b <;> rfl)) (Evl.ev_op Evl.ev_c (Evl.ev_op Evl.ev_c (Evl.ev_var rfl) (Evl.rv_I (.inl ⟨by decide, by decide⟩))) Evl.rv_I0) (fun Ha ea Qa qa => ⟨b, _, rfl, rfl, by have := qa Ha (Same.refl _); cases b <;> simpa using this⟩)) Evl.rv_I0) Evl.ev_c Evl.rv_I0) ?_) fun H19 e19 => ?_
      · rw [List.length_map]
        unfold stepsAt
        cases b <;> simp <;> omega
      have s19 := Same.trans e18 e19
      have hW19 := hW17.same s19
      refine Evl.s_ret (v := .bl true) (Evl.ev_andV (a := true) (b := true) (Evl.ev_call (vs := [.ref wx, vp, .str m, .int (owedOf m n), .str v]) (Evl.ea_cons (Evl.ev_var rfl) (Evl.ea_cons (Evl.ev_var rfl) (Evl.ea_cons (Evl.ev_var rfl) (Evl.ea_cons (Evl.ev_var rfl) (Evl.ea_cons (Evl.ev_var rfl) Evl.ea_nil))))) fun Ha ea Qa qa Ea => ⟨.non, vp, wx, _, dl, tr, v, ?_, hW19.same ea, hcalm.ev, hcalm.ts, hcalm.rs, rfl, hrow, (hvp16.mono e17).mono (Same.trans s19 ea), qa⟩) fun _ => ev_same (d := .int ((stepsAt m n b c kd + 1 : Nat) : Int)) (evd_of (Evl.ev_is (ev_lenD (ds := trD (W.trail ++ [(W.st.spot.row, ("go" : Str))])) (fun Ha ea Qa qa => evd_wprop (d := fun W => .tuple (trD W.trail)) (Evl.ev_var rfl) hW19 hz Ha ea Qa qa)) ?_) (.int _)) (evd_var rfl (.int _))) fun H20 e20 => ?_
      · show [V.ref wx, vp, .str m, .int (owedOf m n), .str v] ++ [] = [V.ref wx, vp, .str W.st.mark, .int W.st.owed, .str v]
        rw [hmk, how2]
        rfl
      · unfold trD
        rw [List.length_map, List.length_append, htr]
        rfl
      · exact k t6 H20 (by omega) (by omega) (But.trans B17 (But.ofSame (Same.trans s19 e20))) (S17.same (Same.trans s19 e20))
    | none =>
      obtain ⟨f1, f2, f3, f4, f5⟩ := hdue2 hd
      have hz2 : W2.st.spot.events.length < 1000 := by rw [f2.ev]; decide
      refine Evl.q_when (b := false) (Evl.et_is (Evl.et_test (ev_notN (v := .non) (Evl.ev_var rfl))) rfl) (fun z => by cases z) (fun _ H18 e18 => ?_)
      refine q_asgD (K := K) (d := .tuple [.str (after u m), .int (if resets u then 0 else owedOf m n + change u)]) (evd_call (vs := [.str u, .str m, .int (owedOf m n)]) (Evl.ea_cons (Evl.ev_var rfl) (Evl.ea_cons (Evl.ev_var rfl) (Evl.ea_cons (Evl.ev_var rfl) Evl.ea_nil))) fun Ha ea Qa qa => ⟨u, m, _, rfl, hm, fun q3 Hb eb hq3 => qa (.ref q3) Hb eb (.tup (SqT.of hq3) (.cons (.str _) (.cons (.int _) .nil)))⟩) fun vf H19 e19 hvf => ?_
      have s19 := Same.trans e18 e19
      have hW19 := hW17.same s19
      refine Evl.s_ret (v := .bl true) (Evl.ev_andV (a := true) (b := true) (Evl.ev_is (ev_isN (ev_wfault C (Evl.ev_var rfl) hW19)) (by rw [f1]; rfl)) fun _ => Evl.ev_andV (a := true) (b := true) (ev_same (d := .tuple [.str (after u m), .int (if resets u then 0 else owedOf m n + change u)]) (evd_tup (evds_cons (fun Ha ea Qa qa => evd_wprop (d := fun W => .str W.st.mark) (Evl.ev_var rfl) hW19 hz2 Ha ea Qa fun v Hb eb hv => qa v Hb eb (by rw [← f4]; exact hv)) (evds_cons (fun Ha ea Qa qa => evd_wprop (d := fun W => .int W.st.owed) (Evl.ev_var rfl) hW19 hz2 Ha ea Qa fun v Hb eb hv => qa v Hb eb (by rw [← f5]; exact hv)) evds_nil)) (by simp)) (evd_var rfl hvf) (by show 1 ≤ 3; decide) (by rfl)) fun _ => ev_same (d := .bool false) (fun Ha ea Qa qa => evd_wprop (d := fun W => .bool W.over) (Evl.ev_var rfl) hW19 hz2 Ha ea Qa fun v Hb eb hv => qa v Hb eb (by rw [← f3]; exact hv)) (evd_of Evl.ev_c (.bl false))) fun H20 e20 => ?_
      exact k t6 H20 (by omega) (by omega) (But.trans B17 (But.ofSame (Same.trans s19 e20))) (S17.same (Same.trans s19 e20))
end

end K45
end
section
set_option Elab.async false
set_option autoImplicit false
set_option linter.all false
set_option maxRecDepth 100000
set_option maxHeartbeats 4000000
namespace K45
open PySem PySem.Spec PyProof.Rows L2 PySem.OxE LawC PySem.Fl

section
variable {P : Program} {w : World} {K : PySem.W.Frag} {mg : Str → Option Value} {base : Heap} {A0 : Ad}
def spLaw (K : PySem.W.Frag) : Sp := fun vs H Q _ => ∃ (a : Addr) (ns : List Int), vs = [.ref a] ∧ SqL K H a (ns.map V.int) ∧ ns.length ≤ 63 ∧ ∀ H', Q (.bl true) H'
theorem ok_law' (T : Txt P K mg A0) (hne : A0.c_Walk ≠ A0.c_Function) (hPL : ∀ (m : Str) (n : Nat) (b : Bool) (c k : Nat) (u : Str), m ∈ marks5 → n ≤ 6 → (m = "in" ∨ m = "both" → 1 ≤ n) → c ≤ 5 → k < 4 → u ∈ words11 → PlainOK m n b c k u) : FnOk P w K mg base CX0 10 A0.f_law A0.fd_law ["_law_script"] (spLaw K) := by
  have G_source : FnOk P w K mg base CX0 1 A0.f_source A0.fd_source ["_law_script", "_law_place"] (spSource K) := ok_source T
  have G_holds : FnOk P w K mg base CX0 9 A0.f_holds A0.fd_holds ["_law_source_here"] spLHolds := ok_lholds T hne hPL
  refine T.F_law.ok sc_law (fun vs H Q E h => ?_) (fun cdv A outer s H vs Q E hr h => ?_)
  · obtain ⟨a, ns, rfl, _⟩ := h
    rfl
  · obtain ⟨a, ns, rfl, hS, hlen, k⟩ := h
    refine ⟨_, (pss_cons (ps_for PassesOwn.never rfl (pi_range1 rfl T.z_range (pa_cons (pe_callB (call_max2 rfl) (by rfl) T.z_max (by decide +kernel) (pa_cons pe_int (pa_cons (pe_callB (call_min2 rfl) (by rfl) T.z_min (by decide +kernel) (pa_cons pe_int (pa_cons (pe_callB call_len (by rfl) T.z_len PySem.boot_len (pa_cons (pv 0) pa_nil)) pa_nil))) pa_nil))) pa_nil)) (pg_name (i := 1) sc_law.nd rfl (Or.inl rfl))
 (pss_cons (ps_set (i := 2) sc_law.nd rfl (Or.inl rfl) (pe_call G_source (hr.mono (by decide)) rfl T.m_source T.F_source.kp T.b_source .nil pass0 (pa_cons (pv 0) (pa_cons (pv 1) pa_nil))))
 (pss_one (ps_for PassesOwn.never rfl (pi_range1 rfl T.z_range (pa_cons pe_int pa_nil)) (pg_name (i := 3) sc_law.nd rfl (Or.inl rfl))
 (pss_one (ps_if (pt_not (pt_val (pe_call G_holds (hr.mono (by decide)) rfl T.m_holds T.F_holds.kp T.b_holds .nil pass0 (pa_cons (pv 2) pa_nil))))
 (pss_one (ps_ret pe_bl))
 pss_nil))))))
 (pss_one (ps_ret pe_bl))), ?_⟩
    refine ⟨_, rfl, _, _, rfl, .inl ⟨_, hS, rfl⟩, _, _, rfl, _, _, rfl, _, rfl, ?_, ?_, for_range (lo := 0) (fun i σ H' => ∃ x1 x2 x3 : Option V, σ = [some (.ref a), x1, x2, x3] ∧ Same H H')
      ⟨_, _, _, rfl, Same.refl H⟩ ?_ ?_⟩
    · split <;> split <;> omega
    · split <;> split <;> omega
    · rintro i σ H' hi ⟨x1, x2, x3, rfl, s0⟩
      have hi5 : i < 5 := by revert hi; split <;> split <;> omega
      refine ⟨_, rfl, _, rfl, a, ns, _, rfl, Evl.ex_l s0 hS, by omega, by omega, fun p H1 hp s1 S1 => ?_⟩
      refine Evl.s_forR1 (n := 6) (Evl.ea_cons Evl.ev_c Evl.ea_nil) (by decide) (fun j σ' H'' => ∃ y3 t, σ' = [some (.ref a), some (.int (0 + i)), some (.ref p), y3] ∧ SrcAt H'' p t ∧ t ≤ 20 * j ∧ But p H1 H'') (fun H2 e2 => ⟨_, 0, rfl, S1.same e2, by omega, But.ofSame e2⟩) (fun j σ' H2 hj hPv => ?_) fun σ' H2 hPv => ?_
      · obtain ⟨y3, t, rfl, S2, ht, b2⟩ := hPv
        refine ⟨_, rfl, p, t, rfl, S2, by omega, fun t' H3 g1 g2 b3 S3 => ⟨true, rfl, ?_⟩⟩
        dsimp only
        rw [if_neg (show ¬ (!true) = true by decide)]
        exact ⟨_, t', rfl, S3, by omega, But.trans b2 b3⟩
      · obtain ⟨y3, t, rfl, S2, ht, b2⟩ := hPv
        refine ⟨_, _, _, rfl, fun b o h => ?_⟩
        have e1 := s0 b o h
        exact b2 b o (ne_of_none e1 hp) (s1 b o e1)
    · rintro σ H' ⟨x1, x2, x3, rfl, s0⟩
      exact k H'
end

end K45
end
section
set_option Elab.async false
set_option autoImplicit false
set_option linter.all false
set_option maxRecDepth 100000
set_option maxHeartbeats 2000000
/-! steps of a walk over plain rows, by what stands at each row -/
namespace PySem.Fl
open PySem PySem.Spec PyProof.Rows L2 PySem.OxE LawC
/-- the word and the opener of a row -/
structure AtR (F : Fn) (r : Nat) (w : Str) (o : Option Nat) : Prop where
  w : F.words[r]? = some w
  o : F.openers[r]? = some o
/-- the block around is at the top, and neither a loop nor a retry -/
structure BlkR (F : Fn) (b : Nat) (v : Str) : Prop where
  at0 : AtR F b v none
  ne : v ≠ "each"
  nr : v ≠ "retry"
section
variable {F : Fn} {r r' b : Nat} {w v : Str}
theorem AtR.lt {o : Option Nat} (h : AtR F r w o) : r < F.words.length := (List.getElem?_eq_some_iff.mp h.w).1
theorem chain_none {k : Nat} : F.chain k none = some [] := by cases k <;> rfl
theorem chain_one {k : Nat} (h : AtR F b v none) : F.chain (k + 1) (some b) = some [b] := by
  unfold Fn.chain
  rw [h.w, h.o]
  show (F.chain k none).bind _ = _
  rw [chain_none]
  rfl
theorem chain_two {k : Nat} (h : AtR F r w (some b)) (h2 : AtR F b v none) : F.chain (k + 2) (some r) = some [r, b] := by
  conv => lhs; unfold Fn.chain
  rw [h.w, h.o]
  show (F.chain (k + 1) (some b)).bind _ = _
  rw [chain_one h2]
  rfl
theorem wordIs_of {o : Option Nat} {u : Str} (h : AtR F r w o) : F.wordIs u r = decide (w = u) := by
  unfold Fn.wordIs
  rw [h.w]
  simp
theorem lenpos {o : Option Nat} (h : AtR F r w o) : ∃ k, F.words.length = k + 1 := ⟨F.words.length - 1, by have := h.lt; omega⟩
/-- where a place is settled -/
structure Stop (F : Fn) (r : Nat) (ts : List Int) : Prop where
  lt : r < F.words.length
  stp : F.isStep r = some true
  re : ∃ bs : List Nat, F.retriesOf r = some bs ∧ (∀ ns, Fn.triesAt ns r 0 bs = some ts) ∧ bs.length = ts.length
  lp : F.loopOf r = some none
theorem step_word {o : Option Nat} (h : AtR F r w o) (h1 : w ≠ "end") (h2 : w ∉ passedW) : F.isStep r = some true := by
  unfold Fn.isStep
  rw [h.w]
  show (if w = "end" then _ else _) = _
  rw [if_neg h1]
  show some (!decide (w ∈ passedW)) = _
  rw [decide_eq_false h2]
  rfl
theorem stop_top (h : AtR F r w none) (h1 : w ≠ "end") (h2 : w ∉ passedW) : Stop F r (if w = "retry" then [1] else []) := by
  obtain ⟨k, hk⟩ := lenpos h
  refine ⟨h.lt, step_word h h1 h2, ?_, ?_⟩
  · by_cases hr : w = "retry"
    · refine ⟨[r], ?_, fun ns => ?_, by rw [if_pos hr]; rfl⟩
      · unfold Fn.retriesOf
        rw [if_neg (Nat.not_le.mpr h.lt), h.o, wordIs_of h, decide_eq_true hr]
        show (F.chain (F.words.length + 1) (some r)).bind _ = _
        rw [chain_one h]
        show some ([r].filter _).reverse = _
        rw [List.filter_cons, wordIs_of h, decide_eq_true hr]
        rfl
      · rw [if_pos hr]
        unfold Fn.triesAt
        rw [if_pos rfl]
        rfl
    · refine ⟨[], ?_, fun ns => ?_, by rw [if_neg hr]; rfl⟩
      · unfold Fn.retriesOf
        rw [if_neg (Nat.not_le.mpr h.lt), h.o, wordIs_of h, decide_eq_false hr]
        show (F.chain (F.words.length + 1) none).bind _ = _
        rw [chain_none]
        rfl
      · rw [if_neg hr]; rfl
  · unfold Fn.loopOf Fn.around
    rw [if_neg (Nat.not_le.mpr h.lt), h.o]
    show ((F.chain F.words.length none).bind _) = _
    rw [chain_none]
    rfl
theorem stop_in (h : AtR F r w (some b)) (hb : BlkR F b v) (h1 : w ≠ "end") (h2 : w ∉ passedW) : Stop F r (if w = "retry" then [1] else []) := by
  obtain ⟨k, hk⟩ := lenpos h
  refine ⟨h.lt, step_word h h1 h2, ?_, ?_⟩
  · by_cases hr : w = "retry"
    · refine ⟨[r], ?_, fun ns => ?_, by rw [if_pos hr]; rfl⟩
      · unfold Fn.retriesOf
        rw [if_neg (Nat.not_le.mpr h.lt), h.o, wordIs_of h, decide_eq_true hr]
        show (F.chain (F.words.length + 1) (some r)).bind _ = _
        rw [hk, chain_two h hb.at0]
        show some ([r, b].filter _).reverse = _
        rw [List.filter_cons, wordIs_of h, decide_eq_true hr, List.filter_cons, wordIs_of hb.at0, decide_eq_false hb.nr]
        rfl
      · rw [if_pos hr]
        unfold Fn.triesAt
        rw [if_pos rfl]
        rfl
    · refine ⟨[], ?_, fun ns => ?_, by rw [if_neg hr]; rfl⟩
      · unfold Fn.retriesOf
        rw [if_neg (Nat.not_le.mpr h.lt), h.o, wordIs_of h, decide_eq_false hr]
        show (F.chain (F.words.length + 1) (some b)).bind _ = _
        rw [chain_one hb.at0]
        show some ([b].filter _).reverse = _
        rw [List.filter_cons, wordIs_of hb.at0, decide_eq_false hb.nr]
        rfl
      · rw [if_neg hr]; rfl
  · unfold Fn.loopOf Fn.around
    rw [if_neg (Nat.not_le.mpr h.lt), h.o]
    show ((F.chain F.words.length (some b)).bind _) = _
    rw [hk, chain_one hb.at0]
    show some (List.find? _ [b]) = _
    rw [List.find?_cons, wordIs_of hb.at0, decide_eq_false hb.ne]
    rfl
/-- from a row on to where it is settled -/
structure Land (F : Fn) (j r r' : Nat) (ts : List Int) : Prop where
  go : ∀ ns k, F.settleF ns (k + j + 1) r 0 [] = some (r', 0, [])
  st : Stop F r' ts
theorem land_stop {ts : List Int} (h : Stop F r ts) : Land F 0 r r ts := ⟨fun ns k => by
  unfold Fn.settleF
  rw [if_neg (Nat.not_le.mpr h.lt), h.stp]
  rfl, h⟩
/-- a row that is passed -/
structure PassR (F : Fn) (r r1 : Nat) : Prop where
  lt : r < F.words.length
  stp : F.isStep r = some false
  ps : F.passed r [] = some (some r1)
theorem land_pass {j r1 : Nat} {ts : List Int} (p : PassR F r r1) (h : Land F j r1 r' ts) : Land F (j + 1) r r' ts := ⟨fun ns k => by
  have := h.go ns k
  rw [show k + (j + 1) + 1 = (k + j + 1) + 1 by omega]
  conv => lhs; unfold Fn.settleF
  rw [if_neg (Nat.not_le.mpr p.lt), p.stp]
  show (F.passed r []).bind _ = _
  rw [p.ps]
  exact this, h.st⟩
theorem pass_word {o : Option Nat} (h : AtR F r w o) (hw : w = "try" ∨ w = "shield" ∨ w = "finally") : PassR F r (r + 1) := by
  refine ⟨h.lt, ?_, ?_⟩
  · unfold Fn.isStep
    rw [h.w]
    rcases hw with rfl | rfl | rfl <;> rfl
  · unfold Fn.passed
    rw [h.w, h.o]
    rcases hw with rfl | rfl | rfl <;> rfl
theorem pass_mid {e : Nat} (h : AtR F r "rescue" (some b)) (he : F.fin b = some e) : PassR F r (e + 1) := by
  refine ⟨h.lt, ?_, ?_⟩
  · unfold Fn.isStep
    rw [h.w]
    rfl
  · unfold Fn.passed
    rw [h.w, h.o]
    show (F.fin b).bind _ = _
    rw [he]
    rfl
theorem pass_end {o : Option Nat} (h : AtR F r "end" (some b)) (hb : AtR F b v o) (h1 : v ≠ "each") (h2 : v ≠ "try") : PassR F r (r + 1) := by
  refine ⟨h.lt, ?_, ?_⟩
  · unfold Fn.isStep
    rw [h.w, h.o]
    show (F.words[b]?).bind _ = _
    rw [hb.w]
    show some (decide (v = "each")) = _
    rw [decide_eq_false h1]
  · unfold Fn.passed
    rw [h.w, h.o]
    show (F.words[b]?).bind _ = _
    rw [hb.w]
    show (match decide (v = ("try" : Str)), ([] : List Ev).getLast? with | true, some ev => (F.isGuarded ev.2 b).bind (fun g => some (if g = true then none else some (r + 1))) | _, _ => some (some (r + 1))) = _
    rw [decide_eq_false h2]
theorem settled_land {j : Nat} {ts : List Int} {ns : List (Nat × Int)} (h : Land F j r r' ts) (hj : j < 99) : F.settled ns (r, 0, []) = some ⟨r', ts, []⟩ := by
  obtain ⟨bs, h1, h2, h3⟩ := h.st.re
  unfold Fn.settled
  have := h.go ns (99 - j)
  rw [show 99 - j + j + 1 = 100 by omega] at this
  rw [this]
  show (F.retriesOf r').bind _ = _
  rw [h1]
  show (Fn.triesAt ns r' 0 bs).bind _ = _
  rw [h2]
  rfl
theorem numbers_stop {ts : List Int} (h : Stop F r ts) : ∃ ns, F.numbersOf ⟨r, ts, []⟩ = some ns := by
  obtain ⟨bs, h1, h2, h3⟩ := h.re
  unfold Fn.numbersOf
  rw [h1]
  show ∃ ns, (if bs.length = ts.length then some _ else none) = some ns
  rw [if_pos h3]
  exact ⟨_, rfl⟩
theorem live_stop {ts : List Int} (h : Stop F r ts) : F.liveLoops ⟨r, ts, []⟩ = some [] := by
  unfold Fn.liveLoops
  show (F.loopsOf [r]).bind _ = _
  unfold Fn.loopsOf
  rw [h.lp]
  show some _ = _
  congr 1
  unfold Fn.dedupSort
  simp
end
/-- a walk in the middle -/
def wkOf (F : Fn) (ls : List (Str × Int)) (r : Nat) (ts : List Int) (rs : List (Nat × Int)) (m : Str) (n a t : Int) (tr : List (Nat × Str)) : Wk := ⟨F, ls, ⟨⟨r, ts, []⟩, rs, m, n, a, t⟩, tr, none⟩
section
variable {F : Fn} {ls : List (Str × Int)} {r r' b j : Nat} {ts ts' : List Int} {rs : List (Nat × Int)} {m w : Str} {n a t : Int} {tr : List (Nat × Str)} {o : Option Nat}
theorem over_wk (h : r < F.words.length) : (wkOf F ls r ts rs m n a t tr).over = false := by
  unfold Wk.over wkOf
  show (false || decide (r = F.words.length)) = false
  rw [decide_eq_false (by omega)]
  rfl
/-- rows whose last choice is to go on -/
def goW : List Str := ["ask", "begin", "finish", "read", "head", "body", "drain", "close", "pause", "check", "retry"]
theorem go_cases (h : w ∈ goW) : w ≠ "each" ∧ w ≠ "end" ∧ w ≠ "maybe" ∧ w ≠ "return" := by
  unfold goW at h
  simp only [List.mem_cons, List.not_mem_nil, or_false] at h
  rcases h with rfl | rfl | rfl | rfl | rfl | rfl | rfl | rfl | rfl | rfl | rfl <;> decide
theorem choices_go (hw : F.words[r]? = some w) (h : w ∈ goW) (hs : ∃ s, F.isShielded r = some s) : ∃ cs, (wkOf F ls r ts rs m n a t tr).choices = some cs ∧ cs.getLast? = some ("go" : Str) ∧ ("go" : Str) ∈ cs := by
  obtain ⟨s, hs⟩ := hs
  obtain ⟨h1, h2, h3, _⟩ := go_cases h
  have hl : r < F.words.length := (List.getElem?_eq_some_iff.mp hw).1
  have hp : (wkOf F ls r ts rs m n a t tr).choices = F.movesOf r := by
    unfold Wk.choices
    rw [over_wk hl]
    unfold Fn.possible wkOf
    show (if false = true then _ else (if r = F.words.length then _ else _)) = _
    rw [if_neg (by decide), if_neg (by omega), hw]
    show (if w = "each" then _ else if w = "end" then _ else _) = _
    rw [if_neg h1, if_neg h2]
  rw [hp]
  unfold Fn.movesOf
  rw [hw]
  show ∃ cs, (if w = "each" ∨ w = "end" then _ else if w = "maybe" then _ else if w = "check" then _ else if w ∈ waitingW then _ else _) = some cs ∧ _
  rw [if_neg (by rintro (z | z); exact h1 z; exact h2 z), if_neg h3]
  by_cases c : w = "check"
  · rw [if_pos c]
    exact ⟨_, rfl, rfl, by decide⟩
  · rw [if_neg c]
    by_cases c2 : w ∈ waitingW
    · rw [if_pos c2, hs]
      cases s
      · exact ⟨_, rfl, rfl, by decide⟩
      · exact ⟨_, rfl, rfl, by decide⟩
    · rw [if_neg c2]
      exact ⟨_, rfl, rfl, by decide⟩
theorem shield_of (h : AtR F r w none) : ∃ s, F.isShielded r = some s := by
  unfold Fn.isShielded Fn.around
  rw [h.o]
  show ∃ s, (F.chain F.words.length none).bind _ = some s
  rw [chain_none]
  exact ⟨_, rfl⟩
theorem shield_in {v : Str} (h : AtR F r w (some b)) (hb : AtR F b v none) : ∃ s, F.isShielded r = some s := by
  obtain ⟨k, hk⟩ := lenpos h
  unfold Fn.isShielded Fn.around
  rw [h.o]
  show ∃ s, (F.chain F.words.length (some b)).bind _ = some s
  rw [hk, chain_one hb]
  exact ⟨_, rfl⟩
theorem next_go (hw : F.words[r]? = some w) (h : w ∈ goW) (hn : ∃ ns, F.numbersOf ⟨r, ts, []⟩ = some ns) (hl : Land F j (r + 1) r' ts') (hj : j < 99) : F.nextSpot ⟨r, ts, []⟩ "go" = some ⟨r', ts', []⟩ := by
  obtain ⟨ns, hn⟩ := hn
  obtain ⟨_, _, _, h4⟩ := go_cases h
  unfold Fn.nextSpot
  rw [hn]
  show ((if ("go" : Str) = "cut" ∨ ("go" : Str) = "fail" then _ else (F.words[r]?).bind _).bind _) = _
  rw [if_neg (by decide), hw]
  show (if w = "return" then _ else (F.target r "go").bind _).bind _ = _
  rw [if_neg h4]
  have ht : F.target r "go" = some (r + 1) := by
    unfold Fn.target
    rw [hw]
    rfl
  rw [ht]
  exact settled_land hl hj
/-- go on at a plain row without a fault -/
theorem step_go (hw : F.words[r]? = some w) (h : w ∈ goW) (hs : ∃ s, F.isShielded r = some s) (hst : Stop F r ts) (hl : Land F j (r + 1) r' ts') (hj : j < 99) (hf : dueOf w m n = none) :
    (wkOf F ls r ts rs m n a t tr).step "go" = some (wkOf F ls r' ts' [] (after w m) (if resets w then 0 else n + change w) (a + mx (change w)) (t + mx (-change w)) (tr ++ [(r, ("go" : Str))])) := by
  obtain ⟨cs, h1, _, h3⟩ := choices_go (ls := ls) (ts := ts) (rs := rs) (m := m) (n := n) (a := a) (t := t) (tr := tr) hw h hs
  unfold Wk.step
  rw [h1]
  show (if ("go" : Str) ∈ cs then _ else none) = _
  rw [if_pos h3]
  have hfo : F.faultOf ⟨⟨r, ts, []⟩, rs, m, n, a, t⟩ "go" = some none := by
    unfold Fn.faultOf
    rw [if_neg (by decide)]
    show (F.words[r]?).bind _ = _
    rw [hw]
    unfold dueOf at hf
    by_cases c : w = "retry"
    · rw [if_pos c] at hf
      show (if w = "retry" then _ else _) = _
      rw [if_pos c]
      by_cases c2 : m = "closed" ∨ (m = "whole" ∧ n = 0)
      · show some (if (decide (m = "closed") || (decide (m = "whole") && decide (n = 0))) = true then none else some ("stale" : Str)) = _
        rw [if_pos (by simpa using c2)]
      · rw [if_neg c2] at hf; cases hf
    · rw [if_neg c] at hf
      show (if w = "retry" then _ else some (fault w m n)) = _
      rw [if_neg c, hf]
  show (F.faultOf ⟨⟨r, ts, []⟩, rs, m, n, a, t⟩ "go").bind _ = _
  rw [hfo]
  have hsa : F.stateAfter ⟨⟨r, ts, []⟩, rs, m, n, a, t⟩ "go" = some ⟨⟨r', ts', []⟩, [], after w m, if resets w then 0 else n + change w, a + mx (change w), t + mx (-change w)⟩ := by
    unfold Fn.stateAfter
    rw [next_go hw h (numbers_stop hst) hl hj]
    show (F.roundsAfter _ "go" ⟨r', ts', []⟩).bind _ = _
    have hra : F.roundsAfter ⟨⟨r, ts, []⟩, rs, m, n, a, t⟩ "go" ⟨r', ts', []⟩ = some [] := by
      unfold Fn.roundsAfter Fn.roundsD
      rw [if_neg (by decide)]
      show (F.liveLoops ⟨r', ts', []⟩).bind _ = _
      rw [live_stop hl.st]
      rfl
    rw [hra]
    show (if ("go" : Str) ≠ "go" then some (⟨⟨r', ts', []⟩, [], m, n, a, t⟩ : RSt) else (F.words[r]?).bind _) = _
    rw [if_neg (by decide), hw]
    rfl
  show (F.stateAfter ⟨⟨r, ts, []⟩, rs, m, n, a, t⟩ "go").bind _ = _
  rw [hsa]
  rfl
/-- a fault ends the walk there -/
theorem step_fault {u : Str} (hw : F.words[r]? = some w) (h : w ∈ goW) (hs : ∃ s, F.isShielded r = some s) (hf : dueOf w m n = some u) :
    (wkOf F ls r ts rs m n a t tr).step "go" = some { wkOf F ls r ts rs m n a t tr with trail := tr ++ [(r, ("go" : Str))], fault := some u } := by
  obtain ⟨cs, h1, _, h3⟩ := choices_go (ls := ls) (ts := ts) (rs := rs) (m := m) (n := n) (a := a) (t := t) (tr := tr) hw h hs
  unfold Wk.step
  rw [h1]
  show (if ("go" : Str) ∈ cs then _ else none) = _
  rw [if_pos h3]
  have hfo : F.faultOf ⟨⟨r, ts, []⟩, rs, m, n, a, t⟩ "go" = some (some u) := by
    unfold Fn.faultOf
    rw [if_neg (by decide)]
    show (F.words[r]?).bind _ = _
    rw [hw]
    unfold dueOf at hf
    by_cases c : w = "retry"
    · rw [if_pos c] at hf
      show (if w = "retry" then _ else _) = _
      rw [if_pos c]
      by_cases c2 : m = "closed" ∨ (m = "whole" ∧ n = 0)
      · rw [if_pos c2] at hf; cases hf
      · rw [if_neg c2] at hf
        show some (if (decide (m = "closed") || (decide (m = "whole") && decide (n = 0))) = true then none else some ("stale" : Str)) = _
        rw [if_neg (fun z => c2 (by simpa using z)), hf]
    · rw [if_neg c] at hf
      show (if w = "retry" then _ else some (fault w m n)) = _
      rw [if_neg c, hf]
  show (F.faultOf ⟨⟨r, ts, []⟩, rs, m, n, a, t⟩ "go").bind _ = _
  rw [hfo]
  rfl
end
end PySem.Fl
end
section
set_option Elab.async false
set_option autoImplicit false
set_option linter.all false
set_option maxRecDepth 100000
set_option maxHeartbeats 2000000
/-! a loop over one row -/
namespace PySem.Fl
open PySem PySem.Spec PyProof.Rows L2 PySem.OxE LawC
/-- the loop at b: one pause in it -/
structure LoopAt (F : Fn) (b : Nat) (nm : Str) : Prop where
  each : AtR F b "each" none
  body : AtR F (b + 1) "pause" (some b)
  fin : AtR F (b + 2) "end" (some b)
  name : F.names[b]? = some (some nm)
  ends : F.fin b = some (b + 2)
section
variable {F : Fn} {b : Nat} {nm : Str} {r : Nat} {w : Str}
theorem filter_range : ∀ (n b : Nat), b < n → (List.range n).filter (fun x => decide (x ∈ [b])) = [b]
  | 0, b, h => by omega
  | n + 1, b, h => by
    rw [List.range_succ, List.filter_append]
    by_cases e : b = n
    · subst e
      have h1 : (List.range b).filter (fun x => decide (x ∈ [b])) = [] := List.filter_eq_nil_iff.mpr fun x hx => by
        have := List.mem_range.mp hx
        simp; omega
      rw [h1]
      simp
    · rw [filter_range n b (by omega)]
      have : ¬ n = b := fun z => e z.symm
      simp [this]
/-- a row of the loop where one stays -/
structure StayL (F : Fn) (b r : Nat) : Prop where
  sett : ∀ ns, F.settled ns (r, 0, []) = some ⟨r, [], []⟩
  num : F.numbersOf ⟨r, [], []⟩ = some []
  live : F.liveLoops ⟨r, [], []⟩ = some [b]
theorem stay_in (h : AtR F r w (some b)) (hb : AtR F b "each" none) (hs : F.isStep r = some true) (hr : w ≠ "retry") : StayL F b r := by
  obtain ⟨k, hk⟩ := lenpos h
  have hret : F.retriesOf r = some [] := by
    unfold Fn.retriesOf
    rw [if_neg (Nat.not_le.mpr h.lt), h.o, wordIs_of h, decide_eq_false hr]
    show (F.chain (F.words.length + 1) (some b)).bind _ = _
    rw [chain_one hb]
    show some ([b].filter _).reverse = _
    rw [List.filter_cons, wordIs_of hb]
    rfl
  refine ⟨fun ns => ?_, ?_, ?_⟩
  · unfold Fn.settled
    have : F.settleF ns 100 r 0 [] = some (r, 0, []) := by
      unfold Fn.settleF
      rw [if_neg (Nat.not_le.mpr h.lt), hs]
      rfl
    rw [this]
    show (F.retriesOf r).bind _ = _
    rw [hret]
    rfl
  · unfold Fn.numbersOf
    rw [hret]
    rfl
  · unfold Fn.liveLoops
    show (F.loopsOf [r]).bind _ = _
    unfold Fn.loopsOf
    have : F.loopOf r = some (some b) := by
      unfold Fn.loopOf Fn.around
      rw [if_neg (Nat.not_le.mpr h.lt), h.o]
      show ((F.chain F.words.length (some b)).bind _) = _
      rw [hk, chain_one hb]
      show some (List.find? _ [b]) = _
      rw [List.find?_cons, wordIs_of hb]
      rfl
    rw [this]
    show some (Fn.dedupSort [b] F.words.length) = _
    unfold Fn.dedupSort
    rw [filter_range _ _ hb.lt]
theorem LoopAt.stay1 (h : LoopAt F b nm) : StayL F b (b + 1) := stay_in h.body h.each (step_word h.body (by decide) (by decide)) (by decide)
theorem LoopAt.stay2 (h : LoopAt F b nm) : StayL F b (b + 2) := stay_in h.fin h.each (by
  unfold Fn.isStep
  rw [h.fin.w]
  show ((F.openers[b + 2]?).bind _) = _
  rw [h.fin.o]
  show ((F.words[b]?).bind _) = _
  rw [h.each.w]
  rfl) (by decide)
theorem LoopAt.stop (h : LoopAt F b nm) : Stop F b [] := stop_top h.each (by decide) (by decide)
end
section
variable {F : Fn} {b c : Nat} {nm : Str} {r' j : Nat} {ts' : List Int} {m : Str} {n a t d : Int} {tr : List (Nat × Str)}
theorem step_of {W : Wk} {mv : Str} {cs : List Str} (h1 : W.choices = some cs) (h2 : mv ∈ cs) (h3 : W.F.faultOf W.st mv = some none) {s : RSt} (h4 : W.F.stateAfter W.st mv = some s) : W.step mv = some { W with trail := W.trail ++ [(W.st.spot.row, mv)], fault := none, st := s } := by
  unfold Wk.step
  rw [h1]
  show (if mv ∈ cs then _ else none) = _
  rw [if_pos h2]
  show (W.F.faultOf W.st mv).bind _ = _
  rw [h3]
  show (W.F.stateAfter W.st mv).bind _ = _
  rw [h4]
  rfl
theorem fault_ng {s : RSt} {mv : Str} (h : mv ≠ "go") : F.faultOf s mv = some none := by
  unfold Fn.faultOf
  rw [if_pos h]
/-- the state behind a move that is no go -/
theorem state_ng {s : RSt} {mv : Str} {sp : Spot} {rs : List (Nat × Int)} (h : mv ≠ "go") (h1 : F.nextSpot s.spot mv = some sp) (h2 : F.roundsAfter s mv sp = some rs) : F.stateAfter s mv = some { s with spot := sp, rounds := rs } := by
  unfold Fn.stateAfter
  rw [h1]
  show (F.roundsAfter s mv sp).bind _ = _
  rw [h2]
  show (if mv ≠ "go" then _ else (F.words[s.spot.row]?).bind _) = _
  rw [if_pos h]
  rfl
theorem dOf_one {k : Nat} {x : Int} : dOf [(k, x)] = [(k, x)] := rfl
theorem look_one {k : Nat} {x : Int} : ([(k, x)] : List (Nat × Int)).lookup k = some x := by rw [List.lookup_cons]; simp
theorem put_one {k : Nat} {x y : Int} : put [(k, x)] k y = [(k, y)] := by
  unfold put
  have : (([(k, x)] : List (Nat × Int)).any fun p => decide (p.1 = k)) = true := by simp
  rw [if_pos this]
  simp
theorem look_ab : ([(nm, (c : Int))] : List (Str × Int)).lookup nm = some (c : Int) := by rw [List.lookup_cons]; simp
/-- into the loop -/
theorem each_choice (h : LoopAt F b nm) : (wkOf F [(nm, (c : Int))] b [] [] m n a t tr).choices = some [if (c : Int) > 0 then ("item" : Str) else "over"] := by
  unfold Wk.choices
  rw [over_wk h.each.lt]
  unfold Fn.possible wkOf
  have := h.each.lt
  show (if false = true then _ else (if b = F.words.length then _ else _)) = _
  rw [if_neg (by decide), if_neg (by omega), h.each.w]
  show ((F.names[b]?).bind _) = _
  rw [h.name]
  show (([(nm, (c : Int))] : List (Str × Int)).lookup nm).bind _ = _
  rw [look_ab]
  rfl
theorem each_item (h : LoopAt F b nm) (hc : 0 < c) : (wkOf F [(nm, (c : Int))] b [] [] m n a t tr).choices = some [("item" : Str)] ∧ (wkOf F [(nm, (c : Int))] b [] [] m n a t tr).step "item" = some (wkOf F [(nm, (c : Int))] (b + 1) [] [(b, 0)] m n a t (tr ++ [(b, ("item" : Str))])) := by
  have h1 : (wkOf F [(nm, (c : Int))] b [] [] m n a t tr).choices = some [("item" : Str)] := by
    rw [each_choice h, if_pos (by omega)]
  refine ⟨h1, ?_⟩
  refine step_of h1 (by simp) (fault_ng (by decide)) (state_ng (by decide) (sp := ⟨b + 1, [], []⟩) (rs := [(b, 0)]) ?_ ?_)
  · obtain ⟨ns, hn⟩ := numbers_stop h.stop
    show F.nextSpot ⟨b, [], []⟩ "item" = _
    unfold Fn.nextSpot
    rw [hn]
    show ((if ("item" : Str) = "cut" ∨ ("item" : Str) = "fail" then _ else (F.words[b]?).bind _).bind _) = _
    rw [if_neg (by decide), h.each.w]
    show ((F.target b "item").bind _).bind _ = _
    have ht : F.target b "item" = some (b + 1) := by
      unfold Fn.target
      rw [h.each.w]
      rfl
    rw [ht]
    exact h.stay1.sett ns
  · show F.roundsAfter ⟨⟨b, [], []⟩, [], m, n, a, t⟩ "item" ⟨b + 1, [], []⟩ = _
    unfold Fn.roundsAfter Fn.roundsD
    rw [if_pos rfl]
    show ((F.words[b]?).bind _).bind _ = _
    rw [h.each.w]
    show (F.liveLoops ⟨b + 1, [], []⟩).bind _ = _
    rw [h.stay1.live]
    show some [(b, ((put (dOf []) b 0).lookup b).getD 0)] = _
    rw [show put (dOf []) b (0 : Int) = [(b, 0)] from rfl, look_one]
    rfl
/-- past the loop -/
theorem each_over (h : LoopAt F b nm) (hc : c = 0) (hl : Land F j (b + 3) r' ts') (hj : j < 99) : (wkOf F [(nm, (c : Int))] b [] [] m n a t tr).choices = some [("over" : Str)] ∧ (wkOf F [(nm, (c : Int))] b [] [] m n a t tr).step "over" = some (wkOf F [(nm, (c : Int))] r' ts' [] m n a t (tr ++ [(b, ("over" : Str))])) := by
  have h1 : (wkOf F [(nm, (c : Int))] b [] [] m n a t tr).choices = some [("over" : Str)] := by
    rw [each_choice h, if_neg (by omega)]
  refine ⟨h1, ?_⟩
  refine step_of h1 (by simp) (fault_ng (by decide)) (state_ng (by decide) (sp := ⟨r', ts', []⟩) (rs := []) ?_ ?_)
  · obtain ⟨ns, hn⟩ := numbers_stop h.stop
    show F.nextSpot ⟨b, [], []⟩ "over" = _
    unfold Fn.nextSpot
    rw [hn]
    show ((if ("over" : Str) = "cut" ∨ ("over" : Str) = "fail" then _ else (F.words[b]?).bind _).bind _) = _
    rw [if_neg (by decide), h.each.w]
    show ((F.target b "over").bind _).bind _ = _
    have ht : F.target b "over" = some (b + 3) := by
      unfold Fn.target
      rw [h.each.w]
      show (F.fin b).bind _ = _
      rw [h.ends]
      rfl
    rw [ht]
    exact settled_land hl hj
  · show F.roundsAfter ⟨⟨b, [], []⟩, [], m, n, a, t⟩ "over" ⟨r', ts', []⟩ = _
    unfold Fn.roundsAfter Fn.roundsD
    rw [if_neg (by decide)]
    show (F.liveLoops ⟨r', ts', []⟩).bind _ = _
    rw [live_stop hl.st]
    rfl
theorem after_pause : after "pause" m = m := by
  unfold after
  by_cases c : m = "closed"
  · subst c; rfl
  · rw [decide_eq_false c]
    rfl
/-- the row of the loop -/
theorem pause_go (h : LoopAt F b nm) : (∃ cs, (wkOf F [(nm, (c : Int))] (b + 1) [] [(b, d)] m n a t tr).choices = some cs ∧ cs.getLast? = some ("go" : Str)) ∧ (wkOf F [(nm, (c : Int))] (b + 1) [] [(b, d)] m n a t tr).step "go" = some (wkOf F [(nm, (c : Int))] (b + 2) [] [(b, d)] m n a t (tr ++ [(b + 1, ("go" : Str))])) := by
  obtain ⟨cs, h1, h2, h3⟩ := choices_go (ls := [(nm, (c : Int))]) (ts := []) (rs := [(b, d)]) (m := m) (n := n) (a := a) (t := t) (tr := tr) h.body.w (by decide) (shield_in h.body h.each)
  refine ⟨⟨cs, h1, h2⟩, ?_⟩
  have hf : F.faultOf ⟨⟨b + 1, [], []⟩, [(b, d)], m, n, a, t⟩ "go" = some none := by
    unfold Fn.faultOf
    rw [if_neg (by decide)]
    show (F.words[b + 1]?).bind _ = _
    rw [h.body.w]
    rfl
  have hs : F.stateAfter ⟨⟨b + 1, [], []⟩, [(b, d)], m, n, a, t⟩ "go" = some ⟨⟨b + 2, [], []⟩, [(b, d)], m, n, a, t⟩ := by
    unfold Fn.stateAfter
    have hn : F.nextSpot ⟨b + 1, [], []⟩ "go" = some ⟨b + 2, [], []⟩ := by
      unfold Fn.nextSpot
      rw [h.stay1.num]
      show ((if ("go" : Str) = "cut" ∨ ("go" : Str) = "fail" then _ else (F.words[b + 1]?).bind _).bind _) = _
      rw [if_neg (by decide), h.body.w]
      show ((F.target (b + 1) "go").bind _).bind _ = _
      have ht : F.target (b + 1) "go" = some (b + 2) := by
        unfold Fn.target
        rw [h.body.w]
        rfl
      rw [ht]
      exact h.stay2.sett _
    rw [hn]
    show (F.roundsAfter _ "go" ⟨b + 2, [], []⟩).bind _ = _
    have hra : F.roundsAfter ⟨⟨b + 1, [], []⟩, [(b, d)], m, n, a, t⟩ "go" ⟨b + 2, [], []⟩ = some [(b, d)] := by
      unfold Fn.roundsAfter Fn.roundsD
      rw [if_neg (by decide)]
      show (F.liveLoops ⟨b + 2, [], []⟩).bind _ = _
      rw [h.stay2.live]
      show some [(b, ((dOf [(b, d)]).lookup b).getD 0)] = _
      rw [dOf_one, look_one]
      rfl
    rw [hra]
    show (if ("go" : Str) ≠ "go" then some (⟨⟨b + 2, [], []⟩, [(b, d)], m, n, a, t⟩ : RSt) else (F.words[b + 1]?).bind _) = _
    rw [if_neg (by decide), h.body.w]
    show some (⟨⟨b + 2, [], []⟩, [(b, d)], after "pause" m, n + 0, a + 0, t + 0⟩ : RSt) = _
    rw [after_pause, Int.add_zero, Int.add_zero, Int.add_zero]
  exact step_of h1 h3 hf hs
/-- the end of a round -/
theorem end_choice (h : LoopAt F b nm) : (wkOf F [(nm, (c : Int))] (b + 2) [] [(b, d)] m n a t tr).choices = some [if d + 1 < (c : Int) then ("item" : Str) else "over"] := by
  unfold Wk.choices
  rw [over_wk h.fin.lt]
  unfold Fn.possible wkOf
  have := h.fin.lt
  show (if false = true then _ else (if b + 2 = F.words.length then _ else _)) = _
  rw [if_neg (by decide), if_neg (by omega), h.fin.w]
  show ((F.openers[b + 2]?).bind _) = _
  rw [h.fin.o]
  show ((dOf [(b, d)]).lookup b).bind _ = _
  rw [dOf_one, look_one]
  show (F.names[b]?).bind _ = _
  rw [h.name]
  show (([(nm, (c : Int))] : List (Str × Int)).lookup nm).bind _ = _
  rw [look_ab]
  rfl
theorem end_next {mv : Str} (h : LoopAt F b nm) (h1 : ¬ (mv = "cut" ∨ mv = "fail")) {q : Nat} (ht : F.target (b + 2) mv = some q) : F.nextSpot ⟨b + 2, [], []⟩ mv = F.settled [] (q, 0, []) := by
  unfold Fn.nextSpot
  rw [h.stay2.num]
  show ((if mv = "cut" ∨ mv = "fail" then _ else (F.words[b + 2]?).bind _).bind _) = _
  rw [if_neg h1, h.fin.w]
  show ((F.target (b + 2) mv).bind _).bind _ = _
  rw [ht]
  rfl
theorem end_item (h : LoopAt F b nm) (hc : d + 1 < c) : (wkOf F [(nm, (c : Int))] (b + 2) [] [(b, d)] m n a t tr).choices = some [("item" : Str)] ∧ (wkOf F [(nm, (c : Int))] (b + 2) [] [(b, d)] m n a t tr).step "item" = some (wkOf F [(nm, (c : Int))] (b + 1) [] [(b, d + 1)] m n a t (tr ++ [(b + 2, ("item" : Str))])) := by
  have h1 : (wkOf F [(nm, (c : Int))] (b + 2) [] [(b, d)] m n a t tr).choices = some [("item" : Str)] := by
    rw [end_choice h, if_pos hc]
  refine ⟨h1, ?_⟩
  refine step_of h1 (by simp) (fault_ng (by decide)) (state_ng (by decide) (sp := ⟨b + 1, [], []⟩) (rs := [(b, d + 1)]) ?_ ?_)
  · show F.nextSpot ⟨b + 2, [], []⟩ "item" = _
    have ht : F.target (b + 2) "item" = some (b + 1) := by
      unfold Fn.target
      rw [h.fin.w]
      show ((F.openers[b + 2]?).bind _) = _
      rw [h.fin.o]
      rfl
    rw [end_next h (by decide) ht]
    exact h.stay1.sett []
  · show F.roundsAfter ⟨⟨b + 2, [], []⟩, [(b, d)], m, n, a, t⟩ "item" ⟨b + 1, [], []⟩ = _
    unfold Fn.roundsAfter Fn.roundsD
    rw [if_pos rfl]
    show ((F.words[b + 2]?).bind _).bind _ = _
    rw [h.fin.w]
    show ((F.openers[b + 2]?).bind _).bind _ = _
    rw [h.fin.o]
    show (((dOf [(b, d)]).lookup b).bind _).bind _ = _
    rw [dOf_one, look_one]
    show (F.liveLoops ⟨b + 1, [], []⟩).bind _ = _
    rw [h.stay1.live]
    show some [(b, ((put [(b, d)] b (d + 1)).lookup b).getD 0)] = _
    rw [put_one, look_one]
    rfl
theorem end_over (h : LoopAt F b nm) (hc : ¬ d + 1 < c) (hl : Land F j (b + 3) r' ts') (hj : j < 99) : (wkOf F [(nm, (c : Int))] (b + 2) [] [(b, d)] m n a t tr).choices = some [("over" : Str)] ∧ (wkOf F [(nm, (c : Int))] (b + 2) [] [(b, d)] m n a t tr).step "over" = some (wkOf F [(nm, (c : Int))] r' ts' [] m n a t (tr ++ [(b + 2, ("over" : Str))])) := by
  have h1 : (wkOf F [(nm, (c : Int))] (b + 2) [] [(b, d)] m n a t tr).choices = some [("over" : Str)] := by
    rw [end_choice h, if_neg hc]
  refine ⟨h1, ?_⟩
  refine step_of h1 (by simp) (fault_ng (by decide)) (state_ng (by decide) (sp := ⟨r', ts', []⟩) (rs := []) ?_ ?_)
  · show F.nextSpot ⟨b + 2, [], []⟩ "over" = _
    have ht : F.target (b + 2) "over" = some (b + 3) := by
      unfold Fn.target
      rw [h.fin.w]
      rfl
    rw [end_next h (by decide) ht]
    exact settled_land hl hj
  · show F.roundsAfter ⟨⟨b + 2, [], []⟩, [(b, d)], m, n, a, t⟩ "over" ⟨r', ts', []⟩ = _
    unfold Fn.roundsAfter Fn.roundsD
    rw [if_neg (by decide)]
    show (F.liveLoops ⟨r', ts', []⟩).bind _ = _
    rw [live_stop hl.st]
    rfl
end
/-! turns of the law's run -/
/-- k turns lead from W to W2 -/
def Reach (row : Nat) (W : Wk) (k : Nat) (W2 : Wk) : Prop := ∀ i, lawRun (k + i) row W = lawRun i row W2
section
variable {F : Fn} {ls : List (Str × Int)} {row r k k2 : Nat} {W W1 W2 : Wk}
theorem reach0 : Reach row W 0 W := fun i => by rw [Nat.zero_add]
theorem reach_trans (h1 : Reach row W k W1) (h2 : Reach row W1 k2 W2) : Reach row W (k + k2) W2 := fun i => by rw [Nat.add_assoc, h1, h2]
theorem reach1 {mv : Str} {cs : List Str} (hc : Calm W) (hn : W.st.spot.row ≠ row) (ho : W.over = false) (h1 : W.choices = some cs) (h2 : cs.getLast? = some mv) (h3 : W.step mv = some W2) : Reach row W 1 W2 := fun i => by
  rw [Nat.add_comm]
  conv => lhs; unfold lawRun
  rw [if_pos hc]
  have : lawTurn row W = some W2 := by
    unfold lawTurn
    rw [if_pos ⟨hn, ho⟩, h1]
    show (cs.getLast?).bind _ = _
    rw [h2]
    exact h3
  rw [this]
  rfl
theorem run_there (hc : Calm W) (hn : W.st.spot.row = row) : ∀ i, lawRun i row W = some W
  | 0 => rfl
  | i + 1 => by
    unfold lawRun
    rw [if_pos hc]
    have : lawTurn row W = some W := by
      unfold lawTurn
      rw [if_neg fun z => z.1 hn]
    rw [this]
    exact run_there hc hn i
theorem calm_wk {ts : List Int} {rs : List (Nat × Int)} {m : Str} {n a t : Int} {tr : List (Nat × Str)} (h1 : ts.length ≤ 100) (h2 : rs.length ≤ 100) (h3 : tr.length ≤ 1000) : Calm (wkOf F ls r ts rs m n a t tr) := ⟨rfl, h1, h2, h3⟩
end
end PySem.Fl
end
section
set_option Elab.async false
set_option autoImplicit false
set_option linter.all false
set_option maxRecDepth 100000
set_option maxHeartbeats 2000000
/-! reading rows, step by step -/
namespace PySem.Fl
open PySem PySem.Spec PyProof.Rows L2 PySem.OxE LawC
def plain10 : List Str := ["ask", "begin", "finish", "read", "head", "body", "drain", "close", "pause", "check"]
theorem plain_cases {u : Str} (h : u ∈ plain10) : u = "ask" ∨ u = "begin" ∨ u = "finish" ∨ u = "read" ∨ u = "head" ∨ u = "body" ∨ u = "drain" ∨ u = "close" ∨ u = "pause" ∨ u = "check" := by
  unfold plain10 at h
  simpa using h
theorem row_plain {u : Str} (h : u ∈ plain10) : isRow [u] = true := by
  rcases plain_cases h with rfl | rfl | rfl | rfl | rfl | rfl | rfl | rfl | rfl | rfl <;> decide +kernel
theorem read_one {R : Rd} {u : Str} {us : List Str} {rest : List (List Str)} (h1 : isRow (u :: us) = true) (h2 : R.fits u = true) : readAll R ((u :: us) :: rest) = readAll (R.take u) rest := by
  conv => lhs; unfold readAll
  simp only
  rw [if_pos (by rw [h1, h2]; rfl)]
theorem fits_plain {R : Rd} {u : Str} (h : u ∈ plain10) (hl : R.loopPlace = none) : R.fits u = true := by
  have hm : R.mayReset u = true := by unfold Rd.mayReset; rw [hl]
  unfold Rd.fits
  rw [hm, Bool.or_true]
  rcases plain_cases h with rfl | rfl | rfl | rfl | rfl | rfl | rfl | rfl | rfl | rfl <;> rfl
theorem take_plain {R : Rd} {u : Str} (h : u ∈ plain10) : R.take u = { R with words := R.words ++ [u], openers := R.openers ++ [R.top] } := by
  rcases plain_cases h with rfl | rfl | rfl | rfl | rfl | rfl | rfl | rfl | rfl | rfl <;> rfl
theorem read_plain {ws : List Str} {st : List Nat} {os : List (Option Nat)} {ms es : List (Nat × Nat)} {u : Str} {rest : List (List Str)} (h : u ∈ plain10) (hl : (Rd.mk ws st os ms es).loopPlace = none) : readAll ⟨ws, st, os, ms, es⟩ ([u] :: rest) = readAll ⟨ws ++ [u], st, os ++ [st.getLast?], ms, es⟩ rest := by
  rw [read_one (row_plain h) (fits_plain h hl), take_plain h]
  rfl
/-- rows at the top -/
theorem read_plains : ∀ {us ws : List Str} {os : List (Option Nat)} {ms es : List (Nat × Nat)} {rest : List (List Str)}, (∀ u ∈ us, u ∈ plain10) → readAll ⟨ws, [], os, ms, es⟩ (us.map (fun v => [v]) ++ rest) = readAll ⟨ws ++ us, [], os ++ List.replicate us.length none, ms, es⟩ rest
  | [], ws, os, ms, es, rest, h => by simp
  | u :: us, ws, os, ms, es, rest, h => by
    rw [List.map_cons, List.cons_append, read_plain (h u List.mem_cons_self) rfl, read_plains fun v hv => h v (List.mem_cons_of_mem _ hv)]
    congr 1
    simp [List.replicate_succ, List.append_assoc]
theorem at_len (ws : List Str) (l : List Str) (j : Nat) : (ws ++ l)[ws.length + j]? = l[j]? := by
  rw [List.getElem?_append_right (by omega)]
  congr 1
  omega
theorem at_len0 (ws : List Str) (l : List Str) : (ws ++ l)[ws.length]? = l[0]? := at_len ws l 0
theorem wordIs_at {ws l : List Str} {st : List Nat} {os : List (Option Nat)} {ms es : List (Nat × Nat)} {u v : Str} (h : l[0]? = some v) : (Rd.mk (ws ++ l) st os ms es).wordIs u ws.length = decide (v = u) := by
  unfold Rd.wordIs
  show decide ((ws ++ l)[ws.length]? = some u) = _
  rw [at_len0, h]
  simp
theorem place_at {ws l : List Str} {os : List (Option Nat)} {ms es : List (Nat × Nat)} {v : Str} (h : l[0]? = some v) (hv : v ≠ "each") : (Rd.mk (ws ++ l) [ws.length] os ms es).loopPlace = none := by
  unfold Rd.loopPlace
  show List.findIdx? _ [ws.length] = none
  rw [List.findIdx?_cons, wordIs_at h, decide_eq_false hv]
  rfl
/-- the loop -/
theorem read_loop {ws : List Str} {os : List (Option Nat)} {ms es : List (Nat × Nat)} {rest : List (List Str)} : readAll ⟨ws, [], os, ms, es⟩ (["each", "ab"] :: ["pause"] :: ["end"] :: rest) = readAll ⟨ws ++ [("each" : Str), "pause", "end"], [], os ++ [none, some ws.length, some ws.length], ms, put es ws.length (ws.length + 2)⟩ rest := by
  rw [read_one (by decide +kernel) rfl]
  show readAll ⟨ws ++ [("each" : Str)], [ws.length], os ++ [none], ms, es⟩ _ = _
  rw [read_one (by decide +kernel) rfl]
  show readAll ⟨ws ++ [("each" : Str)] ++ [("pause" : Str)], [ws.length], os ++ [none] ++ [some ws.length], ms, es⟩ _ = _
  rw [List.append_assoc, List.append_assoc]
  rw [read_one (by decide +kernel) ?_]
  · show readAll ⟨ws ++ ([("each" : Str)] ++ [("pause" : Str)]) ++ [("end" : Str)], [], os ++ ([none] ++ [some ws.length]) ++ [some ws.length], ms, put es ws.length (ws ++ ([("each" : Str)] ++ [("pause" : Str)])).length⟩ _ = _
    rw [show (ws ++ ([("each" : Str)] ++ [("pause" : Str)])).length = ws.length + 2 by simp]
    simp only [List.append_assoc]
    rfl
  · show (!(Rd.mk (ws ++ ([("each" : Str)] ++ [("pause" : Str)])) [ws.length] _ ms es).wordIs "try" ws.length || _) = true
    rw [wordIs_at (v := "each") rfl]
    rfl
/-- what stands within: its words, its openers, its end -/
def innerW (u : Str) : List Str := if u = "retry" then ["retry", "end"] else [u]
def innerO (u : Str) (o : Option Nat) (r : Nat) : List (Option Nat) := if u = "retry" then [o, some r] else [o]
def innerE (u : Str) (es : List (Nat × Nat)) (r : Nat) : List (Nat × Nat) := if u = "retry" then put es r (r + 1) else es
/-- at the top -/
theorem read_inner0 {ws : List Str} {os : List (Option Nat)} {ms es : List (Nat × Nat)} {rest : List (List Str)} {u : Str} (h : u ∈ plain10 ∨ u = "retry") : readAll ⟨ws, [], os, ms, es⟩ (innerR u ++ rest) = readAll ⟨ws ++ innerW u, [], os ++ innerO u none ws.length, ms, innerE u es ws.length⟩ rest := by
  by_cases hu : u = "retry"
  · subst hu
    show readAll ⟨ws, [], os, ms, es⟩ (["retry", "2"] :: ["end"] :: rest) = readAll ⟨ws ++ [("retry" : Str), "end"], [], os ++ [none, some ws.length], ms, put es ws.length (ws.length + 1)⟩ rest
    rw [read_one (by decide +kernel) rfl]
    show readAll ⟨ws ++ [("retry" : Str)], [ws.length], os ++ [none], ms, es⟩ _ = _
    rw [read_one (by decide +kernel) ?_]
    · show readAll ⟨ws ++ [("retry" : Str)] ++ [("end" : Str)], [], os ++ [none] ++ [some ws.length], ms, put es ws.length (ws ++ [("retry" : Str)]).length⟩ _ = _
      rw [List.append_assoc, List.append_assoc, show (ws ++ [("retry" : Str)]).length = ws.length + 1 by simp]
      rfl
    · show (!(Rd.mk (ws ++ [("retry" : Str)]) [ws.length] _ ms es).wordIs "try" ws.length || _) = true
      rw [wordIs_at (v := "retry") rfl]
      rfl
  · have hp : u ∈ plain10 := h.resolve_right hu
    unfold innerR innerW innerO innerE
    rw [if_neg hu, if_neg hu, if_neg hu, if_neg hu]
    exact read_plain hp rfl
/-- in a block that is no loop -/
theorem read_inner1 {ws : List Str} {os : List (Option Nat)} {ms es : List (Nat × Nat)} {rest : List (List Str)} {u v : Str} (h : u ∈ plain10 ∨ u = "retry") (hv : v ≠ "each") (hr : v ≠ "retry") : readAll ⟨ws ++ [v], [ws.length], os, ms, es⟩ (innerR u ++ rest) = readAll ⟨ws ++ [v] ++ innerW u, [ws.length], os ++ innerO u (some ws.length) (ws.length + 1), ms, innerE u es (ws.length + 1)⟩ rest := by
  by_cases hu : u = "retry"
  · subst hu
    show readAll ⟨ws ++ [v], [ws.length], os, ms, es⟩ (["retry", "2"] :: ["end"] :: rest) = readAll ⟨ws ++ [v] ++ [("retry" : Str), "end"], [ws.length], os ++ [some ws.length, some (ws.length + 1)], ms, put es (ws.length + 1) (ws.length + 2)⟩ rest
    rw [read_one (by decide +kernel) ?_]
    rotate_left 1
    · unfold Rd.fits
      rw [if_neg (by decide), if_pos (by decide)]
      unfold Rd.mayOpen
      rw [place_at (l := [v]) (v := v) rfl hv]
      have e : (decide ((Rd.mk (ws ++ [v]) [ws.length] os ms es).stack.length ≥ 5) || (decide (("retry" : Str) = "each") && (none : Option Nat).isSome)) = false := rfl
      rw [e, if_neg (by decide)]
      exact Bool.or_eq_true_iff.mpr (.inr (decide_eq_true (Nat.lt_of_le_of_lt (List.length_filter_le _ _) (by show 1 < 2; decide))))
    show readAll ⟨ws ++ [v] ++ [("retry" : Str)], [ws.length] ++ [(ws ++ [v]).length], os ++ [some ws.length], ms, es⟩ _ = _
    rw [show (ws ++ [v]).length = ws.length + 1 by simp]
    rw [read_one (by decide +kernel) ?_]
    · show readAll ⟨ws ++ [v] ++ [("retry" : Str)] ++ [("end" : Str)], [ws.length], os ++ [some ws.length] ++ [some (ws.length + 1)], ms, put es (ws.length + 1) (ws ++ [v] ++ [("retry" : Str)]).length⟩ _ = _
      rw [List.append_assoc (ws ++ [v]), List.append_assoc os, show (ws ++ [v] ++ [("retry" : Str)]).length = ws.length + 2 by simp]
      rfl
    · show (!(Rd.mk (ws ++ [v] ++ [("retry" : Str)]) _ _ ms es).wordIs "try" (ws.length + 1) || _) = true
      have : (Rd.mk (ws ++ [v] ++ [("retry" : Str)]) ([ws.length] ++ [ws.length + 1]) (os ++ [some ws.length]) ms es).wordIs "try" (ws.length + 1) = false := by
        unfold Rd.wordIs
        show decide ((ws ++ [v] ++ [("retry" : Str)])[ws.length + 1]? = some ("try" : Str)) = false
        rw [List.append_assoc, at_len]
        show decide (some ("retry" : Str) = some ("try" : Str)) = false
        decide
      rw [this]
      rfl
  · have hp : u ∈ plain10 := h.resolve_right hu
    unfold innerR innerW innerO innerE
    rw [if_neg hu, if_neg hu, if_neg hu, if_neg hu]
    exact read_plain hp (place_at (l := [v]) rfl hv)
def bodyW (k : Nat) (u : Str) : List Str := if k = 0 then innerW u else if k = 1 then ([("try" : Str)] ++ innerW u ++ [("finally" : Str), "close", "end"]) else if k = 2 then ([("try" : Str)] ++ innerW u ++ [("rescue" : Str), "close", "end"]) else ([("shield" : Str)] ++ innerW u ++ [("end" : Str)])
def bodyO (k : Nat) (u : Str) (n : Nat) : List (Option Nat) := if k = 0 then innerO u none n else if k = 3 then ([none] ++ innerO u (some n) (n + 1) ++ [some n]) else ([none] ++ innerO u (some n) (n + 1) ++ [some n, some n, some n])
def bodyE (k : Nat) (u : Str) (es : List (Nat × Nat)) (n : Nat) : List (Nat × Nat) := if k = 0 then innerE u es n else if k = 3 then put (innerE u es (n + 1)) n (n + 1 + (innerW u).length) else put (innerE u es (n + 1)) n (n + 1 + (innerW u).length + 2)
theorem read_open {ws : List Str} {os : List (Option Nat)} {es : List (Nat × Nat)} {rest : List (List Str)} {v : Str} (h : v = "try" ∨ v = "shield") : readAll ⟨ws, [], os, [], es⟩ ([v] :: rest) = readAll ⟨ws ++ [v], [ws.length], os ++ [none], [], es⟩ rest := by
  rcases h with rfl | rfl
  · rw [read_one (by decide +kernel) rfl]; rfl
  · rw [read_one (by decide +kernel) rfl]; rfl
theorem read_mid {ws l : List Str} {os : List (Option Nat)} {es : List (Nat × Nat)} {rest : List (List Str)} {v : Str} (h : v = "finally" ∨ v = "rescue") (hl : l[0]? = some ("try" : Str)) :
    readAll ⟨ws ++ l, [ws.length], os, [], es⟩ ([v] :: ["close"] :: ["end"] :: rest) = readAll ⟨ws ++ l ++ [v, "close", "end"], [], os ++ [some ws.length, some ws.length, some ws.length], [(ws.length, ws.length + l.length)], put es ws.length (ws.length + l.length + 2)⟩ rest := by
  have hw : ∀ {l2 : List Str} {os : List (Option Nat)} {ms es : List (Nat × Nat)}, (Rd.mk (ws ++ (l ++ l2)) [ws.length] os ms es).wordIs "try" ws.length = true := fun {l2 os ms es} => by
    rw [wordIs_at (v := "try") (by rw [List.getElem?_append_left (by cases l with | nil => cases hl | cons a b => simp)]; exact hl)]
    rfl
  have hf : (Rd.mk (ws ++ l) [ws.length] os [] es).fits v = true := by
    have h1 := hw (l2 := []) (os := os) (ms := []) (es := es)
    rw [List.append_nil] at h1
    unfold Rd.fits
    rcases h with rfl | rfl
    · rw [if_pos (by decide)]
      show ((Rd.mk (ws ++ l) [ws.length] os [] es).wordIs (if ("finally" : Str) = "else" then "maybe" else "try") ws.length && !((Rd.mk (ws ++ l) [ws.length] os [] es).hasMid ws.length)) = true
      rw [if_neg (by decide), h1]
      rfl
    · rw [if_pos (by decide)]
      show ((Rd.mk (ws ++ l) [ws.length] os [] es).wordIs (if ("rescue" : Str) = "else" then "maybe" else "try") ws.length && !((Rd.mk (ws ++ l) [ws.length] os [] es).hasMid ws.length)) = true
      rw [if_neg (by decide), h1]
      rfl
  have hr : isRow [v] = true := by rcases h with rfl | rfl <;> decide +kernel
  rw [read_one hr hf]
  have ht : (Rd.mk (ws ++ l) [ws.length] os [] es).take v = ⟨ws ++ l ++ [v], [ws.length], os ++ [some ws.length], [(ws.length, (ws ++ l).length)], es⟩ := by
    rcases h with rfl | rfl <;> rfl
  rw [ht]
  have hpl : ∀ {l2 : List Str} {os : List (Option Nat)} {ms es : List (Nat × Nat)}, (Rd.mk (ws ++ l ++ l2) [ws.length] os ms es).loopPlace = none := fun {l2 os ms es} => by
    rw [List.append_assoc]
    exact place_at (v := "try") (by rw [List.getElem?_append_left (by cases l with | nil => cases hl | cons a b => simp)]; exact hl) (by decide)
  rw [read_plain (by decide) hpl]
  show readAll ⟨ws ++ l ++ [v] ++ [("close" : Str)], [ws.length], os ++ [some ws.length] ++ [some ws.length], [(ws.length, (ws ++ l).length)], es⟩ _ = _
  have hm : ((([(ws.length, (ws ++ l).length)] : List (Nat × Nat)).lookup ws.length).isSome) = true := by
    rw [List.lookup_cons]
    simp
  rw [read_one (by decide +kernel) ?_]
  · show readAll ⟨ws ++ l ++ [v] ++ [("close" : Str)] ++ [("end" : Str)], [], os ++ [some ws.length] ++ [some ws.length] ++ [some ws.length], [(ws.length, (ws ++ l).length)], put es ws.length (ws ++ l ++ [v] ++ [("close" : Str)]).length⟩ _ = _
    rw [show (ws ++ l ++ [v] ++ [("close" : Str)]).length = ws.length + l.length + 2 by simp; omega, show (ws ++ l).length = ws.length + l.length by simp]
    simp only [List.append_assoc]
    rfl
  · show (!(Rd.mk (ws ++ l ++ [v] ++ [("close" : Str)]) [ws.length] _ [(ws.length, (ws ++ l).length)] es).wordIs "try" ws.length || (([(ws.length, (ws ++ l).length)] : List (Nat × Nat)).lookup ws.length).isSome) = true
    rw [hm, Bool.or_true]
theorem read_shut {ws l : List Str} {os : List (Option Nat)} {es : List (Nat × Nat)} {rest : List (List Str)} (hl : l[0]? = some ("shield" : Str)) :
    readAll ⟨ws ++ l, [ws.length], os, [], es⟩ (["end"] :: rest) = readAll ⟨ws ++ l ++ [("end" : Str)], [], os ++ [some ws.length], [], put es ws.length (ws.length + l.length)⟩ rest := by
  rw [read_one (by decide +kernel) ?_]
  · show readAll ⟨ws ++ l ++ [("end" : Str)], [], os ++ [some ws.length], [], put es ws.length (ws ++ l).length⟩ _ = _
    rw [show (ws ++ l).length = ws.length + l.length by simp]
  · show (!(Rd.mk (ws ++ l) [ws.length] _ [] es).wordIs "try" ws.length || _) = true
    rw [wordIs_at (v := "shield") hl]
    rfl
theorem read_body {ws : List Str} {os : List (Option Nat)} {es : List (Nat × Nat)} {k : Nat} {u : Str} (hk : k < 4) (h : u ∈ plain10 ∨ u = "retry") : ∃ ms, readAll ⟨ws, [], os, [], es⟩ (bodyR k u ++ [[("check" : Str)]]) = some ⟨ws ++ bodyW k u ++ [("check" : Str)], [], os ++ bodyO k u ws.length ++ [none], ms, bodyE k u es ws.length⟩ := by
  have fin : ∀ {ws : List Str} {os : List (Option Nat)} {ms es : List (Nat × Nat)}, readAll ⟨ws, [], os, ms, es⟩ [[("check" : Str)]] = some ⟨ws ++ [("check" : Str)], [], os ++ [none], ms, es⟩ := fun {ws os ms es} => by
    rw [read_plain (by decide) rfl]
    rfl
  have hk4 : k = 0 ∨ k = 1 ∨ k = 2 ∨ k = 3 := by omega
  rcases hk4 with rfl | rfl | rfl | rfl
  · refine ⟨[], ?_⟩
    show readAll _ (innerR u ++ [[("check" : Str)]]) = _
    rw [read_inner0 h, fin]
    rfl
  · refine ⟨[(ws.length, ws.length + (1 + (innerW u).length))], ?_⟩
    show readAll _ ([("try" : Str)] :: (innerR u ++ [[("finally" : Str)], ["close"], ["end"]]) ++ [[("check" : Str)]]) = _
    rw [List.cons_append, read_open (.inl rfl), List.append_assoc, read_inner1 h (by decide) (by decide), List.append_assoc ws]
    show readAll _ ([("finally" : Str)] :: ["close"] :: ["end"] :: [[("check" : Str)]]) = _
    rw [read_mid (.inl rfl) rfl, fin]
    have e : ([("try" : Str)] ++ innerW u).length = 1 + (innerW u).length := by simp; omega
    rw [e]
    simp only [bodyW, bodyO, bodyE, List.append_assoc, if_neg (show ¬ (1 : Nat) = 0 by decide), if_neg (show ¬ (1 : Nat) = 3 by decide), if_true]
    rw [show ws.length + (1 + (innerW u).length) + 2 = ws.length + 1 + (innerW u).length + 2 by omega]
  · refine ⟨[(ws.length, ws.length + (1 + (innerW u).length))], ?_⟩
    show readAll _ ([("try" : Str)] :: (innerR u ++ [[("rescue" : Str)], ["close"], ["end"]]) ++ [[("check" : Str)]]) = _
    rw [List.cons_append, read_open (.inl rfl), List.append_assoc, read_inner1 h (by decide) (by decide), List.append_assoc ws]
    show readAll _ ([("rescue" : Str)] :: ["close"] :: ["end"] :: [[("check" : Str)]]) = _
    rw [read_mid (.inr rfl) rfl, fin]
    have e : ([("try" : Str)] ++ innerW u).length = 1 + (innerW u).length := by simp; omega
    rw [e]
    simp only [bodyW, bodyO, bodyE, List.append_assoc, if_neg (show ¬ (2 : Nat) = 0 by decide), if_neg (show ¬ (2 : Nat) = 1 by decide), if_neg (show ¬ (2 : Nat) = 3 by decide), if_true]
    rw [show ws.length + (1 + (innerW u).length) + 2 = ws.length + 1 + (innerW u).length + 2 by omega]
  · refine ⟨[], ?_⟩
    show readAll _ ([("shield" : Str)] :: (innerR u ++ [[("end" : Str)]]) ++ [[("check" : Str)]]) = _
    rw [List.cons_append, read_open (.inr rfl), List.append_assoc, read_inner1 h (by decide) (by decide), List.append_assoc ws]
    show readAll _ ([("end" : Str)] :: [[("check" : Str)]]) = _
    rw [read_shut rfl, fin]
    have e : ([("shield" : Str)] ++ innerW u).length = 1 + (innerW u).length := by simp; omega
    rw [e]
    simp only [bodyW, bodyO, bodyE, List.append_assoc, if_neg (show ¬ (3 : Nat) = 0 by decide), if_neg (show ¬ (3 : Nat) = 1 by decide), if_neg (show ¬ (3 : Nat) = 2 by decide), if_true]
    rw [show ws.length + (1 + (innerW u).length) = ws.length + 1 + (innerW u).length by omega]
/-- all of a function of k45's -/
def loopW (b : Bool) : List Str := if b then ["each", "pause", "end"] else []
def loopO (b : Bool) (n : Nat) : List (Option Nat) := if b then [none, some n, some n] else []
def loopE (b : Bool) (n : Nat) : List (Nat × Nat) := if b then [(n, n + 2)] else []
def allW (m : Str) (n : Nat) (b : Bool) (k : Nat) (u : Str) : List Str := preOf m n ++ loopW b ++ bodyW k u ++ [("check" : Str)]
def allO (m : Str) (n : Nat) (b : Bool) (k : Nat) (u : Str) : List (Option Nat) := List.replicate (preOf m n).length none ++ loopO b (preOf m n).length ++ bodyO k u ((preOf m n).length + (loopW b).length) ++ [none]
def allE (m : Str) (n : Nat) (b : Bool) (k : Nat) (u : Str) : List (Nat × Nat) := bodyE k u (loopE b (preOf m n).length) ((preOf m n).length + (loopW b).length)
theorem pre_plain {m : Str} {n : Nat} : ∀ u ∈ preOf m n, u = "ask" ∨ u = "head" ∨ u = "begin" ∨ u = "close" := fun u hu => by
  unfold preOf at hu
  simp only [List.mem_append, List.mem_replicate] at hu
  rcases hu with ((hu | hu) | hu) | hu
  · exact .inl hu.2
  · split at hu
    · exact .inr (.inl (List.mem_singleton.mp hu))
    · cases hu
  · split at hu
    · exact .inr (.inr (.inl (List.mem_singleton.mp hu)))
    · cases hu
  · split at hu
    · exact .inr (.inr (.inr (List.mem_singleton.mp hu)))
    · cases hu
theorem read_all {m : Str} {n : Nat} {b : Bool} {k : Nat} {u : Str} (hk : k < 4) (h : u ∈ plain10 ∨ u = "retry") : ∃ ms, readAll Rd.nil (rowsOf m n b k u) = some ⟨allW m n b k u, [], allO m n b k u, ms, allE m n b k u⟩ := by
  have hp : ∀ v ∈ preOf m n, v ∈ plain10 := fun v hv => by
    rcases pre_plain v hv with rfl | rfl | rfl | rfl <;> decide
  unfold rowsOf Rd.nil
  rw [List.append_assoc, List.append_assoc, read_plains hp]
  rw [List.nil_append, List.nil_append]
  cases b with
  | false =>
    obtain ⟨ms, h2⟩ := read_body (ws := preOf m n) (os := List.replicate (preOf m n).length none) (es := []) hk h
    refine ⟨ms, ?_⟩
    show readAll _ ([] ++ _) = _
    rw [List.nil_append, h2]
    unfold allW allO allE loopW loopO loopE
    simp
  | true =>
    obtain ⟨ms, h2⟩ := read_body (ws := preOf m n ++ [("each" : Str), "pause", "end"]) (os := List.replicate (preOf m n).length none ++ [none, some (preOf m n).length, some (preOf m n).length]) (es := put [] (preOf m n).length ((preOf m n).length + 2)) hk h
    refine ⟨ms, ?_⟩
    show readAll _ (["each", "ab"] :: ["pause"] :: ["end"] :: (bodyR k u ++ [[("check" : Str)]])) = _
    rw [read_loop, h2]
    unfold allW allO allE loopW loopO loopE
    simp
    rfl
end PySem.Fl
end
section
set_option Elab.async false
set_option autoImplicit false
set_option linter.all false
set_option maxRecDepth 100000
set_option maxHeartbeats 2000000
/-! the plain run of k45 -/
namespace PySem.Fl
open PySem PySem.Spec PyProof.Rows L2 PySem.OxE LawC
section
variable {F : Fn} {b c : Nat} {nm : Str} {r' j row : Nat} {ts' : List Int} {m : Str} {n a t : Int}
theorem rounds_reach (h : LoopAt F b nm) (hl : Land F j (b + 3) r' ts') (hj : j < 99) (hrow : b + 2 < row) : ∀ (k d : Nat) (tr : List (Nat × Str)), d + (k + 1) = c → tr.length + 2 * (k + 1) ≤ 900 →
    ∃ tr' : List (Nat × Str), tr'.length = tr.length + 2 * (k + 1) ∧ Reach row (wkOf F [(nm, (c : Int))] (b + 1) [] [(b, (d : Int))] m n a t tr) (2 * (k + 1)) (wkOf F [(nm, (c : Int))] r' ts' [] m n a t tr')
  | 0, d, tr, hd, hz => by
    obtain ⟨⟨cs, p1, p2⟩, p3⟩ := pause_go (c := c) (m := m) (n := n) (a := a) (t := t) (d := (d : Int)) (tr := tr) h
    obtain ⟨q1, q2⟩ := end_over (m := m) (n := n) (a := a) (t := t) (d := (d : Int)) (tr := tr ++ [(b + 1, ("go" : Str))]) h (by omega : ¬ (d : Int) + 1 < (c : Int)) hl hj
    refine ⟨_, ?_, reach_trans (k := 1) (k2 := 1) (reach1 (calm_wk (by simp) (by simp) (by omega)) (by show b + 1 ≠ row; omega) (over_wk h.body.lt) p1 p2 p3) (reach1 (calm_wk (by simp) (by simp) (by simp; omega)) (by show b + 2 ≠ row; omega) (over_wk h.fin.lt) q1 rfl q2)⟩
    simp
  | k + 1, d, tr, hd, hz => by
    obtain ⟨⟨cs, p1, p2⟩, p3⟩ := pause_go (c := c) (m := m) (n := n) (a := a) (t := t) (d := (d : Int)) (tr := tr) h
    obtain ⟨q1, q2⟩ := end_item (m := m) (n := n) (a := a) (t := t) (d := (d : Int)) (tr := tr ++ [(b + 1, ("go" : Str))]) h (by omega : (d : Int) + 1 < (c : Int))
    obtain ⟨tr', i1, i2⟩ := rounds_reach h hl hj hrow k (d + 1) (tr ++ [(b + 1, ("go" : Str))] ++ [(b + 2, ("item" : Str))]) (by omega) (by simp; omega)
    refine ⟨tr', by rw [i1]; simp; omega, ?_⟩
    have e : ((d + 1 : Nat) : Int) = (d : Int) + 1 := by omega
    rw [e] at i2
    have r2 := reach_trans (k := 1) (k2 := 1) (row := row) (reach1 (calm_wk (by simp) (by simp) (by omega)) (by show b + 1 ≠ row; omega) (over_wk h.body.lt) p1 p2 p3) (reach1 (calm_wk (by simp) (by simp) (by simp; omega)) (by show b + 2 ≠ row; omega) (over_wk h.fin.lt) q1 rfl q2)
    rw [show 2 * (k + 1 + 1) = (1 + 1) + 2 * (k + 1) by omega]
    exact reach_trans r2 i2
theorem loop_reach (h : LoopAt F b nm) (hl : Land F j (b + 3) r' ts') (hj : j < 99) (hrow : b + 2 < row) (tr : List (Nat × Str)) (hz : tr.length + 2 * c + 1 ≤ 900) :
    ∃ tr' : List (Nat × Str), tr'.length = tr.length + (1 + 2 * c) ∧ Reach row (wkOf F [(nm, (c : Int))] b [] [] m n a t tr) (1 + 2 * c) (wkOf F [(nm, (c : Int))] r' ts' [] m n a t tr') := by
  cases c with
  | zero =>
    obtain ⟨q1, q2⟩ := each_over (c := 0) (m := m) (n := n) (a := a) (t := t) (tr := tr) h rfl hl hj
    exact ⟨_, by simp, reach1 (calm_wk (by simp) (by simp) (by omega)) (by show b ≠ row; omega) (over_wk h.each.lt) q1 rfl q2⟩
  | succ k =>
    obtain ⟨q1, q2⟩ := each_item (c := k + 1) (m := m) (n := n) (a := a) (t := t) (tr := tr) h (by omega)
    obtain ⟨tr', i1, i2⟩ := rounds_reach (c := k + 1) (m := m) (n := n) (a := a) (t := t) h hl hj hrow k 0 (tr ++ [(b, ("item" : Str))]) (by omega) (by simp; omega)
    refine ⟨tr', by rw [i1]; simp; omega, reach_trans (k := 1) (reach1 (calm_wk (by simp) (by simp) (by omega)) (by show b ≠ row; omega) (over_wk h.each.lt) q1 rfl q2) i2⟩
end
/-! the rows ahead -/
structure PS where
  m : Str
  n : Int
  a : Int
  t : Int
def pst (s : PS) (u : Str) : PS := ⟨after u s.m, if resets u then 0 else s.n + change u, s.a + mx (change u), s.t + mx (-change u)⟩
def okF : List Str → PS → Bool
  | [], _ => true
  | u :: us, s => (dueOf u s.m s.n).isNone && okF us (pst s u)
def preChk (m : Str) (n : Nat) : Bool := okF (preOf m n) ⟨"whole", 0, 0, 0⟩ && decide (((preOf m n).foldl pst ⟨"whole", 0, 0, 0⟩).m = m) && decide (((preOf m n).foldl pst ⟨"whole", 0, 0, 0⟩).n = owedOf m n)
theorem pre_all : (marks5.all fun m => (List.range 7).all fun n => !(decide (m = "in" ∨ m = "both" → 1 ≤ n)) || preChk m n) = true := by decide +kernel
theorem pre_chk {m : Str} {n : Nat} (hm : m ∈ marks5) (hn : n ≤ 6) (h : m = "in" ∨ m = "both" → 1 ≤ n) : okF (preOf m n) ⟨"whole", 0, 0, 0⟩ = true ∧ ((preOf m n).foldl pst ⟨"whole", 0, 0, 0⟩).m = m ∧ ((preOf m n).foldl pst ⟨"whole", 0, 0, 0⟩).n = owedOf m n := by
  have h1 := List.all_eq_true.mp (List.all_eq_true.mp pre_all m hm) n (List.mem_range.mpr (by omega))
  rw [decide_eq_true h] at h1
  have h2 : preChk m n = true := by simpa using h1
  unfold preChk at h2
  obtain ⟨h3, h4⟩ := Bool.and_eq_true_iff.mp h2
  obtain ⟨h5, h6⟩ := Bool.and_eq_true_iff.mp h3
  exact ⟨h5, of_decide_eq_true h6, of_decide_eq_true h4⟩
theorem pre_reach {F : Fn} {ls : List (Str × Int)} {row r' j : Nat} {ts' : List Int} : ∀ (us : List Str) (r : Nat) (s : PS) (tr : List (Nat × Str)), okF us s = true → (∀ u ∈ us, u = "ask" ∨ u = "head" ∨ u = "begin" ∨ u = "close") → (∀ i u, us[i]? = some u → AtR F (r + i) u none) →
    Land F j (r + us.length) r' ts' → j < 99 → r + us.length ≤ row → tr.length + us.length ≤ 900 →
    ∃ (j0 r0 : Nat) (ts0 : List Int) (tr' : List (Nat × Str)), Land F j0 r r0 ts0 ∧ j0 < 99 ∧ tr'.length = tr.length + us.length ∧ Reach row (wkOf F ls r0 ts0 [] s.m s.n s.a s.t tr) us.length (wkOf F ls r' ts' [] (us.foldl pst s).m (us.foldl pst s).n (us.foldl pst s).a (us.foldl pst s).t tr')
  | [], r, s, tr, _, _, _, hl, hj, _, _ => ⟨j, r', ts', tr, hl, hj, rfl, reach0⟩
  | u :: us, r, s, tr, hok, hu, hat, hl, hj, hrow, hz => by
    unfold okF at hok
    obtain ⟨h1, h2⟩ := Bool.and_eq_true_iff.mp hok
    have hlen : (u :: us).length = us.length + 1 := rfl
    rw [hlen] at hl hrow hz
    obtain ⟨j1, r1, ts1, tr', l1, l2, l3, l4⟩ := pre_reach (ls := ls) (row := row) us (r + 1) (pst s u) (tr ++ [(r, ("go" : Str))]) h2 (fun v hv => hu v (List.mem_cons_of_mem _ hv)) (fun i v hv => by
      have := hat (i + 1) v (by simpa using hv)
      rwa [show r + (i + 1) = r + 1 + i by omega] at this) (by rwa [show r + (us.length + 1) = r + 1 + us.length by omega] at hl) hj (by omega) (by simp; omega)
    have h0 : AtR F r u none := hat 0 u rfl
    have hu4 := hu u List.mem_cons_self
    have hst : Stop F r [] := by
      have := stop_top h0 (by rcases hu4 with rfl | rfl | rfl | rfl <;> decide) (by rcases hu4 with rfl | rfl | rfl | rfl <;> decide)
      rwa [if_neg (by rcases hu4 with rfl | rfl | rfl | rfl <;> decide)] at this
    have hgo : u ∈ goW := by rcases hu4 with rfl | rfl | rfl | rfl <;> decide
    refine ⟨0, r, [], tr', land_stop hst, by decide, by rw [l3]; simp; omega, ?_⟩
    obtain ⟨cs, c1, c2, c3⟩ := choices_go (ls := ls) (ts := []) (rs := []) (m := s.m) (n := s.n) (a := s.a) (t := s.t) (tr := tr) h0.w hgo (shield_of h0)
    rw [hlen, Nat.add_comm us.length 1]
    exact reach_trans (reach1 (calm_wk (by simp) (by simp) (by omega)) (by show r ≠ row; omega) (over_wk h0.lt) c1 c2 (step_go h0.w hgo (shield_of h0) hst l1 l2 (Option.isNone_iff_eq_none.mp h1))) l4
/-! what stands behind the prefix and the loop -/
structure BodyOK (F : Fn) (q row : Nat) (u : Str) : Prop where
  ex : ∃ (ts ts2 : List Int) (j1 j2 r2 : Nat), Land F j1 q row ts ∧ j1 < 99 ∧ Land F j2 (row + 1) r2 ts2 ∧ j2 < 99 ∧ ts.length ≤ 100 ∧ ts2.length ≤ 100
  w : F.words[row]? = some u
  sh : ∃ s, F.isShielded row = some s
theorem ts_len (u : Str) : (if u = "retry" then [(1 : Int)] else []).length ≤ 100 := by split <;> simp
theorem go_pass {u : Str} (h : u ∈ goW) : u ≠ "end" ∧ u ∉ passedW := by
  unfold goW at h
  simp only [List.mem_cons, List.not_mem_nil, or_false] at h
  rcases h with rfl | rfl | rfl | rfl | rfl | rfl | rfl | rfl | rfl | rfl | rfl <;> exact ⟨by decide, by decide⟩
theorem body_ok {F : Fn} {q k : Nat} {u : Str} {es : List (Nat × Nat)} (hk : k < 4) (hu : u ∈ goW) (hw : ∀ i, F.words[q + i]? = (bodyW k u ++ [("check" : Str)])[i]?) (ho : ∀ i, F.openers[q + i]? = (bodyO k u q ++ [none])[i]?) (he : F.ends = bodyE k u es q) : BodyOK F q (q + if k = 0 then 0 else 1) u := by
  obtain ⟨ne, np⟩ := go_pass hu
  have at_ : ∀ {i : Nat} {w : Str} {o : Option Nat}, (bodyW k u ++ [("check" : Str)])[i]? = some w → (bodyO k u q ++ [none])[i]? = some o → AtR F (q + i) w o := fun {i w o} h1 h2 => ⟨(hw i).trans h1, (ho i).trans h2⟩
  have hchk : ∀ {r : Nat}, AtR F r "check" none → Stop F r [] := fun {r} h => by
    have := stop_top h (by decide) (by decide)
    rwa [if_neg (by decide)] at this
  have hk4 : k = 0 ∨ k = 1 ∨ k = 2 ∨ k = 3 := by omega
  by_cases hr : u = "retry"
  · subst hr
    rcases hk4 with rfl | rfl | rfl | rfl
    · have a0 : AtR F (q + 0) "retry" none := at_ rfl rfl
      have a1 : AtR F (q + 1) "end" (some q) := at_ rfl rfl
      have a2 : AtR F (q + 2) "check" none := at_ rfl rfl
      exact ⟨⟨_, [], 0, 1, _, land_stop (stop_top a0 ne np), by decide, land_pass (pass_end a1 a0 (by decide) (by decide)) (land_stop (hchk a2)), by decide, ts_len _, by simp⟩, a0.w, shield_of a0⟩
    · have a0 : AtR F (q + 0) "try" none := at_ rfl rfl
      have hb : BlkR F q "try" := ⟨a0, by decide, by decide⟩
      have a1 : AtR F (q + 1) "retry" (some q) := at_ rfl rfl
      have a2 : AtR F (q + 2) "end" (some (q + 1)) := at_ rfl rfl
      have a3 : AtR F (q + 3) "finally" (some q) := at_ rfl rfl
      have a4 : AtR F (q + 4) "close" (some q) := at_ rfl rfl
      exact ⟨⟨_, _, 1, 2, _, land_pass (pass_word a0 (.inl rfl)) (land_stop (stop_in a1 hb ne np)), by decide, land_pass (pass_end a2 a1 (by decide) (by decide)) (land_pass (pass_word a3 (.inr (.inr rfl))) (land_stop (stop_in a4 hb (by decide) (by decide)))), by decide, ts_len _, ts_len _⟩, a1.w, shield_in a1 a0⟩
    · have a0 : AtR F (q + 0) "try" none := at_ rfl rfl
      have hb : BlkR F q "try" := ⟨a0, by decide, by decide⟩
      have a1 : AtR F (q + 1) "retry" (some q) := at_ rfl rfl
      have a2 : AtR F (q + 2) "end" (some (q + 1)) := at_ rfl rfl
      have a3 : AtR F (q + 3) "rescue" (some q) := at_ rfl rfl
      have a6 : AtR F (q + 6) "check" none := at_ rfl rfl
      have hf : F.fin q = some (q + 5) := by
        unfold Fn.fin
        rw [he]
        show (put _ q (q + 1 + 2 + 2)).lookup q = _
        exact look_put _ _ _
      exact ⟨⟨_, _, 1, 2, _, land_pass (pass_word a0 (.inl rfl)) (land_stop (stop_in a1 hb ne np)), by decide, land_pass (pass_end a2 a1 (by decide) (by decide)) (land_pass (pass_mid a3 hf) (land_stop (hchk a6))), by decide, ts_len _, by simp⟩, a1.w, shield_in a1 a0⟩
    · have a0 : AtR F (q + 0) "shield" none := at_ rfl rfl
      have hb : BlkR F q "shield" := ⟨a0, by decide, by decide⟩
      have a1 : AtR F (q + 1) "retry" (some q) := at_ rfl rfl
      have a2 : AtR F (q + 2) "end" (some (q + 1)) := at_ rfl rfl
      have a3 : AtR F (q + 3) "end" (some q) := at_ rfl rfl
      have a4 : AtR F (q + 4) "check" none := at_ rfl rfl
      exact ⟨⟨_, _, 1, 2, _, land_pass (pass_word a0 (.inr (.inl rfl))) (land_stop (stop_in a1 hb ne np)), by decide, land_pass (pass_end a2 a1 (by decide) (by decide)) (land_pass (pass_end a3 a0 (by decide) (by decide)) (land_stop (hchk a4))), by decide, ts_len _, by simp⟩, a1.w, shield_in a1 a0⟩
  · have hiw : innerW u = [u] := if_neg hr
    have hio : ∀ {o : Option Nat} {r : Nat}, innerO u o r = [o] := fun {o r} => if_neg hr
    rcases hk4 with rfl | rfl | rfl | rfl
    · have ew : bodyW 0 u = [u] := hiw
      have eo : bodyO 0 u q = [none] := hio
      rw [ew, eo] at at_
      have a0 : AtR F (q + 0) u none := at_ rfl rfl
      have a1 : AtR F (q + 1) "check" none := at_ rfl rfl
      exact ⟨⟨_, [], 0, 0, _, land_stop (stop_top a0 ne np), by decide, land_stop (hchk a1), by decide, ts_len _, by simp⟩, a0.w, shield_of a0⟩
    · have ew : bodyW 1 u = [("try" : Str), u, "finally", "close", "end"] := by show [("try" : Str)] ++ innerW u ++ _ = _; rw [hiw]; rfl
      have eo : bodyO 1 u q = [none, some q, some q, some q, some q] := by show [none] ++ innerO u (some q) (q + 1) ++ _ = _; rw [hio]; rfl
      rw [ew, eo] at at_
      have a0 : AtR F (q + 0) "try" none := at_ rfl rfl
      have hb : BlkR F q "try" := ⟨a0, by decide, by decide⟩
      have a1 : AtR F (q + 1) u (some q) := at_ rfl rfl
      have a3 : AtR F (q + 2) "finally" (some q) := at_ rfl rfl
      have a4 : AtR F (q + 3) "close" (some q) := at_ rfl rfl
      exact ⟨⟨_, _, 1, 1, _, land_pass (pass_word a0 (.inl rfl)) (land_stop (stop_in a1 hb ne np)), by decide, land_pass (pass_word a3 (.inr (.inr rfl))) (land_stop (stop_in a4 hb (by decide) (by decide))), by decide, ts_len _, ts_len _⟩, a1.w, shield_in a1 a0⟩
    · have ew : bodyW 2 u = [("try" : Str), u, "rescue", "close", "end"] := by show [("try" : Str)] ++ innerW u ++ _ = _; rw [hiw]; rfl
      have eo : bodyO 2 u q = [none, some q, some q, some q, some q] := by show [none] ++ innerO u (some q) (q + 1) ++ _ = _; rw [hio]; rfl
      rw [ew, eo] at at_
      have a0 : AtR F (q + 0) "try" none := at_ rfl rfl
      have hb : BlkR F q "try" := ⟨a0, by decide, by decide⟩
      have a1 : AtR F (q + 1) u (some q) := at_ rfl rfl
      have a3 : AtR F (q + 2) "rescue" (some q) := at_ rfl rfl
      have a5 : AtR F (q + 5) "check" none := at_ rfl rfl
      have hf : F.fin q = some (q + 4) := by
        unfold Fn.fin
        rw [he]
        show (put _ q (q + 1 + (innerW u).length + 2)).lookup q = _
        rw [hiw]
        exact look_put _ _ _
      exact ⟨⟨_, _, 1, 1, _, land_pass (pass_word a0 (.inl rfl)) (land_stop (stop_in a1 hb ne np)), by decide, land_pass (pass_mid a3 hf) (land_stop (hchk a5)), by decide, ts_len _, by simp⟩, a1.w, shield_in a1 a0⟩
    · have ew : bodyW 3 u = [("shield" : Str), u, "end"] := by show [("shield" : Str)] ++ innerW u ++ _ = _; rw [hiw]; rfl
      have eo : bodyO 3 u q = [none, some q, some q] := by show [none] ++ innerO u (some q) (q + 1) ++ _ = _; rw [hio]; rfl
      rw [ew, eo] at at_
      have a0 : AtR F (q + 0) "shield" none := at_ rfl rfl
      have hb : BlkR F q "shield" := ⟨a0, by decide, by decide⟩
      have a1 : AtR F (q + 1) u (some q) := at_ rfl rfl
      have a3 : AtR F (q + 2) "end" (some q) := at_ rfl rfl
      have a4 : AtR F (q + 3) "check" none := at_ rfl rfl
      exact ⟨⟨_, _, 1, 1, _, land_pass (pass_word a0 (.inr (.inl rfl))) (land_stop (stop_in a1 hb ne np)), by decide, land_pass (pass_end a3 a0 (by decide) (by decide)) (land_stop (hchk a4)), by decide, ts_len _, by simp⟩, a1.w, shield_in a1 a0⟩
where
  look_put (l : List (Nat × Nat)) (k v : Nat) : (put l k v).lookup k = some v := by
    unfold put
    by_cases c : (l.any fun p => decide (p.1 = k)) = true
    · rw [if_pos c]
      induction l with
      | nil => cases c
      | cons p l ih =>
        by_cases e : p.1 = k
        · rw [List.map_cons, if_pos e, List.lookup_cons]
          simp [e]
        · have hc : (l.any fun p => decide (p.1 = k)) = true := by
            rw [List.any_cons, decide_eq_false e, Bool.false_or] at c
            exact c
          obtain ⟨p1, p2⟩ := p
          have e2 : (k == p1) = false := by
            have : k ≠ p1 := fun z => e z.symm
            simpa using this
          rw [List.map_cons, if_neg e, List.lookup_cons, e2]
          exact ih hc
    · rw [if_neg c]
      have hn : ∀ (l : List (Nat × Nat)), (l.any fun p => decide (p.1 = k)) ≠ true → (l ++ [(k, v)]).lookup k = some v := fun l => by
        induction l with
        | nil => intro _; simp
        | cons p l ih =>
          intro hc
          obtain ⟨p1, p2⟩ := p
          rw [List.any_cons] at hc
          have e : p1 ≠ k := fun z => hc (by simp [z])
          have e2 : (k == p1) = false := by
            have : k ≠ p1 := fun z => e z.symm
            simpa using this
          rw [List.cons_append, List.lookup_cons, e2]
          exact ih fun z => hc (by rw [z, Bool.or_true])
      exact hn l c
end PySem.Fl
end
section
set_option Elab.async false
set_option autoImplicit false
set_option linter.all false
set_option maxRecDepth 100000
set_option maxHeartbeats 2000000
/-! the plain run of k45: all of it -/
namespace PySem.Fl
open PySem PySem.Spec PyProof.Rows L2 PySem.OxE LawC
theorem at_lenG {α : Type} (ws l : List α) (j k : Nat) (h : k = ws.length) : (ws ++ l)[k + j]? = l[j]? := by
  subst h
  rw [List.getElem?_append_right (by omega)]
  congr 1
  omega
theorem look_put_ne {α : Type} (l : List (Nat × α)) (k p : Nat) (v : α) (h : p ≠ k) : (put l k v).lookup p = l.lookup p := by
  have e2 : (p == k) = false := by simpa using h
  unfold put
  by_cases c : (l.any fun p => decide (p.1 = k)) = true
  · rw [if_pos c]
    clear c
    induction l with
    | nil => rfl
    | cons x l ih =>
      obtain ⟨x1, x2⟩ := x
      rw [List.map_cons, List.lookup_cons]
      by_cases e : x1 = k
      · rw [if_pos e, List.lookup_cons]
        subst e
        rw [e2]
        exact ih
      · rw [if_neg e, List.lookup_cons, ih]
  · rw [if_neg c]
    clear c
    induction l with
    | nil =>
      rw [List.nil_append, List.lookup_cons, e2]
    | cons x l ih =>
      obtain ⟨x1, x2⟩ := x
      rw [List.cons_append, List.lookup_cons, List.lookup_cons, ih]
theorem body_look {k p q : Nat} {u : Str} {es : List (Nat × Nat)} (h : p < q) : (bodyE k u es q).lookup p = es.lookup p := by
  have hi : ∀ {r : Nat}, p < r → (innerE u es r).lookup p = es.lookup p := fun {r} hr => by
    unfold innerE
    split
    · exact look_put_ne _ _ _ _ (by omega)
    · rfl
  unfold bodyE
  split
  · exact hi h
  · split
    · rw [look_put_ne _ _ _ _ (by omega)]
      exact hi (by omega)
    · rw [look_put_ne _ _ _ _ (by omega)]
      exact hi (by omega)
def nmS (L : List Str) (ws : List Str) : List Str := match nameOf ws with
  | some n => OxSetT.plus L n
  | none => L
theorem namesL_eq (rows : List (List Str)) : namesL rows = rows.foldl nmS [] := rfl
theorem names_skip : ∀ (rows : List (List Str)) (L : List Str), (∀ ws ∈ rows, nameOf ws = none) → rows.foldl nmS L = L
  | [], L, _ => rfl
  | ws :: rows, L, h => by
    have e : nmS L ws = L := by unfold nmS; rw [h ws List.mem_cons_self]
    rw [List.foldl_cons, e]
    exact names_skip rows L fun v hv => h v (List.mem_cons_of_mem _ hv)
theorem inner_name (u : Str) : ∀ ws ∈ innerR u, nameOf ws = none := fun ws h => by
  unfold innerR at h
  split at h
  · simp only [List.mem_cons, List.not_mem_nil, or_false] at h
    rcases h with rfl | rfl
    · rfl
    · rfl
  · rw [List.mem_singleton.mp h]; rfl
theorem body_name (k : Nat) (u : Str) : ∀ ws ∈ bodyR k u, nameOf ws = none := fun ws h => by
  unfold bodyR at h
  have hi := inner_name u ws
  split at h
  · exact hi h
  · split at h
    · simp only [List.mem_append, List.mem_cons, List.not_mem_nil, or_false] at h
      rcases h with (rfl | h) | rfl | rfl | rfl
      · rfl
      · exact hi h
      · rfl
      · rfl
      · rfl
    · split at h
      · simp only [List.mem_append, List.mem_cons, List.not_mem_nil, or_false] at h
        rcases h with (rfl | h) | rfl | rfl | rfl
        · rfl
        · exact hi h
        · rfl
        · rfl
        · rfl
      · simp only [List.mem_append, List.mem_cons, List.not_mem_nil, or_false] at h
        rcases h with (rfl | h) | rfl
        · rfl
        · exact hi h
        · rfl
theorem names_rows (m : Str) (n : Nat) (b : Bool) (k : Nat) (u : Str) : namesL (rowsOf m n b k u) = lnamesOf b := by
  rw [namesL_eq]
  unfold rowsOf
  rw [List.foldl_append, List.foldl_append, List.foldl_append]
  rw [names_skip ((preOf m n).map fun v => [v]) [] (fun ws h => by
    obtain ⟨v, _, rfl⟩ := List.mem_map.mp h
    rfl)]
  rw [names_skip (bodyR k u) _ (body_name k u), names_skip [[("check" : Str)]] _ (fun ws h => by rw [List.mem_singleton.mp h]; rfl)]
  cases b with
  | false => rfl
  | true => decide +kernel
theorem plain_ok {m : Str} {n : Nat} {b : Bool} {c k : Nat} {u : Str} (hm : m ∈ marks5) (hn : n ≤ 6) (h1 : m = "in" ∨ m = "both" → 1 ≤ n) (hc : c ≤ 5) (hk : k < 4) (hu : u ∈ words11) : PlainOK m n b c k u := by
  have hgo : u ∈ goW := by
    unfold words11 at hu
    simp only [List.mem_cons, List.not_mem_nil, or_false] at hu
    rcases hu with rfl | rfl | rfl | rfl | rfl | rfl | rfl | rfl | rfl | rfl | rfl <;> decide
  have hpr : u ∈ plain10 ∨ u = "retry" := by
    unfold words11 at hu
    simp only [List.mem_cons, List.not_mem_nil, or_false] at hu
    rcases hu with rfl | rfl | rfl | rfl | rfl | rfl | rfl | rfl | rfl | rfl | rfl
    case inr.inr.inr.inr.inr.inr.inl => exact .inr rfl
    all_goals exact .inl (by decide)
  obtain ⟨ms, hread⟩ := read_all (m := m) (n := n) (b := b) hk hpr
  obtain ⟨o1, o2, o3⟩ := pre_chk hm hn h1
  have hpl := pre_len m n hn
  obtain ⟨F, hF⟩ : ∃ F, mkFn (lnamesOf b) (rowsOf m n b k u) ⟨allW m n b k u, [], allO m n b k u, ms, allE m n b k u⟩ = F := ⟨_, rfl⟩
  have fw : F.words = allW m n b k u := by rw [← hF]; rfl
  have fo : F.openers = allO m n b k u := by rw [← hF]; rfl
  have fe : F.ends = allE m n b k u := by rw [← hF]; rfl
  have fl : F.lists = lnamesOf b := by rw [← hF]; rfl
  have fn : F.names = (rowsOf m n b k u).map nameOf := by rw [← hF]; rfl
  obtain ⟨p, hp⟩ : ∃ p, (preOf m n).length = p := ⟨_, rfl⟩
  have hlw : (loopW b).length = if b then 3 else 0 := by cases b <;> rfl
  have hlo : (loopO b p).length = if b then 3 else 0 := by cases b <;> rfl
  obtain ⟨q, hq⟩ : ∃ q, p + (if b then 3 else 0) = q := ⟨_, rfl⟩
  have hw : ∀ i, F.words[q + i]? = (bodyW k u ++ [("check" : Str)])[i]? := fun i => by
    rw [fw]
    unfold allW
    rw [List.append_assoc]
    exact at_lenG _ _ _ _ (by rw [List.length_append, hp, hlw, hq])
  have ho : ∀ i, F.openers[q + i]? = (bodyO k u q ++ [none])[i]? := fun i => by
    rw [fo]
    unfold allO
    rw [hp, hlw, hq, List.append_assoc]
    exact at_lenG _ _ _ _ (by rw [List.length_append, List.length_replicate, hlo, hq])
  have he : F.ends = bodyE k u (loopE b p) q := by
    rw [fe]
    unfold allE
    rw [hp, hlw, hq]
  have B := body_ok hk hgo hw ho he
  have hrow : rowAt m n b k = q + if k = 0 then 0 else 1 := by
    unfold rowAt
    rw [hp, hq]
  rw [← hrow] at B
  obtain ⟨row, hrw⟩ : ∃ row, rowAt m n b k = row := ⟨_, rfl⟩
  rw [hrw] at B hrow
  have hqr : q ≤ row := by rw [hrow]; omega
  obtain ⟨ts, ts2, j1, j2, r2, L1, J1, L2, J2, z1, z2⟩ := B.ex
  have hat : ∀ i v, (preOf m n)[i]? = some v → AtR F (0 + i) v none := fun i v hv => by
    have hil := (List.getElem?_eq_some_iff.mp hv).1
    rw [Nat.zero_add]
    constructor
    · rw [fw]
      unfold allW
      rw [List.append_assoc, List.append_assoc, List.getElem?_append_left hil]
      exact hv
    · rw [fo]
      unfold allO
      rw [List.append_assoc, List.append_assoc, List.getElem?_append_left (by rw [List.length_replicate]; exact hil), List.getElem?_replicate, if_pos hil]
  -- from the first row to the one that is looked at
  have key : ∃ (ls : List (Str × Int)) (r0 : Nat) (ts0 : List Int) (j0 K : Nat) (a t : Int) (tr : List (Nat × Str)), ls = (lnamesOf b).map (fun n => (n, (([("ab", (c : Int))] : List (Str × Int)).lookup n).getD 0)) ∧ Land F j0 0 r0 ts0 ∧ j0 < 99 ∧ K ≤ 60 ∧ tr.length = stepsAt m n b c k ∧ Reach row (wkOf F ls r0 ts0 [] "whole" 0 0 0 []) K (wkOf F ls row ts [] m (owedOf m n) a t tr) := by
    cases b with
    | false =>
      have hqp : q = p := by rw [← hq]; rfl
      obtain ⟨j0, r0, ts0, tr', l1, l2, l3, l4⟩ := pre_reach (ls := []) (row := row) (preOf m n) 0 ⟨"whole", 0, 0, 0⟩ [] o1 (fun v hv => pre_plain v hv) hat (by rw [hp, Nat.zero_add, ← hqp]; exact L1) J1 (by rw [hp]; omega) (by simp; omega)
      rw [o2, o3] at l4
      exact ⟨[], r0, ts0, j0, _, _, _, tr', rfl, l1, l2, by omega, by rw [l3]; unfold stepsAt; simp, l4⟩
    | true =>
      have hqp : q = p + 3 := by rw [← hq]; rfl
      have lp : LoopAt F p "ab" := by
        have w1 : ∀ i, F.words[p + i]? = (loopW true ++ (bodyW k u ++ [("check" : Str)]))[i]? := fun i => by
          rw [fw]
          unfold allW
          rw [List.append_assoc, List.append_assoc]
          exact at_lenG _ _ _ _ hp.symm
        have o1 : ∀ i, F.openers[p + i]? = (loopO true p ++ (bodyO k u q ++ [none]))[i]? := fun i => by
          rw [fo]
          unfold allO
          rw [hp, hlw, hq, List.append_assoc, List.append_assoc]
          exact at_lenG _ _ _ _ (by rw [List.length_replicate])
        refine ⟨⟨w1 0, o1 0⟩, ⟨w1 1, o1 1⟩, ⟨w1 2, o1 2⟩, ?_, ?_⟩
        · rw [fn]
          unfold rowsOf
          rw [List.append_assoc, List.append_assoc, List.map_append]
          have := at_lenG (((preOf m n).map fun v => [v]).map nameOf) ((loopR true ++ (bodyR k u ++ [[("check" : Str)]])).map nameOf) 0 p (by rw [List.length_map, List.length_map, hp])
          rw [Nat.add_zero] at this
          rw [this]
          rfl
        · unfold Fn.fin
          rw [he, body_look (by omega)]
          show ([(p, p + 2)] : List (Nat × Nat)).lookup p = some (p + 2)
          rw [List.lookup_cons]
          simp
      obtain ⟨j0, r0, ts0, tr', l1, l2, l3, l4⟩ := pre_reach (ls := [("ab", (c : Int))]) (row := row) (preOf m n) 0 ⟨"whole", 0, 0, 0⟩ [] o1 (fun v hv => pre_plain v hv) hat (by rw [hp, Nat.zero_add]; exact land_stop lp.stop) (by decide) (by rw [hp]; omega) (by simp; omega)
      rw [o2, o3] at l4
      obtain ⟨tr2, g1, g2⟩ := loop_reach (c := c) (row := row) (m := m) (n := owedOf m n) (a := ((preOf m n).foldl pst ⟨"whole", 0, 0, 0⟩).a) (t := ((preOf m n).foldl pst ⟨"whole", 0, 0, 0⟩).t) lp (by rw [← hqp]; exact L1) J1 (by omega) tr' (by rw [l3]; simp; omega)
      refine ⟨[("ab", (c : Int))], r0, ts0, j0, _, _, _, tr2, ?_, l1, l2, ?_, ?_, reach_trans l4 g2⟩
      · show _ = [(("ab" : Str), (([("ab", (c : Int))] : List (Str × Int)).lookup ("ab" : Str)).getD 0)]
        rw [look_ab]
        rfl
      · omega
      · rw [g1, l3]
        unfold stepsAt
        simp
  obtain ⟨ls, r0, ts0, j0, K, a, t, tr, hls, l1, l2, hK, htr, hR⟩ := key
  have hpl2 : stepsAt m n b c k ≤ 30 := by
    unfold stepsAt
    split <;> omega
  have hcalm : Calm (wkOf F ls row ts [] m (owedOf m n) a t tr) := calm_wk z1 (by simp) (by omega)
  have hlt : row < F.words.length := (List.getElem?_eq_some_iff.mp B.w).1
  have hstart : Wk.start F [("ab", (c : Int))] = some (wkOf F ls r0 ts0 [] "whole" 0 0 0 []) := by
    unfold Wk.start Fn.firstState Fn.firstSpot
    rw [settled_land l1 l2, fl, ← hls]
    rfl
  have hrun : lawRun 60 row (wkOf F ls r0 ts0 [] "whole" 0 0 0 []) = some (wkOf F ls row ts [] m (owedOf m n) a t tr) := by
    have := hR (60 - K)
    rw [show K + (60 - K) = 60 by omega] at this
    rw [this]
    exact run_there hcalm rfl _
  cases hd : dueOf u m (owedOf m n) with
  | some v =>
    refine ⟨_, _, _, _, hread, rfl, names_rows m n b k u, by rw [hF]; exact hstart, by rw [hrw]; exact hrun, hcalm, over_wk hlt, hlt, by rw [hrw]; rfl, rfl, rfl, htr, step_fault B.w hgo B.sh hd, fun v2 hv2 => ?_, fun z => by rw [hd] at z; cases z⟩
    rw [hd] at hv2
    cases hv2
    rfl
  | none =>
    refine ⟨_, _, _, _, hread, rfl, names_rows m n b k u, by rw [hF]; exact hstart, by rw [hrw]; exact hrun, hcalm, over_wk hlt, hlt, by rw [hrw]; rfl, rfl, rfl, htr, step_go B.w hgo B.sh L1.st L2 J2 hd, fun v2 hv2 => (by rw [hd] at hv2; cases hv2), fun _ => ⟨rfl, calm_wk z2 (by simp) (by simp; omega), over_wk L2.st.lt, rfl, rfl⟩⟩
end PySem.Fl
end
section
set_option Elab.async false
set_option autoImplicit false
set_option linter.all false
set_option maxRecDepth 100000
set_option maxHeartbeats 4000000
namespace K45
open PySem PySem.Spec PyProof.Rows L2 PySem.OxE LawC PySem.Fl

section
variable {P : Program} {w : World} {K : PySem.W.Frag} {mg : Str → Option Value} {base : Heap} {A0 : Ad}
theorem ok_law (T : Txt P K mg A0) (hne : A0.c_Walk ≠ A0.c_Function) : FnOk P w K mg base CX0 10 A0.f_law A0.fd_law ["_law_script"] (spLaw K) := ok_law' T hne fun m n b c k u hm hn h1 hc hk hu => plain_ok hm hn h1 hc hk hu
end
end K45
end
section
set_option Elab.async false
set_option autoImplicit false
set_option linter.all false
set_option maxRecDepth 100000
namespace K45
open PySem PySem.Spec PyProof.Rows L2 PySem.OxE
set_option maxHeartbeats 4000000 in
theorem all_mk {l : PySem.W.OpenLaw} {w : World} {K : PySem.W.Frag} {h : Heap} {mg : Str → Option Value} {fa : Addr} (X : K.In h) (G : h.Ns mainGlobals mg) (hfa : mg "law" = some (.ref fa)) {cWa cRe cFn : Addr} {f_Walk_init : Addr} {od_Walk_init an_Walk_init : Option Addr} {sl_Walk_init : Array (Option Value)} {oc_Walk_init kV_Walk_init dc_Walk_init pm_Walk_init cd_Walk_init ct_Walk_init : Value} {f_Reader_init : Addr} {od_Reader_init an_Reader_init : Option Addr} {sl_Reader_init : Array (Option Value)} {oc_Reader_init kV_Reader_init dc_Reader_init pm_Reader_init cd_Reader_init ct_Reader_init : Value} {f_Function_init : Addr} {od_Function_init an_Function_init : Option Addr} {sl_Function_init : Array (Option Value)} {oc_Function_init kV_Function_init dc_Function_init pm_Function_init cd_Function_init ct_Function_init : Value} {f_Walk_done : Addr} {od_Walk_done an_Walk_done : Option Addr} {sl_Walk_done : Array (Option Value)} {oc_Walk_done kV_Walk_done dc_Walk_done pm_Walk_done cd_Walk_done ct_Walk_done : Value} {f_Walk_choices : Addr} {od_Walk_choices an_Walk_choices : Option Addr} {sl_Walk_choices : Array (Option Value)} {oc_Walk_choices kV_Walk_choices dc_Walk_choices pm_Walk_choices cd_Walk_choices ct_Walk_choices : Value} {f_Walk_step : Addr} {od_Walk_step an_Walk_step : Option Addr} {sl_Walk_step : Array (Option Value)} {oc_Walk_step kV_Walk_step dc_Walk_step pm_Walk_step cd_Walk_step ct_Walk_step : Value} {f_Reader_opener_word : Addr} {od_Reader_opener_word an_Reader_opener_word : Option Addr} {sl_Reader_opener_word : Array (Option Value)} {oc_Reader_opener_word kV_Reader_opener_word dc_Reader_opener_word pm_Reader_opener_word cd_Reader_opener_word ct_Reader_opener_word : Value} {f_Reader_is_second : Addr} {od_Reader_is_second an_Reader_is_second : Option Addr} {sl_Reader_is_second : Array (Option Value)} {oc_Reader_is_second kV_Reader_is_second dc_Reader_is_second pm_Reader_is_second cd_Reader_is_second ct_Reader_is_second : Value} {f_Reader_is_rescue : Addr} {od_Reader_is_rescue an_Reader_is_rescue : Option Addr} {sl_Reader_is_rescue : Array (Option Value)} {oc_Reader_is_rescue kV_Reader_is_rescue dc_Reader_is_rescue pm_Reader_is_rescue cd_Reader_is_rescue ct_Reader_is_rescue : Value} {f_Reader_loop_place : Addr} {od_Reader_loop_place an_Reader_loop_place : Option Addr} {sl_Reader_loop_place : Array (Option Value)} {oc_Reader_loop_place kV_Reader_loop_place dc_Reader_loop_place pm_Reader_loop_place cd_Reader_loop_place ct_Reader_loop_place : Value} {f_Reader_may_reset : Addr} {od_Reader_may_reset an_Reader_may_reset : Option Addr} {sl_Reader_may_reset : Array (Option Value)} {oc_Reader_may_reset kV_Reader_may_reset dc_Reader_may_reset pm_Reader_may_reset cd_Reader_may_reset ct_Reader_may_reset : Value} {f_Reader_may_middle : Addr} {od_Reader_may_middle an_Reader_may_middle : Option Addr} {sl_Reader_may_middle : Array (Option Value)} {oc_Reader_may_middle kV_Reader_may_middle dc_Reader_may_middle pm_Reader_may_middle cd_Reader_may_middle ct_Reader_may_middle : Value} {f_Reader_may_open : Addr} {od_Reader_may_open an_Reader_may_open : Option Addr} {sl_Reader_may_open : Array (Option Value)} {oc_Reader_may_open kV_Reader_may_open dc_Reader_may_open pm_Reader_may_open cd_Reader_may_open ct_Reader_may_open : Value} {f_Reader_fits : Addr} {od_Reader_fits an_Reader_fits : Option Addr} {sl_Reader_fits : Array (Option Value)} {oc_Reader_fits kV_Reader_fits dc_Reader_fits pm_Reader_fits cd_Reader_fits ct_Reader_fits : Value} {f_Reader_take : Addr} {od_Reader_take an_Reader_take : Option Addr} {sl_Reader_take : Array (Option Value)} {oc_Reader_take kV_Reader_take dc_Reader_take pm_Reader_take cd_Reader_take ct_Reader_take : Value} {p_spot : Addr} {rs_spot : List Value} {f_Walk_spot : Addr} {od_Walk_spot an_Walk_spot : Option Addr} {sl_Walk_spot : Array (Option Value)} {oc_Walk_spot kV_Walk_spot dc_Walk_spot pm_Walk_spot cd_Walk_spot ct_Walk_spot : Value} {p_mark : Addr} {rs_mark : List Value} {f_Walk_mark : Addr} {od_Walk_mark an_Walk_mark : Option Addr} {sl_Walk_mark : Array (Option Value)} {oc_Walk_mark kV_Walk_mark dc_Walk_mark pm_Walk_mark cd_Walk_mark ct_Walk_mark : Value} {p_owed : Addr} {rs_owed : List Value} {f_Walk_owed : Addr} {od_Walk_owed an_Walk_owed : Option Addr} {sl_Walk_owed : Array (Option Value)} {oc_Walk_owed kV_Walk_owed dc_Walk_owed pm_Walk_owed cd_Walk_owed ct_Walk_owed : Value} {p_asked : Addr} {rs_asked : List Value} {f_Walk_asked : Addr} {od_Walk_asked an_Walk_asked : Option Addr} {sl_Walk_asked : Array (Option Value)} {oc_Walk_asked kV_Walk_asked dc_Walk_asked pm_Walk_asked cd_Walk_asked ct_Walk_asked : Value} {p_taken : Addr} {rs_taken : List Value} {f_Walk_taken : Addr} {od_Walk_taken an_Walk_taken : Option Addr} {sl_Walk_taken : Array (Option Value)} {oc_Walk_taken kV_Walk_taken dc_Walk_taken pm_Walk_taken cd_Walk_taken ct_Walk_taken : Value} {p_way : Addr} {rs_way : List Value} {f_Walk_way : Addr} {od_Walk_way an_Walk_way : Option Addr} {sl_Walk_way : Array (Option Value)} {oc_Walk_way kV_Walk_way dc_Walk_way pm_Walk_way cd_Walk_way ct_Walk_way : Value} {p_over : Addr} {rs_over : List Value} {f_Walk_is_over : Addr} {od_Walk_is_over an_Walk_is_over : Option Addr} {sl_Walk_is_over : Array (Option Value)} {oc_Walk_is_over kV_Walk_is_over dc_Walk_is_over pm_Walk_is_over cd_Walk_is_over ct_Walk_is_over : Value} {p_report : Addr} {rs_report : List Value} {f_Walk_report : Addr} {od_Walk_report an_Walk_report : Option Addr} {sl_Walk_report : Array (Option Value)} {oc_Walk_report kV_Walk_report dc_Walk_report pm_Walk_report cd_Walk_report ct_Walk_report : Value} {p_steps : Addr} {rs_steps : List Value} {f_Walk_steps : Addr} {od_Walk_steps an_Walk_steps : Option Addr} {sl_Walk_steps : Array (Option Value)} {oc_Walk_steps kV_Walk_steps dc_Walk_steps pm_Walk_steps cd_Walk_steps ct_Walk_steps : Value} {f_is_step : Addr} {od_is_step an_is_step : Option Addr} {sl_is_step : Array (Option Value)} {oc_is_step kV_is_step dc_is_step pm_is_step cd_is_step ct_is_step : Value} {f_is_inside : Addr} {od_is_inside an_is_inside : Option Addr} {sl_is_inside : Array (Option Value)} {oc_is_inside kV_is_inside dc_is_inside pm_is_inside cd_is_inside ct_is_inside : Value} {f_is_guarded : Addr} {od_is_guarded an_is_guarded : Option Addr} {sl_is_guarded : Array (Option Value)} {oc_is_guarded kV_is_guarded dc_is_guarded pm_is_guarded cd_is_guarded ct_is_guarded : Value} {f_is_shielded : Addr} {od_is_shielded an_is_shielded : Option Addr} {sl_is_shielded : Array (Option Value)} {oc_is_shielded kV_is_shielded dc_is_shielded pm_is_shielded cd_is_shielded ct_is_shielded : Value} {f_loop_of : Addr} {od_loop_of an_loop_of : Option Addr} {sl_loop_of : Array (Option Value)} {oc_loop_of kV_loop_of dc_loop_of pm_loop_of cd_loop_of ct_loop_of : Value} {f_retries_of : Addr} {od_retries_of an_retries_of : Option Addr} {sl_retries_of : Array (Option Value)} {oc_retries_of kV_retries_of dc_retries_of pm_retries_of cd_retries_of ct_retries_of : Value} {f_numbers_of : Addr} {od_numbers_of an_numbers_of : Option Addr} {sl_numbers_of : Array (Option Value)} {oc_numbers_of kV_numbers_of dc_numbers_of pm_numbers_of cd_numbers_of ct_numbers_of : Value} {f_leave : Addr} {od_leave an_leave : Option Addr} {sl_leave : Array (Option Value)} {oc_leave kV_leave dc_leave pm_leave cd_leave ct_leave : Value} {f_passed : Addr} {od_passed an_passed : Option Addr} {sl_passed : Array (Option Value)} {oc_passed kV_passed dc_passed pm_passed cd_passed ct_passed : Value} {f_settled : Addr} {od_settled an_settled : Option Addr} {sl_settled : Array (Option Value)} {oc_settled kV_settled dc_settled pm_settled cd_settled ct_settled : Value} {f_first_spot : Addr} {od_first_spot an_first_spot : Option Addr} {sl_first_spot : Array (Option Value)} {oc_first_spot kV_first_spot dc_first_spot pm_first_spot cd_first_spot ct_first_spot : Value} {f_target : Addr} {od_target an_target : Option Addr} {sl_target : Array (Option Value)} {oc_target kV_target dc_target pm_target cd_target ct_target : Value} {f_next_spot : Addr} {od_next_spot an_next_spot : Option Addr} {sl_next_spot : Array (Option Value)} {oc_next_spot kV_next_spot dc_next_spot pm_next_spot cd_next_spot ct_next_spot : Value} {f_moves_of : Addr} {od_moves_of an_moves_of : Option Addr} {sl_moves_of : Array (Option Value)} {oc_moves_of kV_moves_of dc_moves_of pm_moves_of cd_moves_of ct_moves_of : Value} {f_live_loops : Addr} {od_live_loops an_live_loops : Option Addr} {sl_live_loops : Array (Option Value)} {oc_live_loops kV_live_loops dc_live_loops pm_live_loops cd_live_loops ct_live_loops : Value} {f_way_of : Addr} {od_way_of an_way_of : Option Addr} {sl_way_of : Array (Option Value)} {oc_way_of kV_way_of dc_way_of pm_way_of cd_way_of ct_way_of : Value} {f_reason_of : Addr} {od_reason_of an_reason_of : Option Addr} {sl_reason_of : Array (Option Value)} {oc_reason_of kV_reason_of dc_reason_of pm_reason_of cd_reason_of ct_reason_of : Value} {f_is_out : Addr} {od_is_out an_is_out : Option Addr} {sl_is_out : Array (Option Value)} {oc_is_out kV_is_out dc_is_out pm_is_out cd_is_out ct_is_out : Value} {f_is_in : Addr} {od_is_in an_is_in : Option Addr} {sl_is_in : Array (Option Value)} {oc_is_in kV_is_in dc_is_in pm_is_in cd_is_in ct_is_in : Value} {f_mark_of : Addr} {od_mark_of an_mark_of : Option Addr} {sl_mark_of : Array (Option Value)} {oc_mark_of kV_mark_of dc_mark_of pm_mark_of cd_mark_of ct_mark_of : Value} {f_is_amid : Addr} {od_is_amid an_is_amid : Option Addr} {sl_is_amid : Array (Option Value)} {oc_is_amid kV_is_amid dc_is_amid pm_is_amid cd_is_amid ct_is_amid : Value} {f_row_fault : Addr} {od_row_fault an_row_fault : Option Addr} {sl_row_fault : Array (Option Value)} {oc_row_fault kV_row_fault dc_row_fault pm_row_fault cd_row_fault ct_row_fault : Value} {f_mark_after : Addr} {od_mark_after an_mark_after : Option Addr} {sl_mark_after : Array (Option Value)} {oc_mark_after kV_mark_after dc_mark_after pm_mark_after cd_mark_after ct_mark_after : Value} {f_owed_change : Addr} {od_owed_change an_owed_change : Option Addr} {sl_owed_change : Array (Option Value)} {oc_owed_change kV_owed_change dc_owed_change pm_owed_change cd_owed_change ct_owed_change : Value} {f_resets : Addr} {od_resets an_resets : Option Addr} {sl_resets : Array (Option Value)} {oc_resets kV_resets dc_resets pm_resets cd_resets ct_resets : Value} {f_first_state : Addr} {od_first_state an_first_state : Option Addr} {sl_first_state : Array (Option Value)} {oc_first_state kV_first_state dc_first_state pm_first_state cd_first_state ct_first_state : Value} {f_possible : Addr} {od_possible an_possible : Option Addr} {sl_possible : Array (Option Value)} {oc_possible kV_possible dc_possible pm_possible cd_possible ct_possible : Value} {f_fault_of : Addr} {od_fault_of an_fault_of : Option Addr} {sl_fault_of : Array (Option Value)} {oc_fault_of kV_fault_of dc_fault_of pm_fault_of cd_fault_of ct_fault_of : Value} {f_rounds_after : Addr} {od_rounds_after an_rounds_after : Option Addr} {sl_rounds_after : Array (Option Value)} {oc_rounds_after kV_rounds_after dc_rounds_after pm_rounds_after cd_rounds_after ct_rounds_after : Value} {f_state_after : Addr} {od_state_after an_state_after : Option Addr} {sl_state_after : Array (Option Value)} {oc_state_after kV_state_after dc_state_after pm_state_after cd_state_after ct_state_after : Value} {f_is_made_of : Addr} {od_is_made_of an_is_made_of : Option Addr} {sl_is_made_of : Array (Option Value)} {oc_is_made_of kV_is_made_of dc_is_made_of pm_is_made_of cd_is_made_of ct_is_made_of : Value} {f_is_list_name : Addr} {od_is_list_name an_is_list_name : Option Addr} {sl_is_list_name : Array (Option Value)} {oc_is_list_name kV_is_list_name dc_is_list_name pm_is_list_name cd_is_list_name ct_is_list_name : Value} {f_is_row : Addr} {od_is_row an_is_row : Option Addr} {sl_is_row : Array (Option Value)} {oc_is_row kV_is_row dc_is_row pm_is_row cd_is_row ct_is_row : Value} {aLW : Addr} {odLW : Option Addr} {itLW : Array Value} {nLW : Nat} {slLW : Array (Option Value)} {aWA : Addr} {odWA : Option Addr} {itWA : Array Value} {nWA : Nat} {slWA : Array (Option Value)} {aPA : Addr} {odPA : Option Addr} {itPA : Array Value} {nPA : Nat} {slPA : Array (Option Value)} {aPL : Addr} {odPL : Option Addr} {itPL : Array Value} {nPL : Nat} {slPL : Array (Option Value)} {aOP : Addr} {odOP : Option Addr} {itOP : Array Value} {nOP : Nat} {slOP : Array (Option Value)} {aMI : Addr} {odMI : Option Addr} {itMI : Array Value} {nMI : Nat} {slMI : Array (Option Value)} {v_LETTERS : Value} {v_MOST_ROWS : Value} {v_MOST_LISTS : Value} {v_MOST_DEEP : Value} {f_source : Addr} {od_source an_source : Option Addr} {sl_source : Array (Option Value)} {oc_source kV_source dc_source pm_source cd_source ct_source : Value} {f_draw : Addr} {od_draw an_draw : Option Addr} {sl_draw : Array (Option Value)} {oc_draw kV_draw dc_draw pm_draw cd_draw ct_draw : Value} {f_of : Addr} {od_of an_of : Option Addr} {sl_of : Array (Option Value)} {oc_of kV_of dc_of pm_of cd_of ct_of : Value} {f_same : Addr} {od_same an_same : Option Addr} {sl_same : Array (Option Value)} {oc_same kV_same dc_same pm_same cd_same ct_same : Value} {f_fault : Addr} {od_fault an_fault : Option Addr} {sl_fault : Array (Option Value)} {oc_fault kV_fault dc_fault pm_fault cd_fault ct_fault : Value} {f_mark : Addr} {od_mark an_mark : Option Addr} {sl_mark : Array (Option Value)} {oc_mark kV_mark dc_mark pm_mark cd_mark ct_mark : Value} {f_prefix : Addr} {od_prefix an_prefix : Option Addr} {sl_prefix : Array (Option Value)} {oc_prefix kV_prefix dc_prefix pm_prefix cd_prefix ct_prefix : Value} {f_wrapped : Addr} {od_wrapped an_wrapped : Option Addr} {sl_wrapped : Array (Option Value)} {oc_wrapped kV_wrapped dc_wrapped pm_wrapped cd_wrapped ct_wrapped : Value} {f_due : Addr} {od_due an_due : Option Addr} {sl_due : Array (Option Value)} {oc_due kV_due dc_due pm_due cd_due ct_due : Value} {f_stays : Addr} {od_stays an_stays : Option Addr} {sl_stays : Array (Option Value)} {oc_stays kV_stays dc_stays pm_stays cd_stays ct_stays : Value} {f_after : Addr} {od_after an_after : Option Addr} {sl_after : Array (Option Value)} {oc_after kV_after dc_after pm_after cd_after ct_after : Value} {f_holds : Addr} {od_holds an_holds : Option Addr} {sl_holds : Array (Option Value)} {oc_holds kV_holds dc_holds pm_holds cd_holds ct_holds : Value} {f_law : Addr} {od_law an_law : Option Addr} {sl_law : Array (Option Value)} {oc_law kV_law dc_law pm_law cd_law ct_law : Value}
    (acWa : PySem.W.nsIn K mainGlobals "Walk" = some (some (.ref cWa)))
    (pgcWa : PySem.W.plainGet K cWa Str.empty = true)
    (hdcWa : PySem.W.hasDictIn K cWa = true)
    (pocWa : PySem.W.plainOver K cWa = true)
    (sacWa : PySem.W.findIn K (.ref cWa) "__setattr__" = some (some (.builtin "object.__setattr__")))
    (mkcWa : PySem.W.makesIn K cWa = true)
    (kpcWa : PySem.W.keepIn K (.ref cWa) = true)
    (n_cWa_function : PySem.W.findIn K (.ref cWa) "function" = some none)
    (n_cWa_lengths : PySem.W.findIn K (.ref cWa) "lengths" = some none)
    (n_cWa_state : PySem.W.findIn K (.ref cWa) "state" = some none)
    (n_cWa_trail : PySem.W.findIn K (.ref cWa) "trail" = some none)
    (n_cWa_fault : PySem.W.findIn K (.ref cWa) "fault" = some none)
    (a_Walk_init : PySem.W.findIn K (.ref cWa) "__init__" = some (some (.ref f_Walk_init)))
    (i_Walk_init : PySem.W.isFn K (.ref f_Walk_init) = true)
    (l_Walk_init : K.lookup f_Walk_init = some ⟨oc_Walk_init, od_Walk_init, .func (PySem.W.fnOf "__init__" "Walk.__init__" (defArgs s_Walk_init) (defBody s_Walk_init) (defScope s_Walk_init) .none kV_Walk_init dc_Walk_init pm_Walk_init an_Walk_init cd_Walk_init ct_Walk_init), sl_Walk_init⟩)
    (c_Walk_init : PySem.W.codeIn K cd_Walk_init "Walk.__init__" = true)
    (k_Walk_init : PySem.W.keepIn K (.ref f_Walk_init) = true)
    (acRe : PySem.W.nsIn K mainGlobals "Reader" = some (some (.ref cRe)))
    (pgcRe : PySem.W.plainGet K cRe Str.empty = true)
    (hdcRe : PySem.W.hasDictIn K cRe = true)
    (pocRe : PySem.W.plainOver K cRe = true)
    (sacRe : PySem.W.findIn K (.ref cRe) "__setattr__" = some (some (.builtin "object.__setattr__")))
    (mkcRe : PySem.W.makesIn K cRe = true)
    (kpcRe : PySem.W.keepIn K (.ref cRe) = true)
    (n_cRe_words : PySem.W.findIn K (.ref cRe) "words" = some none)
    (n_cRe_stack : PySem.W.findIn K (.ref cRe) "stack" = some none)
    (n_cRe_openers : PySem.W.findIn K (.ref cRe) "openers" = some none)
    (n_cRe_middles : PySem.W.findIn K (.ref cRe) "middles" = some none)
    (n_cRe_ends : PySem.W.findIn K (.ref cRe) "ends" = some none)
    (a_Reader_init : PySem.W.findIn K (.ref cRe) "__init__" = some (some (.ref f_Reader_init)))
    (i_Reader_init : PySem.W.isFn K (.ref f_Reader_init) = true)
    (l_Reader_init : K.lookup f_Reader_init = some ⟨oc_Reader_init, od_Reader_init, .func (PySem.W.fnOf "__init__" "Reader.__init__" (defArgs s_Reader_init) (defBody s_Reader_init) (defScope s_Reader_init) .none kV_Reader_init dc_Reader_init pm_Reader_init an_Reader_init cd_Reader_init ct_Reader_init), sl_Reader_init⟩)
    (c_Reader_init : PySem.W.codeIn K cd_Reader_init "Reader.__init__" = true)
    (k_Reader_init : PySem.W.keepIn K (.ref f_Reader_init) = true)
    (acFn : PySem.W.nsIn K mainGlobals "Function" = some (some (.ref cFn)))
    (pgcFn : PySem.W.plainGet K cFn Str.empty = true)
    (hdcFn : PySem.W.hasDictIn K cFn = true)
    (pocFn : PySem.W.plainOver K cFn = true)
    (sacFn : PySem.W.findIn K (.ref cFn) "__setattr__" = some (some (.builtin "object.__setattr__")))
    (mkcFn : PySem.W.makesIn K cFn = true)
    (kpcFn : PySem.W.keepIn K (.ref cFn) = true)
    (n_cFn_lists : PySem.W.findIn K (.ref cFn) "lists" = some none)
    (n_cFn_rows : PySem.W.findIn K (.ref cFn) "rows" = some none)
    (n_cFn_words : PySem.W.findIn K (.ref cFn) "words" = some none)
    (n_cFn_names : PySem.W.findIn K (.ref cFn) "names" = some none)
    (n_cFn_tries : PySem.W.findIn K (.ref cFn) "tries" = some none)
    (n_cFn_openers : PySem.W.findIn K (.ref cFn) "openers" = some none)
    (n_cFn_middles : PySem.W.findIn K (.ref cFn) "middles" = some none)
    (n_cFn_ends : PySem.W.findIn K (.ref cFn) "ends" = some none)
    (a_Function_init : PySem.W.findIn K (.ref cFn) "__init__" = some (some (.ref f_Function_init)))
    (i_Function_init : PySem.W.isFn K (.ref f_Function_init) = true)
    (l_Function_init : K.lookup f_Function_init = some ⟨oc_Function_init, od_Function_init, .func (PySem.W.fnOf "__init__" "Function.__init__" (defArgs s_Function_init) (defBody s_Function_init) (defScope s_Function_init) .none kV_Function_init dc_Function_init pm_Function_init an_Function_init cd_Function_init ct_Function_init), sl_Function_init⟩)
    (c_Function_init : PySem.W.codeIn K cd_Function_init "Function.__init__" = true)
    (k_Function_init : PySem.W.keepIn K (.ref f_Function_init) = true)
    (newf : cWa ≠ cFn)
    (a_Walk_done : PySem.W.findIn K (.ref cWa) "done" = some (some (.ref f_Walk_done)))
    (i_Walk_done : PySem.W.isFn K (.ref f_Walk_done) = true)
    (l_Walk_done : K.lookup f_Walk_done = some ⟨oc_Walk_done, od_Walk_done, .func (PySem.W.fnOf "done" "Walk.done" (defArgs s_Walk_done) (defBody s_Walk_done) (defScope s_Walk_done) .none kV_Walk_done dc_Walk_done pm_Walk_done an_Walk_done cd_Walk_done ct_Walk_done), sl_Walk_done⟩)
    (c_Walk_done : PySem.W.codeIn K cd_Walk_done "Walk.done" = true)
    (k_Walk_done : PySem.W.keepIn K (.ref f_Walk_done) = true)
    (a_Walk_choices : PySem.W.findIn K (.ref cWa) "choices" = some (some (.ref f_Walk_choices)))
    (i_Walk_choices : PySem.W.isFn K (.ref f_Walk_choices) = true)
    (l_Walk_choices : K.lookup f_Walk_choices = some ⟨oc_Walk_choices, od_Walk_choices, .func (PySem.W.fnOf "choices" "Walk.choices" (defArgs s_Walk_choices) (defBody s_Walk_choices) (defScope s_Walk_choices) .none kV_Walk_choices dc_Walk_choices pm_Walk_choices an_Walk_choices cd_Walk_choices ct_Walk_choices), sl_Walk_choices⟩)
    (c_Walk_choices : PySem.W.codeIn K cd_Walk_choices "Walk.choices" = true)
    (k_Walk_choices : PySem.W.keepIn K (.ref f_Walk_choices) = true)
    (a_Walk_step : PySem.W.findIn K (.ref cWa) "step" = some (some (.ref f_Walk_step)))
    (i_Walk_step : PySem.W.isFn K (.ref f_Walk_step) = true)
    (l_Walk_step : K.lookup f_Walk_step = some ⟨oc_Walk_step, od_Walk_step, .func (PySem.W.fnOf "step" "Walk.step" (defArgs s_Walk_step) (defBody s_Walk_step) (defScope s_Walk_step) .none kV_Walk_step dc_Walk_step pm_Walk_step an_Walk_step cd_Walk_step ct_Walk_step), sl_Walk_step⟩)
    (c_Walk_step : PySem.W.codeIn K cd_Walk_step "Walk.step" = true)
    (k_Walk_step : PySem.W.keepIn K (.ref f_Walk_step) = true)
    (a_Reader_opener_word : PySem.W.findIn K (.ref cRe) "opener_word" = some (some (.ref f_Reader_opener_word)))
    (i_Reader_opener_word : PySem.W.isFn K (.ref f_Reader_opener_word) = true)
    (l_Reader_opener_word : K.lookup f_Reader_opener_word = some ⟨oc_Reader_opener_word, od_Reader_opener_word, .func (PySem.W.fnOf "opener_word" "Reader.opener_word" (defArgs s_Reader_opener_word) (defBody s_Reader_opener_word) (defScope s_Reader_opener_word) .none kV_Reader_opener_word dc_Reader_opener_word pm_Reader_opener_word an_Reader_opener_word cd_Reader_opener_word ct_Reader_opener_word), sl_Reader_opener_word⟩)
    (c_Reader_opener_word : PySem.W.codeIn K cd_Reader_opener_word "Reader.opener_word" = true)
    (k_Reader_opener_word : PySem.W.keepIn K (.ref f_Reader_opener_word) = true)
    (a_Reader_is_second : PySem.W.findIn K (.ref cRe) "is_second" = some (some (.ref f_Reader_is_second)))
    (i_Reader_is_second : PySem.W.isFn K (.ref f_Reader_is_second) = true)
    (l_Reader_is_second : K.lookup f_Reader_is_second = some ⟨oc_Reader_is_second, od_Reader_is_second, .func (PySem.W.fnOf "is_second" "Reader.is_second" (defArgs s_Reader_is_second) (defBody s_Reader_is_second) (defScope s_Reader_is_second) .none kV_Reader_is_second dc_Reader_is_second pm_Reader_is_second an_Reader_is_second cd_Reader_is_second ct_Reader_is_second), sl_Reader_is_second⟩)
    (c_Reader_is_second : PySem.W.codeIn K cd_Reader_is_second "Reader.is_second" = true)
    (k_Reader_is_second : PySem.W.keepIn K (.ref f_Reader_is_second) = true)
    (a_Reader_is_rescue : PySem.W.findIn K (.ref cRe) "is_rescue" = some (some (.ref f_Reader_is_rescue)))
    (i_Reader_is_rescue : PySem.W.isFn K (.ref f_Reader_is_rescue) = true)
    (l_Reader_is_rescue : K.lookup f_Reader_is_rescue = some ⟨oc_Reader_is_rescue, od_Reader_is_rescue, .func (PySem.W.fnOf "is_rescue" "Reader.is_rescue" (defArgs s_Reader_is_rescue) (defBody s_Reader_is_rescue) (defScope s_Reader_is_rescue) .none kV_Reader_is_rescue dc_Reader_is_rescue pm_Reader_is_rescue an_Reader_is_rescue cd_Reader_is_rescue ct_Reader_is_rescue), sl_Reader_is_rescue⟩)
    (c_Reader_is_rescue : PySem.W.codeIn K cd_Reader_is_rescue "Reader.is_rescue" = true)
    (k_Reader_is_rescue : PySem.W.keepIn K (.ref f_Reader_is_rescue) = true)
    (a_Reader_loop_place : PySem.W.findIn K (.ref cRe) "loop_place" = some (some (.ref f_Reader_loop_place)))
    (i_Reader_loop_place : PySem.W.isFn K (.ref f_Reader_loop_place) = true)
    (l_Reader_loop_place : K.lookup f_Reader_loop_place = some ⟨oc_Reader_loop_place, od_Reader_loop_place, .func (PySem.W.fnOf "loop_place" "Reader.loop_place" (defArgs s_Reader_loop_place) (defBody s_Reader_loop_place) (defScope s_Reader_loop_place) .none kV_Reader_loop_place dc_Reader_loop_place pm_Reader_loop_place an_Reader_loop_place cd_Reader_loop_place ct_Reader_loop_place), sl_Reader_loop_place⟩)
    (c_Reader_loop_place : PySem.W.codeIn K cd_Reader_loop_place "Reader.loop_place" = true)
    (k_Reader_loop_place : PySem.W.keepIn K (.ref f_Reader_loop_place) = true)
    (a_Reader_may_reset : PySem.W.findIn K (.ref cRe) "may_reset" = some (some (.ref f_Reader_may_reset)))
    (i_Reader_may_reset : PySem.W.isFn K (.ref f_Reader_may_reset) = true)
    (l_Reader_may_reset : K.lookup f_Reader_may_reset = some ⟨oc_Reader_may_reset, od_Reader_may_reset, .func (PySem.W.fnOf "may_reset" "Reader.may_reset" (defArgs s_Reader_may_reset) (defBody s_Reader_may_reset) (defScope s_Reader_may_reset) .none kV_Reader_may_reset dc_Reader_may_reset pm_Reader_may_reset an_Reader_may_reset cd_Reader_may_reset ct_Reader_may_reset), sl_Reader_may_reset⟩)
    (c_Reader_may_reset : PySem.W.codeIn K cd_Reader_may_reset "Reader.may_reset" = true)
    (k_Reader_may_reset : PySem.W.keepIn K (.ref f_Reader_may_reset) = true)
    (a_Reader_may_middle : PySem.W.findIn K (.ref cRe) "may_middle" = some (some (.ref f_Reader_may_middle)))
    (i_Reader_may_middle : PySem.W.isFn K (.ref f_Reader_may_middle) = true)
    (l_Reader_may_middle : K.lookup f_Reader_may_middle = some ⟨oc_Reader_may_middle, od_Reader_may_middle, .func (PySem.W.fnOf "may_middle" "Reader.may_middle" (defArgs s_Reader_may_middle) (defBody s_Reader_may_middle) (defScope s_Reader_may_middle) .none kV_Reader_may_middle dc_Reader_may_middle pm_Reader_may_middle an_Reader_may_middle cd_Reader_may_middle ct_Reader_may_middle), sl_Reader_may_middle⟩)
    (c_Reader_may_middle : PySem.W.codeIn K cd_Reader_may_middle "Reader.may_middle" = true)
    (k_Reader_may_middle : PySem.W.keepIn K (.ref f_Reader_may_middle) = true)
    (a_Reader_may_open : PySem.W.findIn K (.ref cRe) "may_open" = some (some (.ref f_Reader_may_open)))
    (i_Reader_may_open : PySem.W.isFn K (.ref f_Reader_may_open) = true)
    (l_Reader_may_open : K.lookup f_Reader_may_open = some ⟨oc_Reader_may_open, od_Reader_may_open, .func (PySem.W.fnOf "may_open" "Reader.may_open" (defArgs s_Reader_may_open) (defBody s_Reader_may_open) (defScope s_Reader_may_open) .none kV_Reader_may_open dc_Reader_may_open pm_Reader_may_open an_Reader_may_open cd_Reader_may_open ct_Reader_may_open), sl_Reader_may_open⟩)
    (c_Reader_may_open : PySem.W.codeIn K cd_Reader_may_open "Reader.may_open" = true)
    (k_Reader_may_open : PySem.W.keepIn K (.ref f_Reader_may_open) = true)
    (a_Reader_fits : PySem.W.findIn K (.ref cRe) "fits" = some (some (.ref f_Reader_fits)))
    (i_Reader_fits : PySem.W.isFn K (.ref f_Reader_fits) = true)
    (l_Reader_fits : K.lookup f_Reader_fits = some ⟨oc_Reader_fits, od_Reader_fits, .func (PySem.W.fnOf "fits" "Reader.fits" (defArgs s_Reader_fits) (defBody s_Reader_fits) (defScope s_Reader_fits) .none kV_Reader_fits dc_Reader_fits pm_Reader_fits an_Reader_fits cd_Reader_fits ct_Reader_fits), sl_Reader_fits⟩)
    (c_Reader_fits : PySem.W.codeIn K cd_Reader_fits "Reader.fits" = true)
    (k_Reader_fits : PySem.W.keepIn K (.ref f_Reader_fits) = true)
    (a_Reader_take : PySem.W.findIn K (.ref cRe) "take" = some (some (.ref f_Reader_take)))
    (i_Reader_take : PySem.W.isFn K (.ref f_Reader_take) = true)
    (l_Reader_take : K.lookup f_Reader_take = some ⟨oc_Reader_take, od_Reader_take, .func (PySem.W.fnOf "take" "Reader.take" (defArgs s_Reader_take) (defBody s_Reader_take) (defScope s_Reader_take) .none kV_Reader_take dc_Reader_take pm_Reader_take an_Reader_take cd_Reader_take ct_Reader_take), sl_Reader_take⟩)
    (c_Reader_take : PySem.W.codeIn K cd_Reader_take "Reader.take" = true)
    (k_Reader_take : PySem.W.keepIn K (.ref f_Reader_take) = true)
    (pa_spot : PySem.W.findIn K (.ref cWa) "spot" = some (some (.ref p_spot)))
    (pg_spot : PySem.W.specialIn K (.ref p_spot) "__get__" = some (some (.builtin "property.__get__")))
    (pt_spot : PySem.W.takesIn K (.ref p_spot) = some true)
    (pr_spot : PySem.W.recIn K p_spot "property" = some (.ref f_Walk_spot :: rs_spot))
    (l_Walk_spot : K.lookup f_Walk_spot = some ⟨oc_Walk_spot, od_Walk_spot, .func (PySem.W.fnOf "spot" "Walk.spot" (defArgs s_Walk_spot) (defBody s_Walk_spot) (defScope s_Walk_spot) .none kV_Walk_spot dc_Walk_spot pm_Walk_spot an_Walk_spot cd_Walk_spot ct_Walk_spot), sl_Walk_spot⟩)
    (c_Walk_spot : PySem.W.codeIn K cd_Walk_spot "Walk.spot" = true)
    (k_Walk_spot : PySem.W.keepIn K (.ref f_Walk_spot) = true)
    (pa_mark : PySem.W.findIn K (.ref cWa) "mark" = some (some (.ref p_mark)))
    (pg_mark : PySem.W.specialIn K (.ref p_mark) "__get__" = some (some (.builtin "property.__get__")))
    (pt_mark : PySem.W.takesIn K (.ref p_mark) = some true)
    (pr_mark : PySem.W.recIn K p_mark "property" = some (.ref f_Walk_mark :: rs_mark))
    (l_Walk_mark : K.lookup f_Walk_mark = some ⟨oc_Walk_mark, od_Walk_mark, .func (PySem.W.fnOf "mark" "Walk.mark" (defArgs s_Walk_mark) (defBody s_Walk_mark) (defScope s_Walk_mark) .none kV_Walk_mark dc_Walk_mark pm_Walk_mark an_Walk_mark cd_Walk_mark ct_Walk_mark), sl_Walk_mark⟩)
    (c_Walk_mark : PySem.W.codeIn K cd_Walk_mark "Walk.mark" = true)
    (k_Walk_mark : PySem.W.keepIn K (.ref f_Walk_mark) = true)
    (pa_owed : PySem.W.findIn K (.ref cWa) "owed" = some (some (.ref p_owed)))
    (pg_owed : PySem.W.specialIn K (.ref p_owed) "__get__" = some (some (.builtin "property.__get__")))
    (pt_owed : PySem.W.takesIn K (.ref p_owed) = some true)
    (pr_owed : PySem.W.recIn K p_owed "property" = some (.ref f_Walk_owed :: rs_owed))
    (l_Walk_owed : K.lookup f_Walk_owed = some ⟨oc_Walk_owed, od_Walk_owed, .func (PySem.W.fnOf "owed" "Walk.owed" (defArgs s_Walk_owed) (defBody s_Walk_owed) (defScope s_Walk_owed) .none kV_Walk_owed dc_Walk_owed pm_Walk_owed an_Walk_owed cd_Walk_owed ct_Walk_owed), sl_Walk_owed⟩)
    (c_Walk_owed : PySem.W.codeIn K cd_Walk_owed "Walk.owed" = true)
    (k_Walk_owed : PySem.W.keepIn K (.ref f_Walk_owed) = true)
    (pa_asked : PySem.W.findIn K (.ref cWa) "asked" = some (some (.ref p_asked)))
    (pg_asked : PySem.W.specialIn K (.ref p_asked) "__get__" = some (some (.builtin "property.__get__")))
    (pt_asked : PySem.W.takesIn K (.ref p_asked) = some true)
    (pr_asked : PySem.W.recIn K p_asked "property" = some (.ref f_Walk_asked :: rs_asked))
    (l_Walk_asked : K.lookup f_Walk_asked = some ⟨oc_Walk_asked, od_Walk_asked, .func (PySem.W.fnOf "asked" "Walk.asked" (defArgs s_Walk_asked) (defBody s_Walk_asked) (defScope s_Walk_asked) .none kV_Walk_asked dc_Walk_asked pm_Walk_asked an_Walk_asked cd_Walk_asked ct_Walk_asked), sl_Walk_asked⟩)
    (c_Walk_asked : PySem.W.codeIn K cd_Walk_asked "Walk.asked" = true)
    (k_Walk_asked : PySem.W.keepIn K (.ref f_Walk_asked) = true)
    (pa_taken : PySem.W.findIn K (.ref cWa) "taken" = some (some (.ref p_taken)))
    (pg_taken : PySem.W.specialIn K (.ref p_taken) "__get__" = some (some (.builtin "property.__get__")))
    (pt_taken : PySem.W.takesIn K (.ref p_taken) = some true)
    (pr_taken : PySem.W.recIn K p_taken "property" = some (.ref f_Walk_taken :: rs_taken))
    (l_Walk_taken : K.lookup f_Walk_taken = some ⟨oc_Walk_taken, od_Walk_taken, .func (PySem.W.fnOf "taken" "Walk.taken" (defArgs s_Walk_taken) (defBody s_Walk_taken) (defScope s_Walk_taken) .none kV_Walk_taken dc_Walk_taken pm_Walk_taken an_Walk_taken cd_Walk_taken ct_Walk_taken), sl_Walk_taken⟩)
    (c_Walk_taken : PySem.W.codeIn K cd_Walk_taken "Walk.taken" = true)
    (k_Walk_taken : PySem.W.keepIn K (.ref f_Walk_taken) = true)
    (pa_way : PySem.W.findIn K (.ref cWa) "way" = some (some (.ref p_way)))
    (pg_way : PySem.W.specialIn K (.ref p_way) "__get__" = some (some (.builtin "property.__get__")))
    (pt_way : PySem.W.takesIn K (.ref p_way) = some true)
    (pr_way : PySem.W.recIn K p_way "property" = some (.ref f_Walk_way :: rs_way))
    (l_Walk_way : K.lookup f_Walk_way = some ⟨oc_Walk_way, od_Walk_way, .func (PySem.W.fnOf "way" "Walk.way" (defArgs s_Walk_way) (defBody s_Walk_way) (defScope s_Walk_way) .none kV_Walk_way dc_Walk_way pm_Walk_way an_Walk_way cd_Walk_way ct_Walk_way), sl_Walk_way⟩)
    (c_Walk_way : PySem.W.codeIn K cd_Walk_way "Walk.way" = true)
    (k_Walk_way : PySem.W.keepIn K (.ref f_Walk_way) = true)
    (pa_over : PySem.W.findIn K (.ref cWa) "is_over" = some (some (.ref p_over)))
    (pg_over : PySem.W.specialIn K (.ref p_over) "__get__" = some (some (.builtin "property.__get__")))
    (pt_over : PySem.W.takesIn K (.ref p_over) = some true)
    (pr_over : PySem.W.recIn K p_over "property" = some (.ref f_Walk_is_over :: rs_over))
    (l_Walk_is_over : K.lookup f_Walk_is_over = some ⟨oc_Walk_is_over, od_Walk_is_over, .func (PySem.W.fnOf "is_over" "Walk.is_over" (defArgs s_Walk_is_over) (defBody s_Walk_is_over) (defScope s_Walk_is_over) .none kV_Walk_is_over dc_Walk_is_over pm_Walk_is_over an_Walk_is_over cd_Walk_is_over ct_Walk_is_over), sl_Walk_is_over⟩)
    (c_Walk_is_over : PySem.W.codeIn K cd_Walk_is_over "Walk.is_over" = true)
    (k_Walk_is_over : PySem.W.keepIn K (.ref f_Walk_is_over) = true)
    (pa_report : PySem.W.findIn K (.ref cWa) "report" = some (some (.ref p_report)))
    (pg_report : PySem.W.specialIn K (.ref p_report) "__get__" = some (some (.builtin "property.__get__")))
    (pt_report : PySem.W.takesIn K (.ref p_report) = some true)
    (pr_report : PySem.W.recIn K p_report "property" = some (.ref f_Walk_report :: rs_report))
    (l_Walk_report : K.lookup f_Walk_report = some ⟨oc_Walk_report, od_Walk_report, .func (PySem.W.fnOf "report" "Walk.report" (defArgs s_Walk_report) (defBody s_Walk_report) (defScope s_Walk_report) .none kV_Walk_report dc_Walk_report pm_Walk_report an_Walk_report cd_Walk_report ct_Walk_report), sl_Walk_report⟩)
    (c_Walk_report : PySem.W.codeIn K cd_Walk_report "Walk.report" = true)
    (k_Walk_report : PySem.W.keepIn K (.ref f_Walk_report) = true)
    (pa_steps : PySem.W.findIn K (.ref cWa) "steps" = some (some (.ref p_steps)))
    (pg_steps : PySem.W.specialIn K (.ref p_steps) "__get__" = some (some (.builtin "property.__get__")))
    (pt_steps : PySem.W.takesIn K (.ref p_steps) = some true)
    (pr_steps : PySem.W.recIn K p_steps "property" = some (.ref f_Walk_steps :: rs_steps))
    (l_Walk_steps : K.lookup f_Walk_steps = some ⟨oc_Walk_steps, od_Walk_steps, .func (PySem.W.fnOf "steps" "Walk.steps" (defArgs s_Walk_steps) (defBody s_Walk_steps) (defScope s_Walk_steps) .none kV_Walk_steps dc_Walk_steps pm_Walk_steps an_Walk_steps cd_Walk_steps ct_Walk_steps), sl_Walk_steps⟩)
    (c_Walk_steps : PySem.W.codeIn K cd_Walk_steps "Walk.steps" = true)
    (k_Walk_steps : PySem.W.keepIn K (.ref f_Walk_steps) = true)
    (a_is_step : PySem.W.nsIn K mainGlobals "is_step" = some (some (.ref f_is_step)))
    (l_is_step : K.lookup f_is_step = some ⟨oc_is_step, od_is_step, .func (PySem.W.fnOf "is_step" "is_step" (defArgs s_is_step) (defBody s_is_step) (defScope s_is_step) .none kV_is_step dc_is_step pm_is_step an_is_step cd_is_step ct_is_step), sl_is_step⟩)
    (c_is_step : PySem.W.codeIn K cd_is_step "is_step" = true)
    (k_is_step : PySem.W.keepIn K (.ref f_is_step) = true)
    (a_is_inside : PySem.W.nsIn K mainGlobals "is_inside" = some (some (.ref f_is_inside)))
    (l_is_inside : K.lookup f_is_inside = some ⟨oc_is_inside, od_is_inside, .func (PySem.W.fnOf "is_inside" "is_inside" (defArgs s_is_inside) (defBody s_is_inside) (defScope s_is_inside) .none kV_is_inside dc_is_inside pm_is_inside an_is_inside cd_is_inside ct_is_inside), sl_is_inside⟩)
    (c_is_inside : PySem.W.codeIn K cd_is_inside "is_inside" = true)
    (k_is_inside : PySem.W.keepIn K (.ref f_is_inside) = true)
    (a_is_guarded : PySem.W.nsIn K mainGlobals "is_guarded" = some (some (.ref f_is_guarded)))
    (l_is_guarded : K.lookup f_is_guarded = some ⟨oc_is_guarded, od_is_guarded, .func (PySem.W.fnOf "is_guarded" "is_guarded" (defArgs s_is_guarded) (defBody s_is_guarded) (defScope s_is_guarded) .none kV_is_guarded dc_is_guarded pm_is_guarded an_is_guarded cd_is_guarded ct_is_guarded), sl_is_guarded⟩)
    (c_is_guarded : PySem.W.codeIn K cd_is_guarded "is_guarded" = true)
    (k_is_guarded : PySem.W.keepIn K (.ref f_is_guarded) = true)
    (a_is_shielded : PySem.W.nsIn K mainGlobals "is_shielded" = some (some (.ref f_is_shielded)))
    (l_is_shielded : K.lookup f_is_shielded = some ⟨oc_is_shielded, od_is_shielded, .func (PySem.W.fnOf "is_shielded" "is_shielded" (defArgs s_is_shielded) (defBody s_is_shielded) (defScope s_is_shielded) .none kV_is_shielded dc_is_shielded pm_is_shielded an_is_shielded cd_is_shielded ct_is_shielded), sl_is_shielded⟩)
    (c_is_shielded : PySem.W.codeIn K cd_is_shielded "is_shielded" = true)
    (k_is_shielded : PySem.W.keepIn K (.ref f_is_shielded) = true)
    (a_loop_of : PySem.W.nsIn K mainGlobals "loop_of" = some (some (.ref f_loop_of)))
    (l_loop_of : K.lookup f_loop_of = some ⟨oc_loop_of, od_loop_of, .func (PySem.W.fnOf "loop_of" "loop_of" (defArgs s_loop_of) (defBody s_loop_of) (defScope s_loop_of) .none kV_loop_of dc_loop_of pm_loop_of an_loop_of cd_loop_of ct_loop_of), sl_loop_of⟩)
    (c_loop_of : PySem.W.codeIn K cd_loop_of "loop_of" = true)
    (k_loop_of : PySem.W.keepIn K (.ref f_loop_of) = true)
    (a_retries_of : PySem.W.nsIn K mainGlobals "retries_of" = some (some (.ref f_retries_of)))
    (l_retries_of : K.lookup f_retries_of = some ⟨oc_retries_of, od_retries_of, .func (PySem.W.fnOf "retries_of" "retries_of" (defArgs s_retries_of) (defBody s_retries_of) (defScope s_retries_of) .none kV_retries_of dc_retries_of pm_retries_of an_retries_of cd_retries_of ct_retries_of), sl_retries_of⟩)
    (c_retries_of : PySem.W.codeIn K cd_retries_of "retries_of" = true)
    (k_retries_of : PySem.W.keepIn K (.ref f_retries_of) = true)
    (a_numbers_of : PySem.W.nsIn K mainGlobals "numbers_of" = some (some (.ref f_numbers_of)))
    (l_numbers_of : K.lookup f_numbers_of = some ⟨oc_numbers_of, od_numbers_of, .func (PySem.W.fnOf "numbers_of" "numbers_of" (defArgs s_numbers_of) (defBody s_numbers_of) (defScope s_numbers_of) .none kV_numbers_of dc_numbers_of pm_numbers_of an_numbers_of cd_numbers_of ct_numbers_of), sl_numbers_of⟩)
    (c_numbers_of : PySem.W.codeIn K cd_numbers_of "numbers_of" = true)
    (k_numbers_of : PySem.W.keepIn K (.ref f_numbers_of) = true)
    (a_leave : PySem.W.nsIn K mainGlobals "leave" = some (some (.ref f_leave)))
    (l_leave : K.lookup f_leave = some ⟨oc_leave, od_leave, .func (PySem.W.fnOf "leave" "leave" (defArgs s_leave) (defBody s_leave) (defScope s_leave) .none kV_leave dc_leave pm_leave an_leave cd_leave ct_leave), sl_leave⟩)
    (c_leave : PySem.W.codeIn K cd_leave "leave" = true)
    (k_leave : PySem.W.keepIn K (.ref f_leave) = true)
    (a_passed : PySem.W.nsIn K mainGlobals "passed" = some (some (.ref f_passed)))
    (l_passed : K.lookup f_passed = some ⟨oc_passed, od_passed, .func (PySem.W.fnOf "passed" "passed" (defArgs s_passed) (defBody s_passed) (defScope s_passed) .none kV_passed dc_passed pm_passed an_passed cd_passed ct_passed), sl_passed⟩)
    (c_passed : PySem.W.codeIn K cd_passed "passed" = true)
    (k_passed : PySem.W.keepIn K (.ref f_passed) = true)
    (a_settled : PySem.W.nsIn K mainGlobals "settled" = some (some (.ref f_settled)))
    (l_settled : K.lookup f_settled = some ⟨oc_settled, od_settled, .func (PySem.W.fnOf "settled" "settled" (defArgs s_settled) (defBody s_settled) (defScope s_settled) .none kV_settled dc_settled pm_settled an_settled cd_settled ct_settled), sl_settled⟩)
    (c_settled : PySem.W.codeIn K cd_settled "settled" = true)
    (k_settled : PySem.W.keepIn K (.ref f_settled) = true)
    (a_first_spot : PySem.W.nsIn K mainGlobals "first_spot" = some (some (.ref f_first_spot)))
    (l_first_spot : K.lookup f_first_spot = some ⟨oc_first_spot, od_first_spot, .func (PySem.W.fnOf "first_spot" "first_spot" (defArgs s_first_spot) (defBody s_first_spot) (defScope s_first_spot) .none kV_first_spot dc_first_spot pm_first_spot an_first_spot cd_first_spot ct_first_spot), sl_first_spot⟩)
    (c_first_spot : PySem.W.codeIn K cd_first_spot "first_spot" = true)
    (k_first_spot : PySem.W.keepIn K (.ref f_first_spot) = true)
    (a_target : PySem.W.nsIn K mainGlobals "target" = some (some (.ref f_target)))
    (l_target : K.lookup f_target = some ⟨oc_target, od_target, .func (PySem.W.fnOf "target" "target" (defArgs s_target) (defBody s_target) (defScope s_target) .none kV_target dc_target pm_target an_target cd_target ct_target), sl_target⟩)
    (c_target : PySem.W.codeIn K cd_target "target" = true)
    (k_target : PySem.W.keepIn K (.ref f_target) = true)
    (a_next_spot : PySem.W.nsIn K mainGlobals "next_spot" = some (some (.ref f_next_spot)))
    (l_next_spot : K.lookup f_next_spot = some ⟨oc_next_spot, od_next_spot, .func (PySem.W.fnOf "next_spot" "next_spot" (defArgs s_next_spot) (defBody s_next_spot) (defScope s_next_spot) .none kV_next_spot dc_next_spot pm_next_spot an_next_spot cd_next_spot ct_next_spot), sl_next_spot⟩)
    (c_next_spot : PySem.W.codeIn K cd_next_spot "next_spot" = true)
    (k_next_spot : PySem.W.keepIn K (.ref f_next_spot) = true)
    (a_moves_of : PySem.W.nsIn K mainGlobals "moves_of" = some (some (.ref f_moves_of)))
    (l_moves_of : K.lookup f_moves_of = some ⟨oc_moves_of, od_moves_of, .func (PySem.W.fnOf "moves_of" "moves_of" (defArgs s_moves_of) (defBody s_moves_of) (defScope s_moves_of) .none kV_moves_of dc_moves_of pm_moves_of an_moves_of cd_moves_of ct_moves_of), sl_moves_of⟩)
    (c_moves_of : PySem.W.codeIn K cd_moves_of "moves_of" = true)
    (k_moves_of : PySem.W.keepIn K (.ref f_moves_of) = true)
    (a_live_loops : PySem.W.nsIn K mainGlobals "live_loops" = some (some (.ref f_live_loops)))
    (l_live_loops : K.lookup f_live_loops = some ⟨oc_live_loops, od_live_loops, .func (PySem.W.fnOf "live_loops" "live_loops" (defArgs s_live_loops) (defBody s_live_loops) (defScope s_live_loops) .none kV_live_loops dc_live_loops pm_live_loops an_live_loops cd_live_loops ct_live_loops), sl_live_loops⟩)
    (c_live_loops : PySem.W.codeIn K cd_live_loops "live_loops" = true)
    (k_live_loops : PySem.W.keepIn K (.ref f_live_loops) = true)
    (a_way_of : PySem.W.nsIn K mainGlobals "way_of" = some (some (.ref f_way_of)))
    (l_way_of : K.lookup f_way_of = some ⟨oc_way_of, od_way_of, .func (PySem.W.fnOf "way_of" "way_of" (defArgs s_way_of) (defBody s_way_of) (defScope s_way_of) .none kV_way_of dc_way_of pm_way_of an_way_of cd_way_of ct_way_of), sl_way_of⟩)
    (c_way_of : PySem.W.codeIn K cd_way_of "way_of" = true)
    (k_way_of : PySem.W.keepIn K (.ref f_way_of) = true)
    (a_reason_of : PySem.W.nsIn K mainGlobals "reason_of" = some (some (.ref f_reason_of)))
    (l_reason_of : K.lookup f_reason_of = some ⟨oc_reason_of, od_reason_of, .func (PySem.W.fnOf "reason_of" "reason_of" (defArgs s_reason_of) (defBody s_reason_of) (defScope s_reason_of) .none kV_reason_of dc_reason_of pm_reason_of an_reason_of cd_reason_of ct_reason_of), sl_reason_of⟩)
    (c_reason_of : PySem.W.codeIn K cd_reason_of "reason_of" = true)
    (k_reason_of : PySem.W.keepIn K (.ref f_reason_of) = true)
    (a_is_out : PySem.W.nsIn K mainGlobals "is_out" = some (some (.ref f_is_out)))
    (l_is_out : K.lookup f_is_out = some ⟨oc_is_out, od_is_out, .func (PySem.W.fnOf "is_out" "is_out" (defArgs s_is_out) (defBody s_is_out) (defScope s_is_out) .none kV_is_out dc_is_out pm_is_out an_is_out cd_is_out ct_is_out), sl_is_out⟩)
    (c_is_out : PySem.W.codeIn K cd_is_out "is_out" = true)
    (k_is_out : PySem.W.keepIn K (.ref f_is_out) = true)
    (a_is_in : PySem.W.nsIn K mainGlobals "is_in" = some (some (.ref f_is_in)))
    (l_is_in : K.lookup f_is_in = some ⟨oc_is_in, od_is_in, .func (PySem.W.fnOf "is_in" "is_in" (defArgs s_is_in) (defBody s_is_in) (defScope s_is_in) .none kV_is_in dc_is_in pm_is_in an_is_in cd_is_in ct_is_in), sl_is_in⟩)
    (c_is_in : PySem.W.codeIn K cd_is_in "is_in" = true)
    (k_is_in : PySem.W.keepIn K (.ref f_is_in) = true)
    (a_mark_of : PySem.W.nsIn K mainGlobals "mark_of" = some (some (.ref f_mark_of)))
    (l_mark_of : K.lookup f_mark_of = some ⟨oc_mark_of, od_mark_of, .func (PySem.W.fnOf "mark_of" "mark_of" (defArgs s_mark_of) (defBody s_mark_of) (defScope s_mark_of) .none kV_mark_of dc_mark_of pm_mark_of an_mark_of cd_mark_of ct_mark_of), sl_mark_of⟩)
    (c_mark_of : PySem.W.codeIn K cd_mark_of "mark_of" = true)
    (k_mark_of : PySem.W.keepIn K (.ref f_mark_of) = true)
    (a_is_amid : PySem.W.nsIn K mainGlobals "is_amid" = some (some (.ref f_is_amid)))
    (l_is_amid : K.lookup f_is_amid = some ⟨oc_is_amid, od_is_amid, .func (PySem.W.fnOf "is_amid" "is_amid" (defArgs s_is_amid) (defBody s_is_amid) (defScope s_is_amid) .none kV_is_amid dc_is_amid pm_is_amid an_is_amid cd_is_amid ct_is_amid), sl_is_amid⟩)
    (c_is_amid : PySem.W.codeIn K cd_is_amid "is_amid" = true)
    (k_is_amid : PySem.W.keepIn K (.ref f_is_amid) = true)
    (a_row_fault : PySem.W.nsIn K mainGlobals "row_fault" = some (some (.ref f_row_fault)))
    (l_row_fault : K.lookup f_row_fault = some ⟨oc_row_fault, od_row_fault, .func (PySem.W.fnOf "row_fault" "row_fault" (defArgs s_row_fault) (defBody s_row_fault) (defScope s_row_fault) .none kV_row_fault dc_row_fault pm_row_fault an_row_fault cd_row_fault ct_row_fault), sl_row_fault⟩)
    (c_row_fault : PySem.W.codeIn K cd_row_fault "row_fault" = true)
    (k_row_fault : PySem.W.keepIn K (.ref f_row_fault) = true)
    (a_mark_after : PySem.W.nsIn K mainGlobals "mark_after" = some (some (.ref f_mark_after)))
    (l_mark_after : K.lookup f_mark_after = some ⟨oc_mark_after, od_mark_after, .func (PySem.W.fnOf "mark_after" "mark_after" (defArgs s_mark_after) (defBody s_mark_after) (defScope s_mark_after) .none kV_mark_after dc_mark_after pm_mark_after an_mark_after cd_mark_after ct_mark_after), sl_mark_after⟩)
    (c_mark_after : PySem.W.codeIn K cd_mark_after "mark_after" = true)
    (k_mark_after : PySem.W.keepIn K (.ref f_mark_after) = true)
    (a_owed_change : PySem.W.nsIn K mainGlobals "owed_change" = some (some (.ref f_owed_change)))
    (l_owed_change : K.lookup f_owed_change = some ⟨oc_owed_change, od_owed_change, .func (PySem.W.fnOf "owed_change" "owed_change" (defArgs s_owed_change) (defBody s_owed_change) (defScope s_owed_change) .none kV_owed_change dc_owed_change pm_owed_change an_owed_change cd_owed_change ct_owed_change), sl_owed_change⟩)
    (c_owed_change : PySem.W.codeIn K cd_owed_change "owed_change" = true)
    (k_owed_change : PySem.W.keepIn K (.ref f_owed_change) = true)
    (a_resets : PySem.W.nsIn K mainGlobals "resets" = some (some (.ref f_resets)))
    (l_resets : K.lookup f_resets = some ⟨oc_resets, od_resets, .func (PySem.W.fnOf "resets" "resets" (defArgs s_resets) (defBody s_resets) (defScope s_resets) .none kV_resets dc_resets pm_resets an_resets cd_resets ct_resets), sl_resets⟩)
    (c_resets : PySem.W.codeIn K cd_resets "resets" = true)
    (k_resets : PySem.W.keepIn K (.ref f_resets) = true)
    (a_first_state : PySem.W.nsIn K mainGlobals "first_state" = some (some (.ref f_first_state)))
    (l_first_state : K.lookup f_first_state = some ⟨oc_first_state, od_first_state, .func (PySem.W.fnOf "first_state" "first_state" (defArgs s_first_state) (defBody s_first_state) (defScope s_first_state) .none kV_first_state dc_first_state pm_first_state an_first_state cd_first_state ct_first_state), sl_first_state⟩)
    (c_first_state : PySem.W.codeIn K cd_first_state "first_state" = true)
    (k_first_state : PySem.W.keepIn K (.ref f_first_state) = true)
    (a_possible : PySem.W.nsIn K mainGlobals "possible" = some (some (.ref f_possible)))
    (l_possible : K.lookup f_possible = some ⟨oc_possible, od_possible, .func (PySem.W.fnOf "possible" "possible" (defArgs s_possible) (defBody s_possible) (defScope s_possible) .none kV_possible dc_possible pm_possible an_possible cd_possible ct_possible), sl_possible⟩)
    (c_possible : PySem.W.codeIn K cd_possible "possible" = true)
    (k_possible : PySem.W.keepIn K (.ref f_possible) = true)
    (a_fault_of : PySem.W.nsIn K mainGlobals "fault_of" = some (some (.ref f_fault_of)))
    (l_fault_of : K.lookup f_fault_of = some ⟨oc_fault_of, od_fault_of, .func (PySem.W.fnOf "fault_of" "fault_of" (defArgs s_fault_of) (defBody s_fault_of) (defScope s_fault_of) .none kV_fault_of dc_fault_of pm_fault_of an_fault_of cd_fault_of ct_fault_of), sl_fault_of⟩)
    (c_fault_of : PySem.W.codeIn K cd_fault_of "fault_of" = true)
    (k_fault_of : PySem.W.keepIn K (.ref f_fault_of) = true)
    (a_rounds_after : PySem.W.nsIn K mainGlobals "rounds_after" = some (some (.ref f_rounds_after)))
    (l_rounds_after : K.lookup f_rounds_after = some ⟨oc_rounds_after, od_rounds_after, .func (PySem.W.fnOf "rounds_after" "rounds_after" (defArgs s_rounds_after) (defBody s_rounds_after) (defScope s_rounds_after) .none kV_rounds_after dc_rounds_after pm_rounds_after an_rounds_after cd_rounds_after ct_rounds_after), sl_rounds_after⟩)
    (c_rounds_after : PySem.W.codeIn K cd_rounds_after "rounds_after" = true)
    (k_rounds_after : PySem.W.keepIn K (.ref f_rounds_after) = true)
    (a_state_after : PySem.W.nsIn K mainGlobals "state_after" = some (some (.ref f_state_after)))
    (l_state_after : K.lookup f_state_after = some ⟨oc_state_after, od_state_after, .func (PySem.W.fnOf "state_after" "state_after" (defArgs s_state_after) (defBody s_state_after) (defScope s_state_after) .none kV_state_after dc_state_after pm_state_after an_state_after cd_state_after ct_state_after), sl_state_after⟩)
    (c_state_after : PySem.W.codeIn K cd_state_after "state_after" = true)
    (k_state_after : PySem.W.keepIn K (.ref f_state_after) = true)
    (a_is_made_of : PySem.W.nsIn K mainGlobals "is_made_of" = some (some (.ref f_is_made_of)))
    (l_is_made_of : K.lookup f_is_made_of = some ⟨oc_is_made_of, od_is_made_of, .func (PySem.W.fnOf "is_made_of" "is_made_of" (defArgs s_is_made_of) (defBody s_is_made_of) (defScope s_is_made_of) .none kV_is_made_of dc_is_made_of pm_is_made_of an_is_made_of cd_is_made_of ct_is_made_of), sl_is_made_of⟩)
    (c_is_made_of : PySem.W.codeIn K cd_is_made_of "is_made_of" = true)
    (k_is_made_of : PySem.W.keepIn K (.ref f_is_made_of) = true)
    (a_is_list_name : PySem.W.nsIn K mainGlobals "is_list_name" = some (some (.ref f_is_list_name)))
    (l_is_list_name : K.lookup f_is_list_name = some ⟨oc_is_list_name, od_is_list_name, .func (PySem.W.fnOf "is_list_name" "is_list_name" (defArgs s_is_list_name) (defBody s_is_list_name) (defScope s_is_list_name) .none kV_is_list_name dc_is_list_name pm_is_list_name an_is_list_name cd_is_list_name ct_is_list_name), sl_is_list_name⟩)
    (c_is_list_name : PySem.W.codeIn K cd_is_list_name "is_list_name" = true)
    (k_is_list_name : PySem.W.keepIn K (.ref f_is_list_name) = true)
    (a_is_row : PySem.W.nsIn K mainGlobals "is_row" = some (some (.ref f_is_row)))
    (l_is_row : K.lookup f_is_row = some ⟨oc_is_row, od_is_row, .func (PySem.W.fnOf "is_row" "is_row" (defArgs s_is_row) (defBody s_is_row) (defScope s_is_row) .none kV_is_row dc_is_row pm_is_row an_is_row cd_is_row ct_is_row), sl_is_row⟩)
    (c_is_row : PySem.W.codeIn K cd_is_row "is_row" = true)
    (k_is_row : PySem.W.keepIn K (.ref f_is_row) = true)
    (mLW : PySem.W.nsIn K mainGlobals "LINE_WORDS" = some (some (.ref aLW)))
    (lLW : K.lookup aLW = some ⟨.type "tuple", odLW, .seq itLW nLW, slLW⟩)
    (zLW : itLW.size ≤ sizeLine)
    (vLW : Vals (PySem.Fl.LW.map V.str) itLW.toList)
    (mWA : PySem.W.nsIn K mainGlobals "WAITING" = some (some (.ref aWA)))
    (lWA : K.lookup aWA = some ⟨.type "tuple", odWA, .seq itWA nWA, slWA⟩)
    (zWA : itWA.size ≤ sizeLine)
    (vWA : Vals (PySem.Fl.waitingW.map V.str) itWA.toList)
    (mPA : PySem.W.nsIn K mainGlobals "PASSED" = some (some (.ref aPA)))
    (lPA : K.lookup aPA = some ⟨.type "tuple", odPA, .seq itPA nPA, slPA⟩)
    (zPA : itPA.size ≤ sizeLine)
    (vPA : Vals (PySem.Fl.passedW.map V.str) itPA.toList)
    (mPL : PySem.W.nsIn K mainGlobals "PLAIN" = some (some (.ref aPL)))
    (lPL : K.lookup aPL = some ⟨.type "tuple", odPL, .seq itPL nPL, slPL⟩)
    (zPL : itPL.size ≤ sizeLine)
    (vPL : Vals (PySem.Fl.plainW.map V.str) itPL.toList)
    (mOP : PySem.W.nsIn K mainGlobals "OPENING" = some (some (.ref aOP)))
    (lOP : K.lookup aOP = some ⟨.type "tuple", odOP, .seq itOP nOP, slOP⟩)
    (zOP : itOP.size ≤ sizeLine)
    (vOP : Vals (PySem.Fl.openingW.map V.str) itOP.toList)
    (mMI : PySem.W.nsIn K mainGlobals "MIDDLE" = some (some (.ref aMI)))
    (lMI : K.lookup aMI = some ⟨.type "tuple", odMI, .seq itMI nMI, slMI⟩)
    (zMI : itMI.size ≤ sizeLine)
    (vMI : Vals (PySem.Fl.middleW.map V.str) itMI.toList)
    (m_LETTERS : PySem.W.nsIn K mainGlobals "LETTERS" = some (some v_LETTERS))
    (r_LETTERS : RelV (.str "abcdefghijklmnopqrstuvwxyz") v_LETTERS)
    (m_MOST_ROWS : PySem.W.nsIn K mainGlobals "MOST_ROWS" = some (some v_MOST_ROWS))
    (r_MOST_ROWS : RelV (.int 24) v_MOST_ROWS)
    (m_MOST_LISTS : PySem.W.nsIn K mainGlobals "MOST_LISTS" = some (some v_MOST_LISTS))
    (r_MOST_LISTS : RelV (.int 3) v_MOST_LISTS)
    (m_MOST_DEEP : PySem.W.nsIn K mainGlobals "MOST_DEEP" = some (some v_MOST_DEEP))
    (r_MOST_DEEP : RelV (.int 5) v_MOST_DEEP)
    (a_source : PySem.W.nsIn K mainGlobals "_law_source" = some (some (.ref f_source)))
    (l_source : K.lookup f_source = some ⟨oc_source, od_source, .func (PySem.W.fnOf "_law_source" "_law_source" (defArgs s_source) (defBody s_source) (defScope s_source) .none kV_source dc_source pm_source an_source cd_source ct_source), sl_source⟩)
    (c_source : PySem.W.codeIn K cd_source "_law_source" = true)
    (k_source : PySem.W.keepIn K (.ref f_source) = true)
    (a_draw : PySem.W.nsIn K mainGlobals "_law_draw" = some (some (.ref f_draw)))
    (l_draw : K.lookup f_draw = some ⟨oc_draw, od_draw, .func (PySem.W.fnOf "_law_draw" "_law_draw" (defArgs s_draw) (defBody s_draw) (defScope s_draw) .none kV_draw dc_draw pm_draw an_draw cd_draw ct_draw), sl_draw⟩)
    (c_draw : PySem.W.codeIn K cd_draw "_law_draw" = true)
    (k_draw : PySem.W.keepIn K (.ref f_draw) = true)
    (a_of : PySem.W.nsIn K mainGlobals "_law_of" = some (some (.ref f_of)))
    (l_of : K.lookup f_of = some ⟨oc_of, od_of, .func (PySem.W.fnOf "_law_of" "_law_of" (defArgs s_of) (defBody s_of) (defScope s_of) .none kV_of dc_of pm_of an_of cd_of ct_of), sl_of⟩)
    (c_of : PySem.W.codeIn K cd_of "_law_of" = true)
    (k_of : PySem.W.keepIn K (.ref f_of) = true)
    (a_same : PySem.W.nsIn K mainGlobals "_law_same" = some (some (.ref f_same)))
    (l_same : K.lookup f_same = some ⟨oc_same, od_same, .func (PySem.W.fnOf "_law_same" "_law_same" (defArgs s_same) (defBody s_same) (defScope s_same) .none kV_same dc_same pm_same an_same cd_same ct_same), sl_same⟩)
    (c_same : PySem.W.codeIn K cd_same "_law_same" = true)
    (k_same : PySem.W.keepIn K (.ref f_same) = true)
    (a_fault : PySem.W.nsIn K mainGlobals "_law_fault" = some (some (.ref f_fault)))
    (l_fault : K.lookup f_fault = some ⟨oc_fault, od_fault, .func (PySem.W.fnOf "_law_fault" "_law_fault" (defArgs s_fault) (defBody s_fault) (defScope s_fault) .none kV_fault dc_fault pm_fault an_fault cd_fault ct_fault), sl_fault⟩)
    (c_fault : PySem.W.codeIn K cd_fault "_law_fault" = true)
    (k_fault : PySem.W.keepIn K (.ref f_fault) = true)
    (a_mark : PySem.W.nsIn K mainGlobals "_law_mark" = some (some (.ref f_mark)))
    (l_mark : K.lookup f_mark = some ⟨oc_mark, od_mark, .func (PySem.W.fnOf "_law_mark" "_law_mark" (defArgs s_mark) (defBody s_mark) (defScope s_mark) .none kV_mark dc_mark pm_mark an_mark cd_mark ct_mark), sl_mark⟩)
    (c_mark : PySem.W.codeIn K cd_mark "_law_mark" = true)
    (k_mark : PySem.W.keepIn K (.ref f_mark) = true)
    (a_prefix : PySem.W.nsIn K mainGlobals "_law_prefix" = some (some (.ref f_prefix)))
    (l_prefix : K.lookup f_prefix = some ⟨oc_prefix, od_prefix, .func (PySem.W.fnOf "_law_prefix" "_law_prefix" (defArgs s_prefix) (defBody s_prefix) (defScope s_prefix) .none kV_prefix dc_prefix pm_prefix an_prefix cd_prefix ct_prefix), sl_prefix⟩)
    (c_prefix : PySem.W.codeIn K cd_prefix "_law_prefix" = true)
    (k_prefix : PySem.W.keepIn K (.ref f_prefix) = true)
    (a_wrapped : PySem.W.nsIn K mainGlobals "_law_wrapped" = some (some (.ref f_wrapped)))
    (l_wrapped : K.lookup f_wrapped = some ⟨oc_wrapped, od_wrapped, .func (PySem.W.fnOf "_law_wrapped" "_law_wrapped" (defArgs s_wrapped) (defBody s_wrapped) (defScope s_wrapped) .none kV_wrapped dc_wrapped pm_wrapped an_wrapped cd_wrapped ct_wrapped), sl_wrapped⟩)
    (c_wrapped : PySem.W.codeIn K cd_wrapped "_law_wrapped" = true)
    (k_wrapped : PySem.W.keepIn K (.ref f_wrapped) = true)
    (a_due : PySem.W.nsIn K mainGlobals "_law_due" = some (some (.ref f_due)))
    (l_due : K.lookup f_due = some ⟨oc_due, od_due, .func (PySem.W.fnOf "_law_due" "_law_due" (defArgs s_due) (defBody s_due) (defScope s_due) .none kV_due dc_due pm_due an_due cd_due ct_due), sl_due⟩)
    (c_due : PySem.W.codeIn K cd_due "_law_due" = true)
    (k_due : PySem.W.keepIn K (.ref f_due) = true)
    (a_stays : PySem.W.nsIn K mainGlobals "_law_stays" = some (some (.ref f_stays)))
    (l_stays : K.lookup f_stays = some ⟨oc_stays, od_stays, .func (PySem.W.fnOf "_law_stays" "_law_stays" (defArgs s_stays) (defBody s_stays) (defScope s_stays) .none kV_stays dc_stays pm_stays an_stays cd_stays ct_stays), sl_stays⟩)
    (c_stays : PySem.W.codeIn K cd_stays "_law_stays" = true)
    (k_stays : PySem.W.keepIn K (.ref f_stays) = true)
    (a_after : PySem.W.nsIn K mainGlobals "_law_after" = some (some (.ref f_after)))
    (l_after : K.lookup f_after = some ⟨oc_after, od_after, .func (PySem.W.fnOf "_law_after" "_law_after" (defArgs s_after) (defBody s_after) (defScope s_after) .none kV_after dc_after pm_after an_after cd_after ct_after), sl_after⟩)
    (c_after : PySem.W.codeIn K cd_after "_law_after" = true)
    (k_after : PySem.W.keepIn K (.ref f_after) = true)
    (a_holds : PySem.W.nsIn K mainGlobals "_law_holds" = some (some (.ref f_holds)))
    (l_holds : K.lookup f_holds = some ⟨oc_holds, od_holds, .func (PySem.W.fnOf "_law_holds" "_law_holds" (defArgs s_holds) (defBody s_holds) (defScope s_holds) .none kV_holds dc_holds pm_holds an_holds cd_holds ct_holds), sl_holds⟩)
    (c_holds : PySem.W.codeIn K cd_holds "_law_holds" = true)
    (k_holds : PySem.W.keepIn K (.ref f_holds) = true)
    (a_law : PySem.W.nsIn K mainGlobals "law" = some (some (.ref f_law)))
    (l_law : K.lookup f_law = some ⟨oc_law, od_law, .func (PySem.W.fnOf "law" "law" (defArgs s_law) (defBody s_law) (defScope s_law) .none kV_law dc_law pm_law an_law cd_law ct_law), sl_law⟩)
    (c_law : PySem.W.codeIn K cd_law "law" = true)
    (k_law : PySem.W.keepIn K (.ref f_law) = true)
    (z_len : PySem.W.nsIn K mainGlobals "len" = some none)
    (z_abs : PySem.W.nsIn K mainGlobals "abs" = some none)
    (z_int : PySem.W.nsIn K mainGlobals "int" = some none)
    (z_range : PySem.W.nsIn K mainGlobals "range" = some none)
    (z_min : PySem.W.nsIn K mainGlobals "min" = some none)
    (z_max : PySem.W.nsIn K mainGlobals "max" = some none)
    (z_isinstance : PySem.W.nsIn K mainGlobals "isinstance" = some none)
    (z_zip : PySem.W.nsIn K mainGlobals "zip" = some none)
    (z_all : PySem.W.nsIn K mainGlobals "all" = some none)
    (z_any : PySem.W.nsIn K mainGlobals "any" = some none)
    (z_tuple : PySem.W.nsIn K mainGlobals "tuple" = some none)
    (z_list : PySem.W.nsIn K mainGlobals "list" = some none)
    (z_bool : PySem.W.nsIn K mainGlobals "bool" = some none)
    (z_str : PySem.W.nsIn K mainGlobals "str" = some none)
    (z_dict : PySem.W.nsIn K mainGlobals "dict" = some none)
    (z_sorted : PySem.W.nsIn K mainGlobals "sorted" = some none)
    (z_enumerate : PySem.W.nsIn K mainGlobals "enumerate" = some none) :
    ∃ fd : FuncData, (∀ (s : Shared) (v : Value), BindsTo s fd ⟨[v], []⟩ [("_law_script", v)]) ∧ ∀ base : Heap, K.In base → base.Ns mainGlobals mg → FnOk l.prog w K mg base CX0 10 fa fd ["_law_script"] (spLaw K) := by
  have e := hfa.symm.trans (PySem.W.mg_of X G a_law)
  cases e

  have F_Walk_init := fun_mk (st := s_Walk_init) l_Walk_init c_Walk_init k_Walk_init
  have b_Walk_init := F_Walk_init.binds (ps := ["self", "function", "lengths"]) fun _ _ _ _ _ _ us hl => match us, hl with | [_, _, _], _ => rfl
  have F_Reader_init := fun_mk (st := s_Reader_init) l_Reader_init c_Reader_init k_Reader_init
  have b_Reader_init := F_Reader_init.binds (ps := ["self"]) fun _ _ _ _ _ _ us hl => match us, hl with | [_], _ => rfl
  have F_Function_init := fun_mk (st := s_Function_init) l_Function_init c_Function_init k_Function_init
  have b_Function_init := F_Function_init.binds (ps := ["self", "text"]) fun _ _ _ _ _ _ us hl => match us, hl with | [_, _], _ => rfl
  have F_Walk_done := fun_mk (st := s_Walk_done) l_Walk_done c_Walk_done k_Walk_done
  have b_Walk_done := F_Walk_done.binds (ps := ["self"]) fun _ _ _ _ _ _ us hl => match us, hl with | [_], _ => rfl
  have F_Walk_choices := fun_mk (st := s_Walk_choices) l_Walk_choices c_Walk_choices k_Walk_choices
  have b_Walk_choices := F_Walk_choices.binds (ps := ["self"]) fun _ _ _ _ _ _ us hl => match us, hl with | [_], _ => rfl
  have F_Walk_step := fun_mk (st := s_Walk_step) l_Walk_step c_Walk_step k_Walk_step
  have b_Walk_step := F_Walk_step.binds (ps := ["self", "move"]) fun _ _ _ _ _ _ us hl => match us, hl with | [_, _], _ => rfl
  have F_Reader_opener_word := fun_mk (st := s_Reader_opener_word) l_Reader_opener_word c_Reader_opener_word k_Reader_opener_word
  have b_Reader_opener_word := F_Reader_opener_word.binds (ps := ["self"]) fun _ _ _ _ _ _ us hl => match us, hl with | [_], _ => rfl
  have F_Reader_is_second := fun_mk (st := s_Reader_is_second) l_Reader_is_second c_Reader_is_second k_Reader_is_second
  have b_Reader_is_second := F_Reader_is_second.binds (ps := ["self", "opener"]) fun _ _ _ _ _ _ us hl => match us, hl with | [_, _], _ => rfl
  have F_Reader_is_rescue := fun_mk (st := s_Reader_is_rescue) l_Reader_is_rescue c_Reader_is_rescue k_Reader_is_rescue
  have b_Reader_is_rescue := F_Reader_is_rescue.binds (ps := ["self", "opener"]) fun _ _ _ _ _ _ us hl => match us, hl with | [_, _], _ => rfl
  have F_Reader_loop_place := fun_mk (st := s_Reader_loop_place) l_Reader_loop_place c_Reader_loop_place k_Reader_loop_place
  have b_Reader_loop_place := F_Reader_loop_place.binds (ps := ["self"]) fun _ _ _ _ _ _ us hl => match us, hl with | [_], _ => rfl
  have F_Reader_may_reset := fun_mk (st := s_Reader_may_reset) l_Reader_may_reset c_Reader_may_reset k_Reader_may_reset
  have b_Reader_may_reset := F_Reader_may_reset.binds (ps := ["self", "word"]) fun _ _ _ _ _ _ us hl => match us, hl with | [_, _], _ => rfl
  have F_Reader_may_middle := fun_mk (st := s_Reader_may_middle) l_Reader_may_middle c_Reader_may_middle k_Reader_may_middle
  have b_Reader_may_middle := F_Reader_may_middle.binds (ps := ["self", "word"]) fun _ _ _ _ _ _ us hl => match us, hl with | [_, _], _ => rfl
  have F_Reader_may_open := fun_mk (st := s_Reader_may_open) l_Reader_may_open c_Reader_may_open k_Reader_may_open
  have b_Reader_may_open := F_Reader_may_open.binds (ps := ["self", "word"]) fun _ _ _ _ _ _ us hl => match us, hl with | [_, _], _ => rfl
  have F_Reader_fits := fun_mk (st := s_Reader_fits) l_Reader_fits c_Reader_fits k_Reader_fits
  have b_Reader_fits := F_Reader_fits.binds (ps := ["self", "word"]) fun _ _ _ _ _ _ us hl => match us, hl with | [_, _], _ => rfl
  have F_Reader_take := fun_mk (st := s_Reader_take) l_Reader_take c_Reader_take k_Reader_take
  have b_Reader_take := F_Reader_take.binds (ps := ["self", "word"]) fun _ _ _ _ _ _ us hl => match us, hl with | [_, _], _ => rfl
  have F_Walk_spot := fun_mk (st := s_Walk_spot) l_Walk_spot c_Walk_spot k_Walk_spot
  have b_Walk_spot := F_Walk_spot.binds (ps := ["self"]) fun _ _ _ _ _ _ us hl => match us, hl with | [_], _ => rfl
  have F_Walk_mark := fun_mk (st := s_Walk_mark) l_Walk_mark c_Walk_mark k_Walk_mark
  have b_Walk_mark := F_Walk_mark.binds (ps := ["self"]) fun _ _ _ _ _ _ us hl => match us, hl with | [_], _ => rfl
  have F_Walk_owed := fun_mk (st := s_Walk_owed) l_Walk_owed c_Walk_owed k_Walk_owed
  have b_Walk_owed := F_Walk_owed.binds (ps := ["self"]) fun _ _ _ _ _ _ us hl => match us, hl with | [_], _ => rfl
  have F_Walk_asked := fun_mk (st := s_Walk_asked) l_Walk_asked c_Walk_asked k_Walk_asked
  have b_Walk_asked := F_Walk_asked.binds (ps := ["self"]) fun _ _ _ _ _ _ us hl => match us, hl with | [_], _ => rfl
  have F_Walk_taken := fun_mk (st := s_Walk_taken) l_Walk_taken c_Walk_taken k_Walk_taken
  have b_Walk_taken := F_Walk_taken.binds (ps := ["self"]) fun _ _ _ _ _ _ us hl => match us, hl with | [_], _ => rfl
  have F_Walk_way := fun_mk (st := s_Walk_way) l_Walk_way c_Walk_way k_Walk_way
  have b_Walk_way := F_Walk_way.binds (ps := ["self"]) fun _ _ _ _ _ _ us hl => match us, hl with | [_], _ => rfl
  have F_Walk_is_over := fun_mk (st := s_Walk_is_over) l_Walk_is_over c_Walk_is_over k_Walk_is_over
  have b_Walk_is_over := F_Walk_is_over.binds (ps := ["self"]) fun _ _ _ _ _ _ us hl => match us, hl with | [_], _ => rfl
  have F_Walk_report := fun_mk (st := s_Walk_report) l_Walk_report c_Walk_report k_Walk_report
  have b_Walk_report := F_Walk_report.binds (ps := ["self"]) fun _ _ _ _ _ _ us hl => match us, hl with | [_], _ => rfl
  have F_Walk_steps := fun_mk (st := s_Walk_steps) l_Walk_steps c_Walk_steps k_Walk_steps
  have b_Walk_steps := F_Walk_steps.binds (ps := ["self"]) fun _ _ _ _ _ _ us hl => match us, hl with | [_], _ => rfl
  have F_is_step := fun_mk (st := s_is_step) l_is_step c_is_step k_is_step
  have b_is_step := F_is_step.binds (ps := ["function", "row"]) fun _ _ _ _ _ _ us hl => match us, hl with | [_, _], _ => rfl
  have F_is_inside := fun_mk (st := s_is_inside) l_is_inside c_is_inside k_is_inside
  have b_is_inside := F_is_inside.binds (ps := ["function", "row", "block"]) fun _ _ _ _ _ _ us hl => match us, hl with | [_, _, _], _ => rfl
  have F_is_guarded := fun_mk (st := s_is_guarded) l_is_guarded c_is_guarded k_is_guarded
  have b_is_guarded := F_is_guarded.binds (ps := ["function", "row", "block"]) fun _ _ _ _ _ _ us hl => match us, hl with | [_, _, _], _ => rfl
  have F_is_shielded := fun_mk (st := s_is_shielded) l_is_shielded c_is_shielded k_is_shielded
  have b_is_shielded := F_is_shielded.binds (ps := ["function", "row"]) fun _ _ _ _ _ _ us hl => match us, hl with | [_, _], _ => rfl
  have F_loop_of := fun_mk (st := s_loop_of) l_loop_of c_loop_of k_loop_of
  have b_loop_of := F_loop_of.binds (ps := ["function", "row"]) fun _ _ _ _ _ _ us hl => match us, hl with | [_, _], _ => rfl
  have F_retries_of := fun_mk (st := s_retries_of) l_retries_of c_retries_of k_retries_of
  have b_retries_of := F_retries_of.binds (ps := ["function", "row"]) fun _ _ _ _ _ _ us hl => match us, hl with | [_, _], _ => rfl
  have F_numbers_of := fun_mk (st := s_numbers_of) l_numbers_of c_numbers_of k_numbers_of
  have b_numbers_of := F_numbers_of.binds (ps := ["function", "spot"]) fun _ _ _ _ _ _ us hl => match us, hl with | [_, _], _ => rfl
  have F_leave := fun_mk (st := s_leave) l_leave c_leave k_leave
  have b_leave := F_leave.binds (ps := ["function", "inner", "numbers", "events"]) fun _ _ _ _ _ _ us hl => match us, hl with | [_, _, _, _], _ => rfl
  have F_passed := fun_mk (st := s_passed) l_passed c_passed k_passed
  have b_passed := F_passed.binds (ps := ["function", "row", "events"]) fun _ _ _ _ _ _ us hl => match us, hl with | [_, _, _], _ => rfl
  have F_settled := fun_mk (st := s_settled) l_settled c_settled k_settled
  have b_settled := F_settled.binds (ps := ["function", "place", "numbers"]) fun _ _ _ _ _ _ us hl => match us, hl with | [_, _, _], _ => rfl
  have F_first_spot := fun_mk (st := s_first_spot) l_first_spot c_first_spot k_first_spot
  have b_first_spot := F_first_spot.binds (ps := ["function"]) fun _ _ _ _ _ _ us hl => match us, hl with | [_], _ => rfl
  have F_target := fun_mk (st := s_target) l_target c_target k_target
  have b_target := F_target.binds (ps := ["function", "row", "move"]) fun _ _ _ _ _ _ us hl => match us, hl with | [_, _, _], _ => rfl
  have F_next_spot := fun_mk (st := s_next_spot) l_next_spot c_next_spot k_next_spot
  have b_next_spot := F_next_spot.binds (ps := ["function", "spot", "move"]) fun _ _ _ _ _ _ us hl => match us, hl with | [_, _, _], _ => rfl
  have F_moves_of := fun_mk (st := s_moves_of) l_moves_of c_moves_of k_moves_of
  have b_moves_of := F_moves_of.binds (ps := ["function", "row"]) fun _ _ _ _ _ _ us hl => match us, hl with | [_, _], _ => rfl
  have F_live_loops := fun_mk (st := s_live_loops) l_live_loops c_live_loops k_live_loops
  have b_live_loops := F_live_loops.binds (ps := ["function", "spot"]) fun _ _ _ _ _ _ us hl => match us, hl with | [_, _], _ => rfl
  have F_way_of := fun_mk (st := s_way_of) l_way_of c_way_of k_way_of
  have b_way_of := F_way_of.binds (ps := ["function", "spot"]) fun _ _ _ _ _ _ us hl => match us, hl with | [_, _], _ => rfl
  have F_reason_of := fun_mk (st := s_reason_of) l_reason_of c_reason_of k_reason_of
  have b_reason_of := F_reason_of.binds (ps := ["way"]) fun _ _ _ _ _ _ us hl => match us, hl with | [_], _ => rfl
  have F_is_out := fun_mk (st := s_is_out) l_is_out c_is_out k_is_out
  have b_is_out := F_is_out.binds (ps := ["mark"]) fun _ _ _ _ _ _ us hl => match us, hl with | [_], _ => rfl
  have F_is_in := fun_mk (st := s_is_in) l_is_in c_is_in k_is_in
  have b_is_in := F_is_in.binds (ps := ["mark"]) fun _ _ _ _ _ _ us hl => match us, hl with | [_], _ => rfl
  have F_mark_of := fun_mk (st := s_mark_of) l_mark_of c_mark_of k_mark_of
  have b_mark_of := F_mark_of.binds (ps := ["sending", "reading"]) fun _ _ _ _ _ _ us hl => match us, hl with | [_, _], _ => rfl
  have F_is_amid := fun_mk (st := s_is_amid) l_is_amid c_is_amid k_is_amid
  have b_is_amid := F_is_amid.binds (ps := ["word", "mark"]) fun _ _ _ _ _ _ us hl => match us, hl with | [_, _], _ => rfl
  have F_row_fault := fun_mk (st := s_row_fault) l_row_fault c_row_fault k_row_fault
  have b_row_fault := F_row_fault.binds (ps := ["word", "mark", "owed"]) fun _ _ _ _ _ _ us hl => match us, hl with | [_, _, _], _ => rfl
  have F_mark_after := fun_mk (st := s_mark_after) l_mark_after c_mark_after k_mark_after
  have b_mark_after := F_mark_after.binds (ps := ["word", "mark"]) fun _ _ _ _ _ _ us hl => match us, hl with | [_, _], _ => rfl
  have F_owed_change := fun_mk (st := s_owed_change) l_owed_change c_owed_change k_owed_change
  have b_owed_change := F_owed_change.binds (ps := ["word"]) fun _ _ _ _ _ _ us hl => match us, hl with | [_], _ => rfl
  have F_resets := fun_mk (st := s_resets) l_resets c_resets k_resets
  have b_resets := F_resets.binds (ps := ["word"]) fun _ _ _ _ _ _ us hl => match us, hl with | [_], _ => rfl
  have F_first_state := fun_mk (st := s_first_state) l_first_state c_first_state k_first_state
  have b_first_state := F_first_state.binds (ps := ["function", "mark", "owed"]) fun _ _ _ _ _ _ us hl => match us, hl with | [_, _, _], _ => rfl
  have F_possible := fun_mk (st := s_possible) l_possible c_possible k_possible
  have b_possible := F_possible.binds (ps := ["function", "lengths", "state"]) fun _ _ _ _ _ _ us hl => match us, hl with | [_, _, _], _ => rfl
  have F_fault_of := fun_mk (st := s_fault_of) l_fault_of c_fault_of k_fault_of
  have b_fault_of := F_fault_of.binds (ps := ["function", "state", "move"]) fun _ _ _ _ _ _ us hl => match us, hl with | [_, _, _], _ => rfl
  have F_rounds_after := fun_mk (st := s_rounds_after) l_rounds_after c_rounds_after k_rounds_after
  have b_rounds_after := F_rounds_after.binds (ps := ["function", "state", "move", "spot"]) fun _ _ _ _ _ _ us hl => match us, hl with | [_, _, _, _], _ => rfl
  have F_state_after := fun_mk (st := s_state_after) l_state_after c_state_after k_state_after
  have b_state_after := F_state_after.binds (ps := ["function", "state", "move"]) fun _ _ _ _ _ _ us hl => match us, hl with | [_, _, _], _ => rfl
  have F_is_made_of := fun_mk (st := s_is_made_of) l_is_made_of c_is_made_of k_is_made_of
  have b_is_made_of := F_is_made_of.binds (ps := ["text", "characters"]) fun _ _ _ _ _ _ us hl => match us, hl with | [_, _], _ => rfl
  have F_is_list_name := fun_mk (st := s_is_list_name) l_is_list_name c_is_list_name k_is_list_name
  have b_is_list_name := F_is_list_name.binds (ps := ["text"]) fun _ _ _ _ _ _ us hl => match us, hl with | [_], _ => rfl
  have F_is_row := fun_mk (st := s_is_row) l_is_row c_is_row k_is_row
  have b_is_row := F_is_row.binds (ps := ["words"]) fun _ _ _ _ _ _ us hl => match us, hl with | [_], _ => rfl
  have F_source := fun_mk (st := s_source) l_source c_source k_source
  have b_source := F_source.binds (ps := ["_law_script", "_law_place"]) fun _ _ _ _ _ _ us hl => match us, hl with | [_, _], _ => rfl
  have F_draw := fun_mk (st := s_draw) l_draw c_draw k_draw
  have b_draw := F_draw.binds (ps := ["_law_source_here", "_law_many"]) fun _ _ _ _ _ _ us hl => match us, hl with | [_, _], _ => rfl
  have F_of := fun_mk (st := s_of) l_of c_of k_of
  have b_of := F_of.binds (ps := ["_law_source_here", "_law_some"]) fun _ _ _ _ _ _ us hl => match us, hl with | [_, _], _ => rfl
  have F_same := fun_mk (st := s_same) l_same c_same k_same
  have b_same := F_same.binds (ps := ["_law_actual", "_law_due_here"]) fun _ _ _ _ _ _ us hl => match us, hl with | [_, _], _ => rfl
  have F_fault := fun_mk (st := s_fault) l_fault c_fault k_fault
  have b_fault := F_fault.binds (ps := ["_law_word", "_law_mark_here", "_law_owed"]) fun _ _ _ _ _ _ us hl => match us, hl with | [_, _, _], _ => rfl
  have F_mark := fun_mk (st := s_mark) l_mark c_mark k_mark
  have b_mark := F_mark.binds (ps := ["_law_word", "_law_mark_here"]) fun _ _ _ _ _ _ us hl => match us, hl with | [_, _], _ => rfl
  have F_prefix := fun_mk (st := s_prefix) l_prefix c_prefix k_prefix
  have b_prefix := F_prefix.binds (ps := ["_law_source_here"]) fun _ _ _ _ _ _ us hl => match us, hl with | [_], _ => rfl
  have F_wrapped := fun_mk (st := s_wrapped) l_wrapped c_wrapped k_wrapped
  have b_wrapped := F_wrapped.binds (ps := ["_law_source_here", "_law_word"]) fun _ _ _ _ _ _ us hl => match us, hl with | [_, _], _ => rfl
  have F_due := fun_mk (st := s_due) l_due c_due k_due
  have b_due := F_due.binds (ps := ["_law_word", "_law_mark_here", "_law_owed"]) fun _ _ _ _ _ _ us hl => match us, hl with | [_, _, _], _ => rfl
  have F_stays := fun_mk (st := s_stays) l_stays c_stays k_stays
  have b_stays := F_stays.binds (ps := ["_law_walk", "_law_before", "_law_mark_here", "_law_owed", "_law_fault_here"]) fun _ _ _ _ _ _ us hl => match us, hl with | [_, _, _, _, _], _ => rfl
  have F_after := fun_mk (st := s_after) l_after c_after k_after
  have b_after := F_after.binds (ps := ["_law_word", "_law_mark_here", "_law_owed"]) fun _ _ _ _ _ _ us hl => match us, hl with | [_, _, _], _ => rfl
  have F_holds := fun_mk (st := s_holds) l_holds c_holds k_holds
  have b_holds := F_holds.binds (ps := ["_law_source_here"]) fun _ _ _ _ _ _ us hl => match us, hl with | [_], _ => rfl
  have F_law := fun_mk (st := s_law) l_law c_law k_law
  have b_law := F_law.binds (ps := ["_law_script"]) fun _ _ _ _ _ _ us hl => match us, hl with | [_], _ => rfl
  let A9 : Ad := ⟨cWa, cRe, cFn, aLW, aWA, aPA, aPL, aOP, aMI, p_spot, p_mark, p_owed, p_asked, p_taken, p_way, p_over, p_report, p_steps, f_is_step, PySem.W.fnOf "is_step" "is_step" (defArgs s_is_step) (defBody s_is_step) (defScope s_is_step) .none kV_is_step dc_is_step pm_is_step an_is_step cd_is_step ct_is_step, f_is_inside, PySem.W.fnOf "is_inside" "is_inside" (defArgs s_is_inside) (defBody s_is_inside) (defScope s_is_inside) .none kV_is_inside dc_is_inside pm_is_inside an_is_inside cd_is_inside ct_is_inside, f_is_guarded, PySem.W.fnOf "is_guarded" "is_guarded" (defArgs s_is_guarded) (defBody s_is_guarded) (defScope s_is_guarded) .none kV_is_guarded dc_is_guarded pm_is_guarded an_is_guarded cd_is_guarded ct_is_guarded, f_is_shielded, PySem.W.fnOf "is_shielded" "is_shielded" (defArgs s_is_shielded) (defBody s_is_shielded) (defScope s_is_shielded) .none kV_is_shielded dc_is_shielded pm_is_shielded an_is_shielded cd_is_shielded ct_is_shielded, f_loop_of, PySem.W.fnOf "loop_of" "loop_of" (defArgs s_loop_of) (defBody s_loop_of) (defScope s_loop_of) .none kV_loop_of dc_loop_of pm_loop_of an_loop_of cd_loop_of ct_loop_of, f_retries_of, PySem.W.fnOf "retries_of" "retries_of" (defArgs s_retries_of) (defBody s_retries_of) (defScope s_retries_of) .none kV_retries_of dc_retries_of pm_retries_of an_retries_of cd_retries_of ct_retries_of, f_numbers_of, PySem.W.fnOf "numbers_of" "numbers_of" (defArgs s_numbers_of) (defBody s_numbers_of) (defScope s_numbers_of) .none kV_numbers_of dc_numbers_of pm_numbers_of an_numbers_of cd_numbers_of ct_numbers_of, f_leave, PySem.W.fnOf "leave" "leave" (defArgs s_leave) (defBody s_leave) (defScope s_leave) .none kV_leave dc_leave pm_leave an_leave cd_leave ct_leave, f_passed, PySem.W.fnOf "passed" "passed" (defArgs s_passed) (defBody s_passed) (defScope s_passed) .none kV_passed dc_passed pm_passed an_passed cd_passed ct_passed, f_settled, PySem.W.fnOf "settled" "settled" (defArgs s_settled) (defBody s_settled) (defScope s_settled) .none kV_settled dc_settled pm_settled an_settled cd_settled ct_settled, f_first_spot, PySem.W.fnOf "first_spot" "first_spot" (defArgs s_first_spot) (defBody s_first_spot) (defScope s_first_spot) .none kV_first_spot dc_first_spot pm_first_spot an_first_spot cd_first_spot ct_first_spot, f_target, PySem.W.fnOf "target" "target" (defArgs s_target) (defBody s_target) (defScope s_target) .none kV_target dc_target pm_target an_target cd_target ct_target, f_next_spot, PySem.W.fnOf "next_spot" "next_spot" (defArgs s_next_spot) (defBody s_next_spot) (defScope s_next_spot) .none kV_next_spot dc_next_spot pm_next_spot an_next_spot cd_next_spot ct_next_spot, f_moves_of, PySem.W.fnOf "moves_of" "moves_of" (defArgs s_moves_of) (defBody s_moves_of) (defScope s_moves_of) .none kV_moves_of dc_moves_of pm_moves_of an_moves_of cd_moves_of ct_moves_of, f_live_loops, PySem.W.fnOf "live_loops" "live_loops" (defArgs s_live_loops) (defBody s_live_loops) (defScope s_live_loops) .none kV_live_loops dc_live_loops pm_live_loops an_live_loops cd_live_loops ct_live_loops, f_way_of, PySem.W.fnOf "way_of" "way_of" (defArgs s_way_of) (defBody s_way_of) (defScope s_way_of) .none kV_way_of dc_way_of pm_way_of an_way_of cd_way_of ct_way_of, f_reason_of, PySem.W.fnOf "reason_of" "reason_of" (defArgs s_reason_of) (defBody s_reason_of) (defScope s_reason_of) .none kV_reason_of dc_reason_of pm_reason_of an_reason_of cd_reason_of ct_reason_of, f_is_out, PySem.W.fnOf "is_out" "is_out" (defArgs s_is_out) (defBody s_is_out) (defScope s_is_out) .none kV_is_out dc_is_out pm_is_out an_is_out cd_is_out ct_is_out, f_is_in, PySem.W.fnOf "is_in" "is_in" (defArgs s_is_in) (defBody s_is_in) (defScope s_is_in) .none kV_is_in dc_is_in pm_is_in an_is_in cd_is_in ct_is_in, f_mark_of, PySem.W.fnOf "mark_of" "mark_of" (defArgs s_mark_of) (defBody s_mark_of) (defScope s_mark_of) .none kV_mark_of dc_mark_of pm_mark_of an_mark_of cd_mark_of ct_mark_of, f_is_amid, PySem.W.fnOf "is_amid" "is_amid" (defArgs s_is_amid) (defBody s_is_amid) (defScope s_is_amid) .none kV_is_amid dc_is_amid pm_is_amid an_is_amid cd_is_amid ct_is_amid, f_row_fault, PySem.W.fnOf "row_fault" "row_fault" (defArgs s_row_fault) (defBody s_row_fault) (defScope s_row_fault) .none kV_row_fault dc_row_fault pm_row_fault an_row_fault cd_row_fault ct_row_fault, f_mark_after, PySem.W.fnOf "mark_after" "mark_after" (defArgs s_mark_after) (defBody s_mark_after) (defScope s_mark_after) .none kV_mark_after dc_mark_after pm_mark_after an_mark_after cd_mark_after ct_mark_after, f_owed_change, PySem.W.fnOf "owed_change" "owed_change" (defArgs s_owed_change) (defBody s_owed_change) (defScope s_owed_change) .none kV_owed_change dc_owed_change pm_owed_change an_owed_change cd_owed_change ct_owed_change, f_resets, PySem.W.fnOf "resets" "resets" (defArgs s_resets) (defBody s_resets) (defScope s_resets) .none kV_resets dc_resets pm_resets an_resets cd_resets ct_resets, f_first_state, PySem.W.fnOf "first_state" "first_state" (defArgs s_first_state) (defBody s_first_state) (defScope s_first_state) .none kV_first_state dc_first_state pm_first_state an_first_state cd_first_state ct_first_state, f_possible, PySem.W.fnOf "possible" "possible" (defArgs s_possible) (defBody s_possible) (defScope s_possible) .none kV_possible dc_possible pm_possible an_possible cd_possible ct_possible, f_fault_of, PySem.W.fnOf "fault_of" "fault_of" (defArgs s_fault_of) (defBody s_fault_of) (defScope s_fault_of) .none kV_fault_of dc_fault_of pm_fault_of an_fault_of cd_fault_of ct_fault_of, f_rounds_after, PySem.W.fnOf "rounds_after" "rounds_after" (defArgs s_rounds_after) (defBody s_rounds_after) (defScope s_rounds_after) .none kV_rounds_after dc_rounds_after pm_rounds_after an_rounds_after cd_rounds_after ct_rounds_after, f_state_after, PySem.W.fnOf "state_after" "state_after" (defArgs s_state_after) (defBody s_state_after) (defScope s_state_after) .none kV_state_after dc_state_after pm_state_after an_state_after cd_state_after ct_state_after, f_Walk_init, PySem.W.fnOf "__init__" "Walk.__init__" (defArgs s_Walk_init) (defBody s_Walk_init) (defScope s_Walk_init) .none kV_Walk_init dc_Walk_init pm_Walk_init an_Walk_init cd_Walk_init ct_Walk_init, f_Walk_spot, PySem.W.fnOf "spot" "Walk.spot" (defArgs s_Walk_spot) (defBody s_Walk_spot) (defScope s_Walk_spot) .none kV_Walk_spot dc_Walk_spot pm_Walk_spot an_Walk_spot cd_Walk_spot ct_Walk_spot, f_Walk_mark, PySem.W.fnOf "mark" "Walk.mark" (defArgs s_Walk_mark) (defBody s_Walk_mark) (defScope s_Walk_mark) .none kV_Walk_mark dc_Walk_mark pm_Walk_mark an_Walk_mark cd_Walk_mark ct_Walk_mark, f_Walk_owed, PySem.W.fnOf "owed" "Walk.owed" (defArgs s_Walk_owed) (defBody s_Walk_owed) (defScope s_Walk_owed) .none kV_Walk_owed dc_Walk_owed pm_Walk_owed an_Walk_owed cd_Walk_owed ct_Walk_owed, f_Walk_asked, PySem.W.fnOf "asked" "Walk.asked" (defArgs s_Walk_asked) (defBody s_Walk_asked) (defScope s_Walk_asked) .none kV_Walk_asked dc_Walk_asked pm_Walk_asked an_Walk_asked cd_Walk_asked ct_Walk_asked, f_Walk_taken, PySem.W.fnOf "taken" "Walk.taken" (defArgs s_Walk_taken) (defBody s_Walk_taken) (defScope s_Walk_taken) .none kV_Walk_taken dc_Walk_taken pm_Walk_taken an_Walk_taken cd_Walk_taken ct_Walk_taken, f_Walk_way, PySem.W.fnOf "way" "Walk.way" (defArgs s_Walk_way) (defBody s_Walk_way) (defScope s_Walk_way) .none kV_Walk_way dc_Walk_way pm_Walk_way an_Walk_way cd_Walk_way ct_Walk_way, f_Walk_is_over, PySem.W.fnOf "is_over" "Walk.is_over" (defArgs s_Walk_is_over) (defBody s_Walk_is_over) (defScope s_Walk_is_over) .none kV_Walk_is_over dc_Walk_is_over pm_Walk_is_over an_Walk_is_over cd_Walk_is_over ct_Walk_is_over, f_Walk_report, PySem.W.fnOf "report" "Walk.report" (defArgs s_Walk_report) (defBody s_Walk_report) (defScope s_Walk_report) .none kV_Walk_report dc_Walk_report pm_Walk_report an_Walk_report cd_Walk_report ct_Walk_report, f_Walk_steps, PySem.W.fnOf "steps" "Walk.steps" (defArgs s_Walk_steps) (defBody s_Walk_steps) (defScope s_Walk_steps) .none kV_Walk_steps dc_Walk_steps pm_Walk_steps an_Walk_steps cd_Walk_steps ct_Walk_steps, f_Walk_done, PySem.W.fnOf "done" "Walk.done" (defArgs s_Walk_done) (defBody s_Walk_done) (defScope s_Walk_done) .none kV_Walk_done dc_Walk_done pm_Walk_done an_Walk_done cd_Walk_done ct_Walk_done, f_Walk_choices, PySem.W.fnOf "choices" "Walk.choices" (defArgs s_Walk_choices) (defBody s_Walk_choices) (defScope s_Walk_choices) .none kV_Walk_choices dc_Walk_choices pm_Walk_choices an_Walk_choices cd_Walk_choices ct_Walk_choices, f_Walk_step, PySem.W.fnOf "step" "Walk.step" (defArgs s_Walk_step) (defBody s_Walk_step) (defScope s_Walk_step) .none kV_Walk_step dc_Walk_step pm_Walk_step an_Walk_step cd_Walk_step ct_Walk_step, f_is_made_of, PySem.W.fnOf "is_made_of" "is_made_of" (defArgs s_is_made_of) (defBody s_is_made_of) (defScope s_is_made_of) .none kV_is_made_of dc_is_made_of pm_is_made_of an_is_made_of cd_is_made_of ct_is_made_of, f_is_list_name, PySem.W.fnOf "is_list_name" "is_list_name" (defArgs s_is_list_name) (defBody s_is_list_name) (defScope s_is_list_name) .none kV_is_list_name dc_is_list_name pm_is_list_name an_is_list_name cd_is_list_name ct_is_list_name, f_is_row, PySem.W.fnOf "is_row" "is_row" (defArgs s_is_row) (defBody s_is_row) (defScope s_is_row) .none kV_is_row dc_is_row pm_is_row an_is_row cd_is_row ct_is_row, f_Reader_init, PySem.W.fnOf "__init__" "Reader.__init__" (defArgs s_Reader_init) (defBody s_Reader_init) (defScope s_Reader_init) .none kV_Reader_init dc_Reader_init pm_Reader_init an_Reader_init cd_Reader_init ct_Reader_init, f_Reader_opener_word, PySem.W.fnOf "opener_word" "Reader.opener_word" (defArgs s_Reader_opener_word) (defBody s_Reader_opener_word) (defScope s_Reader_opener_word) .none kV_Reader_opener_word dc_Reader_opener_word pm_Reader_opener_word an_Reader_opener_word cd_Reader_opener_word ct_Reader_opener_word, f_Reader_is_second, PySem.W.fnOf "is_second" "Reader.is_second" (defArgs s_Reader_is_second) (defBody s_Reader_is_second) (defScope s_Reader_is_second) .none kV_Reader_is_second dc_Reader_is_second pm_Reader_is_second an_Reader_is_second cd_Reader_is_second ct_Reader_is_second, f_Reader_is_rescue, PySem.W.fnOf "is_rescue" "Reader.is_rescue" (defArgs s_Reader_is_rescue) (defBody s_Reader_is_rescue) (defScope s_Reader_is_rescue) .none kV_Reader_is_rescue dc_Reader_is_rescue pm_Reader_is_rescue an_Reader_is_rescue cd_Reader_is_rescue ct_Reader_is_rescue, f_Reader_loop_place, PySem.W.fnOf "loop_place" "Reader.loop_place" (defArgs s_Reader_loop_place) (defBody s_Reader_loop_place) (defScope s_Reader_loop_place) .none kV_Reader_loop_place dc_Reader_loop_place pm_Reader_loop_place an_Reader_loop_place cd_Reader_loop_place ct_Reader_loop_place, f_Reader_may_reset, PySem.W.fnOf "may_reset" "Reader.may_reset" (defArgs s_Reader_may_reset) (defBody s_Reader_may_reset) (defScope s_Reader_may_reset) .none kV_Reader_may_reset dc_Reader_may_reset pm_Reader_may_reset an_Reader_may_reset cd_Reader_may_reset ct_Reader_may_reset, f_Reader_may_middle, PySem.W.fnOf "may_middle" "Reader.may_middle" (defArgs s_Reader_may_middle) (defBody s_Reader_may_middle) (defScope s_Reader_may_middle) .none kV_Reader_may_middle dc_Reader_may_middle pm_Reader_may_middle an_Reader_may_middle cd_Reader_may_middle ct_Reader_may_middle, f_Reader_may_open, PySem.W.fnOf "may_open" "Reader.may_open" (defArgs s_Reader_may_open) (defBody s_Reader_may_open) (defScope s_Reader_may_open) .none kV_Reader_may_open dc_Reader_may_open pm_Reader_may_open an_Reader_may_open cd_Reader_may_open ct_Reader_may_open, f_Reader_fits, PySem.W.fnOf "fits" "Reader.fits" (defArgs s_Reader_fits) (defBody s_Reader_fits) (defScope s_Reader_fits) .none kV_Reader_fits dc_Reader_fits pm_Reader_fits an_Reader_fits cd_Reader_fits ct_Reader_fits, f_Reader_take, PySem.W.fnOf "take" "Reader.take" (defArgs s_Reader_take) (defBody s_Reader_take) (defScope s_Reader_take) .none kV_Reader_take dc_Reader_take pm_Reader_take an_Reader_take cd_Reader_take ct_Reader_take, f_Function_init, PySem.W.fnOf "__init__" "Function.__init__" (defArgs s_Function_init) (defBody s_Function_init) (defScope s_Function_init) .none kV_Function_init dc_Function_init pm_Function_init an_Function_init cd_Function_init ct_Function_init, v_LETTERS, v_MOST_ROWS, v_MOST_LISTS, v_MOST_DEEP, f_source, PySem.W.fnOf "_law_source" "_law_source" (defArgs s_source) (defBody s_source) (defScope s_source) .none kV_source dc_source pm_source an_source cd_source ct_source, f_draw, PySem.W.fnOf "_law_draw" "_law_draw" (defArgs s_draw) (defBody s_draw) (defScope s_draw) .none kV_draw dc_draw pm_draw an_draw cd_draw ct_draw, f_of, PySem.W.fnOf "_law_of" "_law_of" (defArgs s_of) (defBody s_of) (defScope s_of) .none kV_of dc_of pm_of an_of cd_of ct_of, f_same, PySem.W.fnOf "_law_same" "_law_same" (defArgs s_same) (defBody s_same) (defScope s_same) .none kV_same dc_same pm_same an_same cd_same ct_same, f_fault, PySem.W.fnOf "_law_fault" "_law_fault" (defArgs s_fault) (defBody s_fault) (defScope s_fault) .none kV_fault dc_fault pm_fault an_fault cd_fault ct_fault, f_mark, PySem.W.fnOf "_law_mark" "_law_mark" (defArgs s_mark) (defBody s_mark) (defScope s_mark) .none kV_mark dc_mark pm_mark an_mark cd_mark ct_mark, f_prefix, PySem.W.fnOf "_law_prefix" "_law_prefix" (defArgs s_prefix) (defBody s_prefix) (defScope s_prefix) .none kV_prefix dc_prefix pm_prefix an_prefix cd_prefix ct_prefix, f_wrapped, PySem.W.fnOf "_law_wrapped" "_law_wrapped" (defArgs s_wrapped) (defBody s_wrapped) (defScope s_wrapped) .none kV_wrapped dc_wrapped pm_wrapped an_wrapped cd_wrapped ct_wrapped, f_due, PySem.W.fnOf "_law_due" "_law_due" (defArgs s_due) (defBody s_due) (defScope s_due) .none kV_due dc_due pm_due an_due cd_due ct_due, f_stays, PySem.W.fnOf "_law_stays" "_law_stays" (defArgs s_stays) (defBody s_stays) (defScope s_stays) .none kV_stays dc_stays pm_stays an_stays cd_stays ct_stays, f_after, PySem.W.fnOf "_law_after" "_law_after" (defArgs s_after) (defBody s_after) (defScope s_after) .none kV_after dc_after pm_after an_after cd_after ct_after, f_holds, PySem.W.fnOf "_law_holds" "_law_holds" (defArgs s_holds) (defBody s_holds) (defScope s_holds) .none kV_holds dc_holds pm_holds an_holds cd_holds ct_holds, fa, PySem.W.fnOf "law" "law" (defArgs s_law) (defBody s_law) (defScope s_law) .none kV_law dc_law pm_law an_law cd_law ct_law⟩
  have T : Txt l.prog K mg A9 := {
    wc := ⟨⟨pgcWa, hdcWa, pocWa, sacWa⟩, n_cWa_function, n_cWa_lengths, n_cWa_state, n_cWa_trail, n_cWa_fault⟩
    m_Walk := PySem.W.mg_of X G acWa
    Mk_Walk := ⟨mkcWa, a_Walk_init, i_Walk_init, kpcWa⟩
    F_Walk_init := F_Walk_init
    b_Walk_init := b_Walk_init
    rc := ⟨⟨pgcRe, hdcRe, pocRe, sacRe⟩, n_cRe_words, n_cRe_stack, n_cRe_openers, n_cRe_middles, n_cRe_ends⟩
    m_Reader := PySem.W.mg_of X G acRe
    Mk_Reader := ⟨mkcRe, a_Reader_init, i_Reader_init, kpcRe⟩
    F_Reader_init := F_Reader_init
    b_Reader_init := b_Reader_init
    fc := ⟨⟨pgcFn, hdcFn, pocFn, sacFn⟩, n_cFn_lists, n_cFn_rows, n_cFn_words, n_cFn_names, n_cFn_tries, n_cFn_openers, n_cFn_middles, n_cFn_ends⟩
    m_Function := PySem.W.mg_of X G acFn
    Mk_Function := ⟨mkcFn, a_Function_init, i_Function_init, kpcFn⟩
    F_Function_init := F_Function_init
    b_Function_init := b_Function_init
    F_Walk_done := F_Walk_done
    M_Walk_done := ⟨a_Walk_done, i_Walk_done, k_Walk_done⟩
    b_Walk_done := b_Walk_done
    F_Walk_choices := F_Walk_choices
    M_Walk_choices := ⟨a_Walk_choices, i_Walk_choices, k_Walk_choices⟩
    b_Walk_choices := b_Walk_choices
    F_Walk_step := F_Walk_step
    M_Walk_step := ⟨a_Walk_step, i_Walk_step, k_Walk_step⟩
    b_Walk_step := b_Walk_step
    F_Reader_opener_word := F_Reader_opener_word
    M_Reader_opener_word := ⟨a_Reader_opener_word, i_Reader_opener_word, k_Reader_opener_word⟩
    b_Reader_opener_word := b_Reader_opener_word
    F_Reader_is_second := F_Reader_is_second
    M_Reader_is_second := ⟨a_Reader_is_second, i_Reader_is_second, k_Reader_is_second⟩
    b_Reader_is_second := b_Reader_is_second
    F_Reader_is_rescue := F_Reader_is_rescue
    M_Reader_is_rescue := ⟨a_Reader_is_rescue, i_Reader_is_rescue, k_Reader_is_rescue⟩
    b_Reader_is_rescue := b_Reader_is_rescue
    F_Reader_loop_place := F_Reader_loop_place
    M_Reader_loop_place := ⟨a_Reader_loop_place, i_Reader_loop_place, k_Reader_loop_place⟩
    b_Reader_loop_place := b_Reader_loop_place
    F_Reader_may_reset := F_Reader_may_reset
    M_Reader_may_reset := ⟨a_Reader_may_reset, i_Reader_may_reset, k_Reader_may_reset⟩
    b_Reader_may_reset := b_Reader_may_reset
    F_Reader_may_middle := F_Reader_may_middle
    M_Reader_may_middle := ⟨a_Reader_may_middle, i_Reader_may_middle, k_Reader_may_middle⟩
    b_Reader_may_middle := b_Reader_may_middle
    F_Reader_may_open := F_Reader_may_open
    M_Reader_may_open := ⟨a_Reader_may_open, i_Reader_may_open, k_Reader_may_open⟩
    b_Reader_may_open := b_Reader_may_open
    F_Reader_fits := F_Reader_fits
    M_Reader_fits := ⟨a_Reader_fits, i_Reader_fits, k_Reader_fits⟩
    b_Reader_fits := b_Reader_fits
    F_Reader_take := F_Reader_take
    M_Reader_take := ⟨a_Reader_take, i_Reader_take, k_Reader_take⟩
    b_Reader_take := b_Reader_take
    P_spot := ⟨pa_spot, pg_spot, pt_spot, _, pr_spot⟩
    F_Walk_spot := F_Walk_spot
    b_Walk_spot := b_Walk_spot
    P_mark := ⟨pa_mark, pg_mark, pt_mark, _, pr_mark⟩
    F_Walk_mark := F_Walk_mark
    b_Walk_mark := b_Walk_mark
    P_owed := ⟨pa_owed, pg_owed, pt_owed, _, pr_owed⟩
    F_Walk_owed := F_Walk_owed
    b_Walk_owed := b_Walk_owed
    P_asked := ⟨pa_asked, pg_asked, pt_asked, _, pr_asked⟩
    F_Walk_asked := F_Walk_asked
    b_Walk_asked := b_Walk_asked
    P_taken := ⟨pa_taken, pg_taken, pt_taken, _, pr_taken⟩
    F_Walk_taken := F_Walk_taken
    b_Walk_taken := b_Walk_taken
    P_way := ⟨pa_way, pg_way, pt_way, _, pr_way⟩
    F_Walk_way := F_Walk_way
    b_Walk_way := b_Walk_way
    P_over := ⟨pa_over, pg_over, pt_over, _, pr_over⟩
    F_Walk_is_over := F_Walk_is_over
    b_Walk_is_over := b_Walk_is_over
    P_report := ⟨pa_report, pg_report, pt_report, _, pr_report⟩
    F_Walk_report := F_Walk_report
    b_Walk_report := b_Walk_report
    P_steps := ⟨pa_steps, pg_steps, pt_steps, _, pr_steps⟩
    F_Walk_steps := F_Walk_steps
    b_Walk_steps := b_Walk_steps
    F_is_step := F_is_step
    m_is_step := PySem.W.mg_of X G a_is_step
    b_is_step := b_is_step
    F_is_inside := F_is_inside
    m_is_inside := PySem.W.mg_of X G a_is_inside
    b_is_inside := b_is_inside
    F_is_guarded := F_is_guarded
    m_is_guarded := PySem.W.mg_of X G a_is_guarded
    b_is_guarded := b_is_guarded
    F_is_shielded := F_is_shielded
    m_is_shielded := PySem.W.mg_of X G a_is_shielded
    b_is_shielded := b_is_shielded
    F_loop_of := F_loop_of
    m_loop_of := PySem.W.mg_of X G a_loop_of
    b_loop_of := b_loop_of
    F_retries_of := F_retries_of
    m_retries_of := PySem.W.mg_of X G a_retries_of
    b_retries_of := b_retries_of
    F_numbers_of := F_numbers_of
    m_numbers_of := PySem.W.mg_of X G a_numbers_of
    b_numbers_of := b_numbers_of
    F_leave := F_leave
    m_leave := PySem.W.mg_of X G a_leave
    b_leave := b_leave
    F_passed := F_passed
    m_passed := PySem.W.mg_of X G a_passed
    b_passed := b_passed
    F_settled := F_settled
    m_settled := PySem.W.mg_of X G a_settled
    b_settled := b_settled
    F_first_spot := F_first_spot
    m_first_spot := PySem.W.mg_of X G a_first_spot
    b_first_spot := b_first_spot
    F_target := F_target
    m_target := PySem.W.mg_of X G a_target
    b_target := b_target
    F_next_spot := F_next_spot
    m_next_spot := PySem.W.mg_of X G a_next_spot
    b_next_spot := b_next_spot
    F_moves_of := F_moves_of
    m_moves_of := PySem.W.mg_of X G a_moves_of
    b_moves_of := b_moves_of
    F_live_loops := F_live_loops
    m_live_loops := PySem.W.mg_of X G a_live_loops
    b_live_loops := b_live_loops
    F_way_of := F_way_of
    m_way_of := PySem.W.mg_of X G a_way_of
    b_way_of := b_way_of
    F_reason_of := F_reason_of
    m_reason_of := PySem.W.mg_of X G a_reason_of
    b_reason_of := b_reason_of
    F_is_out := F_is_out
    m_is_out := PySem.W.mg_of X G a_is_out
    b_is_out := b_is_out
    F_is_in := F_is_in
    m_is_in := PySem.W.mg_of X G a_is_in
    b_is_in := b_is_in
    F_mark_of := F_mark_of
    m_mark_of := PySem.W.mg_of X G a_mark_of
    b_mark_of := b_mark_of
    F_is_amid := F_is_amid
    m_is_amid := PySem.W.mg_of X G a_is_amid
    b_is_amid := b_is_amid
    F_row_fault := F_row_fault
    m_row_fault := PySem.W.mg_of X G a_row_fault
    b_row_fault := b_row_fault
    F_mark_after := F_mark_after
    m_mark_after := PySem.W.mg_of X G a_mark_after
    b_mark_after := b_mark_after
    F_owed_change := F_owed_change
    m_owed_change := PySem.W.mg_of X G a_owed_change
    b_owed_change := b_owed_change
    F_resets := F_resets
    m_resets := PySem.W.mg_of X G a_resets
    b_resets := b_resets
    F_first_state := F_first_state
    m_first_state := PySem.W.mg_of X G a_first_state
    b_first_state := b_first_state
    F_possible := F_possible
    m_possible := PySem.W.mg_of X G a_possible
    b_possible := b_possible
    F_fault_of := F_fault_of
    m_fault_of := PySem.W.mg_of X G a_fault_of
    b_fault_of := b_fault_of
    F_rounds_after := F_rounds_after
    m_rounds_after := PySem.W.mg_of X G a_rounds_after
    b_rounds_after := b_rounds_after
    F_state_after := F_state_after
    m_state_after := PySem.W.mg_of X G a_state_after
    b_state_after := b_state_after
    F_is_made_of := F_is_made_of
    m_is_made_of := PySem.W.mg_of X G a_is_made_of
    b_is_made_of := b_is_made_of
    F_is_list_name := F_is_list_name
    m_is_list_name := PySem.W.mg_of X G a_is_list_name
    b_is_list_name := b_is_list_name
    F_is_row := F_is_row
    m_is_row := PySem.W.mg_of X G a_is_row
    b_is_row := b_is_row
    m_LW := PySem.W.mg_of X G mLW
    q_LW := fun H => .inr ⟨_, itLW, nLW, lLW, rfl, rfl, zLW, vLW⟩
    m_WA := PySem.W.mg_of X G mWA
    q_WA := fun H => .inr ⟨_, itWA, nWA, lWA, rfl, rfl, zWA, vWA⟩
    m_PA := PySem.W.mg_of X G mPA
    q_PA := fun H => .inr ⟨_, itPA, nPA, lPA, rfl, rfl, zPA, vPA⟩
    m_PL := PySem.W.mg_of X G mPL
    q_PL := fun H => .inr ⟨_, itPL, nPL, lPL, rfl, rfl, zPL, vPL⟩
    m_OP := PySem.W.mg_of X G mOP
    q_OP := fun H => .inr ⟨_, itOP, nOP, lOP, rfl, rfl, zOP, vOP⟩
    m_MI := PySem.W.mg_of X G mMI
    q_MI := fun H => .inr ⟨_, itMI, nMI, lMI, rfl, rfl, zMI, vMI⟩
    m_LETTERS := PySem.W.mg_of X G m_LETTERS
    r_LETTERS := r_LETTERS
    m_MOST_ROWS := PySem.W.mg_of X G m_MOST_ROWS
    r_MOST_ROWS := r_MOST_ROWS
    m_MOST_LISTS := PySem.W.mg_of X G m_MOST_LISTS
    r_MOST_LISTS := r_MOST_LISTS
    m_MOST_DEEP := PySem.W.mg_of X G m_MOST_DEEP
    r_MOST_DEEP := r_MOST_DEEP
    F_source := F_source
    m_source := PySem.W.mg_of X G a_source
    b_source := b_source
    F_draw := F_draw
    m_draw := PySem.W.mg_of X G a_draw
    b_draw := b_draw
    F_of := F_of
    m_of := PySem.W.mg_of X G a_of
    b_of := b_of
    F_same := F_same
    m_same := PySem.W.mg_of X G a_same
    b_same := b_same
    F_fault := F_fault
    m_fault := PySem.W.mg_of X G a_fault
    b_fault := b_fault
    F_mark := F_mark
    m_mark := PySem.W.mg_of X G a_mark
    b_mark := b_mark
    F_prefix := F_prefix
    m_prefix := PySem.W.mg_of X G a_prefix
    b_prefix := b_prefix
    F_wrapped := F_wrapped
    m_wrapped := PySem.W.mg_of X G a_wrapped
    b_wrapped := b_wrapped
    F_due := F_due
    m_due := PySem.W.mg_of X G a_due
    b_due := b_due
    F_stays := F_stays
    m_stays := PySem.W.mg_of X G a_stays
    b_stays := b_stays
    F_after := F_after
    m_after := PySem.W.mg_of X G a_after
    b_after := b_after
    F_holds := F_holds
    m_holds := PySem.W.mg_of X G a_holds
    b_holds := b_holds
    F_law := F_law
    m_law := PySem.W.mg_of X G a_law
    b_law := b_law
    z_len := PySem.W.mg_none_of X G z_len
    z_abs := PySem.W.mg_none_of X G z_abs
    z_int := PySem.W.mg_none_of X G z_int
    z_range := PySem.W.mg_none_of X G z_range
    z_min := PySem.W.mg_none_of X G z_min
    z_max := PySem.W.mg_none_of X G z_max
    z_isinstance := PySem.W.mg_none_of X G z_isinstance
    z_zip := PySem.W.mg_none_of X G z_zip
    z_all := PySem.W.mg_none_of X G z_all
    z_any := PySem.W.mg_none_of X G z_any
    z_tuple := PySem.W.mg_none_of X G z_tuple
    z_list := PySem.W.mg_none_of X G z_list
    z_bool := PySem.W.mg_none_of X G z_bool
    z_str := PySem.W.mg_none_of X G z_str
    z_dict := PySem.W.mg_none_of X G z_dict
    z_sorted := PySem.W.mg_none_of X G z_sorted
    z_enumerate := PySem.W.mg_none_of X G z_enumerate
  }
  exact ⟨PySem.W.fnOf "law" "law" (defArgs s_law) (defBody s_law) (defScope s_law) .none kV_law dc_law pm_law an_law cd_law ct_law, fun s v => .of_eq rfl, fun base _ _ => ok_law T newf⟩
theorem walk {l : PySem.W.OpenLaw} {q : Program} {loose : List Str} {XP : (Str → Option Value) → Heap → Prop} {YP : World → Heap → Prop} {d : DefRec} {K : Params → PySem.W.Frag} (hn : l.most = some 63) (hdf : d.params.defaults = [])
    (hY : ∀ (w : World) (h : Heap), YP w h → (K w.params).In h)
    (F : ∀ (w : World) (mg : Str → Option Value) (fa : Addr) (h : Heap), (K w.params).In h → h.Ns mainGlobals mg → mg d.name = some (.ref fa) →
      ∃ fd : FuncData, (∀ (s : Shared) (u : Value), BindsTo s fd ⟨[u], []⟩ [("_law_script", u)]) ∧ ∀ base : Heap, (K w.params).In base → base.Ns mainGlobals mg → FnOk l.prog w (K w.params) mg base CX0 10 fa fd ["_law_script"] (spLaw (K w.params))) :
    PySem.W.WalkO q loose XP YP l.row.toRowW d [] (fun f vs => PySem.call f vs) :=
  L2.walk_of (n := 63) (k := 10) (x := "_law_script") (CX := fun _ => CX0) (sp := fun w => spLaw (K w.params)) hn (by decide) hdf ⟨rfl, by decide, by decide⟩ hY F (fun _ _ a ns hl _ hS => ⟨a, ns, rfl, hS, hl, fun _ => rfl⟩) fun _ _ _ _ _ z => z
end K45
end
set_option Elab.async false
set_option autoImplicit false
set_option linter.all false
set_option maxRecDepth 100000
open PySem PySem.W PyProof.Rows PySem.OxE
set_option maxRecDepth 100000 in
set_option maxHeartbeats 0 in
theorem PySem.Challenge.cw_owedanswers_k45_faults_end_a_walk_holds : PySem.Challenge.rw_owedanswers_k45_faults_end_a_walk.Holds := by
  w_on; o_law; k_head; (case hw => w_witness2)
  k_fill
  refine K45.walk (l := PySem.Challenge.rw_owedanswers_k45_faults_end_a_walk) rfl rfl (fun w h Y => PySem.W.kIn_of Y) ?F
  case F =>
    intro w mg fa h KX G hmg
    refine' K45.all_mk KX G hmg ?acWa ?pgcWa ?hdcWa ?pocWa ?sacWa ?mkcWa ?kpcWa ?n_cWa_function ?n_cWa_lengths ?n_cWa_state ?n_cWa_trail ?n_cWa_fault ?a_Walk_init ?i_Walk_init ?l_Walk_init ?c_Walk_init ?k_Walk_init ?acRe ?pgcRe ?hdcRe ?pocRe ?sacRe ?mkcRe ?kpcRe ?n_cRe_words ?n_cRe_stack ?n_cRe_openers ?n_cRe_middles ?n_cRe_ends ?a_Reader_init ?i_Reader_init ?l_Reader_init ?c_Reader_init ?k_Reader_init ?acFn ?pgcFn ?hdcFn ?pocFn ?sacFn ?mkcFn ?kpcFn ?n_cFn_lists ?n_cFn_rows ?n_cFn_words ?n_cFn_names ?n_cFn_tries ?n_cFn_openers ?n_cFn_middles ?n_cFn_ends ?a_Function_init ?i_Function_init ?l_Function_init ?c_Function_init ?k_Function_init ?newf ?a_Walk_done ?i_Walk_done ?l_Walk_done ?c_Walk_done ?k_Walk_done ?a_Walk_choices ?i_Walk_choices ?l_Walk_choices ?c_Walk_choices ?k_Walk_choices ?a_Walk_step ?i_Walk_step ?l_Walk_step ?c_Walk_step ?k_Walk_step ?a_Reader_opener_word ?i_Reader_opener_word ?l_Reader_opener_word ?c_Reader_opener_word ?k_Reader_opener_word ?a_Reader_is_second ?i_Reader_is_second ?l_Reader_is_second ?c_Reader_is_second ?k_Reader_is_second ?a_Reader_is_rescue ?i_Reader_is_rescue ?l_Reader_is_rescue ?c_Reader_is_rescue ?k_Reader_is_rescue ?a_Reader_loop_place ?i_Reader_loop_place ?l_Reader_loop_place ?c_Reader_loop_place ?k_Reader_loop_place ?a_Reader_may_reset ?i_Reader_may_reset ?l_Reader_may_reset ?c_Reader_may_reset ?k_Reader_may_reset ?a_Reader_may_middle ?i_Reader_may_middle ?l_Reader_may_middle ?c_Reader_may_middle ?k_Reader_may_middle ?a_Reader_may_open ?i_Reader_may_open ?l_Reader_may_open ?c_Reader_may_open ?k_Reader_may_open ?a_Reader_fits ?i_Reader_fits ?l_Reader_fits ?c_Reader_fits ?k_Reader_fits ?a_Reader_take ?i_Reader_take ?l_Reader_take ?c_Reader_take ?k_Reader_take ?pa_spot ?pg_spot ?pt_spot ?pr_spot ?l_Walk_spot ?c_Walk_spot ?k_Walk_spot ?pa_mark ?pg_mark ?pt_mark ?pr_mark ?l_Walk_mark ?c_Walk_mark ?k_Walk_mark ?pa_owed ?pg_owed ?pt_owed ?pr_owed ?l_Walk_owed ?c_Walk_owed ?k_Walk_owed ?pa_asked ?pg_asked ?pt_asked ?pr_asked ?l_Walk_asked ?c_Walk_asked ?k_Walk_asked ?pa_taken ?pg_taken ?pt_taken ?pr_taken ?l_Walk_taken ?c_Walk_taken ?k_Walk_taken ?pa_way ?pg_way ?pt_way ?pr_way ?l_Walk_way ?c_Walk_way ?k_Walk_way ?pa_over ?pg_over ?pt_over ?pr_over ?l_Walk_is_over ?c_Walk_is_over ?k_Walk_is_over ?pa_report ?pg_report ?pt_report ?pr_report ?l_Walk_report ?c_Walk_report ?k_Walk_report ?pa_steps ?pg_steps ?pt_steps ?pr_steps ?l_Walk_steps ?c_Walk_steps ?k_Walk_steps ?a_is_step ?l_is_step ?c_is_step ?k_is_step ?a_is_inside ?l_is_inside ?c_is_inside ?k_is_inside ?a_is_guarded ?l_is_guarded ?c_is_guarded ?k_is_guarded ?a_is_shielded ?l_is_shielded ?c_is_shielded ?k_is_shielded ?a_loop_of ?l_loop_of ?c_loop_of ?k_loop_of ?a_retries_of ?l_retries_of ?c_retries_of ?k_retries_of ?a_numbers_of ?l_numbers_of ?c_numbers_of ?k_numbers_of ?a_leave ?l_leave ?c_leave ?k_leave ?a_passed ?l_passed ?c_passed ?k_passed ?a_settled ?l_settled ?c_settled ?k_settled ?a_first_spot ?l_first_spot ?c_first_spot ?k_first_spot ?a_target ?l_target ?c_target ?k_target ?a_next_spot ?l_next_spot ?c_next_spot ?k_next_spot ?a_moves_of ?l_moves_of ?c_moves_of ?k_moves_of ?a_live_loops ?l_live_loops ?c_live_loops ?k_live_loops ?a_way_of ?l_way_of ?c_way_of ?k_way_of ?a_reason_of ?l_reason_of ?c_reason_of ?k_reason_of ?a_is_out ?l_is_out ?c_is_out ?k_is_out ?a_is_in ?l_is_in ?c_is_in ?k_is_in ?a_mark_of ?l_mark_of ?c_mark_of ?k_mark_of ?a_is_amid ?l_is_amid ?c_is_amid ?k_is_amid ?a_row_fault ?l_row_fault ?c_row_fault ?k_row_fault ?a_mark_after ?l_mark_after ?c_mark_after ?k_mark_after ?a_owed_change ?l_owed_change ?c_owed_change ?k_owed_change ?a_resets ?l_resets ?c_resets ?k_resets ?a_first_state ?l_first_state ?c_first_state ?k_first_state ?a_possible ?l_possible ?c_possible ?k_possible ?a_fault_of ?l_fault_of ?c_fault_of ?k_fault_of ?a_rounds_after ?l_rounds_after ?c_rounds_after ?k_rounds_after ?a_state_after ?l_state_after ?c_state_after ?k_state_after ?a_is_made_of ?l_is_made_of ?c_is_made_of ?k_is_made_of ?a_is_list_name ?l_is_list_name ?c_is_list_name ?k_is_list_name ?a_is_row ?l_is_row ?c_is_row ?k_is_row ?mLW ?lLW ?zLW ?vLW ?mWA ?lWA ?zWA ?vWA ?mPA ?lPA ?zPA ?vPA ?mPL ?lPL ?zPL ?vPL ?mOP ?lOP ?zOP ?vOP ?mMI ?lMI ?zMI ?vMI ?m_LETTERS ?r_LETTERS ?m_MOST_ROWS ?r_MOST_ROWS ?m_MOST_LISTS ?r_MOST_LISTS ?m_MOST_DEEP ?r_MOST_DEEP ?a_source ?l_source ?c_source ?k_source ?a_draw ?l_draw ?c_draw ?k_draw ?a_of ?l_of ?c_of ?k_of ?a_same ?l_same ?c_same ?k_same ?a_fault ?l_fault ?c_fault ?k_fault ?a_mark ?l_mark ?c_mark ?k_mark ?a_prefix ?l_prefix ?c_prefix ?k_prefix ?a_wrapped ?l_wrapped ?c_wrapped ?k_wrapped ?a_due ?l_due ?c_due ?k_due ?a_stays ?l_stays ?c_stays ?k_stays ?a_after ?l_after ?c_after ?k_after ?a_holds ?l_holds ?c_holds ?k_holds ?a_law ?l_law ?c_law ?k_law ?z_len ?z_abs ?z_int ?z_range ?z_min ?z_max ?z_isinstance ?z_zip ?z_all ?z_any ?z_tuple ?z_list ?z_bool ?z_str ?z_dict ?z_sorted ?z_enumerate
    (case acWa => k_is)
    (case pgcWa => k_is)
    (case hdcWa => k_is)
    (case pocWa => k_is)
    (case sacWa => k_is)
    (case mkcWa => k_is)
    (case kpcWa => k_is)
    (case n_cWa_function => k_is)
    (case n_cWa_lengths => k_is)
    (case n_cWa_state => k_is)
    (case n_cWa_trail => k_is)
    (case n_cWa_fault => k_is)
    (case a_Walk_init => k_is)
    (case i_Walk_init => k_is)
    (case l_Walk_init => k_is)
    (case c_Walk_init => k_is)
    (case k_Walk_init => k_is)
    (case acRe => k_is)
    (case pgcRe => k_is)
    (case hdcRe => k_is)
    (case pocRe => k_is)
    (case sacRe => k_is)
    (case mkcRe => k_is)
    (case kpcRe => k_is)
    (case n_cRe_words => k_is)
    (case n_cRe_stack => k_is)
    (case n_cRe_openers => k_is)
    (case n_cRe_middles => k_is)
    (case n_cRe_ends => k_is)
    (case a_Reader_init => k_is)
    (case i_Reader_init => k_is)
    (case l_Reader_init => k_is)
    (case c_Reader_init => k_is)
    (case k_Reader_init => k_is)
    (case acFn => k_is)
    (case pgcFn => k_is)
    (case hdcFn => k_is)
    (case pocFn => k_is)
    (case sacFn => k_is)
    (case mkcFn => k_is)
    (case kpcFn => k_is)
    (case n_cFn_lists => k_is)
    (case n_cFn_rows => k_is)
    (case n_cFn_words => k_is)
    (case n_cFn_names => k_is)
    (case n_cFn_tries => k_is)
    (case n_cFn_openers => k_is)
    (case n_cFn_middles => k_is)
    (case n_cFn_ends => k_is)
    (case a_Function_init => k_is)
    (case i_Function_init => k_is)
    (case l_Function_init => k_is)
    (case c_Function_init => k_is)
    (case k_Function_init => k_is)
    (case newf => decide)
    (case a_Walk_done => k_is)
    (case i_Walk_done => k_is)
    (case l_Walk_done => k_is)
    (case c_Walk_done => k_is)
    (case k_Walk_done => k_is)
    (case a_Walk_choices => k_is)
    (case i_Walk_choices => k_is)
    (case l_Walk_choices => k_is)
    (case c_Walk_choices => k_is)
    (case k_Walk_choices => k_is)
    (case a_Walk_step => k_is)
    (case i_Walk_step => k_is)
    (case l_Walk_step => k_is)
    (case c_Walk_step => k_is)
    (case k_Walk_step => k_is)
    (case a_Reader_opener_word => k_is)
    (case i_Reader_opener_word => k_is)
    (case l_Reader_opener_word => k_is)
    (case c_Reader_opener_word => k_is)
    (case k_Reader_opener_word => k_is)
    (case a_Reader_is_second => k_is)
    (case i_Reader_is_second => k_is)
    (case l_Reader_is_second => k_is)
    (case c_Reader_is_second => k_is)
    (case k_Reader_is_second => k_is)
    (case a_Reader_is_rescue => k_is)
    (case i_Reader_is_rescue => k_is)
    (case l_Reader_is_rescue => k_is)
    (case c_Reader_is_rescue => k_is)
    (case k_Reader_is_rescue => k_is)
    (case a_Reader_loop_place => k_is)
    (case i_Reader_loop_place => k_is)
    (case l_Reader_loop_place => k_is)
    (case c_Reader_loop_place => k_is)
    (case k_Reader_loop_place => k_is)
    (case a_Reader_may_reset => k_is)
    (case i_Reader_may_reset => k_is)
    (case l_Reader_may_reset => k_is)
    (case c_Reader_may_reset => k_is)
    (case k_Reader_may_reset => k_is)
    (case a_Reader_may_middle => k_is)
    (case i_Reader_may_middle => k_is)
    (case l_Reader_may_middle => k_is)
    (case c_Reader_may_middle => k_is)
    (case k_Reader_may_middle => k_is)
    (case a_Reader_may_open => k_is)
    (case i_Reader_may_open => k_is)
    (case l_Reader_may_open => k_is)
    (case c_Reader_may_open => k_is)
    (case k_Reader_may_open => k_is)
    (case a_Reader_fits => k_is)
    (case i_Reader_fits => k_is)
    (case l_Reader_fits => k_is)
    (case c_Reader_fits => k_is)
    (case k_Reader_fits => k_is)
    (case a_Reader_take => k_is)
    (case i_Reader_take => k_is)
    (case l_Reader_take => k_is)
    (case c_Reader_take => k_is)
    (case k_Reader_take => k_is)
    (case pa_spot => k_is)
    (case pg_spot => k_is)
    (case pt_spot => k_is)
    (case pr_spot => k_is)
    (case l_Walk_spot => k_is)
    (case c_Walk_spot => k_is)
    (case k_Walk_spot => k_is)
    (case pa_mark => k_is)
    (case pg_mark => k_is)
    (case pt_mark => k_is)
    (case pr_mark => k_is)
    (case l_Walk_mark => k_is)
    (case c_Walk_mark => k_is)
    (case k_Walk_mark => k_is)
    (case pa_owed => k_is)
    (case pg_owed => k_is)
    (case pt_owed => k_is)
    (case pr_owed => k_is)
    (case l_Walk_owed => k_is)
    (case c_Walk_owed => k_is)
    (case k_Walk_owed => k_is)
    (case pa_asked => k_is)
    (case pg_asked => k_is)
    (case pt_asked => k_is)
    (case pr_asked => k_is)
    (case l_Walk_asked => k_is)
    (case c_Walk_asked => k_is)
    (case k_Walk_asked => k_is)
    (case pa_taken => k_is)
    (case pg_taken => k_is)
    (case pt_taken => k_is)
    (case pr_taken => k_is)
    (case l_Walk_taken => k_is)
    (case c_Walk_taken => k_is)
    (case k_Walk_taken => k_is)
    (case pa_way => k_is)
    (case pg_way => k_is)
    (case pt_way => k_is)
    (case pr_way => k_is)
    (case l_Walk_way => k_is)
    (case c_Walk_way => k_is)
    (case k_Walk_way => k_is)
    (case pa_over => k_is)
    (case pg_over => k_is)
    (case pt_over => k_is)
    (case pr_over => k_is)
    (case l_Walk_is_over => k_is)
    (case c_Walk_is_over => k_is)
    (case k_Walk_is_over => k_is)
    (case pa_report => k_is)
    (case pg_report => k_is)
    (case pt_report => k_is)
    (case pr_report => k_is)
    (case l_Walk_report => k_is)
    (case c_Walk_report => k_is)
    (case k_Walk_report => k_is)
    (case pa_steps => k_is)
    (case pg_steps => k_is)
    (case pt_steps => k_is)
    (case pr_steps => k_is)
    (case l_Walk_steps => k_is)
    (case c_Walk_steps => k_is)
    (case k_Walk_steps => k_is)
    (case a_is_step => k_is)
    (case l_is_step => k_is)
    (case c_is_step => k_is)
    (case k_is_step => k_is)
    (case a_is_inside => k_is)
    (case l_is_inside => k_is)
    (case c_is_inside => k_is)
    (case k_is_inside => k_is)
    (case a_is_guarded => k_is)
    (case l_is_guarded => k_is)
    (case c_is_guarded => k_is)
    (case k_is_guarded => k_is)
    (case a_is_shielded => k_is)
    (case l_is_shielded => k_is)
    (case c_is_shielded => k_is)
    (case k_is_shielded => k_is)
    (case a_loop_of => k_is)
    (case l_loop_of => k_is)
    (case c_loop_of => k_is)
    (case k_loop_of => k_is)
    (case a_retries_of => k_is)
    (case l_retries_of => k_is)
    (case c_retries_of => k_is)
    (case k_retries_of => k_is)
    (case a_numbers_of => k_is)
    (case l_numbers_of => k_is)
    (case c_numbers_of => k_is)
    (case k_numbers_of => k_is)
    (case a_leave => k_is)
    (case l_leave => k_is)
    (case c_leave => k_is)
    (case k_leave => k_is)
    (case a_passed => k_is)
    (case l_passed => k_is)
    (case c_passed => k_is)
    (case k_passed => k_is)
    (case a_settled => k_is)
    (case l_settled => k_is)
    (case c_settled => k_is)
    (case k_settled => k_is)
    (case a_first_spot => k_is)
    (case l_first_spot => k_is)
    (case c_first_spot => k_is)
    (case k_first_spot => k_is)
    (case a_target => k_is)
    (case l_target => k_is)
    (case c_target => k_is)
    (case k_target => k_is)
    (case a_next_spot => k_is)
    (case l_next_spot => k_is)
    (case c_next_spot => k_is)
    (case k_next_spot => k_is)
    (case a_moves_of => k_is)
    (case l_moves_of => k_is)
    (case c_moves_of => k_is)
    (case k_moves_of => k_is)
    (case a_live_loops => k_is)
    (case l_live_loops => k_is)
    (case c_live_loops => k_is)
    (case k_live_loops => k_is)
    (case a_way_of => k_is)
    (case l_way_of => k_is)
    (case c_way_of => k_is)
    (case k_way_of => k_is)
    (case a_reason_of => k_is)
    (case l_reason_of => k_is)
    (case c_reason_of => k_is)
    (case k_reason_of => k_is)
    (case a_is_out => k_is)
    (case l_is_out => k_is)
    (case c_is_out => k_is)
    (case k_is_out => k_is)
    (case a_is_in => k_is)
    (case l_is_in => k_is)
    (case c_is_in => k_is)
    (case k_is_in => k_is)
    (case a_mark_of => k_is)
    (case l_mark_of => k_is)
    (case c_mark_of => k_is)
    (case k_mark_of => k_is)
    (case a_is_amid => k_is)
    (case l_is_amid => k_is)
    (case c_is_amid => k_is)
    (case k_is_amid => k_is)
    (case a_row_fault => k_is)
    (case l_row_fault => k_is)
    (case c_row_fault => k_is)
    (case k_row_fault => k_is)
    (case a_mark_after => k_is)
    (case l_mark_after => k_is)
    (case c_mark_after => k_is)
    (case k_mark_after => k_is)
    (case a_owed_change => k_is)
    (case l_owed_change => k_is)
    (case c_owed_change => k_is)
    (case k_owed_change => k_is)
    (case a_resets => k_is)
    (case l_resets => k_is)
    (case c_resets => k_is)
    (case k_resets => k_is)
    (case a_first_state => k_is)
    (case l_first_state => k_is)
    (case c_first_state => k_is)
    (case k_first_state => k_is)
    (case a_possible => k_is)
    (case l_possible => k_is)
    (case c_possible => k_is)
    (case k_possible => k_is)
    (case a_fault_of => k_is)
    (case l_fault_of => k_is)
    (case c_fault_of => k_is)
    (case k_fault_of => k_is)
    (case a_rounds_after => k_is)
    (case l_rounds_after => k_is)
    (case c_rounds_after => k_is)
    (case k_rounds_after => k_is)
    (case a_state_after => k_is)
    (case l_state_after => k_is)
    (case c_state_after => k_is)
    (case k_state_after => k_is)
    (case a_is_made_of => k_is)
    (case l_is_made_of => k_is)
    (case c_is_made_of => k_is)
    (case k_is_made_of => k_is)
    (case a_is_list_name => k_is)
    (case l_is_list_name => k_is)
    (case c_is_list_name => k_is)
    (case k_is_list_name => k_is)
    (case a_is_row => k_is)
    (case l_is_row => k_is)
    (case c_is_row => k_is)
    (case k_is_row => k_is)
    (case mLW => k_is)
    (case lLW => k_is)
    (case zLW => decide)
    (case vLW => exact .cons ⟨_, rfl⟩ (.cons ⟨_, rfl⟩ (.cons ⟨_, rfl⟩ (.cons ⟨_, rfl⟩ (.cons ⟨_, rfl⟩ (.cons ⟨_, rfl⟩ (.nil)))))))
    (case mWA => k_is)
    (case lWA => k_is)
    (case zWA => decide)
    (case vWA => exact .cons ⟨_, rfl⟩ (.cons ⟨_, rfl⟩ (.cons ⟨_, rfl⟩ (.cons ⟨_, rfl⟩ (.cons ⟨_, rfl⟩ (.nil))))))
    (case mPA => k_is)
    (case lPA => k_is)
    (case zPA => decide)
    (case vPA => exact .cons ⟨_, rfl⟩ (.cons ⟨_, rfl⟩ (.cons ⟨_, rfl⟩ (.cons ⟨_, rfl⟩ (.cons ⟨_, rfl⟩ (.nil))))))
    (case mPL => k_is)
    (case lPL => k_is)
    (case zPL => decide)
    (case vPL => exact .cons ⟨_, rfl⟩ (.cons ⟨_, rfl⟩ (.cons ⟨_, rfl⟩ (.cons ⟨_, rfl⟩ (.cons ⟨_, rfl⟩ (.cons ⟨_, rfl⟩ (.cons ⟨_, rfl⟩ (.cons ⟨_, rfl⟩ (.cons ⟨_, rfl⟩ (.cons ⟨_, rfl⟩ (.cons ⟨_, rfl⟩ (.nil))))))))))))
    (case mOP => k_is)
    (case lOP => k_is)
    (case zOP => decide)
    (case vOP => exact .cons ⟨_, rfl⟩ (.cons ⟨_, rfl⟩ (.cons ⟨_, rfl⟩ (.cons ⟨_, rfl⟩ (.cons ⟨_, rfl⟩ (.nil))))))
    (case mMI => k_is)
    (case lMI => k_is)
    (case zMI => decide)
    (case vMI => exact .cons ⟨_, rfl⟩ (.cons ⟨_, rfl⟩ (.cons ⟨_, rfl⟩ (.nil))))
    (case m_LETTERS => k_is)
    (case r_LETTERS => exact ⟨_, rfl⟩)
    (case m_MOST_ROWS => k_is)
    (case r_MOST_ROWS => exact ⟨_, rfl⟩)
    (case m_MOST_LISTS => k_is)
    (case r_MOST_LISTS => exact ⟨_, rfl⟩)
    (case m_MOST_DEEP => k_is)
    (case r_MOST_DEEP => exact ⟨_, rfl⟩)
    (case a_source => k_is)
    (case l_source => k_is)
    (case c_source => k_is)
    (case k_source => k_is)
    (case a_draw => k_is)
    (case l_draw => k_is)
    (case c_draw => k_is)
    (case k_draw => k_is)
    (case a_of => k_is)
    (case l_of => k_is)
    (case c_of => k_is)
    (case k_of => k_is)
    (case a_same => k_is)
    (case l_same => k_is)
    (case c_same => k_is)
    (case k_same => k_is)
    (case a_fault => k_is)
    (case l_fault => k_is)
    (case c_fault => k_is)
    (case k_fault => k_is)
    (case a_mark => k_is)
    (case l_mark => k_is)
    (case c_mark => k_is)
    (case k_mark => k_is)
    (case a_prefix => k_is)
    (case l_prefix => k_is)
    (case c_prefix => k_is)
    (case k_prefix => k_is)
    (case a_wrapped => k_is)
    (case l_wrapped => k_is)
    (case c_wrapped => k_is)
    (case k_wrapped => k_is)
    (case a_due => k_is)
    (case l_due => k_is)
    (case c_due => k_is)
    (case k_due => k_is)
    (case a_stays => k_is)
    (case l_stays => k_is)
    (case c_stays => k_is)
    (case k_stays => k_is)
    (case a_after => k_is)
    (case l_after => k_is)
    (case c_after => k_is)
    (case k_after => k_is)
    (case a_holds => k_is)
    (case l_holds => k_is)
    (case c_holds => k_is)
    (case k_holds => k_is)
    (case a_law => k_is)
    (case l_law => k_is)
    (case c_law => k_is)
    (case k_law => k_is)
    (case z_len => k_is)
    (case z_abs => k_is)
    (case z_int => k_is)
    (case z_range => k_is)
    (case z_min => k_is)
    (case z_max => k_is)
    (case z_isinstance => k_is)
    (case z_zip => k_is)
    (case z_all => k_is)
    (case z_any => k_is)
    (case z_tuple => k_is)
    (case z_list => k_is)
    (case z_bool => k_is)
    (case z_str => k_is)
    (case z_dict => k_is)
    (case z_sorted => k_is)
    (case z_enumerate => k_is)

