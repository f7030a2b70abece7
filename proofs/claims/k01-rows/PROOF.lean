import PyProof.Rows.All
import Wide.All
import OpenK.AllK
import Wide.FinOn
import HandS.ForExc
import HandS.Words
import HandS.ForMost
import HandS.ExcInit
import HandS.ExcField
import HandS.ExcIs
import KE.KExcSuper
import HandS.ExcCtx
import HandS.ExcOwn
import HandS.IsInst
import HandS.SlotsOwn
import PyProof.InstNe
import HandS.Wide
import HandS.Gcd
import HandS.Style
import HandS.EndBits
import HandS.WordsExc
import HandS.HotCalls
import HandS.NoneIn
import HandS.Conv
import HandS.Codes
import HandS.More
import HandS.IterNext
import HandS.OwnIter
import HandS.DictSub
import PySem.Challenge.RW_roomsfit_k01_rows_hold_numbers
set_option Elab.async false
set_option linter.all false
set_option maxRecDepth 100000
set_option maxHeartbeats 4000000
/-! Own errors whose __init__ says super().__init__(text) and keeps one or two fields: made, raised. -/
namespace GX
open PySem PySem.W PySem.Calls PyProof.Rows PySem.HandSPX
open L2 (defBody defArgs defScope)
def superSt (msg : Str) (p1 p2 p3 p4 p5 p6 : Pos) : Stmt := .Expr (.Call (.Attribute (.Call (.Name "super" p1) [] [] p2) "__init__" p3) [.Constant (.str msg) 0 p4] [] p5) p6
def keepSt (f : Str) (p1 p2 p3 p4 : Pos) : Stmt := .Assign [.Attribute (.Name "self" p1) f p2] (.Name f p3) p4
section
variable {prog : Program} {w : World} {A : Around} {E : Value → Shared → Prop} {h : Heap} {g : Array GenState} {d : Drawn} {t : Nat} {os : OsState}
variable {nm q : Str} {C N : Addr} {bs bm : List Value} {hdct : Bool} {sn : List Str} {sub : List Value} {ab : Bool} {col : Option Bool} {dd : Option Addr} {k0 k1 k2 k3 k5 : Option Value}
theorem one_size (v : Value) : [v].length ≤ sizeLine := by
  rw [sizeLine_eq]
  exact (by decide : 1 ≤ 16777216)
theorem call_bwV {u e t0 : Addr} {rest : List Value} {Q : Value → Shared → Prop}
    (hC : h.get? C = some (excClassObj nm q C N bs bm hdct sn sub ab col dd k0 k1 k2 k3 k5 "ValueError.__new__")) (he : h.get? e = some (HandSPX.excO C t0)) (hu : h.get? u = some (kxs_mw "ValueError.__init__" e)) (hrest : rest.length ≤ sizeLine)
    (hq : ∀ h' t1, (∀ b o, b ≠ e → h.get? b = some o → h'.get? b = some o) → h'.get? e = some (HandSPX.excO C t1) → Q .none ⟨h', g, d, t, os⟩) :
    wpAny (model prog w) A (call (.ref u) rest) Q E ⟨h, g, d, t, os⟩ := by
  refine wpAny_call (codeAny_of_tree ?_)
  show wpAny _ A.in1 (callAny (.ref u) ⟨rest, []⟩) _ _ _
  simp only [callAny]
  refine wpAny_bind (wpAny_load hu ?_)
  simp only [kxs_mw, show (Value.type "method-wrapper" == Value.type "method" || Value.type "method-wrapper" == Value.type "builtin_function_or_method" || Value.type "method-wrapper" == Value.type "method-wrapper") = true by decide, if_true]
  refine W.KFB.if_so (by decide) ?_
  refine wpAny_bind (check_bound_init PySem.F.excBase_ValueError.toExcCallFacts hC he rfl ?_)
  refine wpAny_bind (wpAny_pure (wpAny_pure ?_))
  refine ⟨plainId_quiet PySem.F.excBase_ValueError.init.plain _, codeAny_builtin PySem.F.excBase_ValueError.initEntry ?_⟩
  exact exc_init_tree (cls := .ref C) (t0 := t0) (dv := none) (c2 := .none) (c3 := .none) (b4 := .bool false) he hrest fun h' k e' t' => hq h' _ k e'
end
section
variable {prog : Program} {w : World} {A : Around} {E : Value → Shared → Prop} {R : Result → Shared → Prop} {s : Shared} {K : Frag} {mg mb : Str → Option Value} {C fI cc cda : Addr}
/-- what the written part says of the class and its __init__ -/
structure ExT (prog : Program) (K : Frag) (C : Addr) : Prop where
  cls : ∃ nm q N bs bm sn sub ab col dd k0 k1 k2 k3 k5, K.lookup C = some (excClassObj nm q C N bs bm true sn sub ab col dd k0 k1 k2 k3 k5 "ValueError.__new__") ∧ refsVE bm = true
  sa : findIn K (.ref C) "__setattr__" = some (some (.builtin "object.__setattr__"))
  kC : keepIn K (.ref C) = true
  exC : subIn K (.ref C) (.type "BaseException") = some true
  tyC : typeIn K (.ref C) = some (.type "type")
  veC : subIn K (.ref C) (.type "ValueError") = some true
  opq : nsIn K cStatics "thirdparty.any" = some none
  sup : ks_superIn K C C "__init__" = some (some (.builtin "ValueError.__init__"))
  own : mroIn K C (.ref C) = some true
/-- what super().__init__(text) leaves -/
structure SupEnd (h h' : Heap) (x C t1 : Addr) : Prop where
  keep : ∀ b o, b ≠ x → h.get? b = some o → h'.get? b = some o
  obj : h'.get? x = some (excO C t1)
theorem kept_but {K : Frag} {h h' : Heap} {x : Addr} (X : K.In h) (hx : K.lookup x = none) (k : ∀ b o, b ≠ x → h.get? b = some o → h'.get? b = some o) : K.In h' := fun a o e =>
  k a o (fun z => by rw [z, hx] at e; cases e) (X a o e)
/-- super().__init__(text) as a statement of the def at fI, called with x -/
theorem sup_stmt (T : ExT prog K C) {x t0 L : Addr} {m : Str → Option Value} {qual msg file : Str} {sc : Scope} {fd : FuncData} {ar : Arg} {body : List Stmt} {rest : List Stmt} {oc : Value} {od cdd cld : Option Addr} {ccl cl : Value} {osl ccs csl : Array (Option Value)} {vs : Array Value} {tf : Tok} {pa pb pc pd pe pf : Pos} {Q : Flow → Shared → Prop} {pl : Sem Bool}
    (hk : sc.kind = .function) (kfs : sc.names.lookup ("super" : Str) = some .globalImplicit) (kfc : sc.names.lookup ("__class__" : Str) = some .free) (kse : sc.names.lookup ("self" : Str) = some .local)
    (hf : K.lookup fI = some ⟨oc, od, .func fd, osl⟩) (hp : (fd.params.posonlyargs ++ fd.params.args).head? = some ar) (har : ar.arg = "self")
    (hcode : K.lookup cda = some ⟨ccl, cdd, .fields vs, ccs⟩) (hvs : vs[2]? = some (.str file tf)) (hfile : ((prog.main.file : Str) == file) = true) (hcell : K.lookup cc = some ⟨cl, cld, .cell (some (.ref C)), csl⟩)
    (htop : (prog.main.scope.names.lookup ("super" : Str)).isSome = false)
    (hev : eval (.Call (.Attribute (.Call (.Name "super" pa) [] [] pb) "__init__" pc) [.Constant (.str msg) 0 pd] [] pe) (ksEnv qual sc L fI (.ref cda) cc) = (do
      let ov ← attributeBase (.Call (.Name "super" pa) [] [] pb) "__init__" (ksEnv qual sc L fI (.ref cda) cc) (eval (.Call (.Name "super" pa) [] [] pb) (ksEnv qual sc L fI (.ref cda) cc))
      standAt pc.atName
      let (f, first) ← holding [ov] (getMethod ov "__init__" pl)
      callWith pe f first (backTo pe (starEach [.Constant (.str msg) 0 pd] (ksEnv qual sc L fI (.ref cda) cc))) []))
    (hint : interactive (ksEnv qual sc L fI (.ref cda) cc) = false)
    (hsw : swapsWith (.Call (.Attribute (.Call (.Name "super" pa) [] [] pb) "__init__" pc) [.Constant (.str msg) 0 pd] [] pe) none pf.line (ksEnv qual sc L fI (.ref cda) cc) = pure false)
    (hst : starEach [.Constant (.str msg) 0 pd] (ksEnv qual sc L fI (.ref cda) cc) = [(false, eval (.Constant (.str msg) 0 pd) (ksEnv qual sc L fI (.ref cda) cc))])
    (X : K.In s.heap) (hx : s.heap.get? x = some (excO C t0)) (Gn : s.heap.Ns mainGlobals mg) (hms : mg "super" = none) (Bn : s.heap.Ns builtinsNs mb) (hbb : mb "super" = bootBuiltins "super") (hn : s.heap.Ns L m) (hself : m "self" = some (.ref x))
    (hq : ∀ h' t1 tk, SupEnd s.heap h' x C t1 → _root_.PySem.wpAt (model prog w) A (.func body (ksEnv qual sc L fI (.ref cda) cc)) (execs rest (ksEnv qual sc L fI (.ref cda) cc)) Q E { s with heap := h', toks := tk }) :
    _root_.PySem.wpAt (model prog w) A (.func body (ksEnv qual sc L fI (.ref cda) cc)) (execs (superSt msg pa pb pc pd pe pf :: rest) (ksEnv qual sc L fI (.ref cda) cc)) Q E s := by
  obtain ⟨nm, q, N, bs, bm, sn, sub, ab, col, dd, k0, k1, k2, k3, k5, hC, hbm⟩ := T.cls
  have hcl : clsIn K C = some { name := nm, bases := bs, mro := .ref C :: bm, ns := N, qualname := q, hasDict := true, slotNames := sn, subclasses := sub, abstract := ab, collection := col, hasDel := false } := by unfold clsIn; rw [hC] <;> rfl
  have hCh := X _ _ hC
  have I : InstAt s.heap x (excO C t0) C none := ⟨hx, rfl, rfl, trivial⟩
  have hxC : x ≠ C := ks_ne X I hcl
  refine ks_wpAt_execs_cons (ks_wpAt_Expr_any (ks_wpAt_MethodCall (pl := pl) ?_ hev) hint hsw)
  refine ks_wpAt_super_base (env := ksEnv qual sc L fI (.ref cda) cc) (ar := ar) kfs kfc (by decide) rfl (X _ _ hf) rfl hp rfl (X _ _ hcode) rfl hvs hfile htop ?_
  refine ks_loadName_global hk kfs (loadGlobal_builtin (env := ksEnv qual sc L fI (.ref cda) cc) Gn hms Bn (hbb.trans (by first | boot_by_name | rfl | kernel_rfl)) ⟨rfl, ?_⟩)
  refine wpAny_loadName_free hk kfc rfl ⟨_, X _ _ hcell, rfl⟩ ?_
  rw [har]
  refine wpAny_loadName_local hk kse hn hself ?_
  refine ks_wpAny_isType_cls hCh rfl ⟨rfl, ?_⟩
  obtain ⟨hp, g, d, tk, os⟩ := s
  refine ks_wpAny_call_super hCh rfl hx rfl (fun c z => by cases z) (looks_mroIn X T.own) (fun h1 e1 k1 => ?_)
  -- the method
  have X1 : K.In h1 := X.keeps k1
  have hx1 := k1 _ _ hx
  have hI1 : Looks (model prog w) h1 (isInstance (.ref x) (.type "ValueError")) true := (show InstAt h1 x (excO C t0) C none from ⟨hx1, rfl, rfl, trivial⟩).type.andThen (looks_subIn X1 T.veC)
  have hsup := T.sup
  unfold ks_superIn at hsup
  rw [hcl] at hsup
  refine kxs_getMethod kxs_ValueError (D := C) (C := C) (l₀ := .ref C :: bm) e1 (looks_opaque X1 T.opq) (fun A Q E s k q => wpAny_bind ((looks_clsIn X1 hcl) A _ E s k (wpAny_pure q))) rfl X1 hsup hI1 hxC (by decide) ?_
  -- the call
  refine kxs_callWith (i := "ValueError.__init__") (x := x) (by rw [hst]; rfl) ?_
  rw [hst]
  refine evalArgs_plain ?_
  show wpAny _ _ (spliced [(false, eval (.Constant (.str msg) 0 pd) (ksEnv qual sc L fI (.ref cda) cc))]) _ _ _
  refine spliced_cons (Constant_str (spliced_nil ?_))
  have hu : (h1.push (kxs_mw "ValueError.__init__" x)).get? h1.objs.size = some (kxs_mw "ValueError.__init__" x) := Heap.get?_push_at rfl rfl
  refine ⟨hu, ?_⟩
  have hC1 : (h1.push (kxs_mw "ValueError.__init__" x)).get? C = _ := Heap.get?_push_of_some _ (X1 _ _ hC)
  have hx2 : (h1.push (kxs_mw "ValueError.__init__" x)).get? x = _ := Heap.get?_push_of_some _ hx1
  refine call_bwV hC1 hx2 hu (one_size _) fun h' t1 kk ee => ?_
  refine hq h' t1 _ ⟨fun b o hb e => kk b o hb (Heap.get?_push_of_some _ (k1 b o e)), ee⟩
end
section
variable {qual msg f : Str} {sc : Scope} {L fI cc cda : Addr} {pa pb pc pd pe pf p1 p2 p3 p4 : Pos}
abbrev superE (msg : Str) (pa pb pc pd pe : Pos) : Expr := .Call (.Attribute (.Call (.Name "super" pa) [] [] pb) "__init__" pc) [.Constant (.str msg) 0 pd] [] pe
theorem a1 (hl : (pc.endLine == pe.line) = true) : eval (superE msg pa pb pc pd pe) (ksEnv qual sc L fI (.ref cda) cc) = (do
      let ov ← attributeBase (.Call (.Name "super" pa) [] [] pb) "__init__" (ksEnv qual sc L fI (.ref cda) cc) (eval (.Call (.Name "super" pa) [] [] pb) (ksEnv qual sc L fI (.ref cda) cc))
      standAt pc.atName
      let (f, first) ← holding [ov] (getMethod ov "__init__" (do return (← importBound (.Call (.Name "super" pa) [] [] pb) (ksEnv qual sc L fI (.ref cda) cc)).getD true))
      callWith pe f first (backTo pe (starEach [.Constant (.str msg) 0 pd] (ksEnv qual sc L fI (.ref cda) cc))) []) := by
  rw [arm_eval_Call]
  have hpos : methodCallPos true (.Call (.Name "super" pa) [] [] pb) (ksEnv qual sc L fI (.ref cda) cc) pc pe = pure pe := by unfold methodCallPos; simp [hl]
  unfold methodCall
  have hform : methodCallForm ([Expr.Constant (.str msg) 0 pd].length + ([] : List Keyword).length) (backTo pe (starEach [.Constant (.str msg) 0 pd] (ksEnv qual sc L fI (.ref cda) cc))) (backToKw pe (keywordEach [] (ksEnv qual sc L fI (.ref cda) cc))) = true := by rfl
  rw [hform]
  simp only [hpos, pure_bind]
  rfl
theorem a2 (hk : sc.kind = .function) : interactive (ksEnv qual sc L fI (.ref cda) cc) = false := by
  first | rfl | (unfold interactive; simp [hk]) | (simp [interactive, hk])
theorem a3 : swapsWith (superE msg pa pb pc pd pe) none pf.line (ksEnv qual sc L fI (.ref cda) cc) = pure false := by
  first | rfl | kernel_rfl
theorem a4 : starEach [.Constant (.str msg) 0 pd] (ksEnv qual sc L fI (.ref cda) cc) = [(false, eval (.Constant (.str msg) 0 pd) (ksEnv qual sc L fI (.ref cda) cc))] := by rfl
theorem a5 : swapsWith (.Name f p3) (some (.Attribute (.Name "self" p1) f p2)) p4.line (ksEnv qual sc L fI (.ref cda) cc) = pure false := by
  first | rfl | kernel_rfl
end

/-- the text of an own error's __init__ with the fields fs -/
structure Txt (st : Stmt) (fs : List Str) : Prop where
  body : ∃ (msg : Str) (pa pb pc pd pe pf : Pos) (ks : List Stmt), defBody st = superSt msg pa pb pc pd pe pf :: ks ∧ (pc.endLine == pe.line) = true ∧
    (match fs with
      | [f] => ∃ p1 p2 p3 p4, ks = [keepSt f p1 p2 p3 p4]
      | [f, g] => ∃ p1 p2 p3 p4 p5 p6 p7 p8, ks = [keepSt f p1 p2 p3 p4, keepSt g p5 p6 p7 p8] ∧ f ≠ g ∧ f ≠ "self" ∧ g ≠ "self"
      | _ => False)
  fk : (defScope st).kind = .function
  fc : (defScope st).isCoroutine = false
  fg : (defScope st).isGenerator = false
  ns : (defScope st).names.lookup ("super" : Str) = some .globalImplicit
  nc : (defScope st).names.lookup ("__class__" : Str) = some .free
  nl : ∀ x ∈ ("self" : Str) :: fs, (defScope st).names.lookup x = some .local
  no : ∀ x ∈ (defScope st).names, x.2 ≠ .cell
  hd : ∃ ar, ((defArgs st).posonlyargs ++ (defArgs st).args).head? = some ar ∧ ar.arg = "self"
  nd : ∀ f ∈ fs, (f == ("__debug__" : Str)) = false ∧ f ≠ "self"
  bd : ∀ (q : Str) (doc pm ct : Value) (an : Option Addr) (cda cc : Addr) (us : List Value), us.length = (("self" : Str) :: fs).length →
    bindArgs (ksFn "__init__" q (defArgs st) (defBody st) (defScope st) .none .none doc pm an (.ref cda) ct cc) ⟨us, []⟩ = pure ((("self" : Str) :: fs).zip us)
/-- what the written part says of an own error class at C with the fields fs -/
structure Er (prog : Program) (K : Frag) (C : Addr) (fs : List Str) : Prop where
  ext : ExT prog K C
  ga : findIn K (.ref C) "__getattribute__" = some (some (.builtin "BaseException.__getattribute__"))
  gg : findIn K (.ref C) "__getattr__" = some none
  noF : ∀ f ∈ fs, findIn K (.ref C) f = some none
  hdC : hasDictIn K C = true
  te : exmOne K (.ref C) (.ref C) = some true
  fn : ∃ (fI cc cda : Addr) (st : Stmt) (q file : Str) (tf : Tok) (oc doc pm ct ccl cl : Value) (od an cdd cld : Option Addr) (osl ccs csl : Array (Option Value)) (vs : Array Value),
    Txt st fs ∧ findIn K (.ref C) "__init__" = some (some (.ref fI)) ∧ typeIn K (.ref fI) = some (.type "function") ∧
    K.lookup fI = some ⟨oc, od, .func (ksFn "__init__" q (defArgs st) (defBody st) (defScope st) .none .none doc pm an (.ref cda) ct cc), osl⟩ ∧ codeIn K (.ref cda) q = true ∧
    K.lookup cda = some ⟨ccl, cdd, .fields vs, ccs⟩ ∧ vs[2]? = some (.str file tf) ∧ ((prog.main.file : Str) == file) = true ∧ K.lookup cc = some ⟨cl, cld, .cell (some (.ref C)), csl⟩
  top : (prog.main.scope.names.lookup ("super" : Str)).isSome = false
/-- a made own error -/
structure Made (h h' : Heap) (e C d : Addr) (fs : List Str) (us : List Value) : Prop where
  keep : ∀ b o, h.get? b = some o → h'.get? b = some o
  new : h.objs.size ≤ e
  obj : ∃ oe vs, h'.get? e = some oe ∧ oe.cls = .ref C ∧ oe.dict = some d ∧ oe.data = .fields vs ∧ vs[1]? = some .none ∧ vs[2]? = some .none
  dbig : h.objs.size ≤ d
  dne : d ≠ e
  ns : h'.Ns1 d (fun y => (fs.zip us).lookup y)
/-- what __init__ leaves of a fresh exception at x -/
structure InitEnd (h h' : Heap) (x C dx : Addr) (fs : List Str) (us : List Value) : Prop where
  keep : ∀ b o, b ≠ x → h.get? b = some o → h'.get? b = some o
  obj : ∃ t1, h'.get? x = some { cls := .ref C, dict := some dx, data := .fields #[.ref t1, .none, .none, .none, .bool false, .none] }
  dbig : h.objs.size ≤ dx
  dne : dx ≠ x
  ns : h'.Ns1 dx (fun y => (fs.zip us).lookup y)
section
variable {prog : Program} {w : World} {A : Around} {E : Value → Shared → Prop} {R : Result → Shared → Prop} {s : Shared} {K : Frag} {mg mb : Str → Option Value} {C : Addr}
theorem ldK {M : Model} {name : Str} {scope : Scope} {L a cda cc : Addr} {m : Str → Option Value} {x : Str} {pos : Pos} {v : Value} {Q : Value → Shared → Prop} (hk : scope.kind = .function) (hn : s.heap.Ns L m) (hv : m x = some v) (h : Q v s)
    (hl : scope.names.lookup x = some .local) (hd : (x == ("__debug__" : Str)) = false) :
    wpAny M A (eval (.Name x pos) (ksEnv name scope L a (.ref cda) cc)) Q E s := wpAny_Name (wpAny_loadName_local (env := ksEnv name scope L a (.ref cda) cc) hk hl hn hv h) hd
theorem ns_keep {h h' : Heap} {a : Addr} {m : Str → Option Value} (hn : h.Ns a m) (k : ∀ o, h.get? a = some o → h'.get? a = some o) : h'.Ns a m := by
  obtain ⟨oL, es, ep, hL, r⟩ := hn
  exact ⟨oL, es, ep, k _ hL, r⟩
theorem ns_ext {h : Heap} {d : Addr} {m m' : Str → Option Value} (n : h.Ns1 d m) (e : ∀ y, m y = m' y) : h.Ns1 d m' := by
  have : m = m' := funext e
  rw [← this]; exact n
theorem er_init {fs : List Str} (T : Er prog K C fs) {fI x t0 : Addr} {us : List Value} (hfi : findIn K (.ref C) "__init__" = some (some (.ref fI))) (hl : us.length = fs.length) (X : K.In s.heap) (hlim : s.heap.NoLimit) (Gn : s.heap.Ns mainGlobals mg) (hms : mg "super" = none) (Bn : s.heap.Ns builtinsNs mb) (hbb : mb "super" = bootBuiltins "super")
    (hx : s.heap.get? x = some (excO C t0)) (hnx : K.lookup x = none) (hroom : A.depth < recursionLimit)
    (hq : ∀ h' tk dx, InitEnd s.heap h' x C dx fs us → R (.ok (.ret .none)) { s with heap := h', toks := tk }) :
    codeAny (model prog w) A (.call (.ref fI) ⟨.ref x :: us, []⟩) R s := by
  obtain ⟨fI', cc, cda, st, q, file, tf, oc, doc, pm, ct, ccl, cl, od, an, cdd, cld, osl, ccs, csl, vs, tx, hi, tC, ho, hcd, hcode, hvs, hfile, hcell⟩ := T.fn
  rw [hfi] at hi
  cases hi
  obtain ⟨nm, q', N, bs, bm, sn, sub, ab, col, dd, k0, k1, k2, k3, k5, hC, hbm⟩ := T.ext.cls
  have hcl : clsIn K C = some { name := nm, bases := bs, mro := .ref C :: bm, ns := N, qualname := q', hasDict := true, slotNames := sn, subclasses := sub, abstract := ab, collection := col, hasDel := false } := by unfold clsIn; rw [hC] <;> rfl
  obtain ⟨msg, pa, pb, pc, pd, pe, pf, ks, hb, hline, hks⟩ := tx.body
  obtain ⟨ar, har, hself⟩ := tx.hd
  refine ks_codeAny_call_defAt (binds := (("self" : Str) :: fs).zip (.ref x :: us)) (body := defBody st) hroom (X _ _ ho) rfl hlim (codeRec_of X hcd) rfl (BindsTo.of_eq (tx.bd _ _ _ _ _ _ _ _ (by rw [List.length_cons, List.length_cons, hl]))) tx.no (fun y hy => tx.nl _ ?_) (fun h₁ hn hk₁ => ?_) tx.fc tx.fg tx.fk
  · exact (List.of_mem_zip hy).1
  have X₁ := X.keeps hk₁
  have hx₁ := hk₁ _ _ hx
  have hLx : s.heap.objs.size ≠ x := Nat.ne_of_gt (Heap.lt_size hx)
  have hm : ∀ y v, List.lookup y ((("self" : Str) :: fs).zip (.ref x :: us)).reverse = some v → True := fun _ _ _ => trivial
  rw [hb]
  rcases fs with _ | ⟨f, _ | ⟨g, _ | ⟨g2, fs⟩⟩⟩
  · exact hks.elim
  · obtain ⟨p1, p2, p3, p4, rfl⟩ := hks
    obtain ⟨u, rfl⟩ : ∃ u, us = [u] := by
      rcases us with _ | ⟨u, _ | ⟨u2, us⟩⟩ <;> first | exact ⟨u, rfl⟩ | simp at hl
    have nf := tx.nd f (by simp)
    have hself' : List.lookup ("self" : Str) ((("self" : Str) :: [f]).zip [.ref x, u]).reverse = some (.ref x) := by
      have e : (("self" : Str) == f) = false := by simpa using Ne.symm nf.2
      simp [List.lookup, e]
    have hf' : List.lookup f ((("self" : Str) :: [f]).zip [.ref x, u]).reverse = some u := by simp [List.lookup]
    refine sup_stmt (s := { s with heap := h₁, toks := _ }) T.ext tx.fk tx.ns tx.nc (tx.nl _ (by simp)) ho har hself hcode hvs hfile hcell T.top (a1 hline) (a2 tx.fk) a3 a4 X₁ hx₁ (Gn.keeps hk₁) hms (Bn.keeps hk₁) hbb hn hself' (fun h' t1 tk se => wpAt_of_wpAny ?_)
    have X' : K.In h' := kept_but X₁ hnx se.keep
    have hn' := ns_keep hn fun o => se.keep _ o hLx
    refine wpAny_execs_cons (plainObj_wpAny_Assign_Attribute ?_ a5)
    refine ldK (v := u) tx.fk hn' hf' ?_ (tx.nl _ (by simp)) nf.1
    refine ldK (v := .ref x) tx.fk hn' hself' ?_ (tx.nl _ (by simp)) (by decide)
    refine set_plain X' (ox := excO C t1) (od := none) ⟨se.obj, rfl, rfl, trivial⟩ T.ext.sa ?_
    refine exc_osa X' se.obj hcl (show refsVE (.ref C :: bm) = true from hbm) rfl (T.noF f (by simp)) (fun h₃ tk₃ dx k₃ dn dne hx₃ hn₃ => ?_)
    refine wpAny_execs_nil (hq h₃ tk₃ dx ⟨fun b o hb e => k₃ b o hb (se.keep b o hb (hk₁ b o e)), ⟨t1, hx₃⟩, ?_, dne, ns_ext hn₃ fun y => ?_⟩)
    · have z1 := hn'.lt
      have dn' : h'.objs.size ≤ dx := dn
      exact Nat.le_of_lt (Nat.lt_of_lt_of_le z1 dn')
    · by_cases e : y = f
      · subst e; simp [List.lookup]
      · have : (y == f) = false := by simpa using e
        simp [List.lookup, e, this]
  · obtain ⟨p1, p2, p3, p4, p5, p6, p7, p8, rfl, hfg, hfs, hgs⟩ := hks
    obtain ⟨u, u2, rfl⟩ : ∃ u u2, us = [u, u2] := by
      rcases us with _ | ⟨u, _ | ⟨u2, _ | ⟨u3, us⟩⟩⟩ <;> first | exact ⟨u, u2, rfl⟩ | simp at hl
    have nf := tx.nd f (by simp)
    have ng := tx.nd g (by simp)
    have e1 : (("self" : Str) == f) = false := by simpa using Ne.symm nf.2
    have e2 : (("self" : Str) == g) = false := by simpa using Ne.symm ng.2
    have e3 : (f == g) = false := by simpa using hfg
    have hself' : List.lookup ("self" : Str) ((("self" : Str) :: [f, g]).zip [.ref x, u, u2]).reverse = some (.ref x) := by simp [List.lookup, e1, e2]
    have hf' : List.lookup f ((("self" : Str) :: [f, g]).zip [.ref x, u, u2]).reverse = some u := by simp [List.lookup, e3]
    have hg' : List.lookup g ((("self" : Str) :: [f, g]).zip [.ref x, u, u2]).reverse = some u2 := by simp [List.lookup]
    refine sup_stmt (s := { s with heap := h₁, toks := _ }) T.ext tx.fk tx.ns tx.nc (tx.nl _ (by simp)) ho har hself hcode hvs hfile hcell T.top (a1 hline) (a2 tx.fk) a3 a4 X₁ hx₁ (Gn.keeps hk₁) hms (Bn.keeps hk₁) hbb hn hself' (fun h' t1 tk se => wpAt_of_wpAny ?_)
    have X' : K.In h' := kept_but X₁ hnx se.keep
    have hn' := ns_keep hn fun o => se.keep _ o hLx
    refine wpAny_execs_cons (plainObj_wpAny_Assign_Attribute ?_ a5)
    refine ldK (v := u) tx.fk hn' hf' ?_ (tx.nl _ (by simp)) nf.1
    refine ldK (v := .ref x) tx.fk hn' hself' ?_ (tx.nl _ (by simp)) (by decide)
    refine set_plain X' (ox := excO C t1) (od := none) ⟨se.obj, rfl, rfl, trivial⟩ T.ext.sa ?_
    refine exc_osa X' se.obj hcl (show refsVE (.ref C :: bm) = true from hbm) rfl (T.noF f (by simp)) (fun h₃ tk₃ dx k₃ dn dne hx₃ hn₃ => ?_)
    have X₃ : K.In h₃ := kept_but X' hnx k₃
    have hn3 := ns_keep hn' fun o => k₃ _ o hLx
    have z1 := hn'.lt
    have dn' : h'.objs.size ≤ dx := dn
    refine wpAny_execs_cons (plainObj_wpAny_Assign_Attribute ?_ a5)
    refine ldK (v := u2) tx.fk hn3 hg' ?_ (tx.nl _ (by simp)) ng.1
    refine ldK (v := .ref x) tx.fk hn3 hself' ?_ (tx.nl _ (by simp)) (by decide)
    have hw : Within (fun y => if y = f then some u else none) [f] := fun y hy => by
      by_cases e : y = f
      · simp [e]
      · simp [e] at hy
    obtain ⟨oD, esD, epD, hoD, hdD, _⟩ := hn₃.count hw
    refine set_plain X₃ (ox := { cls := .ref C, dict := some dx, data := .fields #[.ref t1, .none, .none, .none, .bool false, .none] }) (od := some oD) ⟨hx₃, rfl, rfl, hoD⟩ T.ext.sa ?_
    refine PySem.OEX.osa_old X₃ hx₃ hn₃ hw (by simp) hcl (show refsVE (.ref C :: bm) = true from hbm) rfl (T.noF g (by simp)) (fun h₄ tk₄ k₄ hn₄ => ?_)
    refine wpAny_execs_nil (hq h₄ tk₄ dx ⟨fun b o hb e => ?_, ⟨t1, k₄ _ _ dne.symm hx₃⟩, ?_, dne, ns_ext hn₄ fun y => ?_⟩)
    · refine k₄ b o (fun z => ?_) (k₃ b o hb (se.keep b o hb (hk₁ b o e)))
      have z2 := Heap.lt_size e
      rw [z] at z2
      exact absurd z2 (Nat.not_lt.mpr (Nat.le_trans (Nat.le_of_lt z1) dn'))
    · exact Nat.le_of_lt (Nat.lt_of_lt_of_le z1 dn')
    · by_cases ef : y = f
      · subst ef
        have : y ≠ g := hfg
        simp [List.lookup, this]
      · by_cases eg : y = g
        · subst eg
          have : (y == f) = false := by simpa using ef
          simp [List.lookup, this]
        · have q1 : (y == f) = false := by simpa using ef
          have q2 : (y == g) = false := by simpa using eg
          simp [List.lookup, ef, eg, q1, q2]
  · exact hks.elim
theorem size_le {us : List Value} (h : us.length ≤ 2) : us.length ≤ sizeLine := by
  rw [sizeLine_eq]
  exact Nat.le_trans h (by decide)
theorem er_made {fs : List Str} (T : Er prog K C fs) {us : List Value} (hl : us.length = fs.length) (X : K.In s.heap) (hlim : s.heap.NoLimit) (Gn : s.heap.Ns mainGlobals mg) (hms : mg "super" = none) (Bn : s.heap.Ns builtinsNs mb) (hbb : mb "super" = bootBuiltins "super")
    (hroom : A.depth + 1 < recursionLimit)
    (hq : ∀ h' tk e d, Made s.heap h' e C d fs us → R (.ok (.ret (.ref e))) { s with heap := h', toks := tk }) :
    codeAny (model prog w) A (.call (.ref C) ⟨us, []⟩) R s := by
  obtain ⟨nm, q, N, bs, bm, sn, sub, ab, col, dd, k0, k1, k2, k3, k5, hC, hbm⟩ := T.ext.cls
  obtain ⟨fI, cc, cda, st, q2, file, tf, oc, doc, pm, ct, ccl, cl, od, an, cdd, cld, osl, ccs, csl, vs, tx, hi, tC, _⟩ := T.fn
  obtain ⟨hp, g, dr, tk, os⟩ := s
  have k : ∀ b o, hp.get? b = some o → ((hp.push (kdv_tup us)).push (excO C hp.objs.size)).get? b = some o := fun b o e => Heap.get?_push_of_some _ (Heap.get?_push_of_some _ e)
  have hget : ((hp.push (kdv_tup us)).push (excO C hp.objs.size)).get? (hp.objs.size + 1) = some (excO C hp.objs.size) := Heap.get?_push_at (by simp) rfl
  have hnx : K.lookup (hp.objs.size + 1) = none := by
    cases e : K.lookup (hp.objs.size + 1) with
    | none => rfl
    | some o =>
      have z : hp.get? (hp.objs.size + 1) = some o := X _ _ e
      exact absurd (Nat.lt_of_succ_lt (Heap.lt_size z)) (Nat.lt_irrefl _)
  have h2 : us.length ≤ 2 := by
    rw [hl]
    obtain ⟨msg, pa, pb, pc, pd, pe, pf, ks, hb, hline, hks⟩ := tx.body
    rcases fs with _ | ⟨f, _ | ⟨g, _ | ⟨g2, fs⟩⟩⟩
    · simp
    · simp
    · simp
    · exact hks.elim
  refine call_own PySem.F.excBase_ValueError (fun X => refsVE_contains X bm hbm) (X _ _ hC) (looks_findIn X hi) (fun self => bind_fn X self tC) (size_le h2) ?_
  refine er_init (s := ⟨(hp.push (kdv_tup us)).push (excO C hp.objs.size), g, dr, tk, os⟩) T hi hl (X.keeps k) (hlim.keeps k) (Gn.keeps k) hms (Bn.keeps k) hbb hget hnx ?_ fun h' tk' dx ⟨k', hx, dn, dne, hns⟩ => ?_
  · show A.depth + 1 < recursionLimit
    exact hroom
  · have old : ∀ b o, hp.get? b = some o → h'.get? b = some o := fun b o e => k' b o (Nat.ne_of_lt (Nat.lt_succ_of_lt (Heap.lt_size e))) (k b o e)
    have z : hp.objs.size + 1 + 1 ≤ dx := by
      have q := dn
      first
        | (simpa only [Heap.size_push] using q)
        | exact q
        | (rw [Heap.size_push, Heap.size_push] at q; exact q)
    obtain ⟨t1, hx⟩ := hx
    exact ⟨rfl, hq h' tk' (hp.objs.size + 1) dx ⟨old, Nat.le_succ _, ⟨_, _, hx, rfl, rfl, rfl, rfl, rfl⟩, Nat.le_trans (Nat.le_trans (Nat.le_succ _) (Nat.le_succ _)) z, dne, hns⟩⟩
end
end GX

/-! try with several clauses, each with or without a name; own errors raised. -/
namespace GT
open PySem PySem.Spec PyProof.Rows L2 L2N
abbrev Clause := Value × Option Nat × (Addr → Value → Option Addr → TS)
def endsBy (o : Option Nat) (D : Ends) : Ends := match o with
  | none => D
  | some i => { nx := fun τ G => D.nx (τ.set i none) G, rt := D.rt, bk := fun τ G => D.bk (τ.set i none) G, ct := fun τ G => D.ct (τ.set i none) G }
def slotBy (o : Option Nat) (a : Addr) (σ : L2.St) : L2.St := match o with
  | none => σ
  | some i => σ.set i (some (.ref a))
/-- what the clauses wish of an exception of the body -/
def wMix (K : PySem.W.Frag) (Wo : WX) (D : Ends) : List Clause → WX
  | [] => Wo
  | (c, o, ts) :: l => fun k d σ H => ∃ b, PySem.W.exmOne K k c = some b ∧ (b = true → ∀ a, H a = none → ts a k d (endsBy o D) (slotBy o a σ) H) ∧ (b = false → wMix K Wo D l k d σ H)
inductive Cls' (X : Cx) : List ExceptHandler → List Clause → Prop
  | nil : Cls' X [] []
  | bare {x : Str} {c : Value} {ts : Addr → Value → Option Addr → TS} {b : Stmt} {bs : List Stmt} {np q : Pos} {rs : List ExceptHandler} {l : List Clause} (hc : Names X x c)
      (hb : ∀ (a : Addr) (oe : Obj) (k : Value) (d : Option Addr) (pn : List (Addr × Obj)), Zn k d oe → (∃ fv, oe.data = .fields fv) → PSs (X.suite a ((a, oe) :: pn)) (b :: bs) (ts a k d)) (r : Cls' X rs l) :
      Cls' X (.ExceptHandler (some (.Name x np)) none (b :: bs) q :: rs) ((c, none, ts) :: l)
  | named {x n : Str} {i : Nat} {c : Value} {ts : Addr → Value → Option Addr → TS} {b : Stmt} {bs : List Stmt} {np q : Pos} {rs : List ExceptHandler} {l : List Clause} (hi : X.N[i]? = some n) (hn : X.env.kindOf n = some .local) (hc : Names X x c)
      (hb : ∀ (a : Addr) (oe : Obj) (k : Value) (d : Option Addr) (pn : List (Addr × Obj)), Zn k d oe → (∃ fv, oe.data = .fields fv) → PSs (X.suite a ((a, oe) :: pn)) (b :: bs) (ts a k d)) (r : Cls' X rs l) :
      Cls' X (.ExceptHandler (some (.Name x np)) (some n) (b :: bs) q :: rs) ((c, some i, ts) :: l)
section
variable {X : Cx} {pins : List (Addr × Obj)} {σ : L2.St} {H : Hp} {sI s : Shared} {a : Addr} {B : Heap} {k : Value} {d : Option Addr} {D : Ends} {Wo : WX}
/-- the exception at a stands caught in s, sI was the state without it -/
structure Got (X : Cx) (pins : List (Addr × Obj)) (σ : L2.St) (H : Hp) (sI s : Shared) (a : Addr) (B : Heap) (k : Value) (d : Option Addr) : Prop where
  inv : Inv X pins σ H sI
  ground : ∀ b o, sI.heap.get? b = some o → b ∉ frs X.stack → B.get? b = some o
  upto : sI.heap.UpToSlots s.heap
  fly : HandSPX.FlyingZ B (X.env :: X.outer) a (Zn k d) s.heap
  away : H a = none
  os : s.os = sI.os
  gens : AllBare s.gens
theorem Got.on (g : Got X pins σ H sI s a B k d) {h' : Heap} (f : HandSPX.FlyingZ B (X.env :: X.outer) a (Zn k d) h') (u : s.heap.UpToSlots h') : Got X pins σ H sI { s with heap := h' } a B k d :=
  ⟨g.inv, g.ground, g.upto.trans u, f, g.away, g.os, g.gens⟩
theorem Got.here (g : Got X pins σ H sI s a B k d) : Inv X pins σ H s := g.inv.landed g.ground g.fly.1 g.upto g.os g.gens
theorem Got.notFrame (g : Got X pins σ H sI s a B k d) : a ∉ frs (X.env :: X.outer) := fun hm => by
  obtain ⟨oe, fv, e1, _, e2⟩ := g.fly.there
  obtain ⟨_, o', e3, no⟩ := g.fly.2.2.1.mem hm
  rw [e1] at e3
  cases e3
  exact no _ e2
theorem Got.suite (hf : X.env.frame = some X.env.locals) (g : Got X pins σ H sI s a B k d) : ∃ oe, (Zn k d oe ∧ ∃ fv, oe.data = .fields fv) ∧ s.heap.get? a = some oe ∧ Inv (X.suite a ((a, oe) :: (X.pn ++ pins))) [] σ H s := by
  obtain ⟨oe, fv, e1, hz, e2⟩ := g.fly.there
  refine ⟨oe, ⟨hz, fv, e2⟩, e1, g.here.suite e1 e2 g.away (fun z => ?_) (fun hm => ?_)⟩
  · exact g.notFrame (List.mem_filterMap.mpr ⟨X.env, List.mem_cons_self, by rw [hf, z]⟩)
  · obtain ⟨en, hen, q⟩ := List.mem_filterMap.mp hm
    exact g.notFrame (List.mem_filterMap.mpr ⟨en, List.mem_cons_of_mem _ hen, q⟩)
/-- the class that a clause names is loaded -/
theorem load_cls {x : Str} {c : Value} {np : Pos} {oe : Obj} {pn : List (Addr × Obj)} {Q : Value → Shared → Prop} {E : Value → Shared → Prop} (hc : Names X x c) (I : Inv (X.suite a ((a, oe) :: pn)) [] σ H s) (q : Q c s) :
    wpAny (model X.prog X.w) (X.A.mark (some (.ref a))) (eval (.Name x np) X.env) Q E s := by
  obtain ⟨hg, hd, hm | ⟨hm, hv, hn⟩⟩ := hc
  · exact ld_glob (X := X.suite a ((a, oe) :: pn)) I hg hm q hd
  · exact ld_blt (X := X.suite a ((a, oe) :: pn)) I hg hm hv q hn hd
theorem Got.test (hf : X.env.frame = some X.env.locals) (g : Got X pins σ H sI s a B k d) {x : Str} {c : Value} {np q : Pos} {b : Bool} (hc : Names X x c) (hb : PySem.W.exmOne X.K k c = some b) {R : Result → Shared → Prop} (hr : R (.ok (if b then .brk else .next)) s) :
    codeAny (model X.prog X.w) (X.A.mark (some (.ref a))) (.handlers (.ref a) [.ExceptHandler (some (.Name x np)) none [] q] X.env) R s := by
  obtain ⟨oe, ⟨hz, fv, e2⟩, e1, I⟩ := g.suite hf
  have lt : PySem.W.Looks (model X.prog X.w) s.heap (typeOf (.ref a)) k := fun A' Q' E' s' kp z => wpAny_typeOf_ref (kp _ _ e1) (by rw [hz.1]; exact z)
  refine codeAny_handlers_test (load_cls hc I ?_)
  exact (PySem.W.exm_one (M := model X.prog X.w) g.here.kIn lt hb).here hr
/-- the suite of a clause without a name -/
theorem Got.run (ok : X.Ok) (hf : X.env.frame = some X.env.locals) (g : Got X pins σ H sI s a B k d) {ts : Addr → Value → Option Addr → TS} {b : Stmt} {bs : List Stmt}
    (hb : ∀ (a : Addr) (oe : Obj) (k : Value) (d : Option Addr) (pn : List (Addr × Obj)), Zn k d oe → (∃ fv, oe.data = .fields fv) → PSs (X.suite a ((a, oe) :: pn)) (b :: bs) (ts a k d)) {E' : Value → Shared → Prop} (hq : ts a k d D σ H) :
    wpAny (model X.prog X.w) (X.A.mark (some (.ref a))) (execs (b :: bs) X.env) (fun f s' => SP X pins D f s') E' s := by
  obtain ⟨oe, ⟨hz, hd⟩, e1, I⟩ := g.suite hf
  refine wpAny_mono ((hb a oe k d (X.pn ++ pins) hz hd).run [] s σ H D I hq) (fun f s' z => ?_) fun _ _ z => False.elim z
  cases f with
  | ret u =>
    obtain ⟨v, τ, G, I', r, q⟩ := z
    exact ⟨v, τ, G, I'.unsuite ok, r, q⟩
  | next => exact (fun ⟨τ, G, I', q⟩ => ⟨τ, G, I'.unsuite ok, q⟩) z
  | brk => exact (fun ⟨τ, G, I', q⟩ => ⟨τ, G, I'.unsuite ok, q⟩) z
  | cont => exact (fun ⟨τ, G, I', q⟩ => ⟨τ, G, I'.unsuite ok, q⟩) z
theorem Got.pass (hs : X.stack = X.env :: X.outer) (hf : X.env.frame = some X.env.locals) (tk : L2N.Takes X Wo) (g : Got X pins σ H sI s a B k d) (w : Wo k d σ H) : wpAny (model X.prog X.w) X.A (handleBy (.ref a) X.env []) (SP X pins D) X.xe s := by
  refine wpAny_handleBy_nil ?_
  obtain ⟨g1, g2, g3, oe, fv, T, oT, tr, e1, hz, e2, e3, g4⟩ := id g.fly
  unfold PySem.passOn
  refine wpAny_bind (wpAny_field e1 e2 e3 ?_)
  rw [if_neg (by simp : ¬ ((Value.ref T == Value.none) = true))]
  have out : wpAny (model X.prog X.w) X.A (setFlight (.ref a) X.env.frame) (fun _ s' => wpAny (model X.prog X.w) X.A (throw (.ref a) : Sem Flow) (SP X pins D) X.xe s') X.xe s := by
    rw [hf]
    refine HandSPX.setFlight_upZ g.fly fun h' hh up => wpAny_throw (tk _ _ ⟨a, B, sI, pins, σ, H, k, d, rfl, g.inv, g.ground, g.upto.trans up, .inr (.inr ?_), g.away, g.os, g.gens, w⟩)
    rw [hs]
    exact hh
  first
    | exact wpAny_bind (wpAny_pure (wpAny_bind out))
    | exact wpAny_bind out
theorem clauses_go (ok : X.Ok) (hs : X.stack = X.env :: X.outer) (hf : X.env.frame = some X.env.locals) (hN : X.N.Nodup) (tk : L2N.Takes X Wo) {rs : List ExceptHandler} {l : List Clause} (hh : Cls' X rs l) :
    ∀ s, Got X pins σ H sI s a B k d → wMix X.K Wo D l k d σ H → wpAny (model X.prog X.w) X.A (handleBy (.ref a) X.env rs) (SP X pins D) X.xe s := by
  induction hh with
  | nil => exact fun s g w => g.pass hs hf tk w
  | bare hc hb r ih =>
    rintro s g ⟨b, h1, h2, h3⟩
    refine wpAny_handleBy_cons (g.test hf hc h1 ?_) (fun q => nomatch q)
    cases b with
    | false => exact ih s g (h3 rfl)
    | true =>
      refine codeAny_handlers_suite (HandSPX.lands_againZ g.fly fun h' f' u' => ?_)
      exact wpAny_mono ((g.on f' u').run (D := D) ok hf hb (h2 rfl a g.away)) (fun f s' z => z) fun _ _ z => z
  | @named x n i c ts b₀ bs np q rs l hi hn hc hb r ih =>
    rintro s g ⟨b, h1, h2, h3⟩
    refine wpAny_handleBy_cons (g.test hf hc h1 ?_) (fun q => nomatch q)
    cases b with
    | false => exact ih s g (h3 rfl)
    | true =>
      refine codeAny_handlers_suite_as (HandSPX.lands_againZ g.fly fun h' f' u' => ?_)
      have g' := g.on f' u'
      obtain ⟨oe, ⟨hz, hd⟩, e1, I⟩ := g'.suite hf
      refine store_ok (X := X.suite a ((a, oe) :: (X.pn ++ pins))) (v := .ref a) I hN hi (.inl hn) rfl (fun s5 I5 => ?_) (.inr hn)
      refine wpAny_mono ((hb a oe k d (X.pn ++ pins) hz hd).run [] s5 _ H (endsBy (some i) D) I5 (h2 rfl a g.away)) (fun f s6 z => ?_) fun _ _ z => False.elim z
      have close : ∀ {τ : L2.St} {G : Hp} {Q : Shared → Prop}, Inv (X.suite a ((a, oe) :: (X.pn ++ pins))) [] τ G s6 → (∀ s7, Inv X pins (τ.set i none) G s7 → Q s7) →
          wpAny (model X.prog X.w) X.A (do bindName X.env n .none; unbindBehindTheSuite X.env n q) (fun _ s7 => Q s7) X.xe s6 := fun {τ G Q} I6 hq => gone_ok (I6.unsuite ok) hN hi hn hq
      cases f with
      | ret u =>
        obtain ⟨v, τ, G, I6, rv, qv⟩ := z
        exact close I6 fun s7 J => ⟨_, _, _, J, rv, qv⟩
      | next => exact (fun ⟨τ, G, I6, qv⟩ => close I6 fun s7 J => ⟨_, _, J, qv⟩) z
      | brk => exact (fun ⟨τ, G, I6, qv⟩ => close I6 fun s7 J => ⟨_, _, J, qv⟩) z
      | cont => exact (fun ⟨τ, G, I6, qv⟩ => close I6 fun s7 J => ⟨_, _, J, qv⟩) z
variable {body : List Stmt} {h₀ : ExceptHandler} {hds : List ExceptHandler} {l : List Clause} {pos : Pos} {tb : WX → TS}
/-- a try's reading -/
def tTry (tb : WX → TS) (K : PySem.W.Frag) (Wo : WX) (l : List Clause) : TS := fun D σ H => tb (wMix K Wo D l) D σ H
/-- try: body, then the clauses -/
theorem ps_mix (hs : X.stack = X.env :: X.outer) (hf : X.env.frame = some X.env.locals) (hN : X.N.Nodup) (tk : L2N.Takes X Wo)
    (hb : ∀ (W : WX) (pn : List (Addr × Obj)) (xe : Value → Shared → Prop), L2N.Takes (X.tr pn xe) W → PassesOwn (model X.prog X.w) X.A X.env xe → PSs (X.tr pn xe) body (tb W))
    (hh : Cls' X (h₀ :: hds) l) : PS X (.Try body (h₀ :: hds) [] [] pos) (tTry tb X.K Wo l) := by
  refine ⟨fun pins s σ H D I h => wpAny_Try_except ?_⟩
  have ok := I.ok
  have hfr : X.A.frames = some (X.env :: X.outer) := by rw [ok.frames, hs]
  have B := hb (wMix X.K Wo D l) (X.pn ++ pins) (fun u t => wpAny (model X.prog X.w) X.A (noteFrame u X.env) (fun _ t2 => wpAny (model X.prog X.w) X.A (setFlight u none) (fun _ t3 =>
    wpAny (model X.prog X.w) X.A (handleBy u X.env (h₀ :: hds)) (SP X pins D) X.xe t3) X.xe t2) X.xe t) (fun u t z => ?_) PassesOwn.looking
  · refine wpAny_mono (B.run [] s σ H D (I.toTry _) h) (fun f t z => ?_) fun _ _ z => z
    cases f with
    | ret u => exact (fun ⟨v, τ, G, J, r, q⟩ => ⟨v, τ, G, J.ofTry ok, r, q⟩) z
    | next => exact (fun ⟨τ, G, J, q⟩ => wpAny_execs_nil ⟨τ, G, J.ofTry ok, q⟩) z
    | brk => exact (fun ⟨τ, G, J, q⟩ => ⟨τ, G, J.ofTry ok, q⟩) z
    | cont => exact (fun ⟨τ, G, J, q⟩ => ⟨τ, G, J.ofTry ok, q⟩) z
  · obtain ⟨a, gr, sI, pins', τ, G, k, d, rfl, J, nb, up, sky, na, os, ag, w⟩ := z
    rw [hs] at sky
    show wpAny (model X.prog X.w) X.A (noteFrame (.ref a) X.env) _ _ _
    refine Sky.land Zn.steady hfr hf sky fun h' fly up' => ?_
    exact clauses_go ok hs hf hN tk hh _ ⟨J.ofTry ok, nb, up.trans up', fly, na, os, ag⟩ w
end
end GT

/-! own errors raised; what a suite reads of the caught one. -/
namespace GT
open PySem PySem.Spec PyProof.Rows L2 L2N
/-- an own error with fields made -/
def tEr (C : Addr) (fs : List PySem.Str) (ta : TA) : L2.St → Hp → XK → Prop := fun σ H Q => ta σ H fun vs G => vs.length = fs.length ∧ ∀ d, G d = none → Q (.ref C) (some d) (upd G d (.xd (fs.zip vs)))
theorem relO_zip : ∀ {fs : List PySem.Str} {vs : List V} {us : List Value}, Vals vs us → ∀ y, RelO ((fs.zip vs).lookup y) ((fs.zip us).lookup y)
  | [], _, _, _, _ => trivial
  | _ :: _, _, _, .nil, _ => trivial
  | f :: fs, _, _, .cons r rs, y => by
    show RelO (List.lookup y ((f, _) :: fs.zip _)) (List.lookup y ((f, _) :: fs.zip _))
    unfold List.lookup
    cases h : y == f with
    | true => exact r
    | false => exact relO_zip rs y
section
variable {X : Cx} {C : Addr}
theorem pmk_er {x : PySem.Str} {fs : List PySem.Str} {a : Expr} {es : List Expr} {ta : TA} {p pos : Pos} {k : Nat} (T : GX.Er X.prog X.K C fs) (gC : X.mg x = some (.ref C)) (kC : PySem.W.keepIn X.K (.ref C) = true) (hms : X.mg "super" = none) (hr : Room k X.A)
    (ha : PA X (a :: es) ta) (hg : Gl X x := by rfl) (hdb : (x == ("__debug__" : PySem.Str)) = false := by decide)
    (he : starEach (a :: es) X.env = (false, eval a X.env) :: starEach es X.env := by rfl) (hpl : (backTo pos (starEach es X.env)).any (·.1) = false := by rfl) :
    L2N.PMk X (.Call (.Name x p) (a :: es) [] pos) (tEr C fs ta) := by
  intro pins s σ H Q I h
  refine wpAny_Call_Name_kw (ld_glob I hg gC ?_ hdb)
  refine PySem.W.callWith_K (h₀ := X.base) I.ok.mod.kin kC (thn (ha.run pos pins s σ H _ I h) fun us s1 hh => ?_) he hpl
  obtain ⟨vs, G, J, r, hl, q⟩ := hh
  refine ⟨J.kIn, ?_⟩
  show wpAny _ _ (call (.ref C) us) _ _ _
  have lim := J.nolimit
  obtain ⟨mb, b1, b2⟩ := J.mod.blt
  have Bn : s1.heap.Ns builtinsNs mb := b1.keeps J.bk
  have Gn : s1.heap.Ns mainGlobals X.mg := J.mod.glob.keeps J.bk
  obtain ⟨hp, g, dr, tk, os⟩ := s1
  refine wpAny_call (GX.er_made T (us := us) (by rw [← r.length]; exact hl) J.kIn lim Gn hms Bn (b2 _ (by decide)) (by have := hr.dp; omega) fun h' tk' e d M => ?_)
  show L2N.MkP X pins σ Q (.ref e) ⟨h', g, dr, tk', os⟩
  obtain ⟨oe, fv, hoe, hc, hd, hdat, h1, h2⟩ := M.obj
  obtain ⟨B, g1, g2⟩ := restrict h' fun b => decide (b ≠ e)
  have gk : ∀ b, b ≠ e → B.get? b = h'.get? b := fun b hb => g1 b (decide_eq_true hb)
  have ge : B.get? e = none := g2 e (by simp)
  have old : ∀ b o, hp.get? b = some o → B.get? b = some o := fun b o z => (gk b (Nat.ne_of_lt (Nat.lt_of_lt_of_le (Heap.lt_size z) M.new))).trans (M.keep b o z)
  have ob : ObjOk X.prog X.w (upd G d (.xd (fs.zip vs))) B d (.xd (fs.zip vs)) :=
    ⟨_, M.ns.at (fun o z => (gk d M.dne).trans z), fun y => relO_zip r y⟩
  have J2 : Inv X pins σ (upd G d (.xd (fs.zip vs))) ⟨B, g, dr, tk', os⟩ := J.laid (t' := tk') old M.dbig ob
  refine ⟨e, oe, fv, ⟨B, g, dr, tk', os⟩, _, .ref C, some d, rfl, J2, fun b o z => ?_, ge, hoe, ⟨hc, hd, fun w z => ?_⟩, hdat, h1, ?_, rfl, J.bare, raises_own T.ext.exC T.ext.tyC, q d (J.hok.fresh M.dbig)⟩
  · by_cases hb : b = e
    · have z' : B.get? b = some o := z
      rw [hb, ge] at z'
      cases z'
    · exact (gk b hb).symm.trans z
  · rw [hdat] at z
    cases z
    exact h2
  · rw [upd_ne (Ne.symm M.dne)]
    exact J.hok.fresh M.new
theorem ps_er {W : WX} {e : Expr} {t : L2.St → Hp → XK → Prop} {pos : Pos} (hc : X.calm = true) (tk : L2N.Takes X W) (he : L2N.PMk X e t) : PS X (.Raise (some e) none pos) (fun _ σ H => t σ H fun k d H' => W k d σ H') := L2N.ps_raise hc tk he
/-- what the class D says of the field f -/
structure FldC (K : PySem.W.Frag) (D : Addr) (f : PySem.Str) : Prop where
  ga : PySem.W.findIn K (.ref D) "__getattribute__" = some (some (.builtin "BaseException.__getattribute__"))
  gg : PySem.W.findIn K (.ref D) "__getattr__" = some none
  ex : PySem.W.subIn K (.ref D) (.type "BaseException") = some true
  hd : PySem.W.hasDictIn K D = true
  no : PySem.W.findIn K (.ref D) f = some none
/-- e.f, e the caught error (at a, class k, dict d) -/
def tFld (K : PySem.W.Frag) (f : PySem.Str) (a : Addr) (k : Value) (d : Option Addr) (te : TE) : TE := fun σ H Q => te σ H fun x G => x = .ref a ∧ ∃ (D dd : Addr) (gs : List (PySem.Str × V)) (v : V), k = .ref D ∧ FldC K D f ∧ d = some dd ∧ G dd = some (.xd gs) ∧ gs.lookup f = some v ∧ Q v G
theorem pe_fldX {f : PySem.Str} {a : Addr} {oe : Obj} {k : Value} {d : Option Addr} {pn : List (Addr × Obj)} {e : Expr} {te : TE} {pos : Pos} (hz : Zc k d oe) (hf : ∃ fv, oe.data = .fields fv) (he : PE (X.suite a ((a, oe) :: pn)) e te)
    (hb : attributeBase e f X.env (eval e X.env) = eval e X.env := by rfl) :
    PE (X.suite a ((a, oe) :: pn)) (.Attribute e f pos) (tFld X.K f a k d te) := by
  refine ⟨fun pins s σ H Q I h => attr_of hb (thn (he.run pins s σ H _ I h) fun u s1 hh => ?_)⟩
  obtain ⟨x, G, J, rx, ex, D, dd, gs, v, rfl, T, ed, eg, el, q⟩ := hh
  subst ex
  have eu : u = Value.ref a := rx
  subst eu
  obtain ⟨ha, _⟩ := J.pin (a, oe) (List.mem_append_left _ List.mem_cons_self)
  obtain ⟨fv, hd⟩ := hf
  obtain ⟨mA, hns, hr⟩ := (show ObjOk X.prog X.w G s1.heap dd (.xd gs) from J.hok dd _ eg)
  obtain ⟨od, h1, h2⟩ := lookIn_ns hns
  obtain ⟨u, hu, ru⟩ := RelO.some_of (v := v) (o := mA f) (by rw [← el]; exact hr f)
  have I1 : PySem.W.InstAt s1.heap a oe D (some od) := ⟨ha, hz.1, by unfold PySem.W.notCls; rw [hd] <;> rfl, by rw [hz.2, ed]; exact h1⟩
  exact HandSPX.exc_get J.kIn I1 T.ga T.gg T.ex (PySem.W.findObj_own T.hd T.no rfl (by rw [h2, hu])) (handed_of ru) ⟨v, G, J.tok _, ru, q⟩
end
/-! isinstance of the caught error, with or without a dict -/
section
open PySem.W PySem.Calls
variable {prog : Program} {w : World} {A : Around} {E : Value → Shared → Prop} {s : Shared} {K : PySem.W.Frag} {x D : Addr} {ox : Obj} {od : Option Obj}
theorem find_cls (T : L2.ExcC K D) : findObj K D od "__class__" = some (.bind (.builtin "getset_descriptor.__get__") (.builtin "object.__class__")) := by
  obtain ⟨cd, hc, _⟩ := any_some T.hd
  simp [findObj, hc, T.ha, T.hn, T.ht]
theorem ask_cls (T : L2.ExcC K D) {Q : Option Value → Shared → Prop} (X : K.In s.heap) (I : InstAt s.heap x ox D od) (h : Q (some (.ref D)) { s with toks := s.toks + 1 }) : wpAny (model prog w) A (getAttr? (.ref x) "__class__") Q E s := by
  obtain ⟨hp, g, d, t, os⟩ := s
  have ty := I.type (M := model prog w)
  have ow := looks_findIn (M := model prog w) X T.hg
  have fb := looks_findIn (M := model prog w) X T.hk
  have at_ := looks_find (M := model prog w) X I (find_cls T)
  have ex : Looks (model prog w) hp (isInstance (.ref x) (.type "BaseException")) true := ty.andThen (looks_subIn X T.hs)
  have ne1 : (Value.builtin "BaseException.__getattribute__" == Value.builtin "object.__getattribute__") = false := by decide +kernel
  have ne2 : (onTheHeap (Value.ref D) && Value.builtin "BaseException.__getattribute__" == Value.builtin "object.__getattribute__") = false := by rw [ne1]; rfl
  unfold getAttr? getAttrBy?; unfold getAttrBy
  refine wpAny_bind (wpAny_mkText (wpAny_bind (wpAny_attempt (wpAny_holding (wpAny_bind (ty.at (wpAny_bind (ow.at ?_)))))))); show wpAny _ _ (if (onTheHeap (Value.ref D) && Value.builtin "BaseException.__getattribute__" == Value.builtin "object.__getattribute__") = true then _ else _) _ _ _
  rw [ne2, if_neg Bool.false_ne_true]; unfold getAttrByItsOwn; unfold hookBefore
  refine wpAny_bind ?_; rw [if_pos (show onTheHeap (Value.ref D) = true by rfl)]
  refine fb.at (wpAny_bind (wpAny_attempt (wpAny_holding ?_)))
  unfold callGetattribute; rw [show (false && onTheHeap (Value.builtin "BaseException.__getattribute__")) = false by rfl, if_neg Bool.false_ne_true]; unfold boundAndCalled
  rw [PySem.F.excAttr_ValueError.ga.bind (.ref x)]; refine wpAny_bind (wpAny_pure ?_)
  show wpAny _ _ (call (.builtin "BaseException.__getattribute__") [.ref x, .str "__class__" t]) _ _ _; refine wpAny_call (codeAny_call_builtin PySem.F.excAttr_ValueError.ga.plain PySem.F.entry_bexc_ga ?_)
  refine @check_slot (model prog w) _ _ ⟨hp, g, d, t + 1, os⟩ "BaseException.__getattribute__" "BaseException"
    "__getattribute__" (.ref x) [.str "__class__" t] [] _ (by decide +kernel) (by decide +kernel) ex
    (PySem.F.args_bexc_ga (.ref x) (.str "__class__" t)) ?_
  unfold Builtin.«object.__getattribute__»; refine wpAny_bind (wpAny_of_eq (a := ((Value.ref x : Value), [Value.str "__class__" t])) (by first | rfl | (simp only [slotArgs]; rfl)) ?_); refine wpAny_bind (wpAny_pure (wpAny_bind (ty.at (wpAny_bind (at_.at ?_)))))
  show wpAny _ _ (holding [Value.builtin "object.__class__"] (call (.builtin "getset_descriptor.__get__") [.builtin "object.__class__", .ref x, .ref D]) >>= ret) _ _ _; refine wpAny_bind (wpAny_holding (wpAny_call (class_get (s := ⟨hp, g, d, t + 1, os⟩) (ox := ox) (od := od) X I T.hm ?_))); refine wpAny_pure ?_
  show wpAny _ _ (handedOut (.ref D)) _ _ _
  rw [handedOut_of (v := .ref D) rfl]
  first
    | exact wpAny_pure (wpAny_pure h) | exact wpAny_pure h | exact wpAny_pure (wpAny_bind (wpAny_pure (wpAny_pure h)))
theorem kit_err (T : L2.ExcC K D) : KitX K (.ref x) (.ref D) (fun h => InstAt h x ox D od) where
  ty := fun _ _ _ I => I.type
  ca := fun X I k => ask_cls T X I k
  it := fun _ _ X _ => by
    obtain ⟨cd, hc, _⟩ := any_some T.hd; unfold clsIn at hc
    split at hc
    · next ho => exact fun A' Q' E' s' k q => by unfold isType; unfold loadHead; exact wpAny_bind (wpAny_loadPart (k _ _ (X _ _ ho)) (wpAny_pure q))
    · cases hc
  ne := fun h tp dd its n sl X htp => by
    obtain ⟨cd, hc, _⟩ := any_some T.hd; unfold clsIn at hc
    refine Bool.eq_false_iff.mpr fun q => ?_
    obtain rfl : D = tp := Value.ref.inj (beq_iff_eq.mp q)
    split at hc
    · next ho => have z := (X _ _ ho).symm.trans htp; cases z
    · cases hc
end
/-- isinstance(e, c), e the error that the suite holds at a -/
def rIsD (K : PySem.W.Frag) (k : Value) (a : Addr) (d : Option Addr) : List V → Hp → VK → Prop := fun xs H Q => ∃ (c : V) (cv : Value) (b : Bool), xs = [.ref a, c] ∧ (∀ u, RelV c u → u = cv) ∧ PySem.W.kitOne K k cv = some b ∧ (∃ D, k = .ref D ∧ L2.ExcC K D) ∧ (∀ dd, d = some dd → ∃ gs, H dd = some (.xd gs)) ∧ Q (.bl b) H
theorem call_isD {X : Cx} {a : Addr} {k : Value} {d : Option Addr} {oe : Obj} {pn : List (Addr × Obj)} (hz : Zc k d oe) (hf : ∃ vs, oe.data = .fields vs) : CallR (X.suite a ((a, oe) :: pn)) (.builtin "isinstance") (rIsD X.K k a d) := by
  intro pins s σ H xs us Q I r h
  obtain ⟨c, cv, b, rfl, hcv, e, ⟨D, rfl, C⟩, hd, q⟩ := h
  cases r with
  | cons rx rr =>
    cases rr with
    | cons rt rr =>
      cases rr
      cases rx
      have ec := hcv _ rt
      subst ec
      obtain ⟨hget, _⟩ := I.pin (a, oe) (List.mem_append_left pins List.mem_cons_self)
      obtain ⟨vs, hv⟩ := hf
      obtain ⟨oc, odd, oda, osl⟩ := oe
      obtain ⟨h1, h2⟩ := hz
      dsimp only at h1 h2 hv
      subst h1 h2 hv
      have J : ∃ od, PySem.W.InstAt s.heap a ⟨.ref D, odd, .fields vs, osl⟩ D od := by
        cases odd with
        | none => exact ⟨none, hget, rfl, rfl, trivial⟩
        | some dd =>
          obtain ⟨gs, hg⟩ := hd dd rfl
          obtain ⟨mA, ⟨oD, es, ep, ho, _⟩, _⟩ := (show ObjOk X.prog X.w H s.heap dd (.xd gs) from I.hok dd _ hg)
          exact ⟨some oD, hget, rfl, rfl, ho⟩
      obtain ⟨od, J⟩ := J
      exact PySem.W.kia_one (kit_err C) I.kIn J e (fun z => nomatch z) fun tk => ⟨.bl b, H, I.kept (t' := tk) fun _ _ z => z, rfl, q⟩
end GT

/-! instances: made, their methods, len, ==, !=, in, + of own classes; with exceptions. -/
namespace GT
open PySem PySem.Spec PyProof.Rows L2 L2N
section
variable {X : Cx} {CX : CXT} {k : Nat} {f C : Addr} {fd : FuncData} {ps : List PySem.Str} {sp : Sp} {E : L2.St → XK} {pins : List (Addr × Obj)} {σ : L2.St} {H : Hp} {s : Shared} {A : Around}
/-- a def run where we stand, or within a built-in -/
theorem own_run {E : XK} {Q : VK} {us : List Value} {vs : List V} (F : FnOk X.prog X.w X.K X.mg X.base CX k f fd ps sp) (hr : Room k A) (hA : A.frames = X.A.frames) (hb : Binds X.K fd ps []) (hx : PassesAt CX X σ E)
    (I : Inv X pins σ H s) (r : Vals vs us) (h : sp vs H Q E) : wpAny (model X.prog X.w) A (call (.ref f) us) (EP X pins σ Q) X.xe s := by
  have hl : us.length = ps.length := by rw [← r.length]; exact F.len _ _ _ _ h
  have b := hb s us I.kIn (by simpa using hl)
  rw [List.append_nil] at b
  have e1 := I.env0
  have e0 : Env0 X.prog X.w X.K X.mg X.base A X.stack s H := ⟨hA.trans e1.frames, e1.mod, e1.bs, e1.bsz, e1.funs, e1.frf, e1.hok, e1.bare⟩
  refine wpAny_call (codeAny_mono (F.run A X.stack s H ⟨us, []⟩ us vs Q E hr e0 b r h) fun w s' hq => ?_)
  cases w with
  | error e => exact hx pins H s e s' I hq
  | ok fl =>
    cases fl with
    | ret u => exact I.after hq
    | _ => exact hq.elim
/-- C(..) -/
def tMakeS (C : Addr) (sp : Sp) (E : L2.St → XK) (t : TA) : TE := fun σ H Q => t σ H fun vs G => ∀ x dx, G x = none → G dx = none → dx ≠ x → sp (.ref x :: vs) (upd (upd G dx (.own x)) x (.ins C dx [])) (fun v G2 => v = .non ∧ Q (.ref x) G2) (E σ)
theorem pe_makeS {x : PySem.Str} {p pos : Pos} {e : Expr} {es : List Expr} {t : TA} (M : Mk X.K C f) (F : FnOk X.prog X.w X.K X.mg X.base CX k f fd ps sp) (hr : Room (k + 1) X.A) (hg : Gl X x) (hm : X.mg x = some (.ref C)) (hb : Binds X.K fd ps []) (hx : ∀ σ, PassesAt CX X σ (E σ))
    (ha : PA X (e :: es) t) (hdb : (x == ("__debug__" : PySem.Str)) = false := by decide) (he : starEach (e :: es) X.env = (false, eval e X.env) :: starEach es X.env := by rfl) (hpl : (backTo pos (starEach es X.env)).any (·.1) = false := by rfl) :
    PE X (.Call (.Name x p) (e :: es) [] pos) (tMakeS C sp E t) := by
  refine ⟨fun pins s σ H Q I h => wpAny_Call_Name_kw (ld_glob I hg hm ?_ hdb)⟩
  refine PySem.W.callWith_K (h₀ := X.base) I.ok.mod.kin M.kp (thn (ha.run pos pins s σ H _ I h) fun us s1 ⟨vs, G, J, r, q⟩ => ⟨J.kIn, ?_⟩) he hpl
  have z := s1.heap.objs.size
  have q1 := q (s1.heap.objs.size + 1) s1.heap.objs.size (J.hok.fresh (Nat.le_succ _)) (J.hok.fresh (Nat.le_refl _)) (Nat.ne_of_lt (Nat.lt_succ_self _))
  have J2 := Inv.made (C := C) J
  have r2 : Vals (V.ref (s1.heap.objs.size + 1) :: vs) (Value.ref (s1.heap.objs.size + 1) :: us) := .cons rfl r
  have hl : (Value.ref (s1.heap.objs.size + 1) :: us).length = ps.length := by
    rw [← r2.length]
    exact F.len _ _ _ _ q1
  have b := hb _ (Value.ref (s1.heap.objs.size + 1) :: us) J2.kIn (by simpa using hl)
  rw [List.append_nil] at b
  refine wpAny_call (make_map (f := f) J.kIn M.makes M.init (beq_iff_eq.mp M.fn) (codeAny_mono (F.run _ X.stack _ _ ⟨Value.ref (s1.heap.objs.size + 1) :: us, []⟩ _ _ _ (E σ) (hr.make C us []) (J2.env0.make C us []) b r2 q1) fun w s' hq => ?_))
  cases w with
  | error u => exact hx σ pins _ _ u s' J2 hq
  | ok fl =>
    cases fl with
    | ret u =>
      obtain ⟨v, G2, J3, rv, ev, q3⟩ := J2.after hq
      subst ev
      exact ⟨rv, ⟨V.ref (s1.heap.objs.size + 1), G2, J3, rfl, q3⟩⟩
    | _ => exact hq.elim
/-- o.m(..) -/
def tMethO (C : Addr) (m : PySem.Str) (sp : Sp) (E : L2.St → XK) (ta : TE) (t : TA) : TE := fun σ H Q => ta σ H fun x G => ∃ a dx fs, x = .ref a ∧ G a = some (.ins C dx fs) ∧ fs.lookup m = none ∧ t σ G fun vs G2 => sp (x :: vs) G2 Q (E σ)
theorem pe_methO {m : PySem.Str} {apos pos : Pos} {o e : Expr} {es : List Expr} {ta : TE} {t : TA} {pl : Sem Bool} (he : PE X o ta) (c : Cls X.K C) (hm : Meth X.K C m f) (F : FnOk X.prog X.w X.K X.mg X.base CX k f fd ps sp) (hr : Room k X.A) (hb : Binds X.K fd ps []) (hx : ∀ σ, PassesAt CX X σ (E σ)) (ha : PA X (e :: es) t)
    (hst : starEach (e :: es) X.env = (false, eval e X.env) :: starEach es X.env := by rfl) (hpl : (backTo pos (starEach es X.env)).any (·.1) = false := by rfl)
    (ht : eval (.Call (.Attribute o m apos) (e :: es) [] pos) X.env = (do
      let ov ← eval o X.env
      standAt apos.atName
      let (g, first) ← holding [ov] (getMethod ov m pl)
      callWith pos g first (backTo pos (starEach (e :: es) X.env)) (backToKw pos (keywordEach [] X.env))) := by rfl) :
    PE X (.Call (.Attribute o m apos) (e :: es) [] pos) (tMethO C m sp E ta t) := by
  refine ⟨fun pins s σ H Q I h => PySem.W.methodCall_KW (pl := pl) (thn (he.run pins s σ H _ I h) fun u s1 ⟨x, G, J, rx, a, dx, fs, ex, ea, l, q⟩ => ?_) ht⟩
  subst ex
  obtain rfl : u = Value.ref a := rx
  refine getmeth_ok J ea c hm l ?_
  refine PySem.W.callWith_K (first := [.ref a]) (h₀ := X.base) J.ok.mod.kin hm.kp (thn (ha.run pos pins s1 σ G _ J q) fun us s2 ⟨vs, G2, J2, r, q2⟩ => ⟨J2.kIn, ?_⟩) hst hpl
  exact own_run (us := .ref a :: us) (vs := .ref a :: vs) F hr rfl hb (hx σ) J2 (.cons rfl r) q2
theorem pe_methO0 {m : PySem.Str} {apos pos : Pos} {o : Expr} {ta : TE} {pl : Sem Bool} (he : PE X o ta) (c : Cls X.K C) (hm : Meth X.K C m f) (F : FnOk X.prog X.w X.K X.mg X.base CX k f fd ps sp) (hr : Room k X.A) (hb : Binds X.K fd ps []) (hx : ∀ σ, PassesAt CX X σ (E σ))
    (ht : eval (.Call (.Attribute o m apos) [] [] pos) X.env = (do
      let ov ← eval o X.env
      standAt apos.atName
      let (g, first) ← holding [ov] (getMethod ov m pl)
      callWith pos g first (backTo pos (starEach [] X.env)) (backToKw pos (keywordEach [] X.env))) := by rfl) :
    PE X (.Call (.Attribute o m apos) [] [] pos) (tMethO C m sp E ta tNil) := by
  refine ⟨fun pins s σ H Q I h => PySem.W.methodCall_KW (pl := pl) (thn (he.run pins s σ H _ I h) fun u s1 ⟨x, G, J, rx, a, dx, fs, ex, ea, l, q⟩ => ?_) ht⟩
  subst ex
  obtain rfl : u = Value.ref a := rx
  refine getmeth_ok J ea c hm l ?_
  exact PySem.W.callWith_K0 (first := [.ref a]) J.kIn hm.kp (own_run (us := [.ref a]) (vs := [.ref a]) F hr rfl hb (hx σ) J (.cons rfl .nil) q)
/-! len, comparison, in, + -/
def InsV (H : Hp) (C : Addr) (x : V) : Prop := ∃ a dx fs, x = .ref a ∧ H a = some (.ins C dx fs)
theorem insV_at {x : V} {u : Value} (I : Inv X pins σ H s) (h : InsV H C x) (r : RelV x u) : ∃ a dx od, x = .ref a ∧ u = .ref a ∧ PySem.W.InstAt s.heap a (PySem.W.instObj C dx) C (some od) := by
  obtain ⟨a, dx, fs, rfl, ha⟩ := h
  obtain ⟨mA, J, _⟩ := ins_get I.hok ha
  obtain ⟨od, J, _⟩ := J.look
  exact ⟨a, dx, od, rfl, r, J⟩
def rLenO (C : Addr) (sp : Sp) (E : XK) : List V → Hp → VK → Prop := fun xs H Q => ∃ x, xs = [x] ∧ InsV H C x ∧ sp [x] H (fun v G => ∃ n : Int, v = .int n ∧ 0 ≤ n ∧ n < 2 ^ 63 ∧ Q (.int n) G) E
theorem cr_lenO {E : XK} (F : FnOk X.prog X.w X.K X.mg X.base CX k f fd ps sp) (hr : Room (k + 1) X.A) (hs : PySem.W.findIn X.K (.ref C) "__len__" = some (some (.ref f))) (hf : PySem.W.isFn X.K (.ref f) = true) (hb : Binds X.K fd ps []) (hx : ∀ σ, PassesAt CX X σ E) :
    CallR X (.builtin "len") (rLenO C sp E) := by
  intro pins s σ H xs us Q I r h
  obtain ⟨x, rfl, hi, q⟩ := h
  cases r with
  | cons rx rn =>
    cases rn
    obtain ⟨a, dx, od, rfl, rfl, J⟩ := insV_at I hi rx
    obtain ⟨m, hF⟩ := I.fr
    refine PySem.W.len_K hF I.ok.mod.kin J hs hf (wpAny_mono (own_run (us := [.ref a]) (vs := [.ref a]) F hr.in1 rfl hb (hx σ) I (.cons rfl .nil) q) (fun v s' z => ?_) fun _ _ z => z)
    obtain ⟨d, G, J2, rd, n, rfl, h0, h1, q2⟩ := z
    obtain ⟨t, rfl⟩ : ∃ t, v = Value.int n t := rd
    exact ⟨⟨h0, h1⟩, .int n, G, J2.tok _, ⟨_, rfl⟩, q2⟩
def rCmpO (C : Addr) (sp : Sp) (E : XK) : R2 := fun x y H Q => InsV H C x ∧ InsV H C y ∧ sp [x, y] H Q E
theorem op_eqO {E : XK} (F : FnOk X.prog X.w X.K X.mg X.base CX k f fd ps sp) (hr : Room k X.A) (hs : PySem.W.findIn X.K (.ref C) "__eq__" = some (some (.ref f))) (hf : PySem.W.isFn X.K (.ref f) = true) (hb : Binds X.K fd ps []) (hx : ∀ σ, PassesAt CX X σ E) :
    OpR X (compareOp .Eq) (rCmpO C sp E) := by
  intro pins s σ H x y v u Q I rx ry h
  obtain ⟨hi, hj, q⟩ := h
  obtain ⟨a, dx, od, rfl, rfl, J⟩ := insV_at I hi rx
  obtain ⟨b, dy, od2, rfl, rfl, J2⟩ := insV_at I hj ry
  obtain ⟨m, hF⟩ := I.fr
  refine PySem.W.cmp_K (op := .Eq) (tb := .ref C) hr.units0 hF I.ok.mod.kin J J2.type (by simp [PySem.W.notFirst]) hs hf (wpAny_mono (own_run (us := [.ref a, .ref b]) (vs := [.ref a, .ref b]) F hr rfl hb (hx σ) I (.cons rfl (.cons rfl .nil)) q) (fun w s' z => ?_) fun _ _ z => z)
  obtain ⟨d, G, J3, rd, qd⟩ := z
  exact SlX.cmpback rd ⟨d, G, J3, rd, qd⟩
def rInO (C : Addr) (neg : Bool) (sp : Sp) (E : XK) : R2 := fun x y H Q => InsV H C y ∧ sp [y, x] H (fun v G => ∃ b, v = .bl b ∧ Q (.bl (if neg then !b else b)) G) E
theorem op_inO {E : XK} (F : FnOk X.prog X.w X.K X.mg X.base CX k f fd ps sp) (hr : Room k X.A) (hs : PySem.W.findIn X.K (.ref C) "__contains__" = some (some (.ref f))) (hf : PySem.W.isFn X.K (.ref f) = true) (hb : Binds X.K fd ps []) (hx : ∀ σ, PassesAt CX X σ E) :
    OpR X (compareOp .In) (rInO C false sp E) := by
  intro pins s σ H x y v u Q I rx ry h
  obtain ⟨hi, q⟩ := h
  obtain ⟨a, dx, od, rfl, rfl, J⟩ := insV_at I hi ry
  obtain ⟨m, hF⟩ := I.fr
  refine PySem.W.in_K hF I.ok.mod.kin J hs hf (wpAny_mono (own_run (us := [.ref a, v]) (vs := [.ref a, x]) F hr rfl hb (hx σ) I (.cons rfl (.cons rx .nil)) q) (fun w s' z => ?_) fun _ _ z => z)
  obtain ⟨d, G, J2, rd, b, rfl, q2⟩ := z
  obtain rfl : w = Value.bool b := rd
  exact wpAny_pure ⟨.bl b, G, J2, rfl, q2⟩
theorem op_notinO {E : XK} (F : FnOk X.prog X.w X.K X.mg X.base CX k f fd ps sp) (hr : Room k X.A) (hs : PySem.W.findIn X.K (.ref C) "__contains__" = some (some (.ref f))) (hf : PySem.W.isFn X.K (.ref f) = true) (hb : Binds X.K fd ps []) (hx : ∀ σ, PassesAt CX X σ E) :
    OpR X (compareOp .NotIn) (rInO C true sp E) := by
  intro pins s σ H x y v u Q I rx ry h
  obtain ⟨hi, q⟩ := h
  obtain ⟨a, dx, od, rfl, rfl, J⟩ := insV_at I hi ry
  obtain ⟨m, hF⟩ := I.fr
  refine PySem.W.notIn_K hF I.ok.mod.kin J hs hf (wpAny_mono (own_run (us := [.ref a, v]) (vs := [.ref a, x]) F hr rfl hb (hx σ) I (.cons rfl (.cons rx .nil)) q) (fun w s' z => ?_) fun _ _ z => z)
  obtain ⟨d, G, J2, rd, b, rfl, q2⟩ := z
  obtain rfl : w = Value.bool b := rd
  exact wpAny_pure ⟨.bl (!b), G, J2, rfl, q2⟩
/-- o + p of one own class, which may raise -/
def tAddO (C : Addr) (sp : Sp) (E : L2.St → XK) (ta tb : TE) : TE := fun σ H Q => ta σ H fun x G => tb σ G fun y G2 => InsV G2 C x ∧ InsV G2 C y ∧ sp [x, y] G2 Q (E σ)
theorem pe_addO {a b : Expr} {ta tb : TE} {pos : Pos} (F : FnOk X.prog X.w X.K X.mg X.base CX k f fd ps sp) (hr : Room k X.A) (hc : PySem.W.selfFirst X.K C = true) (hs : PySem.W.findIn X.K (.ref C) "__add__" = some (some (.ref f))) (hf : PySem.W.isFn X.K (.ref f) = true) (hb : Binds X.K fd ps []) (hx : ∀ σ, PassesAt CX X σ (E σ))
    (ha : PE X a ta) (hb2 : PE X b tb) : PE X (.BinOp a .Add b pos) (tAddO C sp E ta tb) := by
  refine ⟨fun pins s σ H Q I h => wpAny_BinOp (binT ha hb2 I h fun v u s2 x y G J rx ry q => ?_)⟩
  obtain ⟨hi, hj, q⟩ := q
  obtain ⟨a1, dx, od, rfl, rfl, J1⟩ := insV_at J hi rx
  obtain ⟨b1, dy, od2, rfl, rfl, J2⟩ := insV_at J hj ry
  obtain ⟨m, hF⟩ := J.fr
  refine PySem.W.binop_K (op := .Add) hF J.ok.mod.kin J1 J2.type hc hs hf (wpAny_mono (own_run (us := [.ref a1, .ref b1]) (vs := [.ref a1, .ref b1]) F hr rfl hb (hx σ) J (.cons rfl (.cons rfl .nil)) q) (fun w s' z => ?_) fun _ _ z => z)
  obtain ⟨d, G2, J3, rd, qd⟩ := z
  exact SlX.cmpback rd ⟨d, G2, J3, rd, qd⟩
end
end GT

/-! != by an own ==. -/
namespace GT
open PySem PySem.Spec PyProof.Rows L2 L2N
section
open PySem.W
variable {prog : Program} {w : World} {A : Around} {E : Value → Shared → Prop} {s : Shared} {K : PySem.W.Frag} {x y C f : Addr} {ox : Obj} {od : Option Obj}
theorem neK_entry (X : K.In s.heap) (I : InstAt s.heap x ox C od) (he : findIn K (.ref C) "__eq__" = some (some (.ref f))) (hf : isFn K (.ref f) = true) (hu : A.units < cLine) {Q : Fin → Shared → Prop}
    (hc : wpAny (model prog w) A (call (.ref f) [.ref x, .ref y]) (fun v s' => ∃ b, v = .bool b ∧ Q (.done (.ret (.bool (!b)))) s') E s) :
    wpAny (model prog w) A (Builtin.«object.__ne__» ⟨[.ref x, .ref y], []⟩) Q E s := by
  obtain ⟨hp, g, d, t, os⟩ := s
  unfold Builtin.«object.__ne__»
  refine wpAny_bind (wpAny_of_eq (a := ((Value.ref x : Value), [Value.ref y])) (by first | rfl | (simp only [slotArgs]; rfl)) ?_)
  dsimp only
  refine wpAny_bind (wpAny_cRoomFor hu ?_)
  refine wpAny_bind (m := callSpecialIfBound? (.ref x) (PySem.Str.ofString "__eq__") [.ref y]) (ifBound_K X I he hf (wpAny_mono hc (fun v s' hv => ?_) fun _ _ z => z))
  obtain ⟨b, rfl, q⟩ := hv
  first
    | exact wpAny_bind (wpAny_truthy_bool (wpAny_pure q)) | exact wpAny_bind (wpAny_bind (wpAny_truthy_bool (wpAny_pure (wpAny_pure q))))
    | (refine wpAny_bind (wpAny_truthy_bool ?_); exact wpAny_pure q)
theorem neK (X : K.In s.heap) (I : InstAt s.heap x ox C od) {oy : Obj} {od2 : Option Obj} (J : InstAt s.heap y oy C od2) (hn : findIn K (.ref C) "__ne__" = some (some (.builtin "object.__ne__"))) (ho : mroIn K C (.type "object") = some true)
    (he : findIn K (.ref C) "__eq__" = some (some (.ref f))) (hf : isFn K (.ref f) = true) (hu : A.units + 1 < cLine) {Q : Value → Shared → Prop}
    (hc : wpAny (model prog w) A.in1 (call (.ref f) [.ref x, .ref y]) (fun v s' => ∃ b, v = .bool b ∧ Q (.bool (!b)) s') E s) : wpAny (model prog w) A (compareOp .NotEq (.ref x) (.ref y)) Q E s := by
  unfold compareOp; unfold richCompare
  simp only [oneThing_ref]
  refine wpAny_holding (wpAny_bind (wpAny_cRoomFor (Nat.lt_of_succ_lt hu) ?_))
  rw [cmpInfo_NotEq]; dsimp only
  refine wpAny_bind (I.type.here (wpAny_bind (J.type.here ?_)))
  rw [show (Value.ref C != Value.ref C) = false by simp]; simp only [Bool.false_eq_true, if_false]
  refine wpAny_bind (wpAny_pure ?_); simp only [Bool.false_eq_true, if_false]
  have isO : Looks (model prog w) s.heap (isInstance (.ref x) (.type "object")) true := I.type.andThen (looks_mroIn X ho)
  have cl : wpAny (model prog w) A (call (.builtin "object.__ne__") [.ref x, .ref y]) (fun v s' => ∃ b, v = .bool b ∧ Q (.bool b) s') E s := by
    refine wpAny_call (codeAny_call_builtin PySem.F.cmp_object.ne.plain PySem.F.cmpEntry_ne (check_slot PySem.F.cmpKind_ne PySem.F.cmpSplit_ne isO (PySem.F.cmpArgs_ne _ _) (neK_entry X I he hf hu (wpAny_mono hc (fun v s' hv => ?_) fun _ _ z => z))))
    obtain ⟨b, rfl, q⟩ := hv
    exact ⟨b, rfl, !b, rfl, q⟩
  refine wpAny_bind (m := tryCompare (.ref x) (PySem.Str.ofString "__ne__") (.ref y)) ?_
  unfold tryCompare; refine wpAny_bind ?_
  simp only [callSpecialIfBound?, bindSpecialIfBound?]
  refine wpAny_holding (wpAny_bind (wpAny_bind (wpAny_bind (I.type.here ((looks_findIn X hn).here ?_)))))
  simp only [PySem.F.cmp_object.ne.bind]; refine wpAny_bind (wpAny_askSetting (wpAny_ite ?_))
  have fin : ∀ {Q' : Option Value → Shared → Prop}, (∀ b s', Q (.bool b) s' → Q' (some (.bool b)) s') → wpAny (model prog w) A (call (.builtin "object.__ne__") ([.ref x] ++ [.ref y]) >>= fun v => pure (some v)) Q' E s := fun hq =>
    wpAny_bind (wpAny_mono cl (fun v s' z => (fun ⟨b, e, q⟩ => by subst e; exact wpAny_pure (hq b s' q)) z) fun _ _ z => z)
  split
  · exact wpAny_bind (wpAny_pure (wpAny_pure (fin fun b s' q => wpAny_pure (wpAny_pure q))))
  · exact wpAny_tryCatch (wpAny_bind (wpAny_pure (wpAny_pure (fin fun b s' q => wpAny_pure (wpAny_pure q)))))
end
section
variable {X : Cx} {CX : CXT} {k : Nat} {f C : Addr} {fd : FuncData} {ps : List PySem.Str} {sp : Sp}
def rNeO (C : Addr) (sp : Sp) (E : XK) : R2 := fun x y H Q => InsV H C x ∧ InsV H C y ∧ sp [x, y] H (fun v G => ∃ b, v = .bl b ∧ Q (.bl (!b)) G) E
theorem op_neO {E : XK} (F : FnOk X.prog X.w X.K X.mg X.base CX k f fd ps sp) (hr : Room (k + 1) X.A) (hn : PySem.W.findIn X.K (.ref C) "__ne__" = some (some (.builtin "object.__ne__"))) (ho : PySem.W.mroIn X.K C (.type "object") = some true)
    (hs : PySem.W.findIn X.K (.ref C) "__eq__" = some (some (.ref f))) (hf : PySem.W.isFn X.K (.ref f) = true) (hb : Binds X.K fd ps []) (hx : ∀ σ, PassesAt CX X σ E) :
    OpR X (compareOp .NotEq) (rNeO C sp E) := by
  intro pins s σ H x y v u Q I rx ry h
  obtain ⟨hi, hj, q⟩ := h
  obtain ⟨a, dx, od, rfl, rfl, J⟩ := insV_at I hi rx
  obtain ⟨b, dy, od2, rfl, rfl, J2⟩ := insV_at I hj ry
  have hu := hr.units
  refine neK I.kIn J J2 hn ho hs hf (by omega) (wpAny_mono (own_run (us := [.ref a, .ref b]) (vs := [.ref a, .ref b]) F hr.in1 rfl hb (hx σ) I (.cons rfl (.cons rfl .nil)) q) (fun w s' z => ?_) fun _ _ z => z)
  obtain ⟨d, G, J3, rd, c, rfl, qd⟩ := z
  exact ⟨c, rd, .bl (!c), G, J3, rfl, qd⟩
end
end GT

/-! The abstract machine: data, store, results; the relation to the layer's heap; the readings' mirrors. -/
namespace G
open PySem PySem.Spec PyProof.Rows L2

/-- a datum: tuples by value, mutable things by their place in the store -/
inductive D where
  | non | bl (b : Bool) | int (i : Int) | str (x : PySem.Str) | ty (n : String) | tup (l : List D) | fzl (l : List D) | ref (n : Nat)
mutual
def D.beq : D → D → Bool
  | .non, .non => true
  | .bl a, .bl b => a == b
  | .int a, .int b => decide (a = b)
  | .str a, .str b => decide (a = b)
  | .ty a, .ty b => decide (a = b)
  | .tup a, .tup b => D.beqs a b
  | .fzl a, .fzl b => D.beqs a b
  | .ref a, .ref b => decide (a = b)
  | _, _ => false
def D.beqs : List D → List D → Bool
  | [], [] => true
  | a :: r, b :: t => D.beq a b && D.beqs r t
  | _, _ => false
end
mutual
theorem D.beq_iff : ∀ a b : D, D.beq a b = true ↔ a = b
  | .non, b => by cases b <;> simp [D.beq]
  | .bl x, b => by cases b <;> simp [D.beq]
  | .int x, b => by cases b <;> simp [D.beq]
  | .str x, b => by cases b <;> simp [D.beq]
  | .ty x, b => by cases b <;> simp [D.beq]
  | .tup x, b => by cases b <;> simp [D.beq]; exact D.beqs_iff x _
  | .fzl x, b => by cases b <;> simp [D.beq]; exact D.beqs_iff x _
  | .ref x, b => by cases b <;> simp [D.beq]
theorem D.beqs_iff : ∀ a b : List D, D.beqs a b = true ↔ a = b
  | [], b => by cases b <;> simp [D.beqs]
  | x :: r, [] => by simp [D.beqs]
  | x :: r, y :: t => by simp only [D.beqs, Bool.and_eq_true, D.beq_iff x y, D.beqs_iff r t, List.cons.injEq]
end
instance : DecidableEq D := fun a b => decidable_of_iff _ (D.beq_iff a b)
inductive O where
  | lst (xs : List D)
  | ins (c : Nat) (fs : List (PySem.Str × D))
  deriving DecidableEq
abbrev Store := List O
/-- how a run ends -/
inductive Rs (α : Type) where
  | ok (a : α) (h : Store)
  | exc (c : Nat) (fs : Option (List (PySem.Str × D))) (h : Store)
  | stuck
abbrev M (α : Type) := Store → Rs α
def ret {α : Type} (a : α) : M α := fun h => .ok a h
def stuck {α : Type} : M α := fun _ => .stuck
def bnd {α β : Type} (m : M α) (f : α → M β) : M β := fun h => match m h with
  | .ok a h' => f a h'
  | .exc c fs h' => .exc c fs h'
  | .stuck => .stuck
abbrev Env := List (Option D)

section
variable (K : PySem.W.Frag) (cls : Nat → Addr)
/-- a list that nothing changes -/
def FzL (H : Hp) (a : Addr) (xs : List V) : Prop := (∃ o, H a = some (.frz o (.lst xs))) ∨
  ∃ (o : Obj) (its : Array Value) (n : Nat), K.lookup a = some o ∧ o.cls = .type "list" ∧ o.dict = none ∧ o.data = .seq its n ∧ its.size ≤ sizeLine ∧ Vals xs its.toList
theorem FzL.sq {H : Hp} {a : Addr} {xs : List V} (q : FzL K H a xs) : SqL K H a xs := by
  rcases q with ⟨o, q⟩ | q
  · exact .inl (.inr ⟨o, q⟩)
  · exact .inr q
mutual
inductive Rep (H : Hp) (μ : List Addr) : V → D → Prop
  | non : Rep H μ .non .non
  | bl (b : Bool) : Rep H μ (.bl b) (.bl b)
  | int (i : Int) : Rep H μ (.int i) (.int i)
  | str (x : PySem.Str) : Rep H μ (.str x) (.str x)
  | ty (n : String) : Rep H μ (.ty n) (.ty n)
  | tup {a : Addr} {xs : List V} {ds : List D} : SqT K H a xs → RepAll H μ xs ds → Rep H μ (.ref a) (.tup ds)
  | fzl {a : Addr} {xs : List V} {ds : List D} : FzL K H a xs → RepAll H μ xs ds → Rep H μ (.ref a) (.fzl ds)
  | ref {n : Nat} {a : Addr} : μ[n]? = some a → Rep H μ (.ref a) (.ref n)
inductive RepAll (H : Hp) (μ : List Addr) : List V → List D → Prop
  | nil : RepAll H μ [] []
  | cons {v : V} {vs : List V} {d : D} {ds : List D} : Rep H μ v d → RepAll H μ vs ds → RepAll H μ (v :: vs) (d :: ds)
end
inductive RepF (H : Hp) (μ : List Addr) : List (PySem.Str × V) → List (PySem.Str × D) → Prop
  | nil : RepF H μ [] []
  | cons {f : PySem.Str} {v : V} {d : D} {vs : List (PySem.Str × V)} {ds : List (PySem.Str × D)} : Rep K H μ v d → RepF H μ vs ds → RepF H μ ((f, v) :: vs) ((f, d) :: ds)
def ObjR (H : Hp) (μ : List Addr) (a : Addr) : O → Prop
  | .lst ds => ∃ xs, H a = some (.lst xs) ∧ RepAll K H μ xs ds
  | .ins c fs => ∃ dx gs, H a = some (.ins (cls c) dx gs) ∧ RepF K H μ gs fs
structure Cfg (μ : List Addr) (H : Hp) (h : Store) : Prop where
  len : μ.length = h.length
  nd : μ.Nodup
  obj : ∀ (n : Nat) (o : O) (a : Addr), h[n]? = some o → μ[n]? = some a → ObjR K cls H μ a o
end
/-- what was known stays: the store's places, and all that is tracked outside of the store -/
structure Ext (μ : List Addr) (H : Hp) (μ' : List Addr) (H' : Hp) : Prop where
  pre : ∃ l, μ' = μ ++ l
  fr : ∀ a o, H a = some o → a ∉ μ → H' a = some o ∧ a ∉ μ'
  mt : ∀ a ∈ μ', a ∈ μ ∨ H a = none

theorem Ext.refl (μ : List Addr) (H : Hp) : Ext μ H μ H := ⟨⟨[], by simp⟩, fun _ _ h n => ⟨h, n⟩, fun _ h => .inl h⟩
theorem Ext.trans {μ μ1 μ2 : List Addr} {H H1 H2 : Hp} (a : Ext μ H μ1 H1) (b : Ext μ1 H1 μ2 H2) : Ext μ H μ2 H2 := by
  obtain ⟨l, e⟩ := a.pre
  obtain ⟨l', e'⟩ := b.pre
  refine ⟨⟨l ++ l', by rw [e', e, List.append_assoc]⟩, fun x o h n => ?_, fun x hx => ?_⟩
  · obtain ⟨h1, n1⟩ := a.fr x o h n
    exact b.fr x o h1 n1
  · rcases b.mt x hx with q | q
    · exact a.mt x q
    · by_cases hm : x ∈ μ
      · exact .inl hm
      · refine .inr ?_
        cases z : H x with
        | none => rfl
        | some o =>
          have := (a.fr x o z hm).1
          rw [q] at this
          cases this
theorem Ext.at {μ μ' : List Addr} {H H' : Hp} (e : Ext μ H μ' H') {n : Nat} {a : Addr} (h : μ[n]? = some a) : μ'[n]? = some a := by
  obtain ⟨l, rfl⟩ := e.pre
  have hn : n < μ.length := by
    obtain ⟨q, _⟩ := List.getElem?_eq_some_iff.mp h
    exact q
  rw [List.getElem?_append_left hn]
  exact h

section
variable {K : PySem.W.Frag} {cls : Nat → Addr} {μ μ' : List Addr} {H H' : Hp} {h h' : Store}
theorem Cfg.at (c : Cfg K cls μ H h) {n : Nat} {o : O} (e : h[n]? = some o) : ∃ a, μ[n]? = some a ∧ ObjR K cls H μ a o := by
  have hn : n < h.length := by
    obtain ⟨q, _⟩ := List.getElem?_eq_some_iff.mp e
    exact q
  have hm : n < μ.length := by rw [c.len]; exact hn
  exact ⟨μ[n], List.getElem?_eq_getElem hm, c.obj n o _ e (List.getElem?_eq_getElem hm)⟩
theorem Cfg.mut (c : Cfg K cls μ H h) {a : Addr} (ha : a ∈ μ) : (∃ xs, H a = some (.lst xs)) ∨ ∃ C dx fs, H a = some (.ins C dx fs) := by
  obtain ⟨n, hn, e⟩ := List.getElem_of_mem ha
  have hm : n < h.length := by rw [← c.len]; exact hn
  have q := c.obj n h[n] a (List.getElem?_eq_getElem hm) (by rw [List.getElem?_eq_getElem hn, e])
  cases z : h[n] with
  | lst ds => rw [z] at q; obtain ⟨xs, q, _⟩ := q; exact .inl ⟨xs, q⟩
  | ins k fs => rw [z] at q; obtain ⟨dx, gs, q, _⟩ := q; exact .inr ⟨_, dx, gs, q⟩
theorem Cfg.free (c : Cfg K cls μ H h) {p : Addr} (hp : H p = none) : p ∉ μ := fun hm => by
  rcases c.mut hm with ⟨_, q⟩ | ⟨_, _, _, q⟩ <;> (rw [hp] at q; cases q)
theorem Cfg.notup (c : Cfg K cls μ H h) {a : Addr} {xs : List V} (e : H a = some (.tup xs)) : a ∉ μ := fun hm => by
  rcases c.mut hm with ⟨_, q⟩ | ⟨_, _, _, q⟩ <;> (rw [e] at q; cases q)
theorem Cfg.nofrz (c : Cfg K cls μ H h) {a : Addr} {o : Obj} {u : HO} (e : H a = some (.frz o u)) : a ∉ μ := fun hm => by
  rcases c.mut hm with ⟨_, q⟩ | ⟨_, _, _, q⟩ <;> (rw [e] at q; cases q)
theorem sqT_ext (c : Cfg K cls μ H h) (e : Ext μ H μ' H') {a : Addr} {xs : List V} (q : SqT K H a xs) : SqT K H' a xs := by
  rcases q with (q | ⟨o, q⟩) | q
  · exact .inl (.inl (e.fr _ _ q (c.notup q)).1)
  · exact .inl (.inr ⟨o, (e.fr _ _ q (c.nofrz q)).1⟩)
  · exact .inr q
theorem fzL_ext (c : Cfg K cls μ H h) (e : Ext μ H μ' H') {a : Addr} {xs : List V} (q : FzL K H a xs) : FzL K H' a xs := by
  rcases q with ⟨o, q⟩ | q
  · exact .inl ⟨o, (e.fr _ _ q (c.nofrz q)).1⟩
  · exact .inr q
mutual
theorem Rep.ext (c : Cfg K cls μ H h) (e : Ext μ H μ' H') : ∀ {v : V} {d : D}, Rep K H μ v d → Rep K H' μ' v d
  | _, _, .non => .non
  | _, _, .bl b => .bl b
  | _, _, .int i => .int i
  | _, _, .str x => .str x
  | _, _, .ty n => .ty n
  | _, _, .tup q r => .tup (sqT_ext c e q) (RepAll.ext c e r)
  | _, _, .fzl q r => .fzl (fzL_ext c e q) (RepAll.ext c e r)
  | _, _, .ref q => .ref (e.at q)
theorem RepAll.ext (c : Cfg K cls μ H h) (e : Ext μ H μ' H') : ∀ {v : List V} {d : List D}, RepAll K H μ v d → RepAll K H' μ' v d
  | _, _, .nil => .nil
  | _, _, .cons q r => .cons (Rep.ext c e q) (RepAll.ext c e r)
end
theorem RepF.ext (c : Cfg K cls μ H h) (e : Ext μ H μ' H') : ∀ {v : List (PySem.Str × V)} {d : List (PySem.Str × D)}, RepF K H μ v d → RepF K H' μ' v d
  | _, _, .nil => .nil
  | _, _, .cons q r => .cons (q.ext c e) (RepF.ext c e r)
theorem ObjR.ext (c : Cfg K cls μ H h) (e : Ext μ H μ' H') {a : Addr} {o : O} (q : ObjR K cls H μ a o) (hk : H' a = H a) : ObjR K cls H' μ' a o := by
  cases o with
  | lst ds => obtain ⟨xs, q, r⟩ := q; exact ⟨xs, by rw [hk]; exact q, r.ext c e⟩
  | ins k fs => obtain ⟨dx, gs, q, r⟩ := q; exact ⟨dx, gs, by rw [hk]; exact q, r.ext c e⟩

mutual
theorem Rep.pre {l : List Addr} : ∀ {v : V} {d : D}, Rep K H μ v d → Rep K H (μ ++ l) v d
  | _, _, .non => .non
  | _, _, .bl b => .bl b
  | _, _, .int i => .int i
  | _, _, .str x => .str x
  | _, _, .ty n => .ty n
  | _, _, .tup q r => .tup q (RepAll.pre r)
  | _, _, .fzl q r => .fzl q (RepAll.pre r)
  | _, _, .ref (n := n) q => .ref (by
      have hn : n < μ.length := by
        obtain ⟨q, _⟩ := List.getElem?_eq_some_iff.mp q
        exact q
      rw [List.getElem?_append_left hn]
      exact q)
theorem RepAll.pre {l : List Addr} : ∀ {v : List V} {d : List D}, RepAll K H μ v d → RepAll K H (μ ++ l) v d
  | _, _, .nil => .nil
  | _, _, .cons q r => .cons (Rep.pre q) (RepAll.pre r)
end
theorem RepF.pre {l : List Addr} : ∀ {v : List (PySem.Str × V)} {d : List (PySem.Str × D)}, RepF K H μ v d → RepF K H (μ ++ l) v d
  | _, _, .nil => .nil
  | _, _, .cons q r => .cons q.pre (RepF.pre r)
theorem ObjR.pre {l : List Addr} {a : Addr} {o : O} (q : ObjR K cls H μ a o) : ObjR K cls H (μ ++ l) a o := by
  cases o with
  | lst ds => obtain ⟨xs, q, r⟩ := q; exact ⟨xs, q, r.pre⟩
  | ins k fs => obtain ⟨dx, gs, q, r⟩ := q; exact ⟨dx, gs, q, r.pre⟩
/-- a new list, a new tuple, a list changed -/
theorem ext_new (c : Cfg K cls μ H h) {p : Addr} {o : HO} (hp : H p = none) : Ext μ H μ (upd H p o) :=
  ⟨⟨[], by simp⟩, fun a u e n => ⟨by rw [upd_ne (ne_of_none e hp)]; exact e, n⟩, fun a h => .inl h⟩
theorem ext_snoc (c : Cfg K cls μ H h) {p : Addr} {o : HO} (hp : H p = none) : Ext μ H (μ ++ [p]) (upd H p o) :=
  ⟨⟨[p], rfl⟩, fun a u e n => ⟨by rw [upd_ne (ne_of_none e hp)]; exact e, fun hm => by
    rcases List.mem_append.mp hm with q | q
    · exact n q
    · exact ne_of_none e hp (List.mem_singleton.mp q)⟩, fun a hm => by
    rcases List.mem_append.mp hm with q | q
    · exact .inl q
    · exact .inr (by rw [List.mem_singleton.mp q]; exact hp)⟩
theorem ext_set {p : Addr} {o : HO} (hm : p ∈ μ) : Ext μ H μ (upd H p o) :=
  ⟨⟨[], by simp⟩, fun a u e n => ⟨by rw [upd_ne (fun z => n (by rw [z]; exact hm))]; exact e, n⟩, fun a h => .inl h⟩
theorem Cfg.out (c : Cfg K cls μ H h) (e : Ext μ H μ H') (hk : ∀ a ∈ μ, H' a = H a) : Cfg K cls μ H' h :=
  ⟨c.len, c.nd, fun n o a h1 h2 => (c.obj n o a h1 h2).ext c e (hk a (List.mem_of_getElem? h2))⟩
theorem Cfg.upd_out (c : Cfg K cls μ H h) {p : Addr} {o : HO} (hp : H p = none) : Cfg K cls μ (upd H p o) h :=
  c.out (ext_new c hp) fun a hm => upd_ne fun z => c.free hp (by rw [← z]; exact hm)
/-- a fresh address whose content stands joins the store -/
theorem Cfg.join (c : Cfg K cls μ H h) {p : Addr} (hp : p ∉ μ) {o : O} (q : ObjR K cls H (μ ++ [p]) p o) : Cfg K cls (μ ++ [p]) H (h ++ [o]) := by
  refine ⟨by rw [List.length_append, List.length_append, c.len]; rfl, ?_, fun n u a h1 h2 => ?_⟩
  · rw [List.nodup_append]
    refine ⟨c.nd, by simp, fun a ha b hb z => hp ?_⟩
    rw [← List.mem_singleton.mp hb, ← z]
    exact ha
  · by_cases hn : n < h.length
    · rw [List.getElem?_append_left hn] at h1
      rw [List.getElem?_append_left (by rw [c.len]; exact hn)] at h2
      exact (c.obj n u a h1 h2).pre
    · have hn' : n = h.length := by
        obtain ⟨q1, _⟩ := List.getElem?_eq_some_iff.mp h1
        rw [List.length_append] at q1
        simp only [List.length_cons, List.length_nil] at q1
        omega
      subst hn'
      rw [List.getElem?_append_right (Nat.le_refl _), Nat.sub_self] at h1
      rw [List.getElem?_append_right (by rw [c.len]; exact Nat.le_refl _), c.len, Nat.sub_self] at h2
      cases h1
      cases h2
      exact q
theorem ext_join (c : Cfg K cls μ H h) {p : Addr} {H0 : Hp} {μ0 : List Addr} (e : Ext μ0 H0 μ H) (hp : H0 p = none) : Ext μ0 H0 (μ ++ [p]) H := by
  obtain ⟨l, el⟩ := e.pre
  refine ⟨⟨l ++ [p], by rw [el, List.append_assoc]⟩, fun a o h1 n => ?_, fun a hm => ?_⟩
  · obtain ⟨q, m⟩ := e.fr a o h1 n
    refine ⟨q, fun z => ?_⟩
    rcases List.mem_append.mp z with z | z
    · exact m z
    · rw [List.mem_singleton.mp z, hp] at h1
      cases h1
  · rcases List.mem_append.mp hm with z | z
    · exact e.mt a z
    · exact .inr (by rw [List.mem_singleton.mp z]; exact hp)
/-- a new list in the store -/
theorem Cfg.new (c : Cfg K cls μ H h) {p : Addr} (hp : H p = none) {xs : List V} {ds : List D} (r : RepAll K H μ xs ds) : Cfg K cls (μ ++ [p]) (upd H p (.lst xs)) (h ++ [.lst ds]) := by
  have c1 : Cfg K cls μ (upd H p (.lst xs)) h := c.upd_out hp
  have e1 : Ext μ H (μ ++ [p]) (upd H p (.lst xs)) := ext_snoc c hp
  exact c1.join (c.free hp) ⟨xs, upd_same, r.ext c e1⟩
theorem Cfg.newI (c : Cfg K cls μ H h) {p : Addr} (hp : H p = none) {k : Nat} {dx : Addr} {gs : List (PySem.Str × V)} {fs : List (PySem.Str × D)} (r : RepF K H μ gs fs) : Cfg K cls (μ ++ [p]) (upd H p (.ins (cls k) dx gs)) (h ++ [.ins k fs]) := by
  have c1 : Cfg K cls μ (upd H p (.ins (cls k) dx gs)) h := c.upd_out hp
  have e1 : Ext μ H (μ ++ [p]) (upd H p (.ins (cls k) dx gs)) := ext_snoc c hp
  exact c1.join (c.free hp) ⟨dx, gs, upd_same, r.ext c e1⟩
/-- an object of the store is changed -/
theorem Cfg.set (c : Cfg K cls μ H h) {n : Nat} {p : Addr} (hp : μ[n]? = some p) {u : HO} {o : O} (q : ObjR K cls (upd H p u) μ p o) : Cfg K cls μ (upd H p u) (h.set n o) := by
  have e : Ext μ H μ (upd H p u) := ext_set (List.mem_of_getElem? hp)
  refine ⟨by rw [List.length_set]; exact c.len, c.nd, fun m w a h1 h2 => ?_⟩
  by_cases hm : m = n
  · subst hm
    rw [hp] at h2
    cases h2
    have hl : m < h.length := by
      obtain ⟨q1, _⟩ := List.getElem?_eq_some_iff.mp h1
      rw [List.length_set] at q1
      exact q1
    rw [List.getElem?_set_self hl] at h1
    cases h1
    exact q
  · rw [List.getElem?_set_ne (Ne.symm hm)] at h1
    refine (c.obj m w a h1 h2).ext c e (upd_ne fun z => hm ?_)
    subst z
    exact (List.getElem?_inj (by
      obtain ⟨q1, _⟩ := List.getElem?_eq_some_iff.mp h2
      exact q1) c.nd).mp (h2.trans hp.symm)
theorem Cfg.setL (c : Cfg K cls μ H h) {n : Nat} {p : Addr} (hp : μ[n]? = some p) {xs : List V} {ds : List D} (r : RepAll K H μ xs ds) : Cfg K cls μ (upd H p (.lst xs)) (h.set n (.lst ds)) :=
  c.set hp ⟨xs, upd_same, r.ext c (ext_set (List.mem_of_getElem? hp))⟩

/-! lists of data -/
theorem RepAll.length : ∀ {vs : List V} {ds : List D}, RepAll K H μ vs ds → vs.length = ds.length
  | _, _, .nil => rfl
  | _, _, .cons _ r => by rw [List.length_cons, List.length_cons, RepAll.length r]
theorem RepAll.get : ∀ {vs : List V} {ds : List D} {i : Nat} {d : D}, RepAll K H μ vs ds → ds[i]? = some d → ∃ v, vs[i]? = some v ∧ Rep K H μ v d
  | _, _, 0, _, .cons q _, e => by cases e; exact ⟨_, rfl, q⟩
  | _, _, i + 1, _, .cons _ r, e => by
    obtain ⟨v, h1, h2⟩ := RepAll.get (i := i) r (by simpa using e)
    exact ⟨v, by simpa using h1, h2⟩
theorem RepAll.set {v : V} {d : D} (q : Rep K H μ v d) : ∀ {vs : List V} {ds : List D} (i : Nat), RepAll K H μ vs ds → RepAll K H μ (vs.set i v) (ds.set i d)
  | _, _, _, .nil => .nil
  | _, _, 0, .cons _ t => .cons q t
  | _, _, i + 1, .cons p t => .cons p (RepAll.set q i t)
theorem RepAll.append : ∀ {vs ws : List V} {ds es : List D}, RepAll K H μ vs ds → RepAll K H μ ws es → RepAll K H μ (vs ++ ws) (ds ++ es)
  | _, _, _, _, .nil, s => s
  | _, _, _, _, .cons r t, s => .cons r (RepAll.append t s)
theorem RepAll.take : ∀ {vs : List V} {ds : List D} (n : Nat), RepAll K H μ vs ds → RepAll K H μ (vs.take n) (ds.take n)
  | _, _, 0, _ => .nil
  | _, _, _ + 1, .nil => .nil
  | _, _, n + 1, .cons r t => .cons r (RepAll.take n t)
theorem RepAll.drop : ∀ {vs : List V} {ds : List D} (n : Nat), RepAll K H μ vs ds → RepAll K H μ (vs.drop n) (ds.drop n)
  | _, _, 0, r => r
  | _, _, _ + 1, .nil => .nil
  | _, _, n + 1, .cons _ t => RepAll.drop n t

/-! the frame's slots -/
inductive EnvR0 (K : PySem.W.Frag) (H : Hp) (μ : List Addr) : L2.St → Env → Prop
  | nil : EnvR0 K H μ [] []
  | none {o : Option V} {σ : L2.St} {ρ : Env} : EnvR0 K H μ σ ρ → EnvR0 K H μ (o :: σ) (none :: ρ)
  | some {σ : L2.St} {ρ : Env} {v : V} {d : D} : Rep K H μ v d → EnvR0 K H μ σ ρ → EnvR0 K H μ (some v :: σ) (some d :: ρ)
theorem EnvR0.ext (c : Cfg K cls μ H h) (e : Ext μ H μ' H') : ∀ {σ : L2.St} {ρ : Env}, EnvR0 K H μ σ ρ → EnvR0 K H' μ' σ ρ
  | _, _, .nil => .nil
  | _, _, .none r => .none (EnvR0.ext c e r)
  | _, _, .some q r => .some (q.ext c e) (EnvR0.ext c e r)
theorem EnvR0.get : ∀ {σ : L2.St} {ρ : Env} {i : Nat} {d : D}, EnvR0 K H μ σ ρ → ρ[i]? = Option.some (Option.some d) → ∃ v, σ[i]? = Option.some (Option.some v) ∧ Rep K H μ v d
  | _, _, 0, _, .none _, e => by cases e
  | _, _, 0, _, .some q _, e => by cases e; exact ⟨_, rfl, q⟩
  | _, _, i + 1, _, .none r, e => by
    obtain ⟨v, h1, h2⟩ := EnvR0.get (i := i) r (by simpa using e)
    exact ⟨v, by simpa using h1, h2⟩
  | _, _, i + 1, _, .some _ r, e => by
    obtain ⟨v, h1, h2⟩ := EnvR0.get (i := i) r (by simpa using e)
    exact ⟨v, by simpa using h1, h2⟩
theorem EnvR0.set {v : V} {d : D} (q : Rep K H μ v d) : ∀ {σ : L2.St} {ρ : Env} (i : Nat), EnvR0 K H μ σ ρ → EnvR0 K H μ (σ.set i (Option.some v)) (ρ.set i (Option.some d))
  | _, _, _, .nil => .nil
  | _, _, 0, .none r => .some q r
  | _, _, 0, .some _ r => .some q r
  | _, _, i + 1, .none r => .none (EnvR0.set q i r)
  | _, _, i + 1, .some p r => .some p (EnvR0.set q i r)
theorem EnvR0.unset : ∀ {σ : L2.St} {ρ : Env} (i : Nat), EnvR0 K H μ σ ρ → EnvR0 K H μ (σ.set i Option.none) (ρ.set i Option.none)
  | _, _, _, .nil => .nil
  | _, _, 0, .none r => .none r
  | _, _, 0, .some _ r => .none r
  | _, _, i + 1, .none r => .none (EnvR0.unset i r)
  | _, _, i + 1, .some p r => .some p (EnvR0.unset i r)
def wipeD (ρ : Env) : List Nat → Env
  | [] => ρ
  | v :: vs => (wipeD ρ vs).set v none
theorem EnvR0.wipe {σ : L2.St} {ρ : Env} (r : EnvR0 K H μ σ ρ) : ∀ vs : List Nat, EnvR0 K H μ (L2.wipe σ vs) (wipeD ρ vs)
  | [] => r
  | v :: vs => (EnvR0.wipe r vs).unset v
theorem EnvR0.start {vs : List V} {ds : List D} (n : Nat) : RepAll K H μ vs ds → EnvR0 K H μ (vs.map Option.some ++ List.replicate n Option.none) (ds.map Option.some ++ List.replicate n Option.none)
  | .nil => by
    induction n with
    | zero => exact .nil
    | succ n ih => exact .none ih
  | .cons q r => .some q (EnvR0.start n r)
end

/-- a wish about exceptions, and what is known of the frame besides -/
structure WI where
  w : L2.WX
  P : L2.St → List Addr → Hp → Prop
  fr : Nat → Prop
  ext : ∀ σ μ H μ' H', Ext μ H μ' H' → P σ μ H → P σ μ' H'
  set : ∀ σ μ H j o, fr j → P σ μ H → P (σ.set j o) μ H
  pres : ∀ σ μ H p xs o, H p = some (.lst xs) → P σ μ H → P σ μ (upd H p o)
def WI.mk0 (w : L2.WX) : WI := ⟨w, fun _ _ _ => True, fun _ => True, fun _ _ _ _ _ _ _ => trivial, fun _ _ _ _ _ _ _ => trivial, fun _ _ _ _ _ _ _ _ => trivial⟩
/-- the same knowledge, another wish -/
def WI.wish (W : WI) (w : L2.WX) : WI := ⟨w, W.P, W.fr, W.ext, W.set, W.pres⟩
structure EnvR (K : PySem.W.Frag) (W : WI) (H : Hp) (μ : List Addr) (σ : L2.St) (ρ : Env) : Prop where
  r : EnvR0 K H μ σ ρ
  p : W.P σ μ H
section
variable {K : PySem.W.Frag} {cls : Nat → Addr} {μ μ' : List Addr} {H H' : Hp} {h h' : Store} {W : WI} {σ : L2.St} {ρ : Env}
theorem EnvR.ext (c : Cfg K cls μ H h) (e : Ext μ H μ' H') (q : EnvR K W H μ σ ρ) : EnvR K W H' μ' σ ρ := ⟨q.r.ext c e, W.ext _ _ _ _ _ e q.p⟩
theorem EnvR.get {i : Nat} {d : D} (q : EnvR K W H μ σ ρ) (e : ρ[i]? = some (some d)) : ∃ v, σ[i]? = some (some v) ∧ Rep K H μ v d := q.r.get e
theorem EnvR.set {v : V} {d : D} (q : Rep K H μ v d) (i : Nat) (hi : W.fr i) (e : EnvR K W H μ σ ρ) : EnvR K W H μ (σ.set i (some v)) (ρ.set i (some d)) := ⟨e.r.set q i, W.set _ _ _ _ _ hi e.p⟩
theorem EnvR.unset (i : Nat) (hi : W.fr i) (e : EnvR K W H μ σ ρ) : EnvR K W H μ (σ.set i none) (ρ.set i none) := ⟨e.r.unset i, W.set _ _ _ _ _ hi e.p⟩
theorem EnvR.wipe (e : EnvR K W H μ σ ρ) : ∀ vs : List Nat, (∀ i ∈ vs, W.fr i) → EnvR K W H μ (L2.wipe σ vs) (wipeD ρ vs)
  | [], _ => e
  | v :: vs, hv => (EnvR.wipe e vs fun i hi => hv i (List.mem_cons_of_mem _ hi)).unset v (hv v List.mem_cons_self)
end
/-! ### what a run must lead to -/
section
variable (K : PySem.W.Frag) (cls : Nat → Addr) (E : XK)
def OkG {α β : Type} (rel : Hp → List Addr → β → α → Prop) (μ : List Addr) (H : Hp) (r : Rs α) (Q : β → Hp → Prop) : Prop := match r with
  | .ok d h' => ∀ v μ' H', Ext μ H μ' H' → Cfg K cls μ' H' h' → rel H' μ' v d → Q v H'
  | .exc c (some fs) h' => ∀ μ' H' dx gs, Ext μ H μ' H' → Cfg K cls μ' H' h' → H' dx = some (.xd gs) → RepF K H' μ' gs fs → E (.ref (cls c)) (some dx) H'
  | .exc c none h' => ∀ μ' H', Ext μ H μ' H' → Cfg K cls μ' H' h' → E (.ref (cls c)) none H'
  | .stuck => False
def rlD (H : Hp) (μ : List Addr) : V → D → Prop := Rep K H μ
def rlA (H : Hp) (μ : List Addr) : List V → List D → Prop := RepAll K H μ
def rlB (_ : Hp) (_ : List Addr) (b b' : Bool) : Prop := b = b'
def rlO (_ : Hp) (_ : List Addr) (b b' : Option Int) : Prop := b = b'
/-- a statement's ways out -/
inductive Fl where | nx (ρ : Env) | rt (d : D) | bk (ρ : Env) | ct (ρ : Env) | ex (ρ : Env) (c : Nat) (fs : Option (List (PySem.Str × D)))
inductive FlV where | nx (σ : L2.St) | rt (v : V) | bk (σ : L2.St) | ct (σ : L2.St) | ex (σ : L2.St) (c : Value) (d : Option Addr)
/-- an exception's fields -/
def XdR (H : Hp) (μ : List Addr) : Option Addr → Option (List (PySem.Str × D)) → Prop
  | none, none => True
  | some dx, some fs => ∃ gs, H dx = some (.xd gs) ∧ RepF K H μ gs fs
  | _, _ => False
def rlF (W : WI) (H : Hp) (μ : List Addr) : FlV → Fl → Prop
  | .nx σ, .nx ρ => EnvR K W H μ σ ρ
  | .rt v, .rt d => Rep K H μ v d
  | .bk σ, .bk ρ => EnvR K W H μ σ ρ
  | .ct σ, .ct ρ => EnvR K W H μ σ ρ
  | .ex σ c d, .ex ρ k fs => EnvR K W H μ σ ρ ∧ c = .ref (cls k) ∧ XdR K H μ d fs
  | _, _ => False
def flQ (W : WI) (D : Ends) : FlV → Hp → Prop
  | .nx σ, H => D.nx σ H
  | .rt v, H => D.rt v H
  | .bk σ, H => D.bk σ H
  | .ct σ, H => D.ct σ H
  | .ex σ c d, H => W.w c d σ H
end
section
variable {K : PySem.W.Frag} {cls : Nat → Addr} {E : XK} {μ μ' : List Addr} {H H' : Hp} {h h' : Store} {α β γ δ : Type} {rel : Hp → List Addr → β → α → Prop} {rel2 : Hp → List Addr → δ → γ → Prop}
theorem OkG.ext {r : Rs α} {Q : β → Hp → Prop} (e : Ext μ H μ' H') (q : OkG K cls E rel μ H r Q) : OkG K cls E rel μ' H' r Q := by
  cases r with
  | ok d h1 => exact fun v μ1 H1 e1 => q v μ1 H1 (e.trans e1)
  | exc c fs h1 =>
    cases fs with
    | none => exact fun μ1 H1 e1 => q μ1 H1 (e.trans e1)
    | some fs => exact fun μ1 H1 dx gs e1 => q μ1 H1 dx gs (e.trans e1)
  | stuck => exact q
theorem OkG.imp {r : Rs α} {Q Q' : β → Hp → Prop} (q : OkG K cls E rel μ H r Q) (f : ∀ v H, Q v H → Q' v H) : OkG K cls E rel μ H r Q' := by
  cases r with
  | ok d h1 => exact fun v μ1 H1 e1 c1 r1 => f _ _ (q v μ1 H1 e1 c1 r1)
  | exc c fs h1 =>
    cases fs with
    | none => exact q
    | some fs => exact q
  | stuck => exact q
/-- a run, then another -/
theorem OkG.bnd {m : M α} {f : α → M γ} {Q : δ → Hp → Prop} (q : OkG K cls E rel2 μ H (bnd m f h) Q) :
    OkG K cls E rel μ H (m h) fun v H1 => ∃ a h1 μ1, Ext μ H μ1 H1 ∧ Cfg K cls μ1 H1 h1 ∧ rel H1 μ1 v a ∧ OkG K cls E rel2 μ1 H1 (f a h1) Q := by
  unfold G.bnd at q
  cases z : m h with
  | ok d h1 =>
    rw [z] at q
    exact fun v μ1 H1 e1 c1 r1 => ⟨d, h1, μ1, e1, c1, r1, OkG.ext e1 q⟩
  | exc c fs h1 =>
    rw [z] at q
    cases fs with
    | none => exact q
    | some fs => exact q
  | stuck =>
    rw [z] at q
    exact q
/-- a statement's reading of an expression -/
def bndS (ρ : Env) (m : M α) (f : α → M Fl) : M Fl := fun h => match m h with
  | .ok a h' => f a h'
  | .exc c fs h' => .ok (.ex ρ c fs) h'
  | .stuck => .stuck
theorem OkG.bndS {W : WI} {σ : L2.St} {ρ : Env} {m : M α} {f : α → M Fl} {D : Ends} (cc : Cfg K cls μ H h) (e : EnvR K W H μ σ ρ) (q : OkG K cls E0 (rlF K cls W) μ H (bndS ρ m f h) (flQ W D)) :
    OkG K cls (L2.WE W.w σ) rel μ H (m h) fun v H1 => ∃ a h1 μ1, Ext μ H μ1 H1 ∧ Cfg K cls μ1 H1 h1 ∧ rel H1 μ1 v a ∧ OkG K cls E0 (rlF K cls W) μ1 H1 (f a h1) (flQ W D) := by
  unfold G.bndS at q
  cases z : m h with
  | ok d h1 =>
    rw [z] at q
    exact fun v μ1 H1 e1 c1 r1 => ⟨d, h1, μ1, e1, c1, r1, OkG.ext e1 q⟩
  | exc c fs h1 =>
    rw [z] at q
    cases fs with
    | none => exact fun μ1 H1 e1 c1 => q (.ex σ (.ref (cls c)) none) μ1 H1 e1 c1 ⟨e.ext cc e1, rfl, trivial⟩
    | some fs => exact fun μ1 H1 dx gs e1 c1 hx r1 => q (.ex σ (.ref (cls c)) (some dx)) μ1 H1 e1 c1 ⟨e.ext cc e1, rfl, gs, hx, r1⟩
  | stuck =>
    rw [z] at q
    exact q
theorem OkG.now {d : α} {v : β} {Q : β → Hp → Prop} (q : OkG K cls E rel μ H (.ok d h) Q) (c : Cfg K cls μ H h) (r : rel H μ v d) : Q v H := q v μ H (Ext.refl _ _) c r
end
end G

/-! The readings' mirrors: expressions, tests, arguments, statements, loops. -/
namespace G
open PySem PySem.Spec PyProof.Rows L2

/-! ### mirrors -/
abbrev ME := Env → M D
abbrev MT := Env → M Bool
abbrev MA := Env → M (List D)
abbrev MO := Env → M (Option Int)
abbrev MS := Env → M Fl
def mVar (i : Nat) : ME := fun ρ => match ρ[i]? with
  | some (some d) => ret d
  | _ => stuck
def mC (d : D) : ME := fun _ => ret d
def mOp (f : D → D → M D) (a b : ME) : ME := fun ρ => bnd (a ρ) fun x => bnd (b ρ) fun y => f x y
def mUn (f : D → M D) (a : ME) : ME := fun ρ => bnd (a ρ) f
def mNil : MA := fun _ => ret []
def mCons (a : ME) (r : MA) : MA := fun ρ => bnd (a ρ) fun x => bnd (r ρ) fun xs => ret (x :: xs)
def mCB (f : List D → M D) (a : MA) : ME := fun ρ => bnd (a ρ) f
/-- a new list -/
def alloc (o : O) : M D := fun h => .ok (.ref h.length) (h ++ [o])
def mTup (a : MA) : ME := fun ρ => bnd (a ρ) fun xs => if xs.length ≤ sizeLine then ret (.tup xs) else stuck
def mLst (a : MA) : ME := fun ρ => bnd (a ρ) fun xs => if xs.length ≤ sizeLine then alloc (.lst xs) else stuck
def asBl (d : D) : M Bool := match d with
  | .bl b => ret b
  | _ => stuck
def mTest (a : ME) : MT := fun ρ => bnd (a ρ) asBl
def mYes : MT := fun _ => ret true
def mAnd (a b : MT) : MT := fun ρ => bnd (a ρ) fun c => if c = true then b ρ else ret false
def mOr (a b : MT) : MT := fun ρ => bnd (a ρ) fun c => if c = true then ret true else b ρ
def mNot (a : MT) : MT := fun ρ => bnd (a ρ) fun c => ret (!c)
def mAndV (a b : ME) : ME := fun ρ => bnd (a ρ) fun x => bnd (asBl x) fun c => if c = true then b ρ else ret (.bl false)
def mOrV (a b : ME) : ME := fun ρ => bnd (a ρ) fun x => bnd (asBl x) fun c => if c = true then ret (.bl true) else b ρ
def mNotV (a : ME) : ME := fun ρ => bnd (a ρ) fun x => bnd (asBl x) fun c => ret (.bl (!c))
def mIf (t : MT) (a b : ME) : ME := fun ρ => bnd (t ρ) fun c => if c = true then a ρ else b ρ
def mNoPart : MO := fun _ => ret none
def mPart (a : ME) : MO := fun ρ => bnd (a ρ) fun x => match x with
  | .int i => ret (some i)
  | _ => stuck
def mSl (f : D → Option Int → Option Int → M D) (a : ME) (l u : MO) : ME := fun ρ => bnd (a ρ) fun x => bnd (l ρ) fun i => bnd (u ρ) fun j => f x i j
/-- a call of a def that raises nothing -/
def noexc {α : Type} (m : M α) : M α := fun h => match m h with
  | .ok a h' => .ok a h'
  | _ => .stuck
def mCall (n : Nat) (f : List D → M D) (a : MA) : ME := fun ρ => bnd (a ρ) fun ds => if ds.length = n then noexc (f ds) else stuck

/-! statements -/
def mNext : MS := fun ρ => ret (.nx ρ)
def mRet (a : ME) : MS := fun ρ => bndS ρ (a ρ) fun d => ret (.rt d)
def mRetN : MS := fun _ => ret (.rt .non)
def mBrk : MS := fun ρ => ret (.bk ρ)
def mCont : MS := fun ρ => ret (.ct ρ)
def mDrop (a : ME) : MS := fun ρ => bndS ρ (a ρ) fun _ => ret (.nx ρ)
def thenF (f : Fl) (u : MS) : M Fl := match f with
  | .nx ρ => u ρ
  | f => ret f
def mSeq (t u : MS) : MS := fun ρ => bnd (t ρ) fun f => thenF f u
def mIfS (c : MT) (t u : MS) : MS := fun ρ => bndS ρ (c ρ) fun b => if b = true then t ρ else u ρ
def mSet (i : Nat) (a : ME) : MS := fun ρ => bndS ρ (a ρ) fun d => ret (.nx (ρ.set i (some d)))
def getL (h : Store) (n : Nat) : Option (List D) := match h[n]? with
  | some (.lst xs) => some xs
  | _ => none
/-- a target: the slots behind it -/
abbrev MG := Store → D → Env → Option Env
def gmName (i : Nat) : MG := fun _ d ρ => some (ρ.set i (some d))
def gmAll : List MG → Store → List D → Env → Option Env
  | [], _, [], ρ => some ρ
  | g :: gs, h, d :: ds, ρ => (g h d ρ).bind (gmAll gs h ds)
  | _, _, _, _ => none
def gmTup (gs : List MG) : MG := fun h d ρ => match d with
  | .tup ds => gmAll gs h ds ρ
  | .ref n => match getL h n with
    | some ds => gmAll gs h ds ρ
    | none => none
  | _ => none
def goF (o : Option Env) (k : Env → M Fl) : M Fl := match o with
  | some ρ => k ρ
  | none => stuck
def mAsg (g : MG) (a : ME) : MS := fun ρ => bndS ρ (a ρ) fun d h => goF (g h d ρ) (fun ρ' => ret (.nx ρ')) h
/-- o[i] = v -/
def setItem (o i v : D) : M Unit := fun h => match o, i with
  | .ref n, .int k => match getL h n with
    | some xs => match ixN xs.length k with
      | some j => .ok () (h.set n (.lst (xs.set j v)))
      | none => .stuck
    | none => .stuck
  | _, _ => .stuck
def mSetIx (o i a : ME) : MS := fun ρ => bndS ρ (a ρ) fun v => bndS ρ (o ρ) fun x => bndS ρ (i ρ) fun k => bnd (setItem x k v) fun _ => ret (.nx ρ)
/-- x = x op e, in place -/
def mAug (i : Nat) (f : D → D → M D) (a : ME) : MS := fun ρ => match ρ[i]? with
  | some (some x) => bndS ρ (a ρ) fun y => bndS ρ (f x y) fun z => ret (.nx (ρ.set i (some z)))
  | _ => stuck
/-- what is walked: its items, and what must stand while it is walked -/
structure Wk where
  ds : List D
  lv : Store → Bool
abbrev MI := Env → M Wk
def forGo (lv : Store → Bool) (g : MG) (body : MS) : List D → MS
  | [], ρ => fun h => if lv h = true then .ok (.nx ρ) h else .stuck
  | d :: ds, ρ => fun h => if lv h = true then match g h d ρ with
      | none => .stuck
      | some ρ1 => match body ρ1 h with
        | .ok (.nx ρ2) h2 => forGo lv g body ds ρ2 h2
        | .ok (.ct ρ2) h2 => forGo lv g body ds ρ2 h2
        | .ok (.bk ρ2) h2 => .ok (.nx ρ2) h2
        | .ok (.rt d) h2 => .ok (.rt d) h2
        | .ok (.ex ρ2 c fs) h2 => .ok (.ex ρ2 c fs) h2
        | .exc c fs h2 => .stuck
        | .stuck => .stuck
    else .stuck
def mFor (w : MI) (g : MG) (body : MS) : MS := fun ρ => bndS ρ (w ρ) fun k => forGo k.lv g body k.ds ρ
def mWhile (t : MT) (body : MS) : Nat → MS
  | 0, _ => stuck
  | n + 1, ρ => bndS ρ (t ρ) fun c => if c = true then fun h => match body ρ h with
      | .ok (.nx ρ2) h2 => mWhile t body n ρ2 h2
      | .ok (.ct ρ2) h2 => mWhile t body n ρ2 h2
      | .ok (.bk ρ2) h2 => .ok (.nx ρ2) h2
      | .ok (.rt d) h2 => .ok (.rt d) h2
      | .ok (.ex ρ2 c fs) h2 => .ok (.ex ρ2 c fs) h2
      | .exc c fs h2 => .stuck
      | .stuck => .stuck
    else ret (.nx ρ)
/-- a comprehension's items -/
def lcGo (lv : Store → Bool) (g : MG) (t : MT) (e : ME) (ρ : Env) : List D → M (List D)
  | [] => fun h => if lv h = true then .ok [] h else .stuck
  | d :: ds => fun h => if lv h = true then match g h d ρ with
      | none => .stuck
      | some ρ1 => bnd (noexc (t ρ1)) (fun b => if b = true then bnd (noexc (e ρ1)) fun y => bnd (lcGo lv g t e ρ ds) fun ys => ret (y :: ys) else lcGo lv g t e ρ ds) h
    else .stuck
def mLc (w : MI) (g : MG) (t : MT) (e : ME) (vs : List Nat) : ME := fun ρ => bnd (w ρ) fun k => if k.ds.length ≤ 1000000 then bnd (lcGo k.lv g t e (wipeD ρ vs) k.ds) fun ys => alloc (.lst ys) else stuck
/-- a def -/
def endF (f : Fl) : M D := match f with
  | .rt d => ret d
  | .nx _ => ret .non
  | .ex _ c fs => fun h => .exc c fs h
  | _ => stuck
def mFn (N : Nat) (body : MS) (ds : List D) : M D := bnd (noexc (body (ds.map some ++ List.replicate (N - ds.length) none))) endF

/-! ### the judgements -/
section
variable (K : PySem.W.Frag) (cls : Nat → Addr)
def EvE (W : WI) (te : TE) (m : ME) : Prop := ∀ μ H σ ρ h (Q : VK), Cfg K cls μ H h → EnvR K W H μ σ ρ → OkG K cls (L2.WE W.w σ) (rlD K) μ H (m ρ h) Q → te σ H Q
def EvT (W : WI) (tt : TT) (m : MT) : Prop := ∀ μ H σ ρ h (Q : Bool → Hp → Prop), Cfg K cls μ H h → EnvR K W H μ σ ρ → OkG K cls (L2.WE W.w σ) rlB μ H (m ρ h) Q → tt σ H Q
def EvA (W : WI) (ta : TA) (m : MA) : Prop := ∀ μ H σ ρ h (Q : List V → Hp → Prop), Cfg K cls μ H h → EnvR K W H μ σ ρ → OkG K cls (L2.WE W.w σ) (rlA K) μ H (m ρ h) Q → ta σ H Q
def EvO (W : WI) (to : TO) (m : MO) : Prop := ∀ μ H σ ρ h (Q : Option Int → Hp → Prop), Cfg K cls μ H h → EnvR K W H μ σ ρ → OkG K cls (L2.WE W.w σ) rlO μ H (m ρ h) Q → to σ H Q
def OpE (E : XK) (r : R2) (f : D → D → M D) : Prop := ∀ μ H h x y a b (Q : VK), Cfg K cls μ H h → Rep K H μ x a → Rep K H μ y b → OkG K cls E (rlD K) μ H (f a b h) Q → r x y H Q
def UnE (E : XK) (r : V → Hp → VK → Prop) (f : D → M D) : Prop := ∀ μ H h x a (Q : VK), Cfg K cls μ H h → Rep K H μ x a → OkG K cls E (rlD K) μ H (f a h) Q → r x H Q
def CaE (E : XK) (r : List V → Hp → VK → Prop) (f : List D → M D) : Prop := ∀ μ H h xs as (Q : VK), Cfg K cls μ H h → RepAll K H μ xs as → OkG K cls E (rlD K) μ H (f as h) Q → r xs H Q
def SlE (E : XK) (r : V → Option Int → Option Int → Hp → VK → Prop) (f : D → Option Int → Option Int → M D) : Prop := ∀ μ H h x a l u (Q : VK), Cfg K cls μ H h → Rep K H μ x a → OkG K cls E (rlD K) μ H (f a l u h) Q → r x l u H Q
def GgE (W : WI) (g : TG) (m : MG) : Prop := ∀ μ H h σ ρ v d ρ' (Q : L2.St → Hp → Prop), Cfg K cls μ H h → EnvR K W H μ σ ρ → Rep K H μ v d → m h d ρ = some ρ' → (∀ σ', EnvR K W H μ σ' ρ' → Q σ' H) → g v σ H Q
def EvS (W : WI) (ts : TS) (m : MS) : Prop := ∀ μ H σ ρ h (D : Ends), Cfg K cls μ H h → EnvR K W H μ σ ρ → OkG K cls E0 (rlF K cls W) μ H (m ρ h) (flQ W D) → ts D σ H
/-- an iterator gives these items while the store is as it must be -/
def ItOk (J : It) (k : Wk) (μ0 : List Addr) (H0 : Hp) : Prop := ∀ (i : Nat) μ H h, Ext μ0 H0 μ H → Cfg K cls μ H h → k.lv h = true →
  (∀ d, k.ds[i]? = some d → J.go i H ∧ ∀ x H', J.yld i H x H' → Ext μ H μ H' ∧ Cfg K cls μ H' h ∧ Rep K H' μ x d) ∧ (k.ds[i]? = none → J.stop i H)
def rlW (H : Hp) (μ : List Addr) (J : It) (k : Wk) : Prop := ItOk K cls J k μ H
def EvI (W : WI) (wi : TI) (m : MI) : Prop := ∀ μ H σ ρ h (R : It → Hp → Prop), Cfg K cls μ H h → EnvR K W H μ σ ρ → OkG K cls (L2.WE W.w σ) (rlW K cls) μ H (m ρ h) R → wi σ H R
end

section
variable {K : PySem.W.Frag} {cls : Nat → Addr} {E : XK} {W : WI}
theorem pg_seq {X : Cx} {pos : Pos} {es : List Expr} {k : Nat} {t : TGs} {n : Nat} (hc : X.calm = true) (h : PGs X es t)
    (hn : (assignEach es X.env).length = n := by rfl) (hst : (assignEach es X.env).findIdx? (·.1) = none := by rfl) : PG X (.Tuple es k pos) (fun v σ H Q => gTup X.K n t v σ H Q ∨ gUnl X.K n t v σ H Q) := by
  refine ⟨fun pins s σ H v u Q I r hw => ?_⟩
  rcases hw with hw | hw
  · exact (pg_tup (k := k) (pos := pos) hc h hn hst).run pins s σ H v u Q I r hw
  · exact (pg_unl (k := k) (pos := pos) hc h hn hst).run pins s σ H v u Q I r hw
/-! ### expressions -/
theorem e_var (i : Nat) : EvE K cls W (tVar i) (mVar i) := fun μ H σ ρ h Q c r q => by
  unfold mVar at q
  cases hx : ρ[i]? with
  | none => rw [hx] at q; exact q.elim
  | some o =>
    rw [hx] at q
    cases o with
    | none => exact q.elim
    | some d =>
      obtain ⟨v, hv, rv⟩ := r.get hx
      exact ⟨v, hv, OkG.now (show OkG K cls (L2.WE W.w σ) (rlD K) μ H (.ok d h) Q from q) c rv⟩
theorem e_int (i : Int) : EvE K cls W (tC (.int i)) (mC (.int i)) := fun μ H σ ρ h Q c r q => q.now c (.int i)
theorem e_bl (i : Bool) : EvE K cls W (tC (.bl i)) (mC (.bl i)) := fun μ H σ ρ h Q c r q => q.now c (.bl i)
theorem e_non : EvE K cls W (tC .non) (mC .non) := fun μ H σ ρ h Q c r q => q.now c .non
theorem e_str (x : PySem.Str) : EvE K cls W (tC (.str x)) (mC (.str x)) := fun μ H σ ρ h Q c r q => q.now c (.str x)
theorem e_ty (x : String) : EvE K cls W (tC (.ty x)) (mC (.ty x)) := fun μ H σ ρ h Q c r q => q.now c (.ty x)
theorem e_op {r : R2} {f : D → D → M D} {ta tb : TE} {a b : ME} (hr : ∀ {E : XK}, OpE K cls E r f) (ha : EvE K cls W ta a) (hb : EvE K cls W tb b) : EvE K cls W (tOp r ta tb) (mOp f a b) := fun μ H σ ρ h Q c e q => by
  refine ha μ H σ ρ h _ c e (OkG.imp (OkG.bnd (rel := rlD K) q) ?_)
  rintro v H1 ⟨d, h1, μ1, e1, c1, r1, q1⟩
  refine hb μ1 H1 σ ρ h1 _ c1 (e.ext c e1) (OkG.imp (OkG.bnd (rel := rlD K) q1) ?_)
  rintro w H2 ⟨d2, h2, μ2, e2, c2, r2, q2⟩
  exact hr μ2 H2 h2 v w d d2 Q c2 (Rep.ext c1 e2 r1) r2 q2
theorem e_un {r : V → Hp → VK → Prop} {f : D → M D} {ta : TE} {a : ME} (hr : ∀ {E : XK}, UnE K cls E r f) (ha : EvE K cls W ta a) : EvE K cls W (tUn r ta) (mUn f a) := fun μ H σ ρ h Q c e q => by
  refine ha μ H σ ρ h _ c e (OkG.imp (OkG.bnd (rel := rlD K) q) ?_)
  rintro v H1 ⟨d, h1, μ1, e1, c1, r1, q1⟩
  exact hr μ1 H1 h1 v d Q c1 r1 q1
theorem a_nil : EvA K cls W tNil mNil := fun μ H σ ρ h Q c e q => q.now c .nil
theorem a_cons {ta : TE} {a : ME} {tr : TA} {r : MA} (ha : EvE K cls W ta a) (hr : EvA K cls W tr r) : EvA K cls W (tCons ta tr) (mCons a r) := fun μ H σ ρ h Q c e q => by
  refine ha μ H σ ρ h _ c e (OkG.imp (OkG.bnd (rel := rlD K) q) ?_)
  rintro v H1 ⟨d, h1, μ1, e1, c1, r1, q1⟩
  refine hr μ1 H1 σ ρ h1 _ c1 (e.ext c e1) (OkG.imp (OkG.bnd (rel := rlA K) q1) ?_)
  rintro w H2 ⟨d2, h2, μ2, e2, c2, r2, q2⟩
  exact q2.now c2 (.cons (Rep.ext c1 e2 r1) r2)
theorem e_call {r : List V → Hp → VK → Prop} {f : List D → M D} {ta : TA} {a : MA} (hr : ∀ {E : XK}, CaE K cls E r f) (ha : EvA K cls W ta a) : EvE K cls W (tCB r ta) (mCB f a) := fun μ H σ ρ h Q c e q => by
  refine ha μ H σ ρ h _ c e (OkG.imp (OkG.bnd (rel := rlA K) q) ?_)
  rintro v H1 ⟨d, h1, μ1, e1, c1, r1, q1⟩
  exact hr μ1 H1 h1 v d Q c1 r1 q1
theorem ok_alloc {μ : List Addr} {H : Hp} {h : Store} {Q : VK} {xs : List V} {ds : List D} (c : Cfg K cls μ H h) (r : RepAll K H μ xs ds) (q : OkG K cls E (rlD K) μ H (alloc (.lst ds) h) Q) :
    ∀ p, H p = none → Q (.ref p) (upd H p (.lst xs)) := fun p hp => by
  refine q (.ref p) (μ ++ [p]) _ (ext_snoc c hp) (c.new hp r) (.ref ?_)
  rw [← c.len, List.getElem?_append_right (Nat.le_refl _), Nat.sub_self]
  rfl
theorem ok_tup {μ : List Addr} {H : Hp} {h : Store} {Q : VK} {xs : List V} {ds : List D} (c : Cfg K cls μ H h) (r : RepAll K H μ xs ds) (q : OkG K cls E (rlD K) μ H (ret (.tup ds) h) Q) :
    ∀ p, H p = none → Q (.ref p) (upd H p (.tup xs)) := fun p hp =>
  q (.ref p) μ _ (ext_new c hp) (c.upd_out hp) (.tup (SqT.of upd_same) (r.ext c (ext_new c hp)))
theorem e_tup {ta : TA} {a : MA} (ha : EvA K cls W ta a) : EvE K cls W (tTup ta) (mTup a) := fun μ H σ ρ h Q c e q => by
  refine ha μ H σ ρ h _ c e (OkG.imp (OkG.bnd (rel := rlA K) q) ?_)
  rintro v H1 ⟨d, h1, μ1, e1, c1, r1, q1⟩
  have hl := RepAll.length r1
  split at q1
  · next hz => exact ⟨by rw [hl]; exact hz, ok_tup c1 r1 q1⟩
  · exact q1.elim
theorem e_lst {ta : TA} {a : MA} (ha : EvA K cls W ta a) : EvE K cls W (tLst ta) (mLst a) := fun μ H σ ρ h Q c e q => by
  refine ha μ H σ ρ h _ c e (OkG.imp (OkG.bnd (rel := rlA K) q) ?_)
  rintro v H1 ⟨d, h1, μ1, e1, c1, r1, q1⟩
  have hl := RepAll.length r1
  split at q1
  · next hz => exact ⟨by rw [hl]; exact hz, ok_alloc c1 r1 q1⟩
  · exact q1.elim
theorem asBl_bnd {μ : List Addr} {H : Hp} {h : Store} {α β : Type} {rel : Hp → List Addr → β → α → Prop} {f : Bool → M α} {Q : β → Hp → Prop} {v : V} {d : D} (r : Rep K H μ v d) (q : OkG K cls E rel μ H (bnd (asBl d) f h) Q) :
    ∃ b, v = .bl b ∧ OkG K cls E rel μ H (f b h) Q := by
  cases r <;> first | exact ⟨_, rfl, q⟩ | exact q.elim
theorem t_test {ta : TE} {a : ME} (ha : EvE K cls W ta a) : EvT K cls W (tTest ta) (mTest a) := fun μ H σ ρ h Q c e q => by
  refine ha μ H σ ρ h _ c e (OkG.imp (OkG.bnd (rel := rlD K) q) ?_)
  rintro v H1 ⟨d, h1, μ1, e1, c1, r1, q1⟩
  cases r1 <;> first | exact ⟨_, rfl, q1.now c1 rfl⟩ | exact q1.elim
theorem t_B {ta : TE} {a : ME} (ha : EvE K cls W ta a) : EvT K cls W (tB ta) (mTest a) := fun μ H σ ρ h Q c e q => by
  refine ha μ H σ ρ h _ c e (OkG.imp (OkG.bnd (rel := rlD K) q) ?_)
  rintro v H1 ⟨d, h1, μ1, e1, c1, r1, q1⟩
  cases r1 <;> first | exact ⟨_, rfl, q1.now c1 rfl⟩ | exact q1.elim
theorem t_yes : EvT K cls W tYes mYes := fun μ H σ ρ h Q c e q => q.now c rfl
theorem t_and {ta tb : TT} {a b : MT} (ha : EvT K cls W ta a) (hb : EvT K cls W tb b) : EvT K cls W (tAnd ta tb) (mAnd a b) := fun μ H σ ρ h Q c e q => by
  refine ha μ H σ ρ h _ c e (OkG.imp (OkG.bnd (rel := rlB) q) ?_)
  rintro v H1 ⟨d, h1, μ1, e1, c1, rfl, q1⟩
  cases v with
  | true => exact hb μ1 H1 σ ρ h1 Q c1 (e.ext c e1) q1
  | false => exact q1.now c1 rfl
theorem t_or {ta tb : TT} {a b : MT} (ha : EvT K cls W ta a) (hb : EvT K cls W tb b) : EvT K cls W (tOr ta tb) (mOr a b) := fun μ H σ ρ h Q c e q => by
  refine ha μ H σ ρ h _ c e (OkG.imp (OkG.bnd (rel := rlB) q) ?_)
  rintro v H1 ⟨d, h1, μ1, e1, c1, rfl, q1⟩
  cases v with
  | true => exact q1.now c1 rfl
  | false => exact hb μ1 H1 σ ρ h1 Q c1 (e.ext c e1) q1
theorem t_not {ta : TT} {a : MT} (ha : EvT K cls W ta a) : EvT K cls W (tNot ta) (mNot a) := fun μ H σ ρ h Q c e q => by
  refine ha μ H σ ρ h _ c e (OkG.imp (OkG.bnd (rel := rlB) q) ?_)
  rintro v H1 ⟨d, h1, μ1, e1, c1, rfl, q1⟩
  exact q1.now c1 rfl
theorem e_and {ta tb : TE} {a b : ME} (ha : EvE K cls W ta a) (hb : EvE K cls W tb b) : EvE K cls W (tAndV ta tb) (mAndV a b) := fun μ H σ ρ h Q c e q => by
  refine ha μ H σ ρ h _ c e (OkG.imp (OkG.bnd (rel := rlD K) q) ?_)
  rintro v H1 ⟨d, h1, μ1, e1, c1, r1, q1⟩
  obtain ⟨b, rfl, q2⟩ := asBl_bnd r1 q1
  refine ⟨b, rfl, ?_⟩
  cases b with
  | true => exact hb μ1 H1 σ ρ h1 Q c1 (e.ext c e1) q2
  | false => exact q2.now c1 (.bl false)
theorem e_or {ta tb : TE} {a b : ME} (ha : EvE K cls W ta a) (hb : EvE K cls W tb b) : EvE K cls W (tOrV ta tb) (mOrV a b) := fun μ H σ ρ h Q c e q => by
  refine ha μ H σ ρ h _ c e (OkG.imp (OkG.bnd (rel := rlD K) q) ?_)
  rintro v H1 ⟨d, h1, μ1, e1, c1, r1, q1⟩
  obtain ⟨b, rfl, q2⟩ := asBl_bnd r1 q1
  refine ⟨b, rfl, ?_⟩
  cases b with
  | true => exact q2.now c1 (.bl true)
  | false => exact hb μ1 H1 σ ρ h1 Q c1 (e.ext c e1) q2
theorem e_not {ta : TE} {a : ME} (ha : EvE K cls W ta a) : EvE K cls W (tNotV ta) (mNotV a) := fun μ H σ ρ h Q c e q => by
  refine ha μ H σ ρ h _ c e (OkG.imp (OkG.bnd (rel := rlD K) q) ?_)
  rintro v H1 ⟨d, h1, μ1, e1, c1, r1, q1⟩
  obtain ⟨b, rfl, q2⟩ := asBl_bnd r1 q1
  exact ⟨b, rfl, q2.now c1 (.bl _)⟩
theorem e_if {tt : TT} {t : MT} {ta tb : TE} {a b : ME} (ht : EvT K cls W tt t) (ha : EvE K cls W ta a) (hb : EvE K cls W tb b) : EvE K cls W (tIf tt ta tb) (mIf t a b) := fun μ H σ ρ h Q c e q => by
  refine ht μ H σ ρ h _ c e (OkG.imp (OkG.bnd (rel := rlB) q) ?_)
  rintro v H1 ⟨d, h1, μ1, e1, c1, rfl, q1⟩
  cases v with
  | true => exact ha μ1 H1 σ ρ h1 Q c1 (e.ext c e1) q1
  | false => exact hb μ1 H1 σ ρ h1 Q c1 (e.ext c e1) q1
theorem o_none : EvO K cls W tNoPart mNoPart := fun μ H σ ρ h Q c e q => q.now c rfl
theorem o_some {ta : TE} {a : ME} (ha : EvE K cls W ta a) : EvO K cls W (tPart ta) (mPart a) := fun μ H σ ρ h Q c e q => by
  refine ha μ H σ ρ h _ c e (OkG.imp (OkG.bnd (rel := rlD K) q) ?_)
  rintro v H1 ⟨d, h1, μ1, e1, c1, r1, q1⟩
  cases r1 <;> first | exact ⟨_, rfl, q1.now c1 rfl⟩ | exact q1.elim
theorem e_slice {r : V → Option Int → Option Int → Hp → VK → Prop} {f : D → Option Int → Option Int → M D} {ta : TE} {a : ME} {tl tu : TO} {l u : MO} (hr : ∀ {E : XK}, SlE K cls E r f) (ha : EvE K cls W ta a) (hl : EvO K cls W tl l) (hu : EvO K cls W tu u) :
    EvE K cls W (tSl r ta tl tu) (mSl f a l u) := fun μ H σ ρ h Q c e q => by
  refine ha μ H σ ρ h _ c e (OkG.imp (OkG.bnd (rel := rlD K) q) ?_)
  rintro v H1 ⟨d, h1, μ1, e1, c1, r1, q1⟩
  refine hl μ1 H1 σ ρ h1 _ c1 (e.ext c e1) (OkG.imp (OkG.bnd (rel := rlO) q1) ?_)
  rintro i H2 ⟨_, h2, μ2, e2, c2, rfl, q2⟩
  refine hu μ2 H2 σ ρ h2 _ c2 ((e.ext c e1).ext c1 e2) (OkG.imp (OkG.bnd (rel := rlO) q2) ?_)
  rintro j H3 ⟨_, h3, μ3, e3, c3, rfl, q3⟩
  exact hr μ3 H3 h3 v d i j Q c3 (Rep.ext c2 e3 (Rep.ext c1 e2 r1)) q3
/-! ### statements -/
theorem s_next : EvS K cls W tNext mNext := fun μ H σ ρ h D c e q => q.now (v := FlV.nx σ) c e
theorem s_brk : EvS K cls W tBreak mBrk := fun μ H σ ρ h D c e q => q.now (v := FlV.bk σ) c e
theorem s_cont : EvS K cls W tCont mCont := fun μ H σ ρ h D c e q => q.now (v := FlV.ct σ) c e
theorem s_ret {ta : TE} {a : ME} (ha : EvE K cls W ta a) : EvS K cls W (tRet ta) (mRet a) := fun μ H σ ρ h D c e q => by
  refine ha μ H σ ρ h _ c e (OkG.imp (OkG.bndS (rel := rlD K) c e q) ?_)
  rintro v H1 ⟨d, h1, μ1, e1, c1, r1, q1⟩
  exact q1.now (v := FlV.rt v) c1 r1
theorem s_retN : EvS K cls W tRetN mRetN := fun μ H σ ρ h D c e q => q.now (v := FlV.rt .non) c .non
theorem s_drop {ta : TE} {a : ME} (ha : EvE K cls W ta a) : EvS K cls W (tDrop ta) (mDrop a) := fun μ H σ ρ h D c e q => by
  refine ha μ H σ ρ h _ c e (OkG.imp (OkG.bndS (rel := rlD K) c e q) ?_)
  rintro v H1 ⟨d, h1, μ1, e1, c1, r1, q1⟩
  exact q1.now (v := FlV.nx σ) c1 (e.ext c e1)
theorem s_seq {ts us : TS} {t u : MS} (ht : EvS K cls W ts t) (hu : EvS K cls W us u) : EvS K cls W (tSeq ts us) (mSeq t u) := fun μ H σ ρ h D c e q => by
  refine ht μ H σ ρ h _ c e (OkG.imp (OkG.bnd (rel := rlF K cls W) q) ?_)
  rintro v H1 ⟨d, h1, μ1, e1, c1, r1, q1⟩
  cases v with
  | nx σ1 =>
    cases d with
    | nx ρ1 => exact hu μ1 H1 σ1 ρ1 h1 D c1 r1 q1
    | _ => exact r1.elim
  | rt v1 =>
    cases d with
    | rt d1 => exact q1.now (v := FlV.rt v1) c1 r1
    | _ => exact r1.elim
  | bk σ1 =>
    cases d with
    | bk d1 => exact q1.now (v := FlV.bk σ1) c1 r1
    | _ => exact r1.elim
  | ct σ1 =>
    cases d with
    | ct d1 => exact q1.now (v := FlV.ct σ1) c1 r1
    | _ => exact r1.elim
  | ex σ1 cv dv =>
    cases d with
    | ex ρ1 k fs => exact q1.now (v := FlV.ex σ1 cv dv) c1 r1
    | _ => exact r1.elim
theorem s_if {tt : TT} {t : MT} {us ws : TS} {u w : MS} (ht : EvT K cls W tt t) (hu : EvS K cls W us u) (hw : EvS K cls W ws w) : EvS K cls W (tIfS tt us ws) (mIfS t u w) := fun μ H σ ρ h D c e q => by
  refine ht μ H σ ρ h _ c e (OkG.imp (OkG.bndS (rel := rlB) c e q) ?_)
  rintro v H1 ⟨d, h1, μ1, e1, c1, rfl, q1⟩
  cases v with
  | true => exact hu μ1 H1 σ ρ h1 D c1 (e.ext c e1) q1
  | false => exact hw μ1 H1 σ ρ h1 D c1 (e.ext c e1) q1
theorem s_set {i : Nat} {ta : TE} {a : ME} (hi : W.fr i) (ha : EvE K cls W ta a) : EvS K cls W (tAsg ta (gName i)) (mSet i a) := fun μ H σ ρ h D c e q => by
  refine ha μ H σ ρ h _ c e (OkG.imp (OkG.bndS (rel := rlD K) c e q) ?_)
  rintro v H1 ⟨d, h1, μ1, e1, c1, r1, q1⟩
  exact q1.now (v := FlV.nx (σ.set i (some v))) c1 (EnvR.set r1 i hi (e.ext c e1))
theorem g_name (i : Nat) (hi : W.fr i) : GgE K cls W (gName i) (gmName i) := fun μ H h σ ρ v d ρ' Q c e r hm q => by
  cases hm
  exact q _ (EnvR.set r i hi e)
theorem gs_nil {vs : List V} {ds : List D} {μ : List Addr} {H : Hp} {h : Store} {σ : L2.St} {ρ ρ' : Env} {Q : L2.St → Hp → Prop} (e : EnvR K W H μ σ ρ) (r : RepAll K H μ vs ds) (hm : gmAll [] h ds ρ = some ρ') (q : ∀ σ', EnvR K W H μ σ' ρ' → Q σ' H) : gNil vs σ H Q := by
  cases r with
  | nil => cases hm; exact ⟨rfl, q _ e⟩
  | cons _ _ => cases hm
theorem getL_some {h : Store} {n : Nat} {xs : List D} (e : getL h n = some xs) : h[n]? = some (.lst xs) := by
  unfold getL at e
  split at e
  · next ys hy => cases e; exact hy
  · cases e
/-- (a, b, ..) = a tuple or a list of that length -/
def gSeq (K : PySem.W.Frag) (n : Nat) (t : TGs) : TG := fun v σ H Q => gTup K n t v σ H Q ∨ gUnl K n t v σ H Q
/-- many targets -/
def GsE (K : PySem.W.Frag) (cls : Nat → Addr) (W : WI) (g : TGs) (ms : List MG) : Prop := ∀ μ H h σ ρ vs ds ρ' (Q : L2.St → Hp → Prop), Cfg K cls μ H h → EnvR K W H μ σ ρ → RepAll K H μ vs ds → gmAll ms h ds ρ = some ρ' → (∀ σ', EnvR K W H μ σ' ρ' → Q σ' H) → g vs σ H Q
theorem g_nil : GsE K cls W gNil [] := fun μ H h σ ρ vs ds ρ' Q c e r hm q => gs_nil (h := h) e r hm q
theorem g_cons {g : TG} {gs : TGs} {m : MG} {ms : List MG} (hg : GgE K cls W g m) (hs : GsE K cls W gs ms) : GsE K cls W (gCons g gs) (m :: ms) := fun μ H h σ ρ vs ds ρ' Q c e r hm q => by
  cases r with
  | nil => cases hm
  | cons r1 r2 =>
    obtain ⟨ρ1, h1, h2⟩ := Option.bind_eq_some_iff.mp hm
    refine ⟨_, _, rfl, hg μ H h σ ρ _ _ ρ1 _ c e r1 h1 fun σ1 e1 => ?_⟩
    exact hs μ H h σ1 ρ1 _ _ ρ' Q c e1 r2 h2 q
theorem g_tup {gs : TGs} {ms : List MG} {n : Nat} (hs : GsE K cls W gs ms) (hn : ∀ h ds ρ ρ', gmAll ms h ds ρ = some ρ' → ds.length = n) : GgE K cls W (gSeq K n gs) (gmTup ms) := fun μ H h σ ρ v d ρ' Q c e r hm q => by
  cases r with
  | tup h1 h2 => exact .inl ⟨_, _, rfl, h1, (RepAll.length h2).trans (hn _ _ _ _ hm), hs μ H h σ ρ _ _ ρ' Q c e h2 hm q⟩
  | ref h1 =>
    rename_i n' a'
    unfold gmTup at hm
    dsimp only at hm
    cases hx : getL h n' with
    | none => rw [hx] at hm; cases hm
    | some ds =>
      rw [hx] at hm
      obtain ⟨p', hp, vs, hv, rv⟩ := c.at (getL_some hx)
      rw [h1] at hp
      cases hp
      exact .inr ⟨_, vs, rfl, .inl (.inl hv), (RepAll.length rv).trans (hn _ _ _ _ hm), hs μ H h σ ρ _ _ ρ' Q c e rv hm q⟩
  | _ => cases hm
theorem gmAll_len : ∀ (ms : List MG) h ds ρ ρ', gmAll ms h ds ρ = some ρ' → ds.length = ms.length
  | [], _, [], _, _, _ => rfl
  | _ :: ms, h0, d :: ds, ρ, ρ', h => by
    obtain ⟨ρ1, h1, h2⟩ := Option.bind_eq_some_iff.mp h
    rw [List.length_cons, List.length_cons, gmAll_len ms h0 ds ρ1 ρ' h2]
  | [], _, _ :: _, _, _, h => by cases h
  | _ :: _, _, [], _, _, h => by cases h
theorem s_asg {g : TG} {m : MG} {ta : TE} {a : ME} (ha : EvE K cls W ta a) (hg : GgE K cls W g m) : EvS K cls W (tAsg ta g) (mAsg m a) := fun μ H σ ρ h D c e q => by
  refine ha μ H σ ρ h _ c e (OkG.imp (OkG.bndS (rel := rlD K) c e q) ?_)
  rintro v H1 ⟨d, h1, μ1, e1, c1, r1, q1⟩
  cases hm : m h1 d ρ with
  | none => rw [hm] at q1; exact q1.elim
  | some ρ' =>
    rw [hm] at q1
    exact hg μ1 H1 h1 σ ρ v d ρ' _ c1 (e.ext c e1) r1 hm fun σ' e' => OkG.now (v := FlV.nx σ') (show OkG K cls E0 (rlF K cls W) μ1 H1 (.ok (.nx ρ') h1) (flQ W D) from q1) c1 e'
theorem s_setIx {to ti ta : TE} {o i a : ME} (ha : EvE K cls W ta a) (ho : EvE K cls W to o) (hi : EvE K cls W ti i) : EvS K cls W (tAsg ta (gSub to ti rSetL)) (mSetIx o i a) := fun μ H σ ρ h D c e q => by
  refine ha μ H σ ρ h _ c e (OkG.imp (OkG.bndS (rel := rlD K) c e q) ?_)
  rintro v H1 ⟨d, h1, μ1, e1, c1, r1, q1⟩
  refine ho μ1 H1 σ ρ h1 _ c1 (e.ext c e1) (OkG.imp (OkG.bndS (rel := rlD K) c1 (e.ext c e1) q1) ?_)
  rintro x H2 ⟨dx, h2, μ2, e2, c2, r2, q2⟩
  refine hi μ2 H2 σ ρ h2 _ c2 ((e.ext c e1).ext c1 e2) (OkG.imp (OkG.bndS (rel := rlD K) c2 ((e.ext c e1).ext c1 e2) q2) ?_)
  rintro k H3 ⟨dk, h3, μ3, e3, c3, r3, q3⟩
  have r2' := Rep.ext c2 e3 r2
  have r1' := Rep.ext c2 e3 (Rep.ext c1 e2 r1)
  have ee := ((e.ext c e1).ext c1 e2).ext c2 e3
  unfold bnd setItem at q3
  cases r2' with
  | ref hn =>
    cases r3 with
    | int z =>
      rename_i n p
      cases hx : getL h3 n with
      | none => simp only [hx] at q3; exact q3.elim
      | some xs =>
        simp only [hx] at q3
        cases hj : ixN xs.length z with
        | none => simp only [hj] at q3; exact q3.elim
        | some j =>
          simp only [hj] at q3
          obtain ⟨p', hp, vs, hv, rv⟩ := c3.at (getL_some hx)
          rw [hn] at hp
          cases hp
          refine ⟨_, vs, z, j, rfl, rfl, hv, by rw [RepAll.length rv]; exact hj, ?_⟩
          exact OkG.now (v := FlV.nx σ) (OkG.ext (ext_set (List.mem_of_getElem? hn)) q3) (c3.setL hn (RepAll.set r1' j rv)) (ee.ext c3 (ext_set (List.mem_of_getElem? hn)))
    | _ => exact q3.elim
  | _ => cases r3 <;> exact q3.elim
theorem s_aug {i : Nat} {r : R2} {f : D → D → M D} {ta : TE} {a : ME} (hi : W.fr i) (hr : ∀ {E : XK}, OpE K cls E r f) (ha : EvE K cls W ta a) : EvS K cls W (tAug i ta r) (mAug i f a) := fun μ H σ ρ h D c e q => by
  unfold mAug at q
  cases hx : ρ[i]? with
  | none => rw [hx] at q; exact q.elim
  | some o =>
   rw [hx] at q
   cases o with
   | none => exact q.elim
   | some d =>
    obtain ⟨v, hv, rv⟩ := e.get hx
    refine ⟨v, hv, ?_⟩
    refine ha μ H σ ρ h _ c e (OkG.imp (OkG.bndS (rel := rlD K) c e q) ?_)
    rintro w H1 ⟨d1, h1, μ1, e1, c1, r1, q1⟩
    refine hr μ1 H1 h1 v w d d1 _ c1 (Rep.ext c e1 rv) r1 (OkG.imp (OkG.bndS (rel := rlD K) c1 (e.ext c e1) q1) ?_)
    rintro z H2 ⟨d2, h2, μ2, e2, c2, r2, q2⟩
    exact q2.now (v := FlV.nx (σ.set i (some z))) c2 (EnvR.set r2 i hi ((e.ext c e1).ext c1 e2))
/-! ### loops -/
theorem drop_get {α : Type} {l : List α} {i : Nat} {x : α} {r : List α} (h : l.drop i = x :: r) : l[i]? = some x ∧ l.drop (i + 1) = r := by
  refine ⟨?_, ?_⟩
  · have := List.getElem?_drop (xs := l) (i := i) (j := 0)
    rw [h] at this
    simpa using this.symm
  · rw [← List.drop_drop, h]
    rfl
theorem s_for {wi : TI} {w : MI} {g : TG} {m : MG} {ts : TS} {t : MS} (hw : EvI K cls W wi w) (hg : GgE K cls W g m) (ht : EvS K cls W ts t) : EvS K cls W (tFor wi g ts) (mFor w m t) := fun μ H σ ρ h D c e q => by
  refine hw μ H σ ρ h _ c e (OkG.imp (OkG.bndS (rel := rlW K cls) c e q) ?_)
  rintro J H1 ⟨k, h1, μ1, e1, c1, r1, q1⟩
  refine ⟨fun i n σ' H' => n = (k.ds.drop i).length ∧ ∃ ρ' h' μ', Ext μ1 H1 μ' H' ∧ Cfg K cls μ' H' h' ∧ EnvR K W H' μ' σ' ρ' ∧ OkG K cls E0 (rlF K cls W) μ' H' (forGo k.lv m t (k.ds.drop i) ρ' h') (flQ W D),
    ⟨_, rfl, ρ, h1, μ1, Ext.refl _ _, c1, e.ext c e1, q1⟩, ?_⟩
  rintro i n σ' H' ⟨rfl, ρ', h', μ', x', c', e', q'⟩
  cases hd : k.ds.drop i with
  | nil =>
    rw [hd] at q'
    unfold forGo at q'
    have hn : k.ds[i]? = none := by
      rw [List.getElem?_eq_none_iff]
      exact List.drop_eq_nil_iff.mp hd
    split at q'
    · next hl => exact .inl ⟨(r1 i μ' H' h' x' c' hl).2 hn, q'.now (v := FlV.nx σ') c' e'⟩
    · exact q'.elim
  | cons d ds =>
    rw [hd] at q'
    obtain ⟨g1, g2⟩ := drop_get hd
    unfold forGo at q'
    split at q'
    · next hl =>
      obtain ⟨a1, a2⟩ := (r1 i μ' H' h' x' c' hl).1 d g1
      refine .inr ⟨a1, fun σ2 H2 => ∃ ρ2 h2 μ2, Ext μ1 H1 μ2 H2 ∧ Cfg K cls μ2 H2 h2 ∧ EnvR K W H2 μ2 σ2 ρ2 ∧ OkG K cls E0 (rlF K cls W) μ2 H2 (forGo k.lv m t ds ρ2 h2) (flQ W D), ?_, fun x H2 hy => ?_⟩
      · rintro σ2 H2 ⟨ρ2, h2, μ2, z1, z2, z3, z4⟩
        exact ⟨ds.length, Nat.lt_succ_self _, by rw [g2], ρ2, h2, μ2, z1, z2, z3, by rw [g2]; exact z4⟩
      · obtain ⟨b1, b2, b3⟩ := a2 x H2 hy
        split at q'
        · exact q'.elim
        · next ρ1 hm =>
          refine hg μ' H2 h' σ' ρ' x d ρ1 _ b2 (e'.ext c' b1) b3 hm fun σ1 e1' => ?_
          refine ht μ' H2 σ1 ρ1 h' _ b2 e1' ?_
          have q2 : OkG K cls E0 (rlF K cls W) μ' H2 _ (flQ W D) := OkG.ext b1 q'
          cases hb : t ρ1 h' with
          | stuck => rw [hb] at q2; exact q2.elim
          | exc c fs h2 => rw [hb] at q2; exact q2.elim
          | ok f h2 =>
            rw [hb] at q2
            intro v μ3 H3 x3 c3 r3
            cases f with
            | nx ρ2 =>
              cases v with
              | nx σ3 => exact ⟨ρ2, h2, μ3, (x'.trans b1).trans x3, c3, r3, OkG.ext x3 q2⟩
              | _ => exact r3.elim
            | ct ρ2 =>
              cases v with
              | ct σ3 => exact ⟨ρ2, h2, μ3, (x'.trans b1).trans x3, c3, r3, OkG.ext x3 q2⟩
              | _ => exact r3.elim
            | bk ρ2 =>
              cases v with
              | bk σ3 => exact q2 (FlV.nx σ3) μ3 H3 x3 c3 r3
              | _ => exact r3.elim
            | rt d2 =>
              cases v with
              | rt v3 => exact q2 (FlV.rt v3) μ3 H3 x3 c3 r3
              | _ => exact r3.elim
            | ex ρ2 k fs =>
              cases v with
              | ex σ3 cv dv => exact q2 (FlV.ex σ3 cv dv) μ3 H3 x3 c3 r3
              | _ => exact r3.elim
    · exact q'.elim
theorem s_while {tt : TT} {tm : MT} {ts : TS} {t : MS} (n : Nat) (hc : EvT K cls W tt tm) (ht : EvS K cls W ts t) : EvS K cls W (tWhile tt ts) (mWhile tm t n) := fun μ H σ ρ h D c e q => by
  refine ⟨fun n σ' H' => ∃ ρ' h' μ', Ext μ H μ' H' ∧ Cfg K cls μ' H' h' ∧ EnvR K W H' μ' σ' ρ' ∧ OkG K cls E0 (rlF K cls W) μ' H' (mWhile tm t n ρ' h') (flQ W D),
    ⟨n, ρ, h, μ, Ext.refl _ _, c, e, q⟩, ?_⟩
  rintro n σ' H' ⟨ρ', h', μ', x', c', e', q'⟩
  cases n with
  | zero => exact q'.elim
  | succ n =>
    unfold mWhile at q'
    refine hc μ' H' σ' ρ' h' _ c' e' (OkG.imp (OkG.bndS (rel := rlB) c' e' q') ?_)
    rintro b H1 ⟨_, h1, μ1, e1, c1, rfl, q1⟩
    cases b with
    | false => exact q1.now (v := FlV.nx σ') c1 (e'.ext c' e1)
    | true =>
      refine ⟨fun σ2 H2 => ∃ ρ2 h2 μ2, Ext μ H μ2 H2 ∧ Cfg K cls μ2 H2 h2 ∧ EnvR K W H2 μ2 σ2 ρ2 ∧ OkG K cls E0 (rlF K cls W) μ2 H2 (mWhile tm t n ρ2 h2) (flQ W D), fun σ2 H2 z => ⟨n, Nat.lt_succ_self _, z⟩, ?_⟩
      refine ht μ1 H1 σ' ρ' h1 _ c1 (e'.ext c' e1) ?_
      have q2 : OkG K cls E0 (rlF K cls W) μ1 H1 (match t ρ' h1 with
        | .ok (.nx ρ2) h2 => mWhile tm t n ρ2 h2
        | .ok (.ct ρ2) h2 => mWhile tm t n ρ2 h2
        | .ok (.bk ρ2) h2 => .ok (.nx ρ2) h2
        | .ok (.rt d) h2 => .ok (.rt d) h2
        | .ok (.ex ρ2 c fs) h2 => .ok (.ex ρ2 c fs) h2
        | .exc c fs h2 => .stuck
        | .stuck => .stuck) (flQ W D) := q1
      cases hb : t ρ' h1 with
      | stuck => rw [hb] at q2; exact q2.elim
      | exc c fs h2 => rw [hb] at q2; exact q2.elim
      | ok f h2 =>
        rw [hb] at q2
        intro v μ3 H3 x3 c3 r3
        cases f with
        | nx ρ2 =>
          cases v with
          | nx σ3 => exact ⟨ρ2, h2, μ3, (x'.trans e1).trans x3, c3, r3, OkG.ext x3 q2⟩
          | _ => exact r3.elim
        | ct ρ2 =>
          cases v with
          | ct σ3 => exact ⟨ρ2, h2, μ3, (x'.trans e1).trans x3, c3, r3, OkG.ext x3 q2⟩
          | _ => exact r3.elim
        | bk ρ2 =>
          cases v with
          | bk σ3 => exact q2 (FlV.nx σ3) μ3 H3 x3 c3 r3
          | _ => exact r3.elim
        | rt d2 =>
          cases v with
          | rt v3 => exact q2 (FlV.rt v3) μ3 H3 x3 c3 r3
          | _ => exact r3.elim
        | ex ρ2 k fs =>
          cases v with
          | ex σ3 cv dv => exact q2 (FlV.ex σ3 cv dv) μ3 H3 x3 c3 r3
          | _ => exact r3.elim
end
end G

/-! Comprehensions. -/
namespace G
open PySem PySem.Spec PyProof.Rows L2
theorem bnd_assoc {α β γ : Type} (m : M α) (f : α → M β) (g : β → M γ) : bnd (bnd m f) g = bnd m fun a => bnd (f a) g := by
  funext h
  unfold bnd
  cases m h <;> rfl
theorem bnd_ret {α β : Type} (a : α) (f : α → M β) : bnd (ret a) f = f a := rfl
theorem bnd_at {α β : Type} {m : M α} {f : α → M β} {h h' : Store} {a : α} (e : m h = .ok a h') : bnd m f h = f a h' := by
  unfold bnd
  rw [e]
section
variable {K : PySem.W.Frag} {cls : Nat → Addr} {E : XK} {μ μ' : List Addr} {H H' : Hp} {h h' : Store}
mutual
theorem Rep.keep (ht : ∀ a xs, H a = some (.tup xs) → H' a = some (.tup xs)) (hf : ∀ a o u, H a = some (.frz o u) → H' a = some (.frz o u)) : ∀ {v : V} {d : D}, Rep K H μ v d → Rep K H' μ v d
  | _, _, .non => .non
  | _, _, .bl b => .bl b
  | _, _, .int i => .int i
  | _, _, .str x => .str x
  | _, _, .ty n => .ty n
  | _, _, .tup q r => .tup (by
      rcases q with (q | ⟨o, q⟩) | q
      · exact .inl (.inl (ht _ _ q))
      · exact .inl (.inr ⟨o, hf _ _ _ q⟩)
      · exact .inr q) (RepAll.keep ht hf r)
  | _, _, .fzl q r => .fzl (by
      rcases q with ⟨o, q⟩ | q
      · exact .inl ⟨o, hf _ _ _ q⟩
      · exact .inr q) (RepAll.keep ht hf r)
  | _, _, .ref q => .ref q
theorem RepAll.keep (ht : ∀ a xs, H a = some (.tup xs) → H' a = some (.tup xs)) (hf : ∀ a o u, H a = some (.frz o u) → H' a = some (.frz o u)) : ∀ {v : List V} {d : List D}, RepAll K H μ v d → RepAll K H' μ v d
  | _, _, .nil => .nil
  | _, _, .cons q r => .cons (Rep.keep ht hf q) (RepAll.keep ht hf r)
end
theorem RepF.keep (ht : ∀ a xs, H a = some (.tup xs) → H' a = some (.tup xs)) (hf : ∀ a o u, H a = some (.frz o u) → H' a = some (.frz o u)) : ∀ {v : List (PySem.Str × V)} {d : List (PySem.Str × D)}, RepF K H μ v d → RepF K H' μ v d
  | _, _, .nil => .nil
  | _, _, .cons q r => .cons (q.keep ht hf) (RepF.keep ht hf r)
theorem EnvR0.keep (ht : ∀ a xs, H a = Option.some (.tup xs) → H' a = Option.some (.tup xs)) (hf : ∀ a o u, H a = Option.some (.frz o u) → H' a = Option.some (.frz o u)) : ∀ {σ : L2.St} {ρ : Env}, EnvR0 K H μ σ ρ → EnvR0 K H' μ σ ρ
  | _, _, .nil => .nil
  | _, _, .none r => .none (EnvR0.keep ht hf r)
  | _, _, .some q r => .some (q.keep ht hf) (EnvR0.keep ht hf r)
theorem kt {p : Addr} {xs : List V} {o : HO} (hp : H p = some (.lst xs)) : ∀ a zs, H a = some (.tup zs) → upd H p o a = some (.tup zs) := fun a zs q => by
  rw [upd_ne (fun z => by rw [z, hp] at q; cases q)]
  exact q
theorem kf {p : Addr} {xs : List V} {o : HO} (hp : H p = some (.lst xs)) : ∀ a ob u, H a = some (.frz ob u) → upd H p o a = some (.frz ob u) := fun a ob u q => by
  rw [upd_ne (fun z => by rw [z, hp] at q; cases q)]
  exact q
/-- a list outside of the store is changed -/
theorem Cfg.chg (c : Cfg K cls μ H h) {p : Addr} {xs : List V} {o : HO} (hn : p ∉ μ) (hp : H p = some (.lst xs)) : Cfg K cls μ (upd H p o) h :=
  ⟨c.len, c.nd, fun n u a h1 h2 => by
    have ha : upd H p o a = H a := upd_ne fun z => hn (by rw [← z]; exact List.mem_of_getElem? h2)
    have q := c.obj n u a h1 h2
    cases u with
    | lst ds => obtain ⟨xs, q, r⟩ := q; exact ⟨xs, by rw [ha]; exact q, r.keep (kt hp) (kf hp)⟩
    | ins k fs => obtain ⟨dx, gs, q, r⟩ := q; exact ⟨dx, gs, by rw [ha]; exact q, r.keep (kt hp) (kf hp)⟩⟩
theorem ext_out (e : Ext μ H μ' H') {p : Addr} {o : HO} (hp : H p = none) : Ext μ H μ' (upd H' p o) :=
  ⟨e.pre, fun a u q n => by
    obtain ⟨q1, n1⟩ := e.fr a u q n
    exact ⟨by rw [upd_ne (ne_of_none q hp)]; exact q1, n1⟩, e.mt⟩
/-- .. what follows is asked from an elder place -/
theorem OkG.bndB {α β γ δ : Type} {rel : Hp → List Addr → β → α → Prop} {rel2 : Hp → List Addr → δ → γ → Prop} {m : M α} {f : α → M γ} {Q : δ → Hp → Prop} (e : Ext μ H μ' H') (q : OkG K cls E rel2 μ H (G.bnd m f h) Q) :
    OkG K cls E rel μ' H' (m h) fun v H1 => ∃ a h1 μ1, Ext μ' H' μ1 H1 ∧ Cfg K cls μ1 H1 h1 ∧ rel H1 μ1 v a ∧ OkG K cls E rel2 μ H (f a h1) Q := by
  unfold G.bnd at q
  cases z : m h with
  | ok d h1 =>
    rw [z] at q
    exact fun v μ1 H1 e1 c1 r1 => ⟨d, h1, μ1, e1, c1, r1, q⟩
  | exc c fs h1 =>
    rw [z] at q
    cases fs with
    | none => exact fun μ1 H1 e1 => q μ1 H1 (e.trans e1)
    | some fs => exact fun μ1 H1 dx gs e1 => q μ1 H1 dx gs (e.trans e1)
  | stuck =>
    rw [z] at q
    exact q
theorem small_line' {n : Nat} (h : n < 1000000) : n < sizeLine := by rw [sizeLine_eq]; omega
/-- a target stores in the block's own slots alone -/
def GW (vs : List Nat) (g : TG) : Prop := ∀ (x : V) (σ : L2.St) (H : Hp) (Q : L2.St → Hp → Prop), g x σ H Q → g x σ H fun σ2 H2 => L2.wipe σ2 vs = L2.wipe σ vs ∧ Q σ2 H2
def GWs (vs : List Nat) (g : TGs) : Prop := ∀ (x : List V) (σ : L2.St) (H : Hp) (Q : L2.St → Hp → Prop), g x σ H Q → g x σ H fun σ2 H2 => L2.wipe σ2 vs = L2.wipe σ vs ∧ Q σ2 H2
theorem wipe_set {i : Nat} {o : Option V} : ∀ {vs : List Nat} (σ : L2.St), i ∈ vs → L2.wipe (σ.set i o) vs = L2.wipe σ vs
  | [], _, h => by cases h
  | v :: vs, σ, h => by
    show (L2.wipe (σ.set i o) vs).set v none = (L2.wipe σ vs).set v none
    by_cases hm : i ∈ vs
    · rw [wipe_set σ hm]
    · have hv : i = v := by
        rcases List.mem_cons.mp h with q | q
        · exact q
        · exact absurd q hm
      subst hv
      clear h
      have : ∀ (ws : List Nat) (σ : L2.St), i ∉ ws → L2.wipe (σ.set i o) ws = (L2.wipe σ ws).set i o := by
        intro ws
        induction ws with
        | nil => intro σ _; rfl
        | cons w ws ih =>
          intro σ hn
          show (L2.wipe (σ.set i o) ws).set w none = ((L2.wipe σ ws).set w none).set i o
          rw [ih σ (fun z => hn (List.mem_cons_of_mem _ z)), List.set_comm]
          exact fun z => hn (by rw [z]; exact List.mem_cons_self ..)
      rw [this vs σ hm, List.set_set]
theorem gw_name {i : Nat} {vs : List Nat} (h : i ∈ vs) : GW vs (gName i) := fun x σ H Q q => ⟨wipe_set σ h, q⟩
theorem gw_nil {vs : List Nat} : GWs vs gNil := fun x σ H Q q => ⟨q.1, rfl, q.2⟩
theorem gw_cons {vs : List Nat} {g : TG} {gs : TGs} (h : GW vs g) (mg : ∀ (x : V) (σ : L2.St) (H : Hp) (Q Q' : L2.St → Hp → Prop), (∀ σ H, Q σ H → Q' σ H) → g x σ H Q → g x σ H Q') (hs : GWs vs gs)
    (ms : ∀ (x : List V) (σ : L2.St) (H : Hp) (Q Q' : L2.St → Hp → Prop), (∀ σ H, Q σ H → Q' σ H) → gs x σ H Q → gs x σ H Q') : GWs vs (gCons g gs) := fun x σ H Q q => by
  obtain ⟨v, r, e, q⟩ := q
  refine ⟨v, r, e, mg _ _ _ _ _ ?_ (h v σ H _ q)⟩
  rintro σ1 H1 ⟨w, q1⟩
  exact ms _ _ _ _ _ (fun σ2 H2 z => ⟨z.1.trans w, z.2⟩) (hs r σ1 H1 _ q1)
theorem gm_name {i : Nat} : ∀ (x : V) (σ : L2.St) (H : Hp) (Q Q' : L2.St → Hp → Prop), (∀ σ H, Q σ H → Q' σ H) → gName i x σ H Q → gName i x σ H Q' := fun _ _ _ _ _ f q => f _ _ q
theorem gm_nil : ∀ (x : List V) (σ : L2.St) (H : Hp) (Q Q' : L2.St → Hp → Prop), (∀ σ H, Q σ H → Q' σ H) → gNil x σ H Q → gNil x σ H Q' := fun _ _ _ _ _ f q => ⟨q.1, f _ _ q.2⟩
theorem gm_cons {g : TG} {gs : TGs} (mg : ∀ (x : V) (σ : L2.St) (H : Hp) (Q Q' : L2.St → Hp → Prop), (∀ σ H, Q σ H → Q' σ H) → g x σ H Q → g x σ H Q')
    (ms : ∀ (x : List V) (σ : L2.St) (H : Hp) (Q Q' : L2.St → Hp → Prop), (∀ σ H, Q σ H → Q' σ H) → gs x σ H Q → gs x σ H Q') : ∀ (x : List V) (σ : L2.St) (H : Hp) (Q Q' : L2.St → Hp → Prop), (∀ σ H, Q σ H → Q' σ H) → gCons g gs x σ H Q → gCons g gs x σ H Q' := fun x σ H Q Q' f q => by
  obtain ⟨v, r, e, q⟩ := q
  exact ⟨v, r, e, mg _ _ _ _ _ (fun σ1 H1 q1 => ms _ _ _ _ _ f q1) q⟩
theorem gm_tup {K : PySem.W.Frag} {n : Nat} {gs : TGs} (ms : ∀ (x : List V) (σ : L2.St) (H : Hp) (Q Q' : L2.St → Hp → Prop), (∀ σ H, Q σ H → Q' σ H) → gs x σ H Q → gs x σ H Q') : ∀ (x : V) (σ : L2.St) (H : Hp) (Q Q' : L2.St → Hp → Prop), (∀ σ H, Q σ H → Q' σ H) → gSeq K n gs x σ H Q → gSeq K n gs x σ H Q' := fun x σ H Q Q' f q => by
  rcases q with ⟨a, xs, h1, h2, h3, q⟩ | ⟨a, xs, h1, h2, h3, q⟩
  · exact .inl ⟨a, xs, h1, h2, h3, ms _ _ _ _ _ f q⟩
  · exact .inr ⟨a, xs, h1, h2, h3, ms _ _ _ _ _ f q⟩
theorem gw_tup {vs : List Nat} {n : Nat} {gs : TGs} (hs : GWs vs gs) : GW vs (gSeq K n gs) := fun x σ H Q q => by
  rcases q with ⟨a, xs, h1, h2, h3, q⟩ | ⟨a, xs, h1, h2, h3, q⟩
  · exact .inl ⟨a, xs, h1, h2, h3, hs _ _ _ _ q⟩
  · exact .inr ⟨a, xs, h1, h2, h3, hs _ _ _ _ q⟩
theorem wipe_wipe (σ : L2.St) : ∀ vs : List Nat, L2.wipe (L2.wipe σ vs) vs = L2.wipe σ vs := by
  intro vs
  have key : ∀ ws : List Nat, (∀ w ∈ ws, w ∈ vs) → L2.wipe (L2.wipe σ ws) vs = L2.wipe σ vs := by
    intro ws
    induction ws with
    | nil => intro _; rfl
    | cons w ws ih =>
      intro hw
      show L2.wipe ((L2.wipe σ ws).set w none) vs = _
      rw [wipe_set _ (hw w (List.mem_cons_self ..))]
      exact ih fun z hz => hw z (List.mem_cons_of_mem _ hz)
  exact key vs fun _ h => h

theorem noexc_any {α β : Type} {E1 E2 : XK} {rel : Hp → List Addr → β → α → Prop} {m : M α} {Q : β → Hp → Prop} (q : OkG K cls E1 rel μ H (noexc m h) Q) : OkG K cls E2 rel μ H (m h) Q := by
  unfold noexc at q
  cases z : m h with
  | ok d h1 => rw [z] at q; exact q
  | exc c fs h1 => rw [z] at q; exact q.elim
  | stuck => rw [z] at q; exact q.elim
theorem EnvR.keepU {W : WI} {σ : L2.St} {ρ : Env} {p : Addr} {xs : List V} {o : HO} (hp : H p = some (.lst xs)) (e : EnvR K W H μ σ ρ) : EnvR K W (upd H p o) μ σ ρ := ⟨e.r.keep (kt hp) (kf hp), W.pres _ _ _ _ _ _ hp e.p⟩
/-- the same knowledge, no exception -/
def WI.no (W : WI) : WI := W.wish fun _ _ _ _ => False
theorem EnvR.no {W : WI} {σ : L2.St} {ρ : Env} (e : EnvR K W H μ σ ρ) : EnvR K W.no H μ σ ρ := ⟨e.r, e.p⟩
theorem bnd_same {α β : Type} {m1 m2 : M α} {f : α → M β} {h : Store} (e : m1 h = m2 h) : bnd m1 f h = bnd m2 f h := by
  unfold bnd
  rw [e]
theorem e_lc {wi : TI} {w : MI} {g : TG} {m : MG} {tt : TT} {t : MT} {te : TE} {el : ME} {vs : List Nat} {W : WI} (hw : EvI K cls W wi w) (hg : GgE K cls W g m) (ht : EvT K cls W.no tt t) (he : EvE K cls W.no te el) (hwp : GW vs g) (hv : ∀ i ∈ vs, W.fr i) :
    EvE K cls W (tLc wi g tt te vs) (mLc w m t el vs) := fun μ H σ ρ h Q c e q => by
  refine hw μ H σ ρ h _ c e (OkG.imp (OkG.bnd (rel := rlW K cls) q) ?_)
  rintro J H1 ⟨k, h1, μ1, e1, c1, r1, q1⟩
  split at q1
  case isFalse => exact q1.elim
  case isTrue hz =>
  intro Dl hD
  have e2 : Ext μ1 H1 μ1 (upd H1 Dl (.lst [])) := ext_new c1 hD
  have c2 : Cfg K cls μ1 (upd H1 Dl (.lst [])) h1 := c1.upd_out hD
  refine ⟨fun i n H' => n = (k.ds.drop i).length ∧ ∃ (acc : List V) (done : List D) (h' : Store) (μ' : List Addr), Ext μ1 H1 μ' H' ∧ Cfg K cls μ' H' h' ∧ Dl ∉ μ' ∧ H' Dl = some (.lst acc) ∧ acc.length ≤ i ∧ RepAll K H' μ' acc done ∧ EnvR K W H' μ' σ ρ ∧
      OkG K cls (L2.WE W.w σ) (rlD K) μ1 H1 (bnd (lcGo k.lv m t el (wipeD ρ vs) (k.ds.drop i)) (fun ys => alloc (.lst (done ++ ys))) h') Q,
    ⟨_, rfl, [], [], h1, μ1, e2, c2, c1.free hD, upd_same, Nat.zero_le _, .nil, (e.ext c e1).ext c1 e2, q1⟩, ?_⟩
  rintro i n H' ⟨rfl, acc, done, h', μ', x', c', nD, hl, la, ra, e', q'⟩
  cases hd : k.ds.drop i with
  | nil =>
    rw [hd] at q'
    have hn : k.ds[i]? = none := by
      rw [List.getElem?_eq_none_iff]
      exact List.drop_eq_nil_iff.mp hd
    unfold lcGo at q'
    by_cases lv : k.lv h' = true
    · rw [bnd_at (a := []) (h' := h') (by rw [if_pos lv])] at q'
      rw [List.append_nil] at q'
      refine .inl ⟨(r1 i μ' H' h' x' c' lv).2 hn, ?_⟩
      refine q' (.ref Dl) (μ' ++ [Dl]) H' (ext_join c' x' hD) (c'.join nD ⟨acc, hl, ra.pre⟩) (.ref ?_)
      rw [← c'.len, List.getElem?_append_right (Nat.le_refl _), Nat.sub_self]
      rfl
    · unfold bnd at q'
      dsimp only at q'
      rw [if_neg lv] at q'
      exact q'.elim
  | cons d ds =>
    rw [hd] at q'
    obtain ⟨g1, g2⟩ := drop_get hd
    unfold lcGo at q'
    by_cases lv : k.lv h' = true
    · obtain ⟨a1, a2⟩ := (r1 i μ' H' h' x' c' lv).1 d g1
      have li : i < k.ds.length := by
        obtain ⟨z, _⟩ := List.getElem?_eq_some_iff.mp g1
        exact z
      refine .inr ⟨a1, fun H5 => ∃ (acc : List V) (done : List D) (h' : Store) (μ' : List Addr), Ext μ1 H1 μ' H5 ∧ Cfg K cls μ' H5 h' ∧ Dl ∉ μ' ∧ H5 Dl = some (.lst acc) ∧ acc.length ≤ i + 1 ∧ RepAll K H5 μ' acc done ∧ EnvR K W H5 μ' σ ρ ∧
        OkG K cls (L2.WE W.w σ) (rlD K) μ1 H1 (bnd (lcGo k.lv m t el (wipeD ρ vs) ds) (fun ys => alloc (.lst (done ++ ys))) h') Q, fun H5 z => ⟨ds.length, Nat.lt_succ_self _, by rw [g2], by rw [g2]; exact z⟩, fun x H2 hy => ?_⟩
      obtain ⟨b1, b2, b3⟩ := a2 x H2 hy
      have q2 : OkG K cls (L2.WE W.w σ) (rlD K) μ1 H1 (bnd (fun h => match m h d (wipeD ρ vs) with
        | none => .stuck
        | some ρ1 => bnd (noexc (t ρ1)) (fun b => if b = true then bnd (noexc (el ρ1)) fun y => bnd (lcGo k.lv m t el (wipeD ρ vs) ds) fun ys => ret (y :: ys) else lcGo k.lv m t el (wipeD ρ vs) ds) h) (fun ys => alloc (.lst (done ++ ys))) h') Q := by
        unfold bnd at q' ⊢
        dsimp only at q' ⊢
        rw [if_pos lv] at q'
        exact q'
      clear q'
      have hp2 := b1.fr Dl _ hl nD
      have x2 := x'.trans b1
      cases hm : m h' d (wipeD ρ vs) with
      | none =>
        unfold bnd at q2
        dsimp only at q2
        rw [hm] at q2
        exact q2.elim
      | some ρ1 =>
        have e2' : EnvR K W H2 μ' (L2.wipe σ vs) (wipeD ρ vs) := (e'.ext c' b1).wipe vs hv
        have hw' : ∀ (Q : L2.St → Hp → Prop), g x (L2.wipe σ vs) H2 Q → g x (L2.wipe σ vs) H2 fun σ2 H3 => L2.wipe σ2 vs = L2.wipe σ vs ∧ Q σ2 H3 := fun Q z => by
          have := hwp x (L2.wipe σ vs) H2 Q z
          rw [wipe_wipe] at this
          exact this
        refine hw' _ (hg μ' H2 h' (L2.wipe σ vs) (wipeD ρ vs) x d ρ1 _ b2 e2' b3 hm fun σ2 e3 => ?_)
        rw [bnd_same (m2 := bnd (noexc (t ρ1)) fun b => if b = true then bnd (noexc (el ρ1)) fun y => bnd (lcGo k.lv m t el (wipeD ρ vs) ds) fun ys => ret (y :: ys) else lcGo k.lv m t el (wipeD ρ vs) ds) (by rw [hm])] at q2
        have q3 : OkG K cls (L2.WE W.w σ) (rlD K) μ1 H1 (bnd (noexc (t ρ1)) (fun b => bnd (if b = true then bnd (noexc (el ρ1)) fun y => bnd (lcGo k.lv m t el (wipeD ρ vs) ds) fun ys => ret (y :: ys) else lcGo k.lv m t el (wipeD ρ vs) ds) (fun ys => alloc (.lst (done ++ ys)))) h') Q := by
          rw [← bnd_assoc]
          exact q2
        refine ht μ' H2 σ2 ρ1 h' _ b2 e3.no (OkG.imp (noexc_any (OkG.bndB (rel := rlB) x2 q3)) ?_)
        rintro b H3 ⟨_, h3, μ3, x3, c3, rfl, q4⟩
        have hp3 := x3.fr Dl _ hp2.1 hp2.2
        cases b with
        | false => exact ⟨acc, done, h3, μ3, x2.trans x3, c3, hp3.2, hp3.1, by omega, (ra.ext c' b1).ext b2 x3, (e'.ext c' b1).ext b2 x3, q4⟩
        | true =>
          have q5 : OkG K cls (L2.WE W.w σ) (rlD K) μ1 H1 (bnd (noexc (el ρ1)) (fun y => bnd (lcGo k.lv m t el (wipeD ρ vs) ds) (fun ys => alloc (.lst ((done ++ [y]) ++ ys)))) h3) Q := by
            rw [if_pos rfl, bnd_assoc] at q4
            have : (fun y => bnd (bnd (lcGo k.lv m t el (wipeD ρ vs) ds) fun ys => ret (y :: ys)) (fun ys => alloc (.lst (done ++ ys)))) = fun y => bnd (lcGo k.lv m t el (wipeD ρ vs) ds) (fun ys => alloc (.lst ((done ++ [y]) ++ ys))) := by
              funext y
              rw [bnd_assoc]
              congr 1
              funext ys
              rw [bnd_ret, List.append_assoc]
              rfl
            rw [this] at q4
            exact q4
          refine he μ3 H3 σ2 ρ1 h3 _ c3 (e3.ext b2 x3).no (OkG.imp (noexc_any (OkG.bndB (rel := rlD K) (x2.trans x3) q5)) ?_)
          rintro y H4 ⟨dy, h4, μ4, x4, c4, ry, q6⟩
          have hp4 := x4.fr Dl _ hp3.1 hp3.2
          refine ⟨acc, hp4.1, small_line' (by omega), acc ++ [y], done ++ [dy], h4, μ4, ext_out ((x2.trans x3).trans x4) hD, c4.chg hp4.2 hp4.1, hp4.2, upd_same, by rw [List.length_append]; simp only [List.length_cons, List.length_nil]; omega, ?_, ?_, q6⟩
          · exact RepAll.append ((((ra.ext c' b1).ext b2 x3).ext c3 x4).keep (kt hp4.1) (kf hp4.1)) (.cons (Rep.keep (kt hp4.1) (kf hp4.1) ry) .nil)
          · exact (((e'.ext c' b1).ext b2 x3).ext c3 x4).keepU hp4.1
    · unfold bnd at q'
      dsimp only at q'
      rw [if_neg lv] at q'
      exact q'.elim
end
end G

/-! Operators, built-ins, iterators. -/
namespace G
open PySem PySem.Spec PyProof.Rows L2

/-! ### mirrors of operators -/
def fAdd (x y : D) : M D := match x, y with
  | .int i, .int j => ret (.int (i + j))
  | .ref a, .ref b => fun h => match getL h a, getL h b with
    | some xs, some ys => if xs.length + ys.length ≤ sizeLine then alloc (.lst (xs ++ ys)) h else .stuck
    | _, _ => .stuck
  | .tup xs, .tup ys => if xs ≠ [] ∧ xs.length + ys.length ≤ sizeLine then ret (.tup (xs ++ ys)) else stuck
  | .str a, .str b => if a.length + b.length ≤ sizeLine then ret (.str (a ++ b)) else stuck
  | .int i, .bl k => ret (.int (i + b2i k))
  | _, _ => stuck
def fSub (x y : D) : M D := match x, y with
  | .int i, .int j => ret (.int (i - j))
  | _, _ => stuck
def mulOk (i j : Int) : Bool := decide (-(2 ^ 64) < i ∧ i < 2 ^ 64) || decide (-(2 ^ 64) < j ∧ j < 2 ^ 64) || decide (i.natAbs.log2 + j.natAbs.log2 < 1000000)
def fMul (x y : D) : M D := match x, y with
  | .int i, .int j => if mulOk i j = true then ret (.int (i * j)) else stuck
  | _, _ => stuck
def fDiv (x y : D) : M D := match x, y with
  | .int i, .int j => if j ≠ 0 ∧ j.natAbs.log2 < 9000 then ret (.int (i.fdiv j)) else stuck
  | _, _ => stuck
def fMod (x y : D) : M D := match x, y with
  | .int i, .int j => if j ≠ 0 then ret (.int (i.fmod j)) else stuck
  | _, _ => stuck
def fPow (x y : D) : M D := match x, y with
  | .int i, .int j => if 0 ≤ j ∧ j ≤ 1000000 ∧ i.natAbs < 2 ^ 64 then ret (.int (i ^ j.toNat)) else stuck
  | _, _ => stuck
def fNeg (x : D) : M D := match x with
  | .int i => ret (.int (-i))
  | _ => stuck
def fCmp (p : Int → Int → Bool) (x y : D) : M D := match x, y with
  | .int i, .int j => ret (.bl (p i j))
  | _, _ => stuck
mutual
def toPy (h : Store) : Nat → D → Option PyData
  | _, .non => some .none
  | _, .bl b => some (.bool b)
  | _, .int i => some (.int i)
  | _, .str x => some (.str x)
  | 0, _ => none
  | n + 1, .tup l => (toPys h n l).map .tuple
  | n + 1, .fzl l => (toPys h n l).map .list
  | n + 1, .ref a => match getL h a with
    | some l => (toPys h n l).map .list
    | none => none
  | _, .ty _ => none
def toPys (h : Store) : Nat → List D → Option (List PyData)
  | _, [] => some []
  | 0, _ :: _ => none
  | n + 1, d :: ds => match toPy h n d, toPys h n ds with
    | some p, some ps => some (p :: ps)
    | _, _ => none
end
/-- the depth of a search through the store -/
def deep : Nat := 2000000
def fEq (neg : Bool) (x y : D) : M D := fun h => match toPy h deep x, toPy h deep y with
  | some p, some q => if SeqAt.shaped p = true ∧ SeqAt.shaped q = true then .ok (.bl (if neg then !PyData.eqv p q else PyData.eqv p q)) h else .stuck
  | _, _ => .stuck
def fIsB (neg : Bool) (x y : D) : M D := match x, y with
  | .bl a, .bl b => ret (.bl (if neg then !decide (a = b) else decide (a = b)))
  | _, _ => stuck
def isNon : D → Bool
  | .non => true
  | _ => false
def fIsN (neg : Bool) (x y : D) : M D := match y with
  | .non => ret (.bl (if neg then !isNon x else isNon x))
  | _ => stuck
/-- the items of a list or a tuple -/
def items (h : Store) : D → Option (List D)
  | .tup l => some l
  | .fzl l => some l
  | .ref n => getL h n
  | _ => none
def fIx (x y : D) : M D := fun h => match items h x, y with
  | some l, .int i => match atI l i with
    | some d => .ok d h
    | none => .stuck
  | _, _ => .stuck
def cutD (xs : List D) (lo hi : Option Int) : List D := (xs.drop (HT.sIx xs.length 0 lo)).take (HT.sIx xs.length xs.length hi - HT.sIx xs.length 0 lo)
def fSl (x : D) (lo hi : Option Int) : M D := fun h => match x with
  | .fzl l => alloc (.lst (cutD l lo hi)) h
  | .ref n => match getL h n with
    | some l => alloc (.lst (cutD l lo hi)) h
    | none => .stuck
  | _ => .stuck
def fLen (vs : List D) : M D := fun h => match vs with
  | [x] => match items h x with
    | some l => .ok (.int l.length) h
    | none => .stuck
  | _ => .stuck
def fAbs (vs : List D) : M D := match vs with
  | [.int i] => ret (.int (if i < 0 then -i else i))
  | _ => stuck
def fInt (vs : List D) : M D := match vs with
  | [.int i] => ret (.int i)
  | [.bl k] => ret (.int (if k then 1 else 0))
  | _ => stuck
def fMax2 (vs : List D) : M D := match vs with
  | [.int i, .int j] => ret (.int (if j > i then j else i))
  | _ => stuck
def fMin2 (vs : List D) : M D := match vs with
  | [.int i, .int j] => ret (.int (if j < i then j else i))
  | _ => stuck
def fGcd (vs : List D) : M D := match vs with
  | [.int i, .int j] => ret (.int ((Nat.gcd i.natAbs j.natAbs : Nat) : Int))
  | _ => stuck
def fList (vs : List D) : M D := fun h => match vs with
  | [x] => match items h x with
    | some l => alloc (.lst l) h
    | none => .stuck
  | _ => .stuck
def tyName (h : Store) : D → Option String
  | .non => some "NoneType"
  | .bl _ => some "bool"
  | .int _ => some "int"
  | .str _ => some "str"
  | .tup _ => some "tuple"
  | .fzl _ => some "list"
  | .ref n => match h[n]? with
    | some (.lst _) => some "list"
    | _ => none
  | .ty _ => none
/-- isinstance(x, T), T a built-in class -/
def fIsi (vs : List D) : M D := fun h => match vs with
  | [x, .ty b] => match tyName h x with
    | some a => match kitB a b with
      | some r => .ok (.bl r) h
      | none => .stuck
    | none => .stuck
  | _ => .stuck
def fAppend (x : D) (vs : List D) : M D := fun h => match x, vs with
  | .ref n, [y] => match getL h n with
    | some xs => if xs.length < sizeLine then .ok .non (h.set n (.lst (xs ++ [y]))) else .stuck
    | none => .stuck
  | _, _ => .stuck
/-- o.m(..), m a list's method -/
def mBM (f : D → List D → M D) (o : ME) (a : MA) : ME := fun ρ => bnd (o ρ) fun x => fun h => match x with
  | .ref n => match getL h n with
    | some _ => bnd (a ρ) (fun vs => f x vs) h
    | none => .stuck
  | _ => .stuck
def mBM0 (f : D → List D → M D) (o : ME) : ME := fun ρ => bnd (o ρ) fun x => fun h => match x with
  | .ref n => match getL h n with
    | some _ => f x [] h
    | none => .stuck
  | _ => .stuck
/-! what is walked -/
def wList (a : ME) : MI := fun ρ => bnd (a ρ) fun x => fun h => match x with
  | .fzl l => .ok ⟨l, fun _ => true⟩ h
  | .ref n => match getL h n with
    | some l => .ok ⟨l, fun h' => decide (getL h' n = some l)⟩ h
    | none => .stuck
  | _ => .stuck
def wTup (a : ME) : MI := fun ρ => bnd (a ρ) fun x => fun h => match x with
  | .tup l => .ok ⟨l, fun _ => true⟩ h
  | _ => .stuck
def rng (lo : Int) (n : Nat) : List D := (List.range n).map fun (k : Nat) => D.int (lo + (k : Int))
def wRng1 (a : MA) : MI := fun ρ => bnd (a ρ) fun vs => match vs with
  | [.int j] => if -(2 ^ 62) ≤ j ∧ j < 2 ^ 62 then ret ⟨rng 0 j.toNat, fun _ => true⟩ else stuck
  | _ => stuck
def wRng2 (a : MA) : MI := fun ρ => bnd (a ρ) fun vs => match vs with
  | [.int i, .int j] => if -(2 ^ 62) ≤ i ∧ i < 2 ^ 62 ∧ -(2 ^ 62) ≤ j ∧ j < 2 ^ 62 then ret ⟨rng i (j - i).toNat, fun _ => true⟩ else stuck
  | _ => stuck

section
variable {K : PySem.W.Frag} {cls : Nat → Addr} {E : XK} {W : WI}
/-! ### operators -/
def rAddU (K : PySem.W.Frag) : R2 := fun x y H Q => (rI0 (fun i j => .int (i + j)) x y H Q ∨ rCat x y H Q) ∨ (rCatT K x y H Q ∨ (∃ i j, x = .str i ∧ y = .str j ∧ i.length + j.length ≤ sizeLine ∧ Q (.str (i ++ j)) H)) ∨ ∃ i k, x = .int i ∧ y = .bl k ∧ Q (.int (i + b2i k)) H
theorem op_addU {X : Cx} : OpR X (binaryOp .Add) (rAddU X.K) := (op_add.or op_cat).or ((op_catT.or op_add_str).or op_add_ib)
theorem o_add : OpE K cls E (rAddU K) fAdd := fun μ H h x y a b Q c r s q => by
  cases r with
  | int i =>
    cases s with
    | int j => exact .inl (.inl ⟨i, j, rfl, rfl, q.now c (.int _)⟩)
    | bl k => exact .inr (.inr ⟨i, k, rfl, rfl, q.now c (.int _)⟩)
    | _ => exact q.elim
  | str i =>
    cases s with
    | str j =>
      by_cases hz : i.length + j.length ≤ sizeLine
      · simp only [fAdd, if_pos hz] at q
        exact .inr (.inl (.inr ⟨i, j, rfl, rfl, hz, OkG.now (show OkG K cls E (rlD K) μ H (.ok (.str (i ++ j)) h) Q from q) c (.str _)⟩))
      · simp only [fAdd, if_neg hz] at q
        exact q.elim
    | _ => exact q.elim
  | tup h1 h2 =>
    cases s with
    | tup g1 g2 =>
      rename_i a xs ds b ys es
      by_cases hz : ds ≠ [] ∧ ds.length + es.length ≤ sizeLine
      · simp only [fAdd, if_pos hz] at q
        have l1 := RepAll.length h2
        have l2 := RepAll.length g2
        refine .inr (.inl (.inl ⟨_, _, xs, ys, rfl, rfl, h1, g1, ?_, by omega, fun z => ?_, fun z => ?_⟩))
        · intro z
          subst z
          cases h2
          exact hz.1 rfl
        · subst z
          cases g2
          rw [List.append_nil] at q
          exact OkG.now (show OkG K cls E (rlD K) μ H (.ok (.tup ds) h) Q from q) c (.tup h1 h2)
        · exact ok_tup c (RepAll.append h2 g2) q
      · simp only [fAdd, if_neg hz] at q
        exact q.elim
    | _ => exact q.elim
  | ref hn =>
    cases s with
    | ref hm =>
      rename_i n p m p'
      cases e1 : getL h n with
      | none => simp only [fAdd, e1] at q; exact q.elim
      | some xs =>
        cases e2 : getL h m with
        | none => simp only [fAdd, e1, e2] at q; exact q.elim
        | some ys =>
          simp only [fAdd, e1, e2] at q
          by_cases hz : xs.length + ys.length ≤ sizeLine
          · rw [if_pos hz] at q
            obtain ⟨_, hp, vs, hv, rv⟩ := c.at (getL_some e1)
            rw [hn] at hp
            cases hp
            obtain ⟨_, hp, ws, hw, rw'⟩ := c.at (getL_some e2)
            rw [hm] at hp
            cases hp
            exact .inl (.inr ⟨_, _, vs, ws, rfl, rfl, hv, hw, by rw [RepAll.length rv, RepAll.length rw']; exact hz, ok_alloc c (RepAll.append rv rw') q⟩)
          · rw [if_neg hz] at q
            exact q.elim
    | _ => exact q.elim
  | _ => cases s <;> exact q.elim
theorem o_int {g : Int → Int → Int} {f : D → D → M D} (hf : ∀ i j, f (.int i) (.int j) = ret (.int (g i j))) (hs : ∀ x y, (∀ i j, ¬ (x = D.int i ∧ y = D.int j)) → f x y = stuck) : OpE K cls E (rI0 fun i j => .int (g i j)) f := fun μ H h x y a b Q c r s q => by
  by_cases hz : ∃ i j, a = D.int i ∧ b = D.int j
  · obtain ⟨i, j, rfl, rfl⟩ := hz
    cases r
    cases s
    rw [hf] at q
    exact ⟨i, j, rfl, rfl, OkG.now (show OkG K cls E (rlD K) μ H (.ok (.int (g i j)) h) Q from q) c (.int _)⟩
  · rw [hs a b fun i j z => hz ⟨i, j, z⟩] at q
    exact q.elim
theorem o_intC {C : Int → Int → Prop} {g : Int → Int → Int} {f : D → D → M D} (hf : ∀ i j h, (C i j ∧ f (.int i) (.int j) h = .ok (.int (g i j)) h) ∨ f (.int i) (.int j) h = .stuck) (hs : ∀ x y, (∀ i j, ¬ (x = D.int i ∧ y = D.int j)) → f x y = stuck) :
    OpE K cls E (rI C fun i j => .int (g i j)) f := fun μ H h x y a b Q c r s q => by
  by_cases hz : ∃ i j, a = D.int i ∧ b = D.int j
  · obtain ⟨i, j, rfl, rfl⟩ := hz
    cases r
    cases s
    rcases hf i j h with ⟨hc, e⟩ | e
    · rw [e] at q
      exact ⟨i, j, rfl, rfl, hc, OkG.now q c (.int _)⟩
    · rw [e] at q
      exact q.elim
  · rw [hs a b fun i j z => hz ⟨i, j, z⟩] at q
    exact q.elim
theorem stk {f : D → D → M D} (h : ∀ x y, (∀ i j, ¬ (x = D.int i ∧ y = D.int j)) → f x y = stuck) : ∀ x y, (∀ i j, ¬ (x = D.int i ∧ y = D.int j)) → f x y = stuck := h
theorem o_sub : OpE K cls E (rI0 fun i j => .int (i - j)) fSub := o_int (fun _ _ => rfl) fun x y z => by
  cases x <;> cases y <;> first | rfl | exact absurd ⟨rfl, rfl⟩ (z _ _)
def CMulU (i j : Int) : Prop := mulOk i j = true
theorem op_mulU {X : Cx} : OpR X (binaryOp .Mult) (rI CMulU fun i j => .int (i * j)) := opI fun _ _ _ _ _ _ _ hc q => mul_int q (by
  unfold CMulU mulOk at hc
  simp only [Bool.or_eq_true, decide_eq_true_eq] at hc
  rcases hc with hc | hc
  · exact CMul.ok hc
  · exact CMulW.ok hc)
theorem o_mul : OpE K cls E (rI CMulU fun i j => .int (i * j)) fMul := o_intC (fun i j h => by
  by_cases z : mulOk i j = true
  · exact .inl ⟨z, by simp only [fMul, if_pos z]; rfl⟩
  · exact .inr (by simp only [fMul, if_neg z]; rfl)) fun x y z => by
  cases x <;> cases y <;> first | rfl | exact absurd ⟨rfl, rfl⟩ (z _ _)
def CDivU (_ j : Int) : Prop := j ≠ 0 ∧ j.natAbs.log2 < 9000
theorem op_divU {X : Cx} : OpR X (binaryOp .FloorDiv) (rI CDivU fun i j => .int (i.fdiv j)) := opI fun _ _ _ _ _ _ _ hc q => floordiv_int hc.1 q (.inl (PyProof.noPylong_of_log2 hc.2))
theorem o_div : OpE K cls E (rI CDivU fun i j => .int (i.fdiv j)) fDiv := o_intC (fun i j h => by
  by_cases z : j ≠ 0 ∧ j.natAbs.log2 < 9000
  · exact .inl ⟨z, by simp only [fDiv, if_pos z]; rfl⟩
  · exact .inr (by simp only [fDiv, if_neg z]; rfl)) fun x y z => by
  cases x <;> cases y <;> first | rfl | exact absurd ⟨rfl, rfl⟩ (z _ _)
theorem o_mod : OpE K cls E (rI (fun _ j => j ≠ 0) fun i j => .int (i.fmod j)) fMod := o_intC (fun i j h => by
  by_cases z : j ≠ 0
  · exact .inl ⟨z, by simp only [fMod, if_pos z]; rfl⟩
  · exact .inr (by simp only [fMod, if_neg z]; rfl)) fun x y z => by
  cases x <;> cases y <;> first | rfl | exact absurd ⟨rfl, rfl⟩ (z _ _)
theorem o_pow : OpE K cls E (rI CPow fun i j => .int (i ^ j.toNat)) fPow := o_intC (fun i j h => by
  by_cases z : 0 ≤ j ∧ j ≤ 1000000 ∧ i.natAbs < 2 ^ 64
  · exact .inl ⟨z, by simp only [fPow, if_pos z]; rfl⟩
  · exact .inr (by simp only [fPow, if_neg z]; rfl)) fun x y z => by
  cases x <;> cases y <;> first | rfl | exact absurd ⟨rfl, rfl⟩ (z _ _)
theorem u_neg : UnE K cls E (rU fun i => .int (-i)) fNeg := fun μ H h x a Q c r q => by
  cases r with
  | int i => exact ⟨i, rfl, q.now c (.int _)⟩
  | _ => exact q.elim
theorem o_cmp (p : Int → Int → Bool) : OpE K cls E (rI0 fun i j => .bl (p i j)) (fCmp p) := fun μ H h x y a b Q c r s q => by
  cases r with
  | int i =>
    cases s with
    | int j => exact ⟨i, j, rfl, rfl, q.now c (.bl _)⟩
    | _ => exact q.elim
  | _ => cases s <;> exact q.elim
/-! == of data -/
mutual
theorem dp_of {μ : List Addr} {H : Hp} {h : Store} (c : Cfg K cls μ H h) : ∀ (n : Nat) {v : V} {d : D} {p : PyData}, Rep K H μ v d → toPy h n d = some p → Dp K H v p
  | _, _, _, _, .non, e => by unfold toPy at e; cases e; exact .non
  | _, _, _, _, .bl b, e => by unfold toPy at e; cases e; exact .bl b
  | _, _, _, _, .int b, e => by unfold toPy at e; cases e; exact .int b
  | _, _, _, _, .str b, e => by unfold toPy at e; cases e; exact .str b
  | 0, _, _, _, .ty b, e => by unfold toPy at e; cases e
  | _ + 1, _, _, _, .ty b, e => by unfold toPy at e; cases e
  | 0, _, _, _, .tup _ _, e => by unfold toPy at e; cases e
  | n + 1, _, _, _, .tup h1 h2, e => by
    unfold toPy at e
    obtain ⟨ps, e1, e2⟩ := Option.map_eq_some_iff.mp e
    subst e2
    exact .tup h1 (dps_of c n h2 e1)
  | 0, _, _, _, .fzl _ _, e => by unfold toPy at e; cases e
  | n + 1, _, _, _, .fzl h1 h2, e => by
    unfold toPy at e
    obtain ⟨ps, e1, e2⟩ := Option.map_eq_some_iff.mp e
    subst e2
    exact .lst (FzL.sq K h1) (dps_of c n h2 e1)
  | 0, _, _, _, .ref _, e => by unfold toPy at e; cases e
  | n + 1, _, _, _, .ref (n := k) hn, e => by
    unfold toPy at e
    cases hx : getL h k with
    | none => rw [hx] at e; cases e
    | some l =>
      rw [hx] at e
      obtain ⟨ps, e1, e2⟩ := Option.map_eq_some_iff.mp e
      subst e2
      obtain ⟨_, hp, vs, hv, rv⟩ := c.at (getL_some hx)
      rw [hn] at hp
      cases hp
      exact .lst (SqL.of hv) (dps_of c n rv e1)
theorem dps_of {μ : List Addr} {H : Hp} {h : Store} (c : Cfg K cls μ H h) : ∀ (n : Nat) {vs : List V} {ds : List D} {ps : List PyData}, RepAll K H μ vs ds → toPys h n ds = some ps → DpAll K H vs ps
  | _, _, _, _, .nil, e => by unfold toPys at e; cases e; exact .nil
  | 0, _, _, _, .cons _ _, e => by unfold toPys at e; cases e
  | n + 1, _, _, _, .cons (d := d) (ds := ds) h1 h2, e => by
    unfold toPys at e
    cases e1 : toPy h n d with
    | none => rw [e1] at e; cases e
    | some p =>
      cases e2 : toPys h n ds with
      | none => rw [e1, e2] at e; cases e
      | some ps =>
        rw [e1, e2] at e
        cases e
        exact .cons (dp_of c n h1 e1) (dps_of c n h2 e2)
end
theorem o_eq : OpE K cls E (rEqD K) (fEq false) := fun μ H h x y a b Q c r s q => by
  unfold fEq at q
  cases e1 : toPy h deep a with
  | none => rw [e1] at q; exact q.elim
  | some p =>
    cases e2 : toPy h deep b with
    | none => rw [e1, e2] at q; exact q.elim
    | some t =>
      rw [e1, e2] at q
      dsimp only at q
      split at q
      · next hz => exact ⟨p, t, dp_of c _ r e1, dp_of c _ s e2, hz.1, hz.2, q.now c (.bl _)⟩
      · exact q.elim
theorem o_ne : OpE K cls E (rNeD K) (fEq true) := fun μ H h x y a b Q c r s q => by
  unfold fEq at q
  cases e1 : toPy h deep a with
  | none => rw [e1] at q; exact q.elim
  | some p =>
    cases e2 : toPy h deep b with
    | none => rw [e1, e2] at q; exact q.elim
    | some t =>
      rw [e1, e2] at q
      dsimp only at q
      split at q
      · next hz => exact ⟨p, t, dp_of c _ r e1, dp_of c _ s e2, hz.1, hz.2, q.now c (.bl _)⟩
      · exact q.elim
theorem o_isB : OpE K cls E rIsB (fIsB false) := fun μ H h x y a b Q c r s q => by
  cases r with
  | bl i =>
    cases s with
    | bl j => exact ⟨i, j, rfl, rfl, q.now c (.bl _)⟩
    | _ => exact q.elim
  | _ => cases s <;> exact q.elim
theorem o_notB : OpE K cls E rNotB (fIsB true) := fun μ H h x y a b Q c r s q => by
  cases r with
  | bl i =>
    cases s with
    | bl j => exact ⟨i, j, rfl, rfl, q.now c (.bl _)⟩
    | _ => exact q.elim
  | _ => cases s <;> exact q.elim
theorem isNon_of {μ : List Addr} {H : Hp} {v : V} {d : D} (r : Rep K H μ v d) : decide (v = .non) = isNon d := by
  cases r <;> simp [isNon]
def rIsNo : R2 := fun x y H Q => y = .non ∧ Q (.bl (decide (x = .non))) H
def rNotNo : R2 := fun x y H Q => y = .non ∧ Q (.bl (!decide (x = .non))) H
theorem op_isNo {X : Cx} : OpR X (compareOp .Is) rIsNo := op_isN
theorem op_notNo {X : Cx} : OpR X (compareOp .IsNot) rNotNo := op_notN
theorem o_isN : OpE K cls E rIsNo (fIsN false) := fun μ H h x y a b Q c r s q => by
  cases s with
  | non => exact ⟨rfl, by rw [isNon_of r]; exact q.now c (.bl _)⟩
  | _ => exact q.elim
theorem o_notN : OpE K cls E rNotNo (fIsN true) := fun μ H h x y a b Q c r s q => by
  cases s with
  | non => exact ⟨rfl, by rw [isNon_of r]; exact q.now c (.bl _)⟩
  | _ => exact q.elim
/-! items, slices -/
theorem atI_len {α β : Type} {xs : List α} {ys : List β} (h : xs.length = ys.length) (i : Int) : ixN xs.length i = ixN ys.length i := by rw [h]
theorem atI_rep {μ : List Addr} {H : Hp} {xs : List V} {ds : List D} {i : Int} {d : D} (r : RepAll K H μ xs ds) (e : atI ds i = some d) : ∃ v, atI xs i = some v ∧ Rep K H μ v d := by
  unfold atI at e ⊢
  obtain ⟨j, e1, e2⟩ := Option.bind_eq_some_iff.mp e
  obtain ⟨v, hv, rv⟩ := r.get e2
  refine ⟨v, ?_, rv⟩
  rw [RepAll.length r, e1]
  exact hv
theorem seq_of {μ : List Addr} {H : Hp} {h : Store} (c : Cfg K cls μ H h) {v : V} {d : D} {l : List D} (r : Rep K H μ v d) (e : items h d = some l) :
    ∃ p xs, v = .ref p ∧ RepAll K H μ xs l ∧ ((SqT K H p xs ∧ ∃ m, d = .tup m) ∨ (SqL K H p xs ∧ ∀ m, d ≠ .tup m)) := by
  cases r with
  | tup h1 h2 => cases e; exact ⟨_, _, rfl, h2, .inl ⟨h1, _, rfl⟩⟩
  | fzl h1 h2 => cases e; exact ⟨_, _, rfl, h2, .inr ⟨FzL.sq K h1, by simp⟩⟩
  | ref hn =>
    obtain ⟨_, hp, vs, hv, rv⟩ := c.at (getL_some e)
    rw [hn] at hp
    cases hp
    exact ⟨_, vs, rfl, rv, .inr ⟨SqL.of hv, by simp⟩⟩
  | _ => cases e
theorem o_ix : OpE K cls E (rIx K) fIx := fun μ H h x y a b Q c r s q => by
  unfold fIx at q
  cases e : items h a with
  | none => rw [e] at q; exact q.elim
  | some l =>
    rw [e] at q
    cases s with
    | int i =>
      dsimp only at q
      cases e2 : atI l i with
      | none => rw [e2] at q; exact q.elim
      | some d =>
        rw [e2] at q
        obtain ⟨p, xs, rfl, ra, hh⟩ := seq_of c r e
        obtain ⟨v, hv, rv⟩ := atI_rep ra e2
        rcases hh with ⟨hh, _⟩ | ⟨hh, _⟩
        · exact .inr (.inl ⟨p, xs, i, v, rfl, rfl, hh, hv, q.now c rv⟩)
        · exact .inl ⟨p, xs, i, v, rfl, rfl, hh, hv, q.now c rv⟩
    | _ => exact q.elim
theorem cut_rep {μ : List Addr} {H : Hp} {xs : List V} {ds : List D} (r : RepAll K H μ xs ds) (lo hi : Option Int) : RepAll K H μ (cutV xs lo hi) (cutD ds lo hi) := by
  unfold cutV cutD
  rw [RepAll.length r]
  exact (r.drop _).take _
theorem sl_lst : SlE K cls E (rSlL K) fSl := fun μ H h x a l u Q c r q => by
  unfold fSl at q
  cases r with
  | fzl h1 h2 => exact ⟨_, _, rfl, FzL.sq K h1, ok_alloc c (cut_rep h2 l u) q⟩
  | ref hn =>
    rename_i n p
    dsimp only at q
    cases e : getL h n with
    | none => rw [e] at q; exact q.elim
    | some xs =>
      rw [e] at q
      obtain ⟨_, hp, vs, hv, rv⟩ := c.at (getL_some e)
      rw [hn] at hp
      cases hp
      exact ⟨_, vs, rfl, SqL.of hv, ok_alloc c (cut_rep rv l u) q⟩
  | _ => exact q.elim
/-! calls of built-ins -/
def rLenS (K : PySem.W.Frag) : List V → Hp → VK → Prop := fun xs H Q => ∃ p ys, xs = [.ref p] ∧ (SqL K H p ys ∨ SqT K H p ys) ∧ Q (.int ys.length) H
theorem cr_len {X : Cx} : CallR X (.builtin "len") (rLenS X.K) := call_len_seq
theorem c_len : CaE K cls E (rLenS K) fLen := fun μ H h xs as Q c r q => by
  cases r with
  | nil => exact q.elim
  | cons r1 r2 =>
    cases r2 with
    | cons _ _ => exact q.elim
    | nil =>
      rename_i v d
      unfold fLen at q
      dsimp only at q
      cases e : items h d with
      | none => rw [e] at q; exact q.elim
      | some l =>
        rw [e] at q
        obtain ⟨p, xs, rfl, ra, hh⟩ := seq_of c r1 e
        refine ⟨p, xs, rfl, ?_, ?_⟩
        · rcases hh with ⟨hh, _⟩ | ⟨hh, _⟩
          · exact .inr hh
          · exact .inl hh
        · rw [RepAll.length ra]
          exact OkG.now q c (.int _)
def rAbs1 : List V → Hp → VK → Prop := fun xs H Q => ∃ i, xs = [.int i] ∧ Q (.int (if i < 0 then -i else i)) H
theorem cr_abs {X : Cx} : CallR X (.builtin "abs") rAbs1 := call_abs
theorem c_abs : CaE K cls E rAbs1 fAbs := fun μ H h xs as Q c r q => by
  cases r with
  | nil => exact q.elim
  | cons r1 r2 =>
    cases r2 with
    | cons _ _ => cases r1 <;> exact q.elim
    | nil =>
      cases r1 with
      | int i => exact ⟨i, rfl, OkG.now (show OkG K cls E (rlD K) μ H (.ok _ h) Q from q) c (.int _)⟩
      | _ => exact q.elim
def rInt1 : List V → Hp → VK → Prop := fun xs H Q => (∃ i, xs = [.int i] ∧ Q (.int i) H) ∨ ∃ k, xs = [.bl k] ∧ Q (.int (if k then 1 else 0)) H
theorem cr_int {X : Cx} : CallR X (.type "int") rInt1 := call_int1
theorem c_int : CaE K cls E rInt1 fInt := fun μ H h xs as Q c r q => by
  cases r with
  | nil => exact q.elim
  | cons r1 r2 =>
    cases r2 with
    | cons _ _ => cases r1 <;> exact q.elim
    | nil =>
      cases r1 with
      | int i => exact .inl ⟨i, rfl, OkG.now (show OkG K cls E (rlD K) μ H (.ok _ h) Q from q) c (.int _)⟩
      | bl i => exact .inr ⟨i, rfl, OkG.now (show OkG K cls E (rlD K) μ H (.ok _ h) Q from q) c (.int _)⟩
      | _ => exact q.elim
theorem two_of {μ : List Addr} {H : Hp} {h : Store} {xs : List V} {as : List D} {f : List D → M D} {Q : VK} (hf : ∀ ds, (∀ i j, ds ≠ [D.int i, .int j]) → f ds = stuck) (r : RepAll K H μ xs as) (q : OkG K cls E (rlD K) μ H (f as h) Q) :
    ∃ i j, xs = [.int i, .int j] ∧ as = [.int i, .int j] := by
  by_cases hz : ∃ i j, as = [D.int i, .int j]
  · obtain ⟨i, j, rfl⟩ := hz
    cases r with
    | cons r1 r2 =>
      cases r2 with
      | cons r2 r3 =>
        cases r3
        cases r1
        cases r2
        exact ⟨i, j, rfl, rfl⟩
  · rw [hf as fun i j z => hz ⟨i, j, z⟩] at q
    exact q.elim
theorem stk2 (f : List D → M D) (g : Int → Int → M D) (hf : f = fun vs => match vs with
    | [.int i, .int j] => g i j
    | _ => stuck) : ∀ ds, (∀ i j, ds ≠ [D.int i, .int j]) → f ds = stuck := fun ds z => by
  subst hf
  dsimp only
  split
  · exact absurd rfl (z _ _)
  · rfl
def rMaxI : List V → Hp → VK → Prop := fun xs H Q => ∃ i j, xs = [.int i, .int j] ∧ Q (.int (if j > i then j else i)) H
theorem cr_max2 {X : Cx} (hc : X.calm = true) : CallR X (.builtin "max") rMaxI := call_max2 hc
theorem c_max2 : CaE K cls E rMaxI fMax2 := fun μ H h xs as Q c r q => by
  obtain ⟨i, j, rfl, rfl⟩ := two_of (stk2 fMax2 _ rfl) r q
  exact ⟨i, j, rfl, OkG.now (show OkG K cls E (rlD K) μ H (.ok _ h) Q from q) c (.int _)⟩
def rMinI : List V → Hp → VK → Prop := fun xs H Q => ∃ i j, xs = [.int i, .int j] ∧ Q (.int (if j < i then j else i)) H
theorem cr_min2 {X : Cx} (hc : X.calm = true) : CallR X (.builtin "min") rMinI := call_min2 hc
theorem c_min2 : CaE K cls E rMinI fMin2 := fun μ H h xs as Q c r q => by
  obtain ⟨i, j, rfl, rfl⟩ := two_of (stk2 fMin2 _ rfl) r q
  exact ⟨i, j, rfl, OkG.now (show OkG K cls E (rlD K) μ H (.ok _ h) Q from q) c (.int _)⟩
theorem c_gcd : CaE K cls E rGcd fGcd := fun μ H h xs as Q c r q => by
  obtain ⟨i, j, rfl, rfl⟩ := two_of (stk2 fGcd _ rfl) r q
  exact ⟨i, j, rfl, OkG.now (show OkG K cls E (rlD K) μ H (.ok _ h) Q from q) c (.int _)⟩
def rListO (K : PySem.W.Frag) : List V → Hp → VK → Prop := fun xs H Q => ∃ p ys, xs = [.ref p] ∧ (SqL K H p ys ∨ SqT K H p ys) ∧ ∀ l, H l = none → Q (.ref l) (upd H l (.lst ys))
theorem cr_list {X : Cx} : CallR X (.type "list") (rListO X.K) := call_list_of
theorem c_list : CaE K cls E (rListO K) fList := fun μ H h xs as Q c r q => by
  cases r with
  | nil => exact q.elim
  | cons r1 r2 =>
    cases r2 with
    | cons _ _ => exact q.elim
    | nil =>
      rename_i v d
      unfold fList at q
      dsimp only at q
      cases e : items h d with
      | none => rw [e] at q; exact q.elim
      | some l =>
        rw [e] at q
        obtain ⟨p, xs, rfl, ra, hh⟩ := seq_of c r1 e
        refine ⟨p, xs, rfl, ?_, ok_alloc c ra q⟩
        rcases hh with ⟨hh, _⟩ | ⟨hh, _⟩
        · exact .inr hh
        · exact .inl hh
theorem ty_of {μ : List Addr} {H : Hp} {h : Store} (c : Cfg K cls μ H h) {v : V} {d : D} {a : String} (r : Rep K H μ v d) (e : tyName h d = some a) : TyX K H v (.type a) := by
  cases r with
  | non => cases e; exact .base .non
  | bl b => cases e; exact .base (.bl b)
  | int b => cases e; exact .base (.int b)
  | str b => cases e; exact .base (.str b)
  | ty b => cases e
  | tup h1 h2 =>
    cases e
    rcases h1 with (h1 | ⟨o, h1⟩) | ⟨o, its, n, h1, h2, _⟩
    · exact .base (.tup h1)
    · exact .fTuple h1
    · exact .kTuple h1 h2
  | fzl h1 h2 =>
    cases e
    rcases h1 with ⟨o, h1⟩ | ⟨o, its, n, h1, h2, _⟩
    · exact .base (.frz h1)
    · exact .kList h1 h2
  | ref hn =>
    rename_i n p
    unfold tyName at e
    dsimp only at e
    cases e1 : h[n]? with
    | none => rw [e1] at e; cases e
    | some o =>
      rw [e1] at e
      cases o with
      | ins _ _ => cases e
      | lst l =>
        cases e
        obtain ⟨_, hp, vs, hv, rv⟩ := c.at e1
        rw [hn] at hp
        cases hp
        exact .base (.lst hv)
theorem c_isi : CaE K cls E (rIsi K) fIsi := fun μ H h xs as Q c r q => by
  unfold fIsi at q
  cases r with
  | nil => exact q.elim
  | cons r1 r2 =>
    cases r2 with
    | nil => exact q.elim
    | cons r2 r3 =>
      cases r3 with
      | cons _ _ => cases r2 <;> exact q.elim
      | nil =>
        cases r2 with
        | ty b =>
          rename_i v d
          dsimp only at q
          cases e : tyName h d with
          | none => rw [e] at q; exact q.elim
          | some a =>
            rw [e] at q
            dsimp only at q
            cases e2 : kitB a b with
            | none => rw [e2] at q; exact q.elim
            | some k =>
              rw [e2] at q
              exact ⟨v, .ty b, .type a, .type b, k, rfl, .ty b, ty_of c r1 e, kit_ty e2, q.now c (.bl k)⟩
        | _ => exact q.elim
/-! methods of lists -/
def MtE (K : PySem.W.Frag) (cls : Nat → Addr) (E : XK) (r : V → List V → Hp → VK → Prop) (f : D → List D → M D) : Prop := ∀ μ H h n p xs as (Q : VK), Cfg K cls μ H h → μ[n]? = some p → (∃ l, getL h n = some l) → RepAll K H μ xs as → OkG K cls E (rlD K) μ H (f (.ref n) as h) Q → r (.ref p) xs H Q
theorem e_bm {r : V → List V → Hp → VK → Prop} {f : D → List D → M D} {to : TE} {ta : TA} {o : ME} {a : MA} (hr : ∀ {E : XK}, MtE K cls E r f) (ho : EvE K cls W to o) (ha : EvA K cls W ta a)
    (hf : ∀ n as h, getL h n = none → f (.ref n) as h = .stuck) : EvE K cls W (tBM K "list" r to ta) (mBM f o a) := fun μ H σ ρ h Q c e q => by
  refine ho μ H σ ρ h _ c e (OkG.imp (OkG.bnd (rel := rlD K) q) ?_)
  rintro v H1 ⟨d, h1, μ1, e1, c1, r1, q1⟩
  cases r1 with
  | ref hn =>
    rename_i n p
    dsimp only at q1
    cases e2 : getL h1 n with
    | none => rw [e2] at q1; exact q1.elim
    | some l =>
      rw [e2] at q1
      obtain ⟨_, hp, vs, hv, rv⟩ := c1.at (getL_some e2)
      rw [hn] at hp
      cases hp
      refine ⟨.inl ⟨rfl, vs, SqL.of hv⟩, ?_⟩
      refine ha μ1 H1 σ ρ h1 _ c1 (e.ext c e1) (OkG.imp (OkG.bnd (rel := rlA K) q1) ?_)
      rintro ws H2 ⟨ds, h2, μ2, e3, c2, r2, q2⟩
      refine hr μ2 H2 h2 n _ ws ds Q c2 (e3.at hn) ?_ r2 q2
      cases e4 : getL h2 n with
      | none => rw [hf n ds h2 e4] at q2; exact q2.elim
      | some l => exact ⟨l, rfl⟩
  | _ => exact q1.elim
theorem m_append : MtE K cls E rAppend fAppend := fun μ H h n p xs as Q c hn hl r q => by
  obtain ⟨l, e⟩ := hl
  unfold fAppend at q
  cases r with
  | nil => exact q.elim
  | cons r1 r2 =>
    cases r2 with
    | cons _ _ => exact q.elim
    | nil =>
      rename_i v d
      dsimp only at q
      rw [e] at q
      dsimp only at q
      split at q
      · next hz =>
        obtain ⟨_, hp, vs, hv, rv⟩ := c.at (getL_some e)
        rw [hn] at hp
        cases hp
        refine ⟨p, vs, v, rfl, rfl, hv, by rw [RepAll.length rv]; exact hz, ?_⟩
        exact OkG.now (OkG.ext (ext_set (List.mem_of_getElem? hn)) q) (c.setL hn (RepAll.append rv (.cons r1 .nil))) .non
      · exact q.elim
theorem append_none : ∀ n as h, getL h n = none → fAppend (.ref n) as h = .stuck := fun n as h e => by
  unfold fAppend
  cases as with
  | nil => rfl
  | cons a as =>
    cases as with
    | nil => dsimp only; rw [e]
    | cons _ _ => rfl
/-! iterators -/
theorem it_list {μ : List Addr} {H : Hp} {h : Store} {n : Nat} {p : Addr} {l : List D} (hn : μ[n]? = some p) : ItOk K cls (Itl K p) ⟨l, fun h' => decide (getL h' n = some l)⟩ μ H := fun i μ1 H1 h1 e1 c1 hl => by
  have hl := of_decide_eq_true hl
  obtain ⟨_, hp, vs, hv, rv⟩ := c1.at (getL_some hl)
  rw [e1.at hn] at hp
  cases hp
  refine ⟨fun d hd => ?_, fun hd => ?_⟩
  · obtain ⟨v, g1, g2⟩ := rv.get hd
    refine ⟨⟨vs, v, SqL.of hv, g1⟩, fun x H' hy => ?_⟩
    obtain ⟨rfl, hx⟩ := hy
    have := hx vs (SqL.of hv)
    rw [g1] at this
    cases this
    exact ⟨Ext.refl _ _, c1, g2⟩
  · exact ⟨vs, SqL.of hv, by rw [RepAll.length rv]; exact List.getElem?_eq_none_iff.mp hd⟩
theorem it_fzl {μ : List Addr} {H : Hp} {h : Store} {p : Addr} {l : List D} {xs : List V} (c : Cfg K cls μ H h) (hf : FzL K H p xs) (r : RepAll K H μ xs l) : ItOk K cls (Itl K p) ⟨l, fun _ => true⟩ μ H := fun i μ1 H1 h1 e1 c1 hl => by
  have hf := fzL_ext c e1 hf
  have r := RepAll.ext c e1 r
  refine ⟨fun d hd => ?_, fun hd => ?_⟩
  · obtain ⟨v, g1, g2⟩ := r.get hd
    refine ⟨⟨xs, v, FzL.sq K hf, g1⟩, fun x H' hy => ?_⟩
    obtain ⟨rfl, hx⟩ := hy
    have := hx xs (FzL.sq K hf)
    rw [g1] at this
    cases this
    exact ⟨Ext.refl _ _, c1, g2⟩
  · exact ⟨xs, FzL.sq K hf, by rw [RepAll.length r]; exact List.getElem?_eq_none_iff.mp hd⟩
theorem it_tup {μ : List Addr} {H : Hp} {h : Store} {p : Addr} {l : List D} {xs : List V} (c : Cfg K cls μ H h) (hf : SqT K H p xs) (r : RepAll K H μ xs l) : ItOk K cls (Itt K p) ⟨l, fun _ => true⟩ μ H := fun i μ1 H1 h1 e1 c1 hl => by
  have hf := sqT_ext c e1 hf
  have r := RepAll.ext c e1 r
  refine ⟨fun d hd => ?_, fun hd => ?_⟩
  · obtain ⟨v, g1, g2⟩ := r.get hd
    refine ⟨⟨xs, v, hf, g1⟩, fun x H' hy => ?_⟩
    obtain ⟨rfl, hx⟩ := hy
    have := hx xs hf
    rw [g1] at this
    cases this
    exact ⟨Ext.refl _ _, c1, g2⟩
  · exact ⟨xs, hf, by rw [RepAll.length r]; exact List.getElem?_eq_none_iff.mp hd⟩
theorem it_rng {μ : List Addr} {H : Hp} (lo : Int) (n : Nat) : ItOk K cls (Itr lo n) ⟨rng lo n, fun _ => true⟩ μ H := fun i μ1 H1 h1 e1 c1 hl => by
  refine ⟨fun d hd => ?_, fun hd => ?_⟩
  · have hd' : (rng lo n)[i]? = some d := hd
    unfold rng at hd'
    rw [List.getElem?_map] at hd'
    obtain ⟨k, hk, rfl⟩ := Option.map_eq_some_iff.mp hd'
    obtain ⟨hi, hk⟩ := List.getElem?_eq_some_iff.mp hk
    rw [List.getElem_range] at hk
    subst hk
    rw [List.length_range] at hi
    refine ⟨hi, fun x H' hy => ?_⟩
    obtain ⟨rfl, rfl⟩ := hy
    exact ⟨Ext.refl _ _, c1, .int _⟩
  · have hd' := List.getElem?_eq_none_iff.mp hd
    have : (rng lo n).length = n := by simp [rng]
    show n ≤ i
    rw [this] at hd'
    exact hd'
theorem i_list {ta : TE} {a : ME} (ha : EvE K cls W ta a) : EvI K cls W (iList K ta) (wList a) := fun μ H σ ρ h R c e q => by
  refine ha μ H σ ρ h _ c e (OkG.imp (OkG.bnd (rel := rlD K) q) ?_)
  rintro v H1 ⟨d, h1, μ1, e1, c1, r1, q1⟩
  cases r1 with
  | fzl h1 h2 => exact ⟨_, rfl, ⟨_, FzL.sq K h1⟩, q1.now c1 (it_fzl c1 h1 h2)⟩
  | ref hn =>
    rename_i n p
    dsimp only at q1
    cases e2 : getL h1 n with
    | none => rw [e2] at q1; exact q1.elim
    | some l =>
      rw [e2] at q1
      obtain ⟨_, hp, vs, hv, rv⟩ := c1.at (getL_some e2)
      rw [hn] at hp
      cases hp
      exact ⟨_, rfl, ⟨vs, SqL.of hv⟩, OkG.now q1 c1 (it_list (h := h1) hn)⟩
  | _ => exact q1.elim
theorem i_tup {ta : TE} {a : ME} (ha : EvE K cls W ta a) : EvI K cls W (iTup K ta) (wTup a) := fun μ H σ ρ h R c e q => by
  refine ha μ H σ ρ h _ c e (OkG.imp (OkG.bnd (rel := rlD K) q) ?_)
  rintro v H1 ⟨d, h1, μ1, e1, c1, r1, q1⟩
  cases r1 with
  | tup h1 h2 => exact ⟨_, rfl, ⟨_, h1⟩, q1.now c1 (it_tup c1 h1 h2)⟩
  | _ => exact q1.elim
theorem i_rng1 {ta : TA} {a : MA} (ha : EvA K cls W ta a) : EvI K cls W (iRng1 ta) (wRng1 a) := fun μ H σ ρ h R c e q => by
  refine ha μ H σ ρ h _ c e (OkG.imp (OkG.bnd (rel := rlA K) q) ?_)
  rintro v H1 ⟨d, h1, μ1, e1, c1, r1, q1⟩
  cases r1 with
  | nil => exact q1.elim
  | cons r1 r2 =>
    cases r2 with
    | cons _ _ => cases r1 <;> exact q1.elim
    | nil =>
      cases r1 with
      | int j =>
        dsimp only at q1
        split at q1
        · next hz => exact ⟨j, rfl, hz.1, hz.2, q1.now c1 (it_rng 0 _)⟩
        · exact q1.elim
      | _ => exact q1.elim
theorem i_rng2 {ta : TA} {a : MA} (ha : EvA K cls W ta a) : EvI K cls W (iRng2 ta) (wRng2 a) := fun μ H σ ρ h R c e q => by
  refine ha μ H σ ρ h _ c e (OkG.imp (OkG.bnd (rel := rlA K) q) ?_)
  rintro v H1 ⟨d, h1, μ1, e1, c1, r1, q1⟩
  cases r1 with
  | nil => exact q1.elim
  | cons r1 r2 =>
    cases r2 with
    | nil => cases r1 <;> exact q1.elim
    | cons r2 r3 =>
      cases r3 with
      | cons _ _ => cases r1 <;> cases r2 <;> exact q1.elim
      | nil =>
        cases r1 with
        | int i =>
          cases r2 with
          | int j =>
            dsimp only at q1
            split at q1
            · next hz => exact ⟨i, j, rfl, hz, q1.now c1 (it_rng i _)⟩
            · exact q1.elim
          | _ => exact q1.elim
        | _ => cases r2 <;> exact q1.elim
end
end G

/-! Defs, their calls, the law's end. -/
namespace G
open PySem PySem.Spec PyProof.Rows L2
/-- a def's promise: its mirror, and what its exceptions must meet -/
def spX (K : PySem.W.Frag) (cls : Nat → Addr) (f : List D → M D) (n : Nat) : Sp := fun vs H Q E => vs.length = n ∧ ∃ (μ : List Addr) (h : Store) (ds : List D), Cfg K cls μ H h ∧ RepAll K H μ vs ds ∧ OkG K cls E (rlD K) μ H (f ds h) Q
/-- the promise of a def that raises nothing -/
def spM (K : PySem.W.Frag) (cls : Nat → Addr) (f : List D → M D) (n : Nat) : Sp := fun vs H Q _ => spX K cls f n vs H Q E0
/-- a call that may raise -/
def mCallX (n : Nat) (f : List D → M D) (a : MA) : ME := fun ρ => bnd (a ρ) fun ds => if ds.length = n then f ds else stuck
section
variable {K : PySem.W.Frag} {cls : Nat → Addr} {E : XK} {W : WI}
theorem e_own {f : List D → M D} {n : Nat} {ta : TA} {a : MA} (ha : EvA K cls W ta a) : EvE K cls W (tCall (spM K cls f n) [] E0 ta) (mCall n f a) := fun μ H σ ρ h Q c e q => by
  refine ha μ H σ ρ h _ c e (OkG.imp (OkG.bnd (rel := rlA K) q) ?_)
  rintro v H1 ⟨d, h1, μ1, e1, c1, r1, q1⟩
  split at q1
  · next hz =>
    show spM K cls f n (v ++ []) H1 Q E0
    rw [List.append_nil]
    exact ⟨(RepAll.length r1).trans hz, μ1, h1, d, c1, r1, noexc_any q1⟩
  · exact q1.elim
theorem e_ownS {E' : L2.St → XK} {f : List D → M D} {n : Nat} {ta : TA} {a : MA} (ha : EvA K cls W ta a) : EvE K cls W (L2.tCallS (spM K cls f n) E' ta) (mCall n f a) := fun μ H σ ρ h Q c e q => by
  refine ha μ H σ ρ h _ c e (OkG.imp (OkG.bnd (rel := rlA K) q) ?_)
  rintro v H1 ⟨d, h1, μ1, e1, c1, r1, q1⟩
  split at q1
  · next hz => exact ⟨(RepAll.length r1).trans hz, μ1, h1, d, c1, r1, noexc_any q1⟩
  · exact q1.elim
theorem e_ownX {f : List D → M D} {n : Nat} {ta : TA} {a : MA} (ha : EvA K cls W ta a) : EvE K cls W (L2.tCallS (spX K cls f n) (L2.WE W.w) ta) (mCallX n f a) := fun μ H σ ρ h Q c e q => by
  refine ha μ H σ ρ h _ c e (OkG.imp (OkG.bnd (rel := rlA K) q) ?_)
  rintro v H1 ⟨d, h1, μ1, e1, c1, r1, q1⟩
  split at q1
  · next hz => exact ⟨(RepAll.length r1).trans hz, μ1, h1, d, c1, r1, q1⟩
  · exact q1.elim
/-- the wish of a def's body: what the caller wishes -/
def wFn (E : XK) : WI := WI.mk0 fun c d _ H => E c d H
/-- a def's body by its mirror -/
theorem fn_body {ts : TS} {m : MS} {N : List PySem.Str} {nn n : Nat} (hN : N.length = nn) (hm : EvS K cls (wFn E) ts m) {vs : List V} {H : Hp} {Q : VK} (hs : spX K cls (mFn nn m) n vs H Q E) : ts { nx := fun _ H' => Q .non H', rt := Q } (start N vs) H := by
  obtain ⟨_, μ, h, ds, c, r, q⟩ := hs
  unfold mFn at q
  have e : EnvR K (wFn E) H μ (start N vs) (ds.map some ++ List.replicate (nn - ds.length) none) := by
    unfold L2.start
    rw [hN, RepAll.length r]
    exact ⟨EnvR0.start _ r, trivial⟩
  have key : OkG K cls E0 (rlF K cls (wFn E)) μ H (m (ds.map some ++ List.replicate (nn - ds.length) none) h) (flQ (wFn E) { nx := fun _ H' => Q .non H', rt := Q }) := by
    unfold bnd noexc at q
    cases z : m (ds.map some ++ List.replicate (nn - ds.length) none) h with
    | stuck => rw [z] at q; exact q.elim
    | exc c2 fs h1 => rw [z] at q; exact q.elim
    | ok d h1 =>
      rw [z] at q
      intro v μ1 H1 e1 c1 r1
      have q := OkG.ext e1 q
      cases v with
      | nx σ1 =>
        cases d with
        | nx ρ1 => exact OkG.now (K := K) (cls := cls) (E := E) (rel := rlD K) (v := V.non) (d := D.non) q c1 Rep.non
        | _ => exact r1.elim
      | rt v1 =>
        cases d with
        | rt d1 => exact OkG.now (K := K) (cls := cls) (E := E) (rel := rlD K) (v := v1) (d := d1) q c1 r1
        | _ => exact r1.elim
      | bk σ1 =>
        cases d with
        | bk _ => exact q.elim
        | _ => exact r1.elim
      | ct σ1 =>
        cases d with
        | ct _ => exact q.elim
        | _ => exact r1.elim
      | ex σ1 cv dv =>
        cases d with
        | ex ρ1 k fs =>
          obtain ⟨_, rfl, hx⟩ := r1
          cases fs with
          | none =>
            cases dv with
            | none => exact q μ1 H1 (Ext.refl _ _) c1
            | some _ => exact hx.elim
          | some fs =>
            cases dv with
            | none => exact hx.elim
            | some dx =>
              obtain ⟨gs, h1, h2⟩ := hx
              exact q μ1 H1 dx gs (Ext.refl _ _) c1 h1 h2
        | _ => exact r1.elim
  exact hm μ H _ _ h _ c e key
/-- a def of the text, where its name leads -/
structure Df (K : PySem.W.Frag) (mg : PySem.Str → Option Value) (x : PySem.Str) (st : Stmt) : Prop where
  ex : ∃ (a : Addr) (fd : FuncData), Fun K x x st a fd ∧ mg x = some (.ref a)
/-- a def that keeps its mirror's promise, raising nothing -/
structure Fn (P : Program) (w : World) (K : PySem.W.Frag) (cls : Nat → Addr) (mg : PySem.Str → Option Value) (base : Heap) (x : PySem.Str) (k : Nat) (f : List D → M D) (n : Nat) : Prop where
  ex : ∃ (a : Addr) (fd : FuncData) (ps : List PySem.Str), FnOk P w K mg base CX0 k a fd ps (spM K cls f n) ∧ mg x = some (.ref a) ∧ PySem.W.keepIn K (.ref a) = true ∧ Binds K fd ps []
/-- .. with exceptions -/
structure FnX (P : Program) (w : World) (K : PySem.W.Frag) (cls : Nat → Addr) (mg : PySem.Str → Option Value) (base : Heap) (x : PySem.Str) (k : Nat) (f : List D → M D) (n : Nat) : Prop where
  ex : ∃ (a : Addr) (fd : FuncData) (ps : List PySem.Str), FnOk P w K mg base (L2N.CX P w) k a fd ps (spX K cls f n) ∧ mg x = some (.ref a) ∧ PySem.W.keepIn K (.ref a) = true ∧ Binds K fd ps []
/-- .. called within an except suite -/
structure FnS (P : Program) (w : World) (K : PySem.W.Frag) (cls : Nat → Addr) (mg : PySem.Str → Option Value) (base : Heap) (x : PySem.Str) (k : Nat) (f : List D → M D) (n : Nat) : Prop where
  ex : ∃ (a : Addr) (fd : FuncData) (ps : List PySem.Str), L2H.FnH P w K mg base CX0 k a fd ps (spM K cls f n) ∧ mg x = some (.ref a) ∧ PySem.W.keepIn K (.ref a) = true ∧ Binds K fd ps []
variable {P : Program} {w : World} {mg : PySem.Str → Option Value} {base : Heap}
theorem fun_ok {x q : PySem.Str} {st : Stmt} {f : Addr} {fd : FuncData} {N ps : List PySem.Str} {nn n k : Nat} {m : MS} (F : Fun K x q st f fd) (S : FnScope N ps (defScope st)) (hN : N.length = nn) (hn : ps.length = n)
    (body : ∀ (cdv : Value) (A : Around) (outer : List PySem.Env) (s : Shared) (H : Hp) (E : XK), Room k (A.deeper (envOfC q (defScope st) s.heap.objs.size f cdv)) →
      ∃ t, PSs (cxOf CX0 P w K mg base N q (defScope st) f cdv A outer s H E).nox (defBody st) t ∧ EvS K cls (wFn E0) t m) : FnOk P w K mg base CX0 (k + 1) f fd ps (spM K cls (mFn nn m) n) := by
  refine F.ok S (fun vs H Q E h => h.1.trans hn.symm) (fun cdv A outer s H vs Q E hr h => ?_)
  obtain ⟨t, ht, hm⟩ := body cdv A outer s H E hr
  exact ⟨t, ht, fn_body hN hm h⟩
theorem fun_okX {x q : PySem.Str} {st : Stmt} {f : Addr} {fd : FuncData} {N ps : List PySem.Str} {nn n k : Nat} {m : MS} (F : Fun K x q st f fd) (S : FnScope N ps (defScope st)) (hN : N.length = nn) (hn : ps.length = n)
    (body : ∀ (cdv : Value) (A : Around) (outer : List PySem.Env) (s : Shared) (H : Hp) (E : XK), Room k (A.deeper (envOfC q (defScope st) s.heap.objs.size f cdv)) →
      ∃ t, PSs (cxOf (L2N.CX P w) P w K mg base N q (defScope st) f cdv A outer s H E) (defBody st) t ∧ EvS K cls (wFn E) t m) : FnOk P w K mg base (L2N.CX P w) (k + 1) f fd ps (spX K cls (mFn nn m) n) := by
  obtain ⟨oc, od, kV, doc, pm, an, cdv, ct, osl, rfl, lk, hcd⟩ := F.ex
  refine fn_of lk hcd S (fun vs H Q E h => h.1.trans hn.symm) fun A outer s H vs Q E hr h => ?_
  obtain ⟨t, ht, hm⟩ := body cdv A outer s H E hr
  exact ⟨t, ht, fn_body hN hm h⟩
theorem fun_okS {x q : PySem.Str} {st : Stmt} {f : Addr} {fd : FuncData} {N ps : List PySem.Str} {nn n k : Nat} {m : MS} (F : Fun K x q st f fd) (S : FnScope N ps (defScope st)) (hN : N.length = nn) (hn : ps.length = n)
    (body : ∀ (cdv : Value) (A : Around) (outer : List PySem.Env) (s : Shared) (H : Hp) (E : XK) (p : Addr × Obj), L2H.Hot1 A p → L2H.RoomH k (A.deeper (envOfC q (defScope st) s.heap.objs.size f cdv)) →
      ∃ t, PSs (L2H.cxH CX0 P w K mg base N q (defScope st) f cdv A outer s H E p) (defBody st) t ∧ EvS K cls (wFn E0) t m) : L2H.FnH P w K mg base CX0 (k + 1) f fd ps (spM K cls (mFn nn m) n) := by
  obtain ⟨oc, od, kV, doc, pm, an, cdv, ct, osl, rfl, lk, hcd⟩ := F.ex
  refine L2H.fn_ofH lk hcd S (fun vs H Q E h => h.1.trans hn.symm) fun A outer s H vs Q E p hot hr h => ?_
  obtain ⟨t, ht, hm⟩ := body cdv A outer s H E p hot hr
  exact ⟨t, ht, fn_body hN hm h⟩
/-- how a def's arguments bind -/
abbrev BindH (x : PySem.Str) (st : Stmt) (ps : List PySem.Str) : Prop := ∀ (kV doc pm : Value) (an : Option Addr) (cdv ct : Value) (us : List Value), us.length = ps.length → bindArgs (PySem.W.fnOf x x (defArgs st) (defBody st) (defScope st) .none kV doc pm an cdv ct) ⟨us, []⟩ = pure (ps.zip us)
theorem df_ok {x : PySem.Str} {st : Stmt} {N ps : List PySem.Str} {nn n k : Nat} {m : MS} (F : Df K mg x st) (S : FnScope N ps (defScope st)) (hN : N.length = nn) (hn : ps.length = n) (hb : BindH x st ps)
    (body : ∀ (f : Addr) (cdv : Value) (A : Around) (outer : List PySem.Env) (s : Shared) (H : Hp) (E : XK), Room k (A.deeper (envOfC x (defScope st) s.heap.objs.size f cdv)) →
      ∃ t, PSs (cxOf CX0 P w K mg base N x (defScope st) f cdv A outer s H E).nox (defBody st) t ∧ EvS K cls (wFn E0) t m) : Fn P w K cls mg base x (k + 1) (mFn nn m) n := by
  obtain ⟨f, fd, F, g⟩ := F.ex
  exact ⟨f, fd, ps, fun_ok F S hN hn (body f), g, F.kp, F.binds hb⟩
theorem df_okX {x : PySem.Str} {st : Stmt} {N ps : List PySem.Str} {nn n k : Nat} {m : MS} (F : Df K mg x st) (S : FnScope N ps (defScope st)) (hN : N.length = nn) (hn : ps.length = n) (hb : BindH x st ps)
    (body : ∀ (f : Addr) (cdv : Value) (A : Around) (outer : List PySem.Env) (s : Shared) (H : Hp) (E : XK), Room k (A.deeper (envOfC x (defScope st) s.heap.objs.size f cdv)) →
      ∃ t, PSs (cxOf (L2N.CX P w) P w K mg base N x (defScope st) f cdv A outer s H E) (defBody st) t ∧ EvS K cls (wFn E) t m) : FnX P w K cls mg base x (k + 1) (mFn nn m) n := by
  obtain ⟨f, fd, F, g⟩ := F.ex
  exact ⟨f, fd, ps, fun_okX F S hN hn (body f), g, F.kp, F.binds hb⟩
theorem df_okS {x : PySem.Str} {st : Stmt} {N ps : List PySem.Str} {nn n k : Nat} {m : MS} (F : Df K mg x st) (S : FnScope N ps (defScope st)) (hN : N.length = nn) (hn : ps.length = n) (hb : BindH x st ps)
    (body : ∀ (f : Addr) (cdv : Value) (A : Around) (outer : List PySem.Env) (s : Shared) (H : Hp) (E : XK) (p : Addr × Obj), L2H.Hot1 A p → L2H.RoomH k (A.deeper (envOfC x (defScope st) s.heap.objs.size f cdv)) →
      ∃ t, PSs (L2H.cxH CX0 P w K mg base N x (defScope st) f cdv A outer s H E p) (defBody st) t ∧ EvS K cls (wFn E0) t m) : FnS P w K cls mg base x (k + 1) (mFn nn m) n := by
  obtain ⟨f, fd, F, g⟩ := F.ex
  exact ⟨f, fd, ps, fun_okS F S hN hn (body f), g, F.kp, F.binds hb⟩
/-- the law's own end -/
theorem law_sp {f : List D → M D} {H : Hp} {a : Addr} {ns : List Int} {h' : Store} (hO : Only H) (hS : SqL K H a (ns.map V.int)) (e : f [.fzl (ns.map D.int)] [] = .ok (.bl true) h') :
    spM K cls f 1 [.ref a] H (fun v _ => v = .bl true) E := by
  refine ⟨rfl, [], [], [.fzl (ns.map D.int)], ⟨rfl, List.nodup_nil, fun n o b h1 h2 => by simp at h1⟩, .cons (.fzl (xs := ns.map V.int) ?_ ?_) .nil, ?_⟩
  · rcases hS with (h | ⟨o, h⟩) | h
    · rcases hO a with z | ⟨o, xs, z⟩
      · rw [h] at z; cases z
      · rw [h] at z; cases z
    · exact .inl ⟨o, h⟩
    · exact .inr h
  · induction ns with
    | nil => exact .nil
    | cons n ns ih =>
      have : ∀ l : List Int, RepAll K H [] (l.map V.int) (l.map D.int) := by
        intro l
        induction l with
        | nil => exact .nil
        | cons x l ih => exact .cons (.int x) ih
      exact this _
  · rw [e]
    intro v μ' H' _ _ r
    cases r
    rfl
end
/-! what is walked: a list or a tuple -/
def wSeq (a : ME) : MI := fun ρ => bnd (a ρ) fun x => fun h => match x with
  | .tup l => .ok ⟨l, fun _ => true⟩ h
  | .fzl l => .ok ⟨l, fun _ => true⟩ h
  | .ref n => match getL h n with
    | some l => .ok ⟨l, fun h' => decide (getL h' n = some l)⟩ h
    | none => .stuck
  | _ => .stuck
def iSeq (K : PySem.W.Frag) (ta : TE) : TI := fun σ H R => iList K ta σ H R ∨ iTup K ta σ H R
theorem pi_seq {X : Cx} {tg l : Expr} {tl : TE} (hl : PE X l tl) : PI X tg l (iSeq X.K tl) := ⟨fun pins s σ H R I h => by
  rcases h with h | h
  · exact (pi_list hl).run pins s σ H R I h
  · exact (pi_tup hl).run pins s σ H R I h⟩
section
variable {K : PySem.W.Frag} {cls : Nat → Addr} {E : XK} {W : WI}
theorem i_seq {ta : TE} {a : ME} (ha : EvE K cls W ta a) : EvI K cls W (iSeq K ta) (wSeq a) := fun μ H σ ρ h R c e q => by
  have key : wSeq a ρ h = wList a ρ h ∨ wSeq a ρ h = wTup a ρ h := by
    unfold wSeq wList wTup bnd
    cases z : a ρ h with
    | stuck => exact .inl rfl
    | exc _ _ _ => exact .inl rfl
    | ok d h1 => cases d <;> first | exact .inl rfl | exact .inr rfl
  rcases key with k | k
  · exact .inl (i_list ha μ H σ ρ h R c e (by rw [← k]; exact q))
  · exact .inr (i_tup ha μ H σ ρ h R c e (by rw [← k]; exact q))
def fAddI (x y : D) : M D := match x, y with
  | .int i, .int j => ret (.int (i + j))
  | _, _ => stuck
theorem o_ipadd : OpE K cls E (ipI fun i j => i + j) fAddI := fun μ H h x y a b Q c r s q => by
  cases r with
  | int i =>
    cases s with
    | int j => exact ⟨i, j, rfl, rfl, q.now c (.int _)⟩
    | _ => exact q.elim
  | _ => cases s <;> exact q.elim
theorem o_ipsub : OpE K cls E (ipI fun i j => i - j) fSub := fun μ H h x y a b Q c r s q => by
  cases r with
  | int i =>
    cases s with
    | int j => exact ⟨i, j, rfl, rfl, q.now c (.int _)⟩
    | _ => exact q.elim
  | _ => cases s <;> exact q.elim
end
end G

/-! raise, try, what a suite reads. -/
namespace G
open PySem PySem.Spec PyProof.Rows L2 GT
abbrev Fs := Option (List (PySem.Str × D))
def mRaise (k : Nat) (fs : List PySem.Str) (a : MA) : MS := fun ρ => bndS ρ (a ρ) fun ds => if ds.length = fs.length then fun h => .ok (.ex ρ k (some (fs.zip ds))) h else stuck
def mRaise0 (k : Nat) : MS := fun ρ h => .ok (.ex ρ k none) h
section
variable {K : PySem.W.Frag} {cls : Nat → Addr} {E : XK} {W : WI} {μ : List Addr} {H : Hp}
theorem EnvR0.hide {o : Option V} : ∀ {σ : L2.St} {ρ : Env} (i : Nat), EnvR0 K H μ σ ρ → EnvR0 K H μ (σ.set i o) (ρ.set i Option.none)
  | _, _, _, .nil => .nil
  | _, _, 0, .none r => .none r
  | _, _, 0, .some _ r => .none r
  | _, _, i + 1, .none r => .none (EnvR0.hide i r)
  | _, _, i + 1, .some p r => .some p (EnvR0.hide i r)
theorem EnvR0.len : ∀ {σ : L2.St} {ρ : Env}, EnvR0 K H μ σ ρ → σ.length = ρ.length
  | _, _, .nil => rfl
  | _, _, .none r => by rw [List.length_cons, List.length_cons, EnvR0.len r]
  | _, _, .some _ r => by rw [List.length_cons, List.length_cons, EnvR0.len r]
theorem repF_zip : ∀ {fs : List PySem.Str} {vs : List V} {ds : List D}, RepAll K H μ vs ds → RepF K H μ (fs.zip vs) (fs.zip ds)
  | [], _, _, _ => .nil
  | _ :: _, _, _, .nil => .nil
  | _ :: _, _, _, .cons r rs => .cons r (repF_zip rs)
theorem s_raise {k : Nat} {C : Addr} (hC : C = cls k) {fs : List PySem.Str} {ta : TA} {a : MA} (ha : EvA K cls W ta a) : EvS K cls W (fun _ σ H => tEr C fs ta σ H fun c d H' => W.w c d σ H') (mRaise k fs a) := fun μ H σ ρ h D c e q => by
  subst hC
  refine ha μ H σ ρ h _ c e (OkG.imp (OkG.bndS (rel := rlA K) c e q) ?_)
  rintro vs H1 ⟨ds, h1, μ1, e1, c1, r1, q1⟩
  split at q1
  · next hz =>
    refine ⟨(RepAll.length r1).trans hz, fun d hd => ?_⟩
    have x := ext_new c1 (o := HO.xd (fs.zip vs)) hd
    exact q1 (.ex σ (.ref (cls k)) (some d)) μ1 _ x (c1.upd_out hd) ⟨(e.ext c e1).ext c1 x, rfl, fs.zip vs, upd_same, repF_zip (r1.ext c1 x)⟩
  · exact q1.elim
theorem s_raise0 {k : Nat} {C : Addr} (hC : C = cls k) : EvS K cls W (fun _ σ H => W.w (.ref C) none σ H) (mRaise0 k) := fun μ H σ ρ h D c e q => by
  subst hC
  exact q (.ex σ (.ref (cls k)) none) μ H (Ext.refl _ _) c ⟨e, rfl, trivial⟩
/-! try -/
/-- a clause's mirror: which classes it takes, its name's slot, its suite -/
abbrev CM := (Nat → Option Bool) × Option Nat × (Nat → Fs → MS)
def closeF (i : Nat) (f : Fl) : M Fl := match f with
  | .nx ρ => ret (.nx (ρ.set i none))
  | .rt d => ret (.rt d)
  | .bk ρ => ret (.bk (ρ.set i none))
  | .ct ρ => ret (.ct (ρ.set i none))
  | .ex _ _ _ => stuck
def stayF (f : Fl) : M Fl := match f with
  | .ex _ _ _ => stuck
  | f => ret f
def mSuite (o : Option Nat) (m : MS) : MS := match o with
  | none => fun ρ => bnd (noexc (m ρ)) stayF
  | some i => fun ρ => if i < ρ.length then bnd (noexc (m (ρ.set i none))) (closeF i) else stuck
def mClauses : List CM → Nat → Fs → MS
  | [], c, fs => fun ρ h => .ok (.ex ρ c fs) h
  | (t, o, su) :: l, c, fs => match t c with
    | none => fun _ => stuck
    | some true => mSuite o (su c fs)
    | some false => mClauses l c fs
def tryF (cl : List CM) (f : Fl) : M Fl := match f with
  | .ex ρ c fs => mClauses cl c fs ρ
  | f => ret f
def mTry (body : MS) (cl : List CM) : MS := fun ρ => bnd (noexc (body ρ)) (tryF cl)
/-- what is known in a suite: the slot of the name, the error's dict -/
def wSu (W : WI) (o : Option Nat) (a : Addr) (d : Option Addr) (gs : List (PySem.Str × V)) : WI where
  w := fun _ _ _ _ => False
  P := fun σ μ H => W.P σ μ H ∧ (∀ i, o = some i → σ[i]? = some (some (.ref a))) ∧ ∀ dx, d = some dx → H dx = some (.xd gs) ∧ dx ∉ μ
  fr := fun j => W.fr j ∧ o ≠ some j
  ext := fun σ μ H μ' H' x p => ⟨W.ext _ _ _ _ _ x p.1, p.2.1, fun dx e => x.fr _ _ (p.2.2 dx e).1 (p.2.2 dx e).2⟩
  set := fun σ μ H j v fr p => ⟨W.set _ _ _ _ _ fr.1 p.1, fun i e => by
    rw [List.getElem?_set_ne (fun z => fr.2 (by rw [e, z]))]
    exact p.2.1 i e, p.2.2⟩
  pres := fun σ μ H q xs v hq p => ⟨W.pres _ _ _ _ _ _ hq p.1, p.2.1, fun dx e => ⟨by
    rw [upd_ne (fun z => by have := (p.2.2 dx e).1; rw [z, hq] at this; cases this)]
    exact (p.2.2 dx e).1, (p.2.2 dx e).2⟩⟩
/-- data without a place -/
def flatD : D → Option V
  | .non => some .non
  | .bl b => some (.bl b)
  | .int i => some (.int i)
  | .str x => some (.str x)
  | _ => none
theorem flat_rep {v w : V} {d : D} (r : Rep K H μ v d) (e : flatD d = some w) : v = w := by
  cases r <;> first | (cases e; rfl) | cases e
/-- the fields that can be read -/
def FldOk (gs : List (PySem.Str × V)) (fs : List (PySem.Str × D)) : Prop := ∀ f x w, fs.lookup f = some x → flatD x = some w → gs.lookup f = some w
theorem fld_ok : ∀ {gs : List (PySem.Str × V)} {fs : List (PySem.Str × D)}, RepF K H μ gs fs → FldOk gs fs
  | _, _, .nil => fun f x w e => by cases e
  | _, _, .cons (f := g) r rs => fun f x w e1 e2 => by
    unfold List.lookup at e1 ⊢
    cases z : f == g with
    | true =>
      rw [z] at e1
      cases e1
      show some _ = some _
      rw [flat_rep r e2]
    | false =>
      rw [z] at e1
      exact fld_ok rs f x w e1 e2
/-- how dict and fields go together -/
def FsOk (d : Option Addr) (gs : List (PySem.Str × V)) (fs : Fs) : Prop := match d, fs with
  | some _, some l => FldOk gs l
  | none, none => True
  | _, _ => False
/-- a clause and its mirror -/
structure ClOk (K : PySem.W.Frag) (cls : Nat → Addr) (W : WI) (c : Clause) (m : CM) : Prop where
  slot : c.2.1 = m.2.1
  fr : ∀ i, m.2.1 = some i → W.fr i
  takes : ∀ k b, m.1 k = some b → PySem.W.exmOne K (.ref (cls k)) c.1 = some b
  suite : ∀ a k d gs fs, m.1 k = some true → FsOk d gs fs → EvS K cls (wSu W m.2.1 a d gs) (c.2.2 a (.ref (cls k)) d) (m.2.2 k fs)
inductive ClsOk (K : PySem.W.Frag) (cls : Nat → Addr) (W : WI) : List Clause → List CM → Prop
  | nil : ClsOk K cls W [] []
  | cons {c : Clause} {m : CM} {l : List Clause} {ms : List CM} : ClOk K cls W c m → ClsOk K cls W l ms → ClsOk K cls W (c :: l) (m :: ms)
theorem ClsOk.mk2 {cv : Value} {o : Option Nat} {ts : Addr → Value → Option Addr → TS} {t : Nat → Option Bool} {su : Nat → Fs → MS} {l : List Clause} {ms : List CM} (fr : ∀ i, o = some i → W.fr i) (takes : ∀ k b, t k = some b → PySem.W.exmOne K (.ref (cls k)) cv = some b)
    (suite : ∀ a k d gs fs, t k = some true → FsOk d gs fs → EvS K cls (wSu W o a d gs) (ts a (.ref (cls k)) d) (su k fs)) (r : ClsOk K cls W l ms) : ClsOk K cls W ((cv, o, ts) :: l) ((t, o, su) :: ms) := .cons ⟨rfl, fr, takes, suite⟩ r
theorem xdR_ok {h : Store} (c : Cfg K cls μ H h) {d : Option Addr} {fs : Fs} (x : XdR K H μ d fs) : ∃ gs, FsOk d gs fs ∧ ∀ dx, d = some dx → H dx = some (.xd gs) ∧ dx ∉ μ := by
  cases d with
  | none =>
    cases fs with
    | none => exact ⟨[], trivial, fun _ z => nomatch z⟩
    | some _ => exact x.elim
  | some dx =>
    cases fs with
    | none => exact x.elim
    | some l =>
      obtain ⟨gs, h1, h2⟩ := x
      refine ⟨gs, fld_ok h2, fun dy e => ?_⟩
      cases e
      refine ⟨h1, fun hm => ?_⟩
      rcases c.mut hm with ⟨_, q⟩ | ⟨_, _, _, q⟩ <;> (rw [h1] at q; cases q)
theorem cl_run {h : Store} {D : Ends} {σ : L2.St} {ρ : Env} : ∀ {l : List Clause} {ms : List CM}, ClsOk K cls W l ms → ∀ {k : Nat} {fs : Fs} {d : Option Addr}, Cfg K cls μ H h → EnvR K W H μ σ ρ → XdR K H μ d fs →
    OkG K cls E0 (rlF K cls W) μ H (mClauses ms k fs ρ h) (flQ W D) → wMix K W.w D l (.ref (cls k)) d σ H
  | _, _, .nil, k, fs, d, c, e, x, q => q (.ex σ (.ref (cls k)) d) μ H (Ext.refl _ _) c ⟨e, rfl, x⟩
  | (cv, o, ts) :: l, (t, o', su) :: ms, .cons co cs, k, fs, d, c, e, x, q => by
    have eo : o = o' := co.slot
    subst eo
    have q' : OkG K cls E0 (rlF K cls W) μ H ((match t k with
      | none => fun _ => stuck
      | some true => mSuite o (su k fs)
      | some false => mClauses ms k fs) ρ h) (flQ W D) := q
    cases hb : t k with
    | none => rw [hb] at q'; exact q'.elim
    | some b =>
      rw [hb] at q'
      refine ⟨b, co.takes k b hb, fun hb1 a ha => ?_, fun hb1 => ?_⟩
      · subst hb1
        obtain ⟨gs, f1, f2⟩ := xdR_ok c x
        have S := co.suite a k d gs fs hb f1
        have q2 : OkG K cls E0 (rlF K cls W) μ H (mSuite o (su k fs) ρ h) (flQ W D) := q'
        cases o with
        | none =>
          refine S μ H σ ρ h _ c ⟨e.r, e.p, fun j z => absurd (show (none : Option Nat) = some j from z) (by simp), f2⟩ ?_
          have q3 : OkG K cls E0 (rlF K cls W) μ H (bnd (noexc (su k fs ρ)) stayF h) (flQ W D) := q2
          refine OkG.imp (noexc_any (OkG.bnd (rel := rlF K cls (wSu W none a d gs)) q3)) ?_
          rintro v H1 ⟨f, h1, μ1, e1, c1, r1, q4⟩
          cases v with
          | nx τ =>
            cases f with
            | nx ρ1 => exact q4.now (v := FlV.nx τ) c1 ⟨r1.r, r1.p.1⟩
            | _ => exact r1.elim
          | rt v =>
            cases f with
            | rt d1 => exact q4.now (v := FlV.rt v) c1 r1
            | _ => exact r1.elim
          | bk τ =>
            cases f with
            | bk ρ1 => exact q4.now (v := FlV.bk τ) c1 ⟨r1.r, r1.p.1⟩
            | _ => exact r1.elim
          | ct τ =>
            cases f with
            | ct ρ1 => exact q4.now (v := FlV.ct τ) c1 ⟨r1.r, r1.p.1⟩
            | _ => exact r1.elim
          | ex τ cv2 dv =>
            cases f with
            | ex ρ1 k2 fs2 => exact q4.elim
            | _ => exact r1.elim
        | some i =>
          have hi : W.fr i := co.fr i rfl
          have q3 : OkG K cls E0 (rlF K cls W) μ H ((if i < ρ.length then bnd (noexc (su k fs (ρ.set i none))) (closeF i) else stuck) h) (flQ W D) := q2
          split at q3
          case isFalse => exact q3.elim
          case isTrue lt =>
          have ls : i < σ.length := by rw [e.r.len]; exact lt
          refine S μ H (σ.set i (some (.ref a))) (ρ.set i none) h _ c ⟨e.r.hide i, W.set _ _ _ _ _ hi e.p, fun j z => ?_, f2⟩ ?_
          · cases z
            exact List.getElem?_set_self ls
          refine OkG.imp (noexc_any (OkG.bnd (rel := rlF K cls (wSu W (some i) a d gs)) q3)) ?_
          rintro v H1 ⟨f, h1, μ1, e1, c1, r1, q4⟩
          cases v with
          | nx τ =>
            cases f with
            | nx ρ1 => exact q4.now (v := FlV.nx (τ.set i none)) c1 ⟨r1.r.unset i, W.set _ _ _ _ _ hi r1.p.1⟩
            | _ => exact r1.elim
          | rt v =>
            cases f with
            | rt d1 => exact q4.now (v := FlV.rt v) c1 r1
            | _ => exact r1.elim
          | bk τ =>
            cases f with
            | bk ρ1 => exact q4.now (v := FlV.bk (τ.set i none)) c1 ⟨r1.r.unset i, W.set _ _ _ _ _ hi r1.p.1⟩
            | _ => exact r1.elim
          | ct τ =>
            cases f with
            | ct ρ1 => exact q4.now (v := FlV.ct (τ.set i none)) c1 ⟨r1.r.unset i, W.set _ _ _ _ _ hi r1.p.1⟩
            | _ => exact r1.elim
          | ex τ cv2 dv =>
            cases f with
            | ex ρ1 k2 fs2 => exact q4.elim
            | _ => exact r1.elim
      · subst hb1
        exact cl_run cs c e x q'
theorem s_try {tb : L2.WX → TS} {mb : MS} {l : List Clause} {ms : List CM} (hb : ∀ w, EvS K cls (W.wish w) (tb w) mb) (hl : ClsOk K cls W l ms) : EvS K cls W (tTry tb K W.w l) (mTry mb ms) := fun μ H σ ρ h D c e q => by
  refine hb (wMix K W.w D l) μ H σ ρ h D c ⟨e.r, e.p⟩ ?_
  have q1 : OkG K cls E0 (rlF K cls W) μ H (bnd (noexc (mb ρ)) (tryF ms) h) (flQ W D) := q
  refine OkG.imp (noexc_any (OkG.bnd (rel := rlF K cls (W.wish (wMix K W.w D l))) q1)) ?_
  rintro v H1 ⟨f, h1, μ1, e1, c1, r1, q4⟩
  cases v with
  | nx τ =>
    cases f with
    | nx ρ1 => exact q4.now (v := FlV.nx τ) c1 ⟨r1.r, r1.p⟩
    | _ => exact r1.elim
  | rt v =>
    cases f with
    | rt d1 => exact q4.now (v := FlV.rt v) c1 r1
    | _ => exact r1.elim
  | bk τ =>
    cases f with
    | bk ρ1 => exact q4.now (v := FlV.bk τ) c1 ⟨r1.r, r1.p⟩
    | _ => exact r1.elim
  | ct τ =>
    cases f with
    | ct ρ1 => exact q4.now (v := FlV.ct τ) c1 ⟨r1.r, r1.p⟩
    | _ => exact r1.elim
  | ex τ cv dv =>
    cases f with
    | ex ρ1 k fs =>
      obtain ⟨r2, rfl, x⟩ := r1
      exact cl_run hl c1 ⟨r2.r, r2.p⟩ x q4
    | _ => exact r1.elim
/-! what a suite reads -/
def mFld (f : PySem.Str) (fs : Fs) : ME := fun _ => match fs with
  | some l => match l.lookup f with
    | some d => if (flatD d).isSome then ret d else stuck
    | none => stuck
  | none => stuck
def mIsE (o : Option Bool) : ME := fun _ => match o with
  | some b => ret (.bl b)
  | none => stuck
theorem flat_ret {v : V} {d : D} (e : flatD d = some v) : Rep K H μ v d := by
  cases d <;> first | (cases e; first | exact .non | exact .bl _ | exact .int _ | exact .str _) | cases e
theorem e_fld {f : PySem.Str} {a : Addr} {k : Nat} {d : Option Addr} {gs : List (PySem.Str × V)} {fs : Fs} {i : Nat} (hf : FsOk d gs fs) (hc : fs.isSome = true → FldC K (cls k) f) : EvE K cls (wSu W (some i) a d gs) (GT.tFld K f a (.ref (cls k)) d (tVar i)) (mFld f fs) := fun μ H σ ρ h Q c e q => by
  unfold mFld at q
  cases fs with
  | none => exact q.elim
  | some l =>
    dsimp only at q
    cases hl : l.lookup f with
    | none => rw [hl] at q; exact q.elim
    | some x =>
      rw [hl] at q
      dsimp only at q
      split at q
      case isFalse => exact q.elim
      case isTrue hs =>
      obtain ⟨w, hw⟩ := Option.isSome_iff_exists.mp hs
      cases d with
      | none => exact hf.elim
      | some dx => exact ⟨_, e.p.2.1 i rfl, rfl, cls k, dx, gs, w, rfl, hc rfl, rfl, (e.p.2.2 dx rfl).1, hf f x w hl hw, q.now c (flat_ret hw)⟩
theorem e_isE {a : Addr} {k : Nat} {d : Option Addr} {gs : List (PySem.Str × V)} {o : Option Bool} {i : Nat} {C : V} {cv : Value} (hC : ∀ u, RelV C u → u = cv) (ho : ∀ b, o = some b → PySem.W.kitOne K (.ref (cls k)) cv = some b ∧ L2.ExcC K (cls k)) :
    EvE K cls (wSu W (some i) a d gs) (tCB (rIsD K (.ref (cls k)) a d) (tCons (tVar i) (tCons (tC C) tNil))) (mIsE o) := fun μ H σ ρ h Q c e q => by
  unfold mIsE at q
  cases o with
  | none => exact q.elim
  | some b => exact ⟨_, e.p.2.1 i rfl, C, cv, b, rfl, hC, (ho b rfl).1, ⟨_, rfl, (ho b rfl).2⟩, fun dd hd => ⟨gs, (e.p.2.2 dd hd).1⟩, q.now c (.bl b)⟩
end
end G

/-! instances in the machine. -/
namespace G
open PySem PySem.Spec PyProof.Rows L2 GT
def ofIns (k : Nat) (x : D) (h : Store) : Option (Nat × List (PySem.Str × D)) := match x with
  | .ref n => match h[n]? with
    | some (.ins k' fs) => if k' = k then some (n, fs) else none
    | _ => none
  | _ => none
def putD (f : PySem.Str) (v : D) : List (PySem.Str × D) → List (PySem.Str × D)
  | [] => [(f, v)]
  | (g, x) :: r => if g = f then (g, v) :: r else (g, x) :: putD f v r
def mGetF (k : Nat) (f : PySem.Str) (a : ME) : ME := fun ρ => bnd (a ρ) fun x h => match ofIns k x h with
  | some p => match p.2.lookup f with
    | some d => .ok d h
    | none => .stuck
  | none => .stuck
def mSetF (k : Nat) (f : PySem.Str) (o a : ME) : MS := fun ρ => bndS ρ (a ρ) fun v => bndS ρ (o ρ) fun x h => match ofIns k x h with
  | some p => if p.2.length < 1000 then .ok (.nx ρ) (h.set p.1 (.ins k (putD f v p.2))) else .stuck
  | none => .stuck
def madeF (x : D) (r : D) : M D := match r with
  | .non => ret x
  | _ => stuck
def mMakeX (k n : Nat) (f : List D → M D) (a : MA) : ME := fun ρ => bnd (a ρ) fun ds => if ds.length + 1 = n then bnd (alloc (.ins k [])) fun x => bnd (f (x :: ds)) (madeF x) else stuck
def mMake (k n : Nat) (f : List D → M D) (a : MA) : ME := mMakeX k n (fun ds => noexc (f ds)) a
def mMethX (k : Nat) (m : PySem.Str) (n : Nat) (f : List D → M D) (o : ME) (a : MA) : ME := fun ρ => bnd (o ρ) fun x h => match ofIns k x h with
  | some p => match p.2.lookup m with
    | none => bnd (a ρ) (fun ds => if ds.length + 1 = n then f (x :: ds) else stuck) h
    | some _ => .stuck
  | none => .stuck
def mMeth (k : Nat) (m : PySem.Str) (n : Nat) (f : List D → M D) (o : ME) (a : MA) : ME := mMethX k m n (fun ds => noexc (f ds)) o a
def sizeF (r : D) : M D := match r with
  | .int n => if 0 ≤ n ∧ n < 2 ^ 63 then ret (.int n) else stuck
  | _ => stuck
def fLenO (f : List D → M D) (ds : List D) : M D := bnd (noexc (f ds)) sizeF
def fEqO (k : Nat) (f : List D → M D) (x y : D) : M D := fun h => if (ofIns k y h).isSome = true then noexc (f [x, y]) h else .stuck
def negF (r : D) : M D := match r with
  | .bl b => ret (.bl (!b))
  | _ => stuck
def idF (r : D) : M D := match r with
  | .bl b => ret (.bl b)
  | _ => stuck
def fNeO (k : Nat) (f : List D → M D) (x y : D) : M D := fun h => if (ofIns k y h).isSome = true then bnd (noexc (f [x, y])) negF h else .stuck
def fInO (neg : Bool) (f : List D → M D) (x y : D) : M D := bnd (noexc (f [y, x])) (if neg then negF else idF)
def mAddX (k : Nat) (f : List D → M D) (a b : ME) : ME := fun ρ => bnd (a ρ) fun x => bnd (b ρ) fun y => fun h => if (ofIns k x h).isSome = true ∧ (ofIns k y h).isSome = true then f [x, y] h else .stuck
/-- by the class of the first -/
def insL (k : Nat) (g1 g2 : D → D → M D) (x y : D) : M D := fun h => if (ofIns k x h).isSome = true then g1 x y h else g2 x y h
def insR (k : Nat) (g1 g2 : D → D → M D) (x y : D) : M D := fun h => if (ofIns k y h).isSome = true then g1 x y h else g2 x y h
def insC (k : Nat) (g1 g2 : List D → M D) (ds : List D) : M D := match ds with
  | [x] => fun h => if (ofIns k x h).isSome = true then g1 [x] h else g2 [x] h
  | ds => g2 ds
section
variable {K : PySem.W.Frag} {cls : Nat → Addr} {E : XK} {W : WI} {μ : List Addr} {H : Hp} {h : Store} {k n : Nat}
theorem rep_ins {v : V} {d : D} {p : Nat × List (PySem.Str × D)} (c : Cfg K cls μ H h) (r : Rep K H μ v d) (e : ofIns k d h = some p) : ∃ a dx gs, v = .ref a ∧ d = .ref p.1 ∧ μ[p.1]? = some a ∧ h[p.1]? = some (.ins k p.2) ∧ H a = some (.ins (cls k) dx gs) ∧ RepF K H μ gs p.2 := by
  cases r with
  | ref hn =>
    unfold ofIns at e
    dsimp only at e
    split at e
    · next k' fs hx =>
      split at e
      · next hk =>
        subst hk
        cases e
        obtain ⟨a, ha, q⟩ := c.at hx
        rw [hn] at ha
        cases ha
        obtain ⟨dx, gs, q1, q2⟩ := q
        exact ⟨_, dx, gs, rfl, rfl, hn, hx, q1, q2⟩
      · cases e
    · cases e
  | _ => cases e
theorem repF_get : ∀ {gs : List (PySem.Str × V)} {fs : List (PySem.Str × D)} {f : PySem.Str} {d : D}, RepF K H μ gs fs → fs.lookup f = some d → ∃ v, gs.lookup f = some v ∧ Rep K H μ v d
  | _, _, _, _, .nil, e => by cases e
  | _, _, f, d, .cons (f := g) r rs, e => by
    unfold List.lookup at e ⊢
    cases z : f == g with
    | true =>
      rw [z] at e
      cases e
      exact ⟨_, rfl, r⟩
    | false =>
      rw [z] at e
      exact repF_get rs e
theorem repF_no : ∀ {gs : List (PySem.Str × V)} {fs : List (PySem.Str × D)} {f : PySem.Str}, RepF K H μ gs fs → fs.lookup f = none → gs.lookup f = none
  | _, _, _, .nil, _ => rfl
  | _, _, f, .cons (f := g) r rs, e => by
    unfold List.lookup at e ⊢
    cases z : f == g with
    | true => rw [z] at e; cases e
    | false =>
      rw [z] at e
      exact repF_no rs e
theorem RepF.len : ∀ {gs : List (PySem.Str × V)} {fs : List (PySem.Str × D)}, RepF K H μ gs fs → gs.length = fs.length
  | _, _, .nil => rfl
  | _, _, .cons _ rs => by rw [List.length_cons, List.length_cons, RepF.len rs]
theorem repF_put {f : PySem.Str} {v : V} {d : D} (r : Rep K H μ v d) : ∀ {gs : List (PySem.Str × V)} {fs : List (PySem.Str × D)}, RepF K H μ gs fs → RepF K H μ (putF f v gs) (putD f d fs)
  | _, _, .nil => .cons r .nil
  | _, _, .cons (f := g) q rs => by
    unfold putF putD
    by_cases z : g = f
    · rw [if_pos z, if_pos z]; exact .cons r rs
    · rw [if_neg z, if_neg z]; exact .cons q (repF_put r rs)
theorem e_getF {f : PySem.Str} {ta : TE} {a : ME} (hc : Cls K (cls k)) (hn : NoAttr K (cls k) f) (ha : EvE K cls W ta a) : EvE K cls W (L2.tFld K ta f) (mGetF k f a) := fun μ H σ ρ h Q c e q => by
  refine ha μ H σ ρ h _ c e (OkG.imp (OkG.bnd (rel := rlD K) q) ?_)
  rintro v H1 ⟨d, h1, μ1, e1, c1, r1, q1⟩
  --
  cases hx : ofIns k d h1 with
  | none => rw [hx] at q1; exact q1.elim
  | some p =>
    rw [hx] at q1
    dsimp only at q1
    obtain ⟨b, dx, gs, rfl, rfl, hm, hs, hb, rf⟩ := rep_ins c1 r1 hx
    cases hl : p.2.lookup f with
    | none => rw [hl] at q1; exact q1.elim
    | some y =>
      rw [hl] at q1
      obtain ⟨w, l1, l2⟩ := repF_get rf hl
      exact ⟨b, cls k, dx, gs, w, rfl, hb, hc, hn, l1, OkG.now (show OkG K cls (L2.WE W.w σ) (rlD K) μ1 H1 (.ok y h1) Q from q1) c1 l2⟩
theorem s_setF {f : PySem.Str} {to ta : TE} {o a : ME} (hc : Cls K (cls k)) (hn : NoAttr K (cls k) f) (ho : EvE K cls W to o) (ha : EvE K cls W ta a) : EvS K cls W (sFld K to ta f) (mSetF k f o a) := fun μ H σ ρ h D c e q => by
  refine ha μ H σ ρ h _ c e (OkG.imp (OkG.bndS (rel := rlD K) c e q) ?_)
  rintro v H1 ⟨d, h1, μ1, e1, c1, r1, q1⟩
  refine ho μ1 H1 σ ρ h1 _ c1 (e.ext c e1) (OkG.imp (OkG.bndS (rel := rlD K) c1 (e.ext c e1) q1) ?_)
  rintro x H2 ⟨y, h2, μ2, e2, c2, r2, q2⟩
  --
  cases hx : ofIns k y h2 with
  | none => rw [hx] at q2; exact q2.elim
  | some p =>
    rw [hx] at q2
    dsimp only at q2
    obtain ⟨b, dx, gs, rfl, rfl, hm, hs, hb, rf⟩ := rep_ins c2 r2 hx
    split at q2
    case isFalse => exact q2.elim
    case isTrue hl =>
    have hmem : b ∈ μ2 := List.mem_of_getElem? hm
    have x3 : Ext μ2 H2 μ2 (upd H2 b (.ins (cls k) dx (putF f v gs))) := ext_set hmem
    have rd := Rep.ext c1 e2 r1
    have rf' := (repF_put (f := f) rd rf).ext c2 x3
    refine ⟨b, cls k, dx, gs, rfl, hb, hc, hn, by rw [rf.len]; exact hl, ?_⟩
    exact OkG.now (v := FlV.nx σ) (OkG.ext x3 q2) (c2.set hm (o := .ins k (putD f d p.2)) ⟨dx, _, upd_same, rf'⟩) (((e.ext c e1).ext c1 e2).ext c2 x3)
/-- a new instance -/
theorem ins_new {C : Addr} (hC : C = cls k) (c : Cfg K cls μ H h) {x dx : Addr} (hx : H x = none) (hd : H dx = none) (hne : dx ≠ x) :
    Ext μ H (μ ++ [x]) (upd (upd H dx (.own x)) x (.ins C dx [])) ∧ Cfg K cls (μ ++ [x]) (upd (upd H dx (.own x)) x (.ins C dx [])) (h ++ [.ins k []]) ∧ (μ ++ [x])[h.length]? = some x := by
  subst hC
  have e1 := ext_new c (o := HO.own x) hd
  have c1 : Cfg K cls μ (upd H dx (.own x)) h := c.upd_out hd
  have hx1 : upd H dx (.own x) x = none := by rw [upd_ne (Ne.symm hne)]; exact hx
  have c2 := c1.newI (k := k) (dx := dx) hx1 (gs := []) (fs := []) .nil
  refine ⟨e1.trans (ext_snoc c1 hx1), c2, ?_⟩
  rw [← c.len, List.getElem?_append_right (Nat.le_refl _), Nat.sub_self]
  rfl
theorem e_makeX {C : Addr} (hC : C = cls k) {f : List D → M D} {ta : TA} {a : MA} (ha : EvA K cls W ta a) : EvE K cls W (tMakeS C (spX K cls f n) (L2.WE W.w) ta) (mMakeX k n f a) := fun μ H σ ρ h Q c e q => by
  refine ha μ H σ ρ h _ c e (OkG.imp (OkG.bnd (rel := rlA K) q) ?_)
  rintro vs H1 ⟨ds, h1, μ1, e1, c1, r1, q1⟩
  split at q1
  case isFalse => exact q1.elim
  case isTrue hz =>
  intro x dx hx hd hne
  obtain ⟨x2, c2, g2⟩ := ins_new hC c1 hx hd hne
  have rx : Rep K (upd (upd H1 dx (.own x)) x (.ins C dx [])) (μ1 ++ [x]) (.ref x) (.ref h1.length) := .ref g2
  refine ⟨by rw [List.length_cons, RepAll.length r1]; exact hz, μ1 ++ [x], h1 ++ [.ins k []], .ref h1.length :: ds, c2, .cons rx (r1.ext c1 x2), ?_⟩
  have q2 : OkG K cls (L2.WE W.w σ) (rlD K) μ1 H1 (bnd (f (.ref h1.length :: ds)) (madeF (.ref h1.length)) (h1 ++ [.ins k []])) Q := q1
  refine OkG.imp (OkG.bnd (rel := rlD K) (OkG.ext x2 q2)) ?_
  rintro v H3 ⟨d, h3, μ3, e3, c3, r3, q3⟩
  cases r3 with
  | non => exact ⟨rfl, OkG.now (show OkG K cls (L2.WE W.w σ) (rlD K) μ3 H3 (.ok (.ref h1.length) h3) Q from q3) c3 (.ref (Ext.at e3 g2))⟩
  | _ => exact q3.elim
theorem e_make {C : Addr} (hC : C = cls k) {E' : L2.St → XK} {f : List D → M D} {ta : TA} {a : MA} (ha : EvA K cls W ta a) : EvE K cls W (tMakeS C (spM K cls f n) E' ta) (mMake k n f a) := fun μ H σ ρ h Q c e q => by
  refine ha μ H σ ρ h _ c e (OkG.imp (OkG.bnd (rel := rlA K) q) ?_)
  rintro vs H1 ⟨ds, h1, μ1, e1, c1, r1, q1⟩
  split at q1
  case isFalse => exact q1.elim
  case isTrue hz =>
  intro x dx hx hd hne
  obtain ⟨x2, c2, g2⟩ := ins_new hC c1 hx hd hne
  have rx : Rep K (upd (upd H1 dx (.own x)) x (.ins C dx [])) (μ1 ++ [x]) (.ref x) (.ref h1.length) := .ref g2
  refine ⟨by rw [List.length_cons, RepAll.length r1]; exact hz, μ1 ++ [x], h1 ++ [.ins k []], .ref h1.length :: ds, c2, .cons rx (r1.ext c1 x2), ?_⟩
  have q2 : OkG K cls (L2.WE W.w σ) (rlD K) μ1 H1 (bnd (noexc (f (.ref h1.length :: ds))) (madeF (.ref h1.length)) (h1 ++ [.ins k []])) Q := q1
  refine OkG.imp (noexc_any (OkG.bnd (rel := rlD K) (OkG.ext x2 q2))) ?_
  rintro v H3 ⟨d, h3, μ3, e3, c3, r3, q3⟩
  cases r3 with
  | non => exact ⟨rfl, OkG.now (show OkG K cls (L2.WE W.w σ) (rlD K) μ3 H3 (.ok (.ref h1.length) h3) Q from q3) c3 (.ref (Ext.at e3 g2))⟩
  | _ => exact q3.elim
theorem e_methX {C : Addr} (hC : C = cls k) {m : PySem.Str} {f : List D → M D} {to : TE} {ta : TA} {o : ME} {a : MA} (ho : EvE K cls W to o) (ha : EvA K cls W ta a) : EvE K cls W (tMethO C m (spX K cls f n) (L2.WE W.w) to ta) (mMethX k m n f o a) := fun μ H σ ρ h Q c e q => by
  subst hC
  refine ho μ H σ ρ h _ c e (OkG.imp (OkG.bnd (rel := rlD K) q) ?_)
  rintro v H1 ⟨d, h1, μ1, e1, c1, r1, q1⟩
  --
  cases hx : ofIns k d h1 with
  | none => rw [hx] at q1; exact q1.elim
  | some p =>
    rw [hx] at q1
    dsimp only at q1
    obtain ⟨b, dx, gs, rfl, rfl, hm, hs, hb, rf⟩ := rep_ins c1 r1 hx
    cases hl : p.2.lookup m with
    | some _ => rw [hl] at q1; exact q1.elim
    | none =>
      rw [hl] at q1
      dsimp only at q1
      refine ⟨b, dx, gs, rfl, hb, repF_no rf hl, ?_⟩
      refine ha μ1 H1 σ ρ h1 _ c1 (e.ext c e1) (OkG.imp (OkG.bnd (rel := rlA K) q1) ?_)
      rintro vs H2 ⟨ds, h2, μ2, e2, c2, r2, q2⟩
      split at q2
      · next hz => exact ⟨by rw [List.length_cons, RepAll.length r2]; exact hz, μ2, h2, _, c2, .cons (Rep.ext c1 e2 r1) r2, q2⟩
      · exact q2.elim
theorem e_meth {C : Addr} (hC : C = cls k) {E' : L2.St → XK} {m : PySem.Str} {f : List D → M D} {to : TE} {ta : TA} {o : ME} {a : MA} (ho : EvE K cls W to o) (ha : EvA K cls W ta a) : EvE K cls W (tMethO C m (spM K cls f n) E' to ta) (mMeth k m n f o a) := fun μ H σ ρ h Q c e q => by
  subst hC
  refine ho μ H σ ρ h _ c e (OkG.imp (OkG.bnd (rel := rlD K) q) ?_)
  rintro v H1 ⟨d, h1, μ1, e1, c1, r1, q1⟩
  dsimp only at q1
  cases hx : ofIns k d h1 with
  | none => rw [hx] at q1; exact q1.elim
  | some p =>
    rw [hx] at q1
    dsimp only at q1
    obtain ⟨b, dx, gs, rfl, rfl, hm, hs, hb, rf⟩ := rep_ins c1 r1 hx
    cases hl : p.2.lookup m with
    | some _ => rw [hl] at q1; exact q1.elim
    | none =>
      rw [hl] at q1
      dsimp only at q1
      refine ⟨b, dx, gs, rfl, hb, repF_no rf hl, ?_⟩
      refine ha μ1 H1 σ ρ h1 _ c1 (e.ext c e1) (OkG.imp (OkG.bnd (rel := rlA K) q1) ?_)
      rintro vs H2 ⟨ds, h2, μ2, e2, c2, r2, q2⟩
      split at q2
      · next hz => exact ⟨by rw [List.length_cons, RepAll.length r2]; exact hz, μ2, h2, _, c2, .cons (Rep.ext c1 e2 r1) r2, noexc_any q2⟩
      · exact q2.elim
theorem insV_of {v : V} {d : D} {C : Addr} (hC : C = cls k) (c : Cfg K cls μ H h) (r : Rep K H μ v d) (e : (ofIns k d h).isSome = true) : InsV H C v := by
  subst hC
  obtain ⟨p, hp⟩ := Option.isSome_iff_exists.mp e
  obtain ⟨a, dx, gs, rfl, _, _, _, q, _⟩ := rep_ins c r hp
  exact ⟨a, dx, gs, rfl, q⟩
theorem c_lenO {C : Addr} (hC : C = cls k) {E' : XK} {f : List D → M D} {r2 : List V → Hp → VK → Prop} {g2 : List D → M D} (h2 : CaE K cls E r2 g2) : CaE K cls E (fun xs H Q => rLenO C (spM K cls f 1) E' xs H Q ∨ r2 xs H Q) (insC k (fLenO f) g2) := fun μ H h xs as Q c r q => by
  unfold insC at q
  split at q
  · next x =>
    split at q
    · next hi =>
      refine .inl ?_
      cases r with
      | cons rx rn =>
        cases rn
        refine ⟨_, rfl, insV_of hC c rx hi, rfl, μ, h, _, c, .cons rx .nil, ?_⟩
        refine OkG.imp (noexc_any (OkG.bnd (rel := rlD K) q)) ?_
        rintro v H1 ⟨d, h1, μ1, e1, c1, r1, q1⟩
        cases r1 with
        | int z =>
          unfold sizeF at q1
          dsimp only at q1
          split at q1
          · next hz => exact ⟨z, rfl, hz.1, hz.2, OkG.now (show OkG K cls E (rlD K) μ1 H1 (.ok (.int z) h1) Q from q1) c1 (.int z)⟩
          · exact q1.elim
        | _ => exact q1.elim
    · exact .inr (h2 μ H h xs _ Q c r q)
  · exact .inr (h2 μ H h xs _ Q c r q)
theorem o_eqO {C : Addr} (hC : C = cls k) {E' : XK} {f : List D → M D} {r2 : R2} {g2 : D → D → M D} (h2 : OpE K cls E r2 g2) : OpE K cls E (fun x y H Q => rCmpO C (spM K cls f 2) E' x y H Q ∨ r2 x y H Q) (insL k (fEqO k f) g2) := fun μ H h x y a b Q c r s q => by
  unfold insL at q
  split at q
  · next hi =>
    unfold fEqO at q
    split at q
    · next hj => exact .inl ⟨insV_of hC c r hi, insV_of hC c s hj, rfl, μ, h, _, c, .cons r (.cons s .nil), noexc_any q⟩
    · exact q.elim
  · exact .inr (h2 μ H h x y a b Q c r s q)
theorem o_neO {C : Addr} (hC : C = cls k) {E' : XK} {f : List D → M D} {r2 : R2} {g2 : D → D → M D} (h2 : OpE K cls E r2 g2) : OpE K cls E (fun x y H Q => rNeO C (spM K cls f 2) E' x y H Q ∨ r2 x y H Q) (insL k (fNeO k f) g2) := fun μ H h x y a b Q c r s q => by
  unfold insL at q
  split at q
  · next hi =>
    unfold fNeO at q
    split at q
    · next hj =>
      refine .inl ⟨insV_of hC c r hi, insV_of hC c s hj, rfl, μ, h, _, c, .cons r (.cons s .nil), OkG.imp (noexc_any (OkG.bnd (rel := rlD K) q)) ?_⟩
      rintro v H1 ⟨d, h1, μ1, e1, c1, r1, q1⟩
      cases r1 with
      | bl z => exact ⟨z, rfl, OkG.now (show OkG K cls E (rlD K) μ1 H1 (.ok (.bl (!z)) h1) Q from q1) c1 (.bl _)⟩
      | _ => exact q1.elim
    · exact q.elim
  · exact .inr (h2 μ H h x y a b Q c r s q)
theorem o_inO {C : Addr} (hC : C = cls k) {E' : XK} {neg : Bool} {f : List D → M D} {r2 : R2} {g2 : D → D → M D} (h2 : OpE K cls E r2 g2) : OpE K cls E (fun x y H Q => rInO C neg (spM K cls f 2) E' x y H Q ∨ r2 x y H Q) (insR k (fInO neg f) g2) := fun μ H h x y a b Q c r s q => by
  unfold insR at q
  split at q
  · next hi =>
    refine .inl ⟨insV_of hC c s hi, rfl, μ, h, _, c, .cons s (.cons r .nil), OkG.imp (noexc_any (OkG.bnd (rel := rlD K) q)) ?_⟩
    rintro v H1 ⟨d, h1, μ1, e1, c1, r1, q1⟩
    cases neg with
    | true =>
      cases r1 with
      | bl z => exact ⟨z, rfl, OkG.now (show OkG K cls E (rlD K) μ1 H1 (.ok (.bl (!z)) h1) Q from q1) c1 (.bl _)⟩
      | _ => exact q1.elim
    | false =>
      cases r1 with
      | bl z => exact ⟨z, rfl, OkG.now (show OkG K cls E (rlD K) μ1 H1 (.ok (.bl z) h1) Q from q1) c1 (.bl _)⟩
      | _ => exact q1.elim
  · exact .inr (h2 μ H h x y a b Q c r s q)
theorem e_addX {C : Addr} (hC : C = cls k) {f : List D → M D} {ta tb : TE} {a b : ME} (ha : EvE K cls W ta a) (hb : EvE K cls W tb b) : EvE K cls W (tAddO C (spX K cls f 2) (L2.WE W.w) ta tb) (mAddX k f a b) := fun μ H σ ρ h Q c e q => by
  refine ha μ H σ ρ h _ c e (OkG.imp (OkG.bnd (rel := rlD K) q) ?_)
  rintro v H1 ⟨d, h1, μ1, e1, c1, r1, q1⟩
  refine hb μ1 H1 σ ρ h1 _ c1 (e.ext c e1) (OkG.imp (OkG.bnd (rel := rlD K) q1) ?_)
  rintro w H2 ⟨d2, h2, μ2, e2, c2, r2, q2⟩
  --
  have r1' := Rep.ext c1 e2 r1
  split at q2
  · next hi => exact ⟨insV_of hC c2 r1' hi.1, insV_of hC c2 r2 hi.2, rfl, μ2, h2, _, c2, .cons r1' (.cons r2 .nil), q2⟩
  · exact q2.elim
end
/-! PE-side joins -/
section
variable {X : Cx}
theorem cr_or {f : Value} {r1 r2 : List V → Hp → VK → Prop} (h1 : CallR X f r1) (h2 : CallR X f r2) : CallR X f fun xs H Q => r1 xs H Q ∨ r2 xs H Q := fun pins s σ H xs us Q I r h => h.elim (h1 pins s σ H xs us Q I r) (h2 pins s σ H xs us Q I r)
theorem op_or {f : Value → Value → Sem Value} {r1 r2 : R2} (h1 : OpR X f r1) (h2 : OpR X f r2) : OpR X f fun x y H Q => r1 x y H Q ∨ r2 x y H Q := fun pins s σ H x y v u Q I rx ry h => h.elim (h1 pins s σ H x y v u Q I rx ry) (h2 pins s σ H x y v u Q I rx ry)
theorem passC {E : XK} (σ : L2.St) : PassesAt CX0 X σ E := fun _ _ _ _ _ _ z => z.elim
end
/-! a raising def called where nothing may be raised -/
section
variable {K : PySem.W.Frag} {cls : Nat → Addr} {W : WI} {k n : Nat} {P : Program} {w : World} {X : Cx}
theorem e_make0 {C : Addr} (hC : C = cls k) {f : List D → M D} {ta : TA} {a : MA} (ha : EvA K cls W ta a) : EvE K cls W (tMakeS C (spX K cls f n) (fun _ => E0) ta) (mMake k n f a) := e_make (E' := fun _ => E0) hC ha
theorem e_meth0 {C : Addr} (hC : C = cls k) {m : PySem.Str} {f : List D → M D} {to : TE} {ta : TA} {o : ME} {a : MA} (ho : EvE K cls W to o) (ha : EvA K cls W ta a) : EvE K cls W (tMethO C m (spX K cls f n) (fun _ => E0) to ta) (mMeth k m n f o a) := e_meth (E' := fun _ => E0) hC ho ha
theorem e_own0 {f : List D → M D} {ta : TA} {a : MA} (ha : EvA K cls W ta a) : EvE K cls W (L2.tCallS (spX K cls f n) (fun _ => E0) ta) (mCall n f a) := e_ownS (E' := fun _ => E0) ha
theorem pass0X (σ : L2.St) : PassesAt (L2N.CX P w) X σ E0 := fun _ _ _ _ _ _ c => by
  obtain ⟨_, _, _, _, _, _, _, _, _, _, _, _, z⟩ := c
  exact z.elim
theorem takesF : L2N.Takes X.nox fun _ _ _ _ => False := fun _ _ ⟨_, _, _, _, _, _, _, _, _, _, _, _, _, _, _, _, z⟩ => z.elim
def tb (l : List (Option Bool)) (k : Nat) : Option Bool := l.getD k none
theorem tb_nil {Q : Nat → Bool → Prop} : ∀ k b, tb [] k = some b → Q k b := fun _ _ e => by cases e
theorem tb_cons {Q : Nat → Bool → Prop} {o : Option Bool} {l : List (Option Bool)} (h0 : ∀ b, o = some b → Q 0 b) (h : ∀ k b, tb l k = some b → Q (k + 1) b) : ∀ k b, tb (o :: l) k = some b → Q k b
  | 0, b, e => h0 b e
  | k + 1, b, e => h k b e
theorem tb_s {Q : Bool → Prop} {b : Bool} (h : Q b) : ∀ c, some b = some c → Q c := fun c e => by cases e; exact h
theorem tb_n {Q : Bool → Prop} : ∀ c, (none : Option Bool) = some c → Q c := fun c e => by cases e
theorem tb_0 {o : Option Bool} {l : List (Option Bool)} : tb (o :: l) 0 = o := rfl
theorem tb_su {o : Option Bool} {l : List (Option Bool)} {k : Nat} : tb (o :: l) (k + 1) = tb l k := rfl
end
end G

/-! chains, enumerate, insert, tuple, isinstance of own classes. -/
namespace G
open PySem PySem.Spec PyProof.Rows L2 GT
/-- what an own class says so that isinstance asks its instances rightly -/
structure InF (K : PySem.W.Frag) (C : Addr) : Prop where
  cl : Cls K C
  ha : PySem.W.findIn K (.ref C) "__class__" = some (some (.builtin "object.__class__"))
  hn : PySem.W.specialIn K (.builtin "object.__class__") "__get__" = some (some (.builtin "getset_descriptor.__get__"))
  htk : PySem.W.takesIn K (.builtin "object.__class__") = some true
  hm : PySem.W.mroIn K C (.type "object") = some true
def mChain (f g : D → D → M D) (a b c : ME) : ME := fun ρ => bnd (a ρ) fun x => bnd (b ρ) fun y => bnd (f x y) fun z => bnd (asBl z) fun k => if k = true then bnd (c ρ) fun w => g y w else ret (.bl false)
def enumD (l : List D) : List D := l.zipIdx.map fun p => .tup [.int (p.2 : Int), p.1]
def wEnum (a : ME) : MI := fun ρ => bnd (a ρ) fun x => fun h => match x with
  | .fzl l => .ok ⟨enumD l, fun _ => true⟩ h
  | .ref n => match getL h n with
    | some l => .ok ⟨enumD l, fun h' => decide (getL h' n = some l)⟩ h
    | none => .stuck
  | _ => .stuck
def fInsert (x : D) (vs : List D) : M D := fun h => match x, vs with
  | .ref n, [.int i, y] => match getL h n with
    | some xs => if xs.length < sizeLine ∧ 0 ≤ i ∧ i < 2 ^ 63 then .ok .non (h.set n (.lst (xs.take i.toNat ++ [y] ++ xs.drop i.toNat))) else .stuck
    | none => .stuck
  | _, _ => .stuck
/-- tuple(x) -/
def fTuple (x : D) : M D := fun h => match x with
  | .tup l => .ok (.tup l) h
  | .fzl l => .ok (.tup l) h
  | .ref n => match getL h n with
    | some l => .ok (.tup l) h
    | none => .stuck
  | _ => .stuck
def fIsC (t : Nat → Option Bool) (x : D) : M D := fun h => match x with
  | .ref n => match h[n]? with
    | some (.ins k _) => match t k with
      | some b => .ok (.bl b) h
      | none => .stuck
    | some (.lst _) => .ok (.bl false) h
    | none => .stuck
  | .ty _ => .stuck
  | _ => .ok (.bl false) h
section
variable {K : PySem.W.Frag} {cls : Nat → Addr} {E : XK} {W : WI}
theorem e_chain {r r' : R2} {f g : D → D → M D} {ta tb tc : TE} {a b c : ME} (hr : ∀ {E : XK}, OpE K cls E r f) (hr' : ∀ {E : XK}, OpE K cls E r' g) (ha : EvE K cls W ta a) (hb : EvE K cls W tb b) (hc : EvE K cls W tc c) :
    EvE K cls W (tChain r r' ta tb tc) (mChain f g a b c) := fun μ H σ ρ h Q cc e q => by
  refine ha μ H σ ρ h _ cc e (OkG.imp (OkG.bnd (rel := rlD K) q) ?_)
  rintro v H1 ⟨d, h1, μ1, e1, c1, r1, q1⟩
  refine hb μ1 H1 σ ρ h1 _ c1 (e.ext cc e1) (OkG.imp (OkG.bnd (rel := rlD K) q1) ?_)
  rintro w H2 ⟨d2, h2, μ2, e2, c2, r2, q2⟩
  refine hr μ2 H2 h2 v w d d2 _ c2 (Rep.ext c1 e2 r1) r2 (OkG.imp (OkG.bnd (rel := rlD K) q2) ?_)
  rintro z H3 ⟨d3, h3, μ3, e3, c3, r3, q3⟩
  obtain ⟨k, rfl, q4⟩ := asBl_bnd r3 q3
  refine ⟨k, rfl, ?_⟩
  cases k with
  | false => exact q4.now c3 (.bl false)
  | true =>
    refine hc μ3 H3 σ ρ h3 _ c3 (((e.ext cc e1).ext c1 e2).ext c2 e3) (OkG.imp (OkG.bnd (rel := rlD K) q4) ?_)
    rintro y H4 ⟨d4, h4, μ4, e4, c4, r4, q5⟩
    exact hr' μ4 H4 h4 w y d2 d4 Q c4 (Rep.ext c3 e4 (Rep.ext c2 e3 r2)) r4 q5
theorem enum_get {l : List D} {i : Nat} : (enumD l)[i]? = (l[i]?).map fun d => D.tup [.int (i : Int), d] := by
  unfold enumD
  rw [List.getElem?_map, List.getElem?_zipIdx]
  cases l[i]? <;> simp
theorem it_enum {μ : List Addr} {H : Hp} {p : Addr} {l : List D} {lv : Store → Bool} (key : ∀ μ1 H1 h1, Ext μ H μ1 H1 → Cfg K cls μ1 H1 h1 → lv h1 = true → ∃ xs, SqL K H1 p xs ∧ RepAll K H1 μ1 xs l) : ItOk K cls (Ite K p) ⟨enumD l, lv⟩ μ H := fun i μ1 H1 h1 e1 c1 hl => by
  obtain ⟨xs, hs, rv⟩ := key μ1 H1 h1 e1 c1 hl
  refine ⟨fun d hd => ?_, fun hd => ?_⟩
  · have hd : (enumD l)[i]? = some d := hd
    rw [enum_get] at hd
    obtain ⟨y, hy, rfl⟩ := Option.map_eq_some_iff.mp hd
    obtain ⟨v, g1, g2⟩ := rv.get hy
    refine ⟨⟨xs, v, hs, g1⟩, fun x H' hy => ?_⟩
    obtain ⟨T, w, rfl, hT, rfl, hw⟩ := hy
    have z := hw xs hs
    rw [g1] at z
    cases z
    have x2 := ext_new c1 (o := HO.tup [.int (i : Nat), v]) hT
    exact ⟨x2, c1.upd_out hT, .tup (SqT.of upd_same) (.cons (.int _) (.cons (g2.ext c1 x2) .nil))⟩
  · have hd : (enumD l)[i]? = none := hd
    rw [enum_get] at hd
    refine ⟨xs, hs, ?_⟩
    rw [RepAll.length rv]
    exact List.getElem?_eq_none_iff.mp (Option.map_eq_none_iff.mp hd)
theorem i_enum {ta : TE} {a : ME} (ha : EvE K cls W ta a) : EvI K cls W (iEnum K (tCons ta tNil)) (wEnum a) := fun μ H σ ρ h R c e q => by
  refine ha μ H σ ρ h _ c e (OkG.imp (OkG.bnd (rel := rlD K) q) ?_)
  rintro v H1 ⟨d, h1, μ1, e1, c1, r1, q1⟩
  cases r1 with
  | fzl f1 f2 => exact ⟨_, _, rfl, FzL.sq K f1, q1.now c1 (it_enum fun μ2 H2 h2 x2 c2 _ => ⟨_, FzL.sq K (fzL_ext c1 x2 f1), f2.ext c1 x2⟩)⟩
  | ref hn =>
    rename_i n p
    dsimp only at q1
    cases e2 : getL h1 n with
    | none => rw [e2] at q1; exact q1.elim
    | some l =>
      rw [e2] at q1
      obtain ⟨_, hp, vs, hv, rv⟩ := c1.at (getL_some e2)
      rw [hn] at hp
      cases hp
      refine ⟨_, _, rfl, SqL.of hv, OkG.now q1 c1 (it_enum fun μ2 H2 h2 x2 c2 hl => ?_)⟩
      obtain ⟨_, hp2, ws, hw, rw'⟩ := c2.at (getL_some (of_decide_eq_true hl))
      rw [x2.at hn] at hp2
      cases hp2
      exact ⟨ws, SqL.of hw, rw'⟩
  | _ => exact q1.elim
theorem m_insert : MtE K cls E (fun x vs H Q => ∃ (l : Addr) (xs : List V) (i : Int) (y : V), x = .ref l ∧ vs = [.int i, y] ∧ H l = some (.lst xs) ∧ xs.length < sizeLine ∧ 0 ≤ i ∧ i < 2 ^ 63 ∧ Q .non (upd H l (.lst (xs.take i.toNat ++ [y] ++ xs.drop i.toNat)))) fInsert := fun μ H h n p xs as Q c hn hl r q => by
  obtain ⟨l, e⟩ := hl
  unfold fInsert at q
  split at q
  · next hx =>
    cases hx
    rw [e] at q
    dsimp only at q
    split at q
    · next hz =>
      obtain ⟨_, hp, vs, hv, rv⟩ := c.at (getL_some e)
      rw [hn] at hp
      cases hp
      cases r with
      | cons r1 r2 =>
        cases r1
        cases r2 with
        | cons r3 r4 =>
          cases r4
          refine ⟨p, vs, _, _, rfl, rfl, hv, by rw [RepAll.length rv]; exact hz.1, hz.2.1, hz.2.2, ?_⟩
          exact OkG.now (OkG.ext (ext_set (List.mem_of_getElem? hn)) q) (c.setL hn (RepAll.append (RepAll.append (RepAll.take _ rv) (.cons r3 .nil)) (RepAll.drop _ rv))) .non
    · exact q.elim
  · exact q.elim
theorem insert_none : ∀ n as h, getL h n = none → fInsert (.ref n) as h = .stuck := fun n as h e => by
  unfold fInsert
  split
  · next hx => cases hx; rw [e]
  · rfl
theorem e_tupleOf {ta : TE} {a : ME} (ha : EvE K cls W ta a) : EvE K cls W (tThen ta (kTup K)) (mUn fTuple a) := fun μ H σ ρ h Q c e q => by
  refine ha μ H σ ρ h _ c e (OkG.imp (OkG.bnd (rel := rlD K) q) ?_)
  rintro v H1 ⟨d, h1, μ1, e1, c1, r1, q1⟩
  unfold fTuple at q1
  cases r1 with
  | tup t1 t2 => exact .inr ⟨_, _, rfl, t1, q1.now c1 (.tup t1 t2)⟩
  | fzl f1 f2 =>
    refine .inl ⟨_, _, rfl, FzL.sq K f1, fun p hp => ?_⟩
    exact q1 (.ref p) μ1 _ (ext_new c1 hp) (c1.upd_out hp) (.tup (SqT.of upd_same) (f2.ext c1 (ext_new c1 hp)))
  | ref hn =>
    rename_i n p
    dsimp only at q1
    cases e2 : getL h1 n with
    | none => rw [e2] at q1; exact q1.elim
    | some l =>
      rw [e2] at q1
      obtain ⟨_, hp, vs, hv, rv⟩ := c1.at (getL_some e2)
      rw [hn] at hp
      cases hp
      refine .inl ⟨_, _, rfl, SqL.of hv, fun p hp => ?_⟩
      exact q1 (.ref p) μ1 _ (ext_new c1 hp) (c1.upd_out hp) (.tup (SqT.of upd_same) (rv.ext c1 (ext_new c1 hp)))
  | _ => exact q1.elim
/-- isinstance(x, C), C an own class -/
theorem e_isC {C : Addr} {t : Nat → Option Bool} {ta : TE} {a : ME} (hT : ∀ T ∈ ["NoneType", "bool", "int", "str", "tuple", "list"], PySem.W.kitOne K (.type T) (.ref C) = some false)
    (hI : ∀ k b, t k = some b → InF K (cls k) ∧ PySem.W.kitOne K (.ref (cls k)) (.ref C) = some b) (ha : EvE K cls W ta a) : EvE K cls W (tCB (rIsi K) (tCons ta (tCons (tC (.ref C)) tNil))) (mUn (fIsC t) a) := fun μ H σ ρ h Q c e q => by
  refine ha μ H σ ρ h _ c e (OkG.imp (OkG.bnd (rel := rlD K) q) ?_)
  rintro v H1 ⟨d, h1, μ1, e1, c1, r1, q1⟩
  have base : ∀ T, T ∈ ["NoneType", "bool", "int", "str", "tuple", "list"] → TyX K H1 v (.type T) → OkG K cls (L2.WE W.w σ) (rlD K) μ1 H1 (.ok (.bl false) h1) Q → tCons (tC (.ref C)) tNil σ H1 (fun vs G => rIsi K (v :: vs) G Q) := fun T hm ty q2 =>
    ⟨v, .ref C, .type T, .ref C, false, rfl, .own C, ty, hT T hm, q2.now c1 (.bl false)⟩
  show tCons (tC (.ref C)) tNil σ H1 (fun vs G => rIsi K (v :: vs) G Q)
  cases d with
  | non => exact base _ (by simp) (ty_of c1 r1 rfl) q1
  | bl b => exact base _ (by simp) (ty_of c1 r1 rfl) q1
  | int b => exact base _ (by simp) (ty_of c1 r1 rfl) q1
  | str b => exact base _ (by simp) (ty_of c1 r1 rfl) q1
  | ty b => exact q1.elim
  | tup b => exact base _ (by simp) (ty_of c1 r1 rfl) q1
  | fzl b => exact base _ (by simp) (ty_of c1 r1 rfl) q1
  | ref n =>
    unfold fIsC at q1
    dsimp only at q1
    cases hx : h1[n]? with
    | none => rw [hx] at q1; exact q1.elim
    | some o =>
      rw [hx] at q1
      cases o with
      | lst l => exact base "list" (by simp) (ty_of (h := h1) c1 r1 (by unfold tyName; dsimp only; rw [hx])) q1
      | ins k fs =>
        dsimp only at q1
        cases hk : t k with
        | none => rw [hk] at q1; exact q1.elim
        | some b =>
          rw [hk] at q1
          obtain ⟨i1, i2⟩ := hI k b hk
          cases r1 with
          | ref hn =>
            obtain ⟨_, hp, dx, gs, g1, g2⟩ := c1.at hx
            rw [hn] at hp
            cases hp
            exact ⟨_, .ref C, .ref (cls k), .ref C, b, rfl, .own C, .base (.ins g1 i1.cl i1.ha i1.hn i1.htk i1.hm), i2, OkG.now (show OkG K cls (L2.WE W.w σ) (rlD K) μ1 H1 (.ok (.bl b) h1) Q from q1) c1 (.bl b)⟩
end
end G

/-! list(o), o an instance whose __iter__ gives iter(self.f). -/
namespace GT
open PySem PySem.Spec PyProof.Rows L2 L2N
section
variable {X : Cx} {pins : List (Addr × Obj)} {σ : L2.St} {Rs : Result → Shared → Prop} {l it q : Addr} {zs : List V} {A1 : Around}
/-- the loop that fills the list at q -/
theorem fill_loop (hh : A1.in1.handled = none) (hni : it ≠ q) (hlq : l ≠ q) (hz : zs.length < sizeLine) {H0 : Hp} (hd : ∀ u s', Inv X pins σ (upd (upd H0 it u) q (.lst zs)) s' → Rs (.ok (.ret .none)) s') :
    ∀ (r i : Nat) (H : Hp) (s : Shared), zs.length - i = r → i ≤ zs.length → Inv X pins σ H s → H it = some (ItO l it i) → SqL X.K H l zs → H q = some (.lst (zs.take i)) → (∀ b, b ≠ it → b ≠ q → H b = H0 b) →
      codeAny (model X.prog X.w) A1 (.builtin "list.extend.loop" ⟨[.ref q, .ref it, .none], []⟩) Rs s := by
  intro r
  induction r with
  | zero =>
    intro i H s hr hi I ei el eq hb
    have e : i = zs.length := by omega
    subst e
    obtain ⟨its, rv, pl, hl⟩ := I.list el
    refine codeAny_builtin PySem.F.entry_extend_loop ?_
    rw [Around.under_plainId PySem.F.plain_extend_loop _]
    show wpAny _ A1.in1 (pyNext (.ref it) >>= _) _ _ s
    have mu : Mut (H it) := by rw [ei]; exact True.intro
    refine wpAny_bind (DSub.py_end hh (itO_get I ei) pl.isList (by rw [List.getElem?_toArray]; exact rv.none_of (List.getElem?_eq_none_iff.mpr (Nat.le_refl _))) fun h' e' eb => ?_)
    have J := I.write (x := it) (e := it) (t' := s.toks) mu (.inl rfl) (fun b o nb z => eb b o nb z) ⟨_, e'⟩ (itE_ok (i := zs.length) e')
    refine wpAny_pure (hd (ItE it zs.length) _ ?_)
    rw [List.take_length] at eq
    have : upd (upd H0 it (ItE it zs.length)) q (.lst zs) = upd H it (ItE it zs.length) := by
      funext b
      by_cases h1 : b = q
      · subst h1
        rw [upd_same, upd_ne (Ne.symm hni), eq]
      · by_cases h2 : b = it
        · subst h2
          rw [upd_ne h1, upd_same, upd_same]
        · rw [upd_ne h1, upd_ne h2, upd_ne h2, hb b h2 h1]
    rw [this]
    exact J
  | succ r ih =>
    intro i H s hr hi I ei el eq hb
    have lt : i < zs.length := by omega
    obtain ⟨its, rv, pl, hl⟩ := I.list el
    obtain ⟨w, hw, rw'⟩ := rv.get (List.getElem?_eq_getElem lt)
    refine codeAny_builtin PySem.F.entry_extend_loop ?_
    rw [Around.under_plainId PySem.F.plain_extend_loop _]
    show wpAny _ A1.in1 (pyNext (.ref it) >>= _) _ _ s
    have mu : Mut (H it) := by rw [ei]; exact True.intro
    refine wpAny_bind (DSub.py_item (itO_get I ei) pl.isList (by rw [List.getElem?_toArray]; exact hw) fun h' e' sb => ?_)
    have J : Inv X pins σ (upd H it (ItO l it (i + 1))) { s with heap := h' } := I.write (x := it) (e := it) (t' := s.toks) mu (.inl rfl) (fun b o nb z => (sb.2 b nb).trans z) ⟨_, e'⟩ (itO_ok e')
    have eq2 : upd H it (ItO l it (i + 1)) q = some (.lst (zs.take i)) := by rw [upd_ne (Ne.symm hni)]; exact eq
    show wpAny _ A1.in1 (updateSeq q (·.push w) >>= _) _ _ _
    obtain ⟨z, its2, k, r2, hl2, e2⟩ := J.lstM eq2
    have hlen : its2.length = i := by rw [← r2.length, List.length_take]; omega
    refine wpAny_bind (wpAny_updateSeq e2 rfl (wpAny_pure ⟨plainId_quiet PySem.F.plain_extend_loop _, ?_⟩) (by rw [List.size_toArray]; omega) (by show (its2.toArray.push w).size ≤ sizeLine + 1; rw [Array.size_push, List.size_toArray]; omega))
    have tk : zs.take (i + 1) = zs.take i ++ [zs[i]] := by rw [List.take_succ, List.getElem?_eq_getElem lt]; rfl
    refine ih (i + 1) _ _ (by omega) (by omega) (J.lset (its' := its2 ++ [w]) (ys := zs.take (i + 1)) (t' := s.toks) eq2 e2 (by simp) (by rw [tk]; exact r2.append (.cons rw' .nil)) (by rw [List.length_take]; omega)) ?_ ?_ upd_same (fun b h1 h2 => ?_)
    · rw [upd_ne hni, upd_same]
    · have hl3 : SqL X.K (upd H it (ItO l it (i + 1))) l zs := by
        rcases el with (el | ⟨o, el⟩) | el
        · exact .inl (.inl (by rw [upd_ne (fun z => by rw [z, ei] at el; cases el)]; exact el))
        · exact .inl (.inr ⟨o, by rw [upd_ne (fun z => by rw [z, ei] at el; cases el)]; exact el⟩)
        · exact .inr el
      rcases hl3 with (hq | ⟨o, hq⟩) | hq
      · exact .inl (.inl (by rw [upd_ne hlq]; exact hq))
      · exact .inl (.inr ⟨o, by rw [upd_ne hlq]; exact hq⟩)
      · exact .inr hq
    · rw [upd_ne h2, upd_ne h1]
      exact hb b h1 h2
end
section
variable {X : Cx} {C fI fL : Addr} {fdI fdL : FuncData} {psI psL : List PySem.Str} {spI spL : Sp} {n k : Nat}
/-- list(o): __iter__ is called, then __len__, then the iterator is emptied -/
def rListO (K : PySem.W.Frag) (C : Addr) (spI spL : Sp) : List V → Hp → VK → Prop := fun xs H Q => ∃ a, xs = [.ref a] ∧ InsV H C (.ref a) ∧ ∀ q, H q = none → spI [.ref a] (upd H q (.lst [])) (fun r G => ∃ it l, r = .ref it ∧ G it = some (ItO l it 0) ∧ InsV G C (.ref a) ∧
  spL [.ref a] G (fun v G2 => ∃ m : Int, v = .int m ∧ 0 ≤ m ∧ m < 16000000 ∧ ∃ zs : List V, it ≠ q ∧ l ≠ q ∧ G2 it = some (ItO l it 0) ∧ G2 q = some (.lst []) ∧ SqL K G2 l zs ∧ zs.length < sizeLine ∧ ∀ u, Q (.ref q) (upd (upd G2 it u) q (.lst zs))) E0) E0
theorem hintO {A : Around} {s : Shared} {pins : List (Addr × Obj)} {σ : L2.St} {H : Hp} {a : Addr} {Q : Hp → Prop} (FL : FnOk X.prog X.w X.K X.mg X.base CX0 k fL fdL psL spL) (hr : Room (k + 1) A) (hfr : A.frames = X.A.frames)
    (hs : PySem.W.findIn X.K (.ref C) "__len__" = some (some (.ref fL))) (hf : PySem.W.isFn X.K (.ref fL) = true) (hb : Binds X.K fdL psL []) (I : Inv X pins σ H s) (hi : InsV H C (.ref a))
    (h : spL [.ref a] H (fun v G => ∃ m : Int, v = .int m ∧ 0 ≤ m ∧ m < 16000000 ∧ Q G) E0) :
    wpAny (model X.prog X.w) A (Builtin.List.listLengthHint (.ref a)) (fun _ s' => ∃ G, Inv X pins σ G s' ∧ Q G) X.xe s := by
  obtain ⟨b, dx, od, eb, _, J⟩ := insV_at (u := .ref a) I hi rfl
  cases eb
  obtain ⟨m, hF⟩ := I.fr
  unfold Builtin.List.listLengthHint
  refine wpAny_bind (wpAny_bind (J.type.here ((PySem.W.looks_findIn I.kIn hs).here ?_)))
  refine PySem.W.KFB.if_not rfl ?_
  refine PySem.W.KFB.if_so rfl ?_
  refine wpAny_bind (wpAny_rule ?_)
  refine wpAny_bind (wpAny_attempt (PySem.W.len_K hF I.ok.mod.kin J hs hf (wpAny_mono (own_run (X := X.nox) (us := [.ref a]) (vs := [.ref a]) FL hr.in1 hfr hb (fun _ _ _ _ _ _ z => z.elim) (I.wish _) (.cons rfl .nil) h) (fun v s' z => ?_) fun _ _ z => ?_)))
  · obtain ⟨d, G, J2, rd, n, rfl, h0, h1, q2⟩ := z
    obtain ⟨t, rfl⟩ : ∃ t, v = Value.int n t := rd
    refine ⟨⟨h0, by omega⟩, ?_⟩
    show wpAny _ _ (asInt? (Value.int n _) >>= _) _ _ _
    refine wpAny_bind (wpAny_pure ?_)
    show wpAny _ _ (if Builtin.List.listTooLong n.toNat = true then _ else _) _ _ _
    refine PySem.W.KFB.if_not (by unfold Builtin.List.listTooLong; rw [sizeLine_eq]; exact decide_eq_false (by omega)) ?_
    exact wpAny_pure ⟨G, J2.unwish.tok _, q2⟩
  · exact z.elim
theorem next_there {s : Shared} {it l : Addr} {i : Nat} {A : Around} {M : Model} {Q E : Value → Shared → Prop} (e : s.heap.get? it = some (GNX.itObj l i)) (h : Q (.ref it) s) : PySem.W.OwitIt M A Q E (.ref it) s := by
  unfold PySem.W.OwitIt
  refine wpAny_bind (wpAny_typeOf_ref e ?_)
  show wpAny _ _ (typeLookup (.type "list_iterator") (PySem.Str.ofString "__next__")) _ _ _
  rw [slot_listiter_next.lookup]
  exact wpAny_pure h
theorem call_listO (hc : X.calm = true) (FI : FnOk X.prog X.w X.K X.mg X.base CX0 n fI fdI psI spI) (FL : FnOk X.prog X.w X.K X.mg X.base CX0 k fL fdL psL spL) (hr1 : Room (n + 2) X.A) (hr2 : Room (k + 3) X.A)
    (hi : PySem.W.findIn X.K (.ref C) "__iter__" = some (some (.ref fI))) (hif : PySem.W.isFn X.K (.ref fI) = true) (hib : Binds X.K fdI psI []) (hs : PySem.W.findIn X.K (.ref C) "__len__" = some (some (.ref fL))) (hf : PySem.W.isFn X.K (.ref fL) = true) (hb : Binds X.K fdL psL []) :
    CallR X (.type "list") (rListO X.K C spI spL) := by
  intro pins s σ H xs us Q I rv h
  obtain ⟨a, rfl, ha, hq⟩ := h
  obtain ⟨u, rfl, ru⟩ := rv.one
  cases ru
  refine callType_codes (Q₁ := fun obj s₁ => obj = .ref s.heap.objs.size ∧ s₁ = { s with heap := s.heap.push { cls := .type "list", data := .seq #[] } }) PySem.F.called_list (PySem.F.typeCall_list_1 _) PySem.F.entry_list_init
    (code_list_new _ ⟨rfl, rfl⟩) fun obj s₁ z => ?_
  obtain ⟨rfl, rfl⟩ := z
  have hS : (s.heap.push { cls := .type "list", data := .seq #[] }).get? s.heap.objs.size = some { cls := .type "list", data := .seq #[] } := Heap.get?_push_size _ rfl
  refine ⟨⟨_, hS, rfl⟩, PySem.F.args_list_init_2 _ _, ?_⟩
  have fr : H s.heap.objs.size = none := I.hok.fresh (Nat.le_refl _)
  have h1 := hq _ fr
  have I1 : Inv X pins σ (upd H s.heap.objs.size (.lst [])) { s with heap := s.heap.push { cls := .type "list", data := .seq #[] } } := I.lnew (its := []) (t' := s.toks) .nil (Nat.zero_le _)
  generalize hqq : s.heap.objs.size = q at *
  show wpAny _ _ (do let old ← Builtin.List.listItems (.ref q); Builtin.List.listUpdate (.ref q) (fun _ => #[]); letGo old.toList.reverse; Builtin.List.listExtendWith (.ref q) (.ref a) .none) _ _ _
  refine wpAny_bind ?_
  unfold Builtin.List.listItems
  refine wpAny_bind (wpAny_seqItems hS rfl (wpAny_pure ?_))
  show wpAny _ _ (updateSeq q (fun _ => #[]) >>= fun _ => letGo (#[] : Array Value).toList.reverse >>= fun _ => Builtin.List.listExtendWith (.ref q) (.ref a) .none) _ _ _
  refine wpAny_bind (wpAny_updateSeq hS rfl ?_)
  have I2 := I1.lset (f := fun _ => #[]) (its := []) (its' := []) (ys := []) (t' := s.toks) upd_same hS rfl .nil (Nat.zero_le _)
  rw [upd_upd] at I2
  refine wpAny_bind (wpAny_letGo ?_)
  have ha2 : InsV (upd H q (.lst [])) C (.ref a) := by
    obtain ⟨b, dx, fs, e, e2⟩ := ha
    cases e
    exact ⟨_, dx, fs, rfl, by rw [upd_ne (ne_of_none e2 fr)]; exact e2⟩
  have hne : q ≠ a := by
    obtain ⟨b, dx, fs, e, e2⟩ := ha
    cases e
    intro z
    rw [← z, fr] at e2
    cases e2
  obtain ⟨b, dx, od, eb, _, J⟩ := insV_at (u := .ref a) I2 ha2 rfl
  cases eb
  obtain ⟨m0, hF⟩ := I2.fr
  unfold Builtin.List.listExtendWith
  refine wpAny_bind (J.type.here ?_)
  have t1 : Builtin.List.listSameRef (.ref q) (.ref a) = false := by simp [Builtin.List.listSameRef, hne]
  have t2 : (Value.ref C == Value.type "list") = false := rfl
  have t3 : (Value.ref C == Value.type "tuple") = false := rfl
  simp only [t1, t2, t3, Bool.or_false, Bool.false_eq_true, if_false]
  refine wpAny_bind (PySem.W.owit_iter hF I2.ok.mod.kin J hi hif ?_)
  refine wpAny_mono (own_run (X := X.nox) (us := [.ref a]) (vs := [.ref a]) FI hr1.in1.in1 rfl hib (fun _ _ _ _ _ _ z => z.elim) (I2.wish _) (.cons rfl .nil) h1) (fun r s3 z => ?_) fun _ _ z => z.elim
  obtain ⟨v, G, I3, rv3, it, l, rfl, eit, hi3, hl3⟩ := z
  obtain rfl : r = Value.ref it := rv3
  have I3 : Inv X pins σ G s3 := I3.unwish
  refine next_there (itO_get I3 eit) ?_
  refine wpAny_bind (wpAny_holding (wpAny_mono (hintO (Q := fun G2 => ∃ zs : List V, it ≠ q ∧ l ≠ q ∧ G2 it = some (ItO l it 0) ∧ G2 q = some (.lst []) ∧ SqL X.K G2 l zs ∧ zs.length < sizeLine ∧ ∀ u, Q (.ref q) (upd (upd G2 it u) q (.lst zs))) FL hr2.in1.in1 rfl hs hf hb I3 hi3 ?_) (fun r s4 z => ?_) fun _ _ z => z))
  · exact hl3
  · obtain ⟨G2, I4, zs, n1, n2, e1, e2, e3, e4, e5⟩ := z
    have hh : X.A.in1.handled = none := I4.ok.hd hc
    have lp : ∀ G5 s5, Inv X pins σ G5 s5 → G5 it = some (ItO l it 0) → SqL X.K G5 l zs → G5 q = some (.lst []) → (∀ b, b ≠ it → b ≠ q → G5 b = G2 b) →
        codeAny (model X.prog X.w) X.A.in1 (.builtin "list.extend.loop" ⟨[.ref q, .ref it, .none], []⟩) (wants (fun r s₂ => r = .none ∧ EP X pins σ Q (.ref q) s₂) X.xe) s5 := fun G5 s5 J5 g1 g2 g3 g4 =>
      fill_loop (A1 := X.A.in1) hh n1 n2 e4 (H0 := G2) (fun u s' J' => ⟨rfl, .ref q, _, J', rfl, e5 u⟩) _ 0 G5 s5 rfl (Nat.zero_le _) J5 g1 g2 g3 g4
    have same : upd G2 q (.lst []) = G2 := by
      funext b
      by_cases hb : b = q
      · rw [hb, upd_same, e2]
      · rw [upd_ne hb]
    refine wpAny_ite_split (fun _ => ?_) (fun _ => wpAny_pure ⟨plainId_quiet PySem.F.plain_extend_loop _, lp G2 s4 I4 e1 e3 e2 fun _ _ _ => rfl⟩)
    obtain ⟨z0, its, k0, r3, hl4, g3⟩ := I4.lstM e2
    cases r3
    refine wpAny_bind (wpAny_rule (wpAny_bind ?_))
    show wpAny _ _ (updateSeq q (·.push .none) >>= fun _ => updateSeq q (·.pop)) _ _ _
    refine wpAny_bind (wpAny_updateSeq g3 rfl ?_)
    have J1 := I4.lset (f := (·.push Value.none)) (its' := [Value.none]) (ys := [.non]) (t' := s4.toks) e2 g3 (by simp) (.cons rfl .nil) (by rw [List.length_singleton, sizeLine_eq]; decide)
    obtain ⟨z4, its4, k4, r4, hl5, g4⟩ := J1.lstM upd_same
    obtain ⟨u4, rfl, ru4⟩ := r4.one
    refine wpAny_updateSeq g4 rfl ?_ (by show 1 ≤ sizeLine; rw [sizeLine_eq]; decide) (by show 0 ≤ sizeLine + 1; exact Nat.zero_le _)
    have J2 := J1.lset (f := (·.pop)) (its := [u4]) (its' := []) (ys := []) (t' := s4.toks) upd_same g4 (by rfl) .nil (Nat.zero_le _)
    rw [upd_upd, same] at J2
    exact wpAny_pure ⟨plainId_quiet PySem.F.plain_extend_loop _, lp G2 _ J2 e1 e3 e2 fun _ _ _ => rfl⟩
/-- the promise of an __iter__ that says return iter(self.F) -/
def spIt (K : PySem.W.Frag) (C : Addr) (F : PySem.Str) : Sp := fun vs H Q _ => ∃ a dx fs l zs, vs = [.ref a] ∧ H a = some (.ins C dx fs) ∧ fs.lookup F = some (.ref l) ∧ SqL K H l zs ∧ ∀ it, H it = none → Q (.ref it) (upd H it (ItO l it 0))
theorem iter_ok {P : Program} {w : World} {K : PySem.W.Frag} {mg : PySem.Str → Option Value} {base : Heap} {F q : PySem.Str} {C f : Addr} {fd : FuncData} {st : Stmt} (c : Cls K C) (nF : NoAttr K C F) (hz : mg "iter" = none) (Fu : Fun K "__iter__" q st f fd) (S : FnScope ["self"] ["self"] (defScope st))
    (hp : ∀ (cdv : Value) (A : Around) (outer : List PySem.Env) (s : Shared) (H : Hp) (E : XK), ∃ t, PSs (cxOf CX0 P w K mg base ["self"] q (defScope st) f cdv A outer s H E).nox (defBody st) t ∧ t = tRet (tCB (rIter K) (tCons (L2.tFld K (tVar 0) F) tNil))) :
    FnOk P w K mg base CX0 1 f fd ["self"] (spIt K C F) := by
  refine Fu.ok S (fun vs H Q E h => ?_) (fun cdv A outer s H vs Q E hr h => ?_)
  · obtain ⟨a, dx, fs, l, zs, rfl, _⟩ := h
    rfl
  · obtain ⟨t, ht, rfl⟩ := hp cdv A outer s H E
    refine ⟨_, ht, ?_⟩
    obtain ⟨a, dx, fs, l, zs, rfl, ha, hl, hs, q⟩ := h
    exact ⟨_, rfl, a, C, dx, fs, _, rfl, ha, c, nF, hl, l, zs, rfl, hs, q⟩
end
end GT
namespace G
open PySem PySem.Spec PyProof.Rows L2 GT
/-- list(o), o an instance of k that keeps its items in its field F -/
def fListO (k : Nat) (F : PySem.Str) (len : List D → M D) (x : D) : M D := fun h => match ofIns k x h with
  | some p => match p.2.lookup F with
    | some (.ref m) => match getL h m with
      | some _ => match len [x] h with
        | .ok (.int n) h2 => if 0 ≤ n ∧ n < 16000000 then (match getL h2 m with
          | some l => if l.length < sizeLine then alloc (.lst l) h2 else .stuck
          | none => .stuck) else .stuck
        | _ => .stuck
      | none => .stuck
    | _ => .stuck
  | none => .stuck
def fListG (k : Nat) (F : PySem.Str) (len : List D → M D) (g2 : List D → M D) (ds : List D) : M D := match ds with
  | [x] => fun h => if (ofIns k x h).isSome = true then fListO k F len x h else g2 [x] h
  | ds => g2 ds
section
variable {K : PySem.W.Frag} {cls : Nat → Addr} {E : XK} {k : Nat}
/-- what stands outside of the store is changed -/
theorem Cfg.chgO {μ : List Addr} {H : Hp} {h : Store} (c : Cfg K cls μ H h) {p : Addr} {o : HO} (hn : p ∉ μ) (ht : ∀ a zs, H a = some (.tup zs) → upd H p o a = some (.tup zs)) (hf : ∀ a ob u, H a = some (.frz ob u) → upd H p o a = some (.frz ob u)) : Cfg K cls μ (upd H p o) h :=
  ⟨c.len, c.nd, fun n u a h1 h2 => by
    have ha : upd H p o a = H a := upd_ne fun z => hn (by rw [← z]; exact List.mem_of_getElem? h2)
    have q := c.obj n u a h1 h2
    cases u with
    | lst ds => obtain ⟨xs, q, r⟩ := q; exact ⟨xs, by rw [ha]; exact q, r.keep ht hf⟩
    | ins k fs => obtain ⟨dx, gs, q, r⟩ := q; exact ⟨dx, gs, by rw [ha]; exact q, r.keep ht hf⟩⟩
theorem rep_list {μ : List Addr} {H : Hp} {h : Store} {n : Nat} {l : List D} {v : V} (c : Cfg K cls μ H h) (r : Rep K H μ v (.ref n)) (e : getL h n = some l) : ∃ p vs, v = .ref p ∧ μ[n]? = some p ∧ H p = some (.lst vs) ∧ RepAll K H μ vs l := by
  cases r with
  | ref hn =>
    obtain ⟨_, hp, vs, hv, rv⟩ := c.at (getL_some e)
    rw [hn] at hp
    cases hp
    exact ⟨_, vs, rfl, hn, hv, rv⟩
theorem c_listO {C : Addr} (hC : C = cls k) {F : PySem.Str} {len : List D → M D} {r2 : List V → Hp → VK → Prop} {g2 : List D → M D} (h2 : CaE K cls E r2 g2) : CaE K cls E (fun xs H Q => GT.rListO K C (spIt K C F) (spM K cls len 1) xs H Q ∨ r2 xs H Q) (fListG k F len g2) := fun μ H h xs as Q c r q => by
  unfold fListG at q
  split at q
  case h_2 => exact .inr (h2 μ H h xs _ Q c r q)
  next x =>
  split at q
  case isFalse => exact .inr (h2 μ H h xs _ Q c r q)
  case isTrue hi =>
  refine .inl ?_
  subst hC
  cases r with
  | cons rx rn =>
    cases rn
    obtain ⟨p, hp⟩ := Option.isSome_iff_exists.mp hi
    unfold fListO at q
    rw [hp] at q
    dsimp only at q
    obtain ⟨b, dx, gs, rfl, rfl, hm, hs, hb, rf⟩ := rep_ins c rx hp
    split at q
    case h_2 => exact q.elim
    next m hl =>
    split at q
    case h_2 => exact q.elim
    next l0 hg =>
    split at q
    case h_2 => exact q.elim
    next nn h2' he =>
    split at q
    case isFalse => exact q.elim
    case isTrue hn =>
    split at q
    case h_2 => exact q.elim
    next l hg2 =>
    split at q
    case isFalse => exact q.elim
    case isTrue hlen =>
    obtain ⟨w, l1, l2⟩ := repF_get rf hl
    obtain ⟨lp, vs, rfl, hml, hlp, rvs⟩ := rep_list c l2 hg
    refine ⟨b, rfl, ⟨b, dx, gs, rfl, hb⟩, fun qq hqq => ?_⟩
    have hbq : b ≠ qq := fun z => by rw [z, hqq] at hb; cases hb
    have hlq : lp ≠ qq := fun z => by rw [z, hqq] at hlp; cases hlp
    have c1 : Cfg K cls μ (upd H qq (.lst [])) h := c.upd_out hqq
    have x1 : Ext μ H μ (upd H qq (.lst [])) := ext_new c hqq
    refine ⟨b, dx, gs, lp, vs, rfl, by rw [upd_ne hbq]; exact hb, l1, SqL.of (by rw [upd_ne hlq]; exact hlp), fun it hit => ?_⟩
    have hitq : it ≠ qq := fun z => by rw [z, upd_same] at hit; cases hit
    have hbit : b ≠ it := fun z => by rw [← z, upd_ne hbq, hb] at hit; cases hit
    have c2 : Cfg K cls μ (upd (upd H qq (.lst [])) it (ItO lp it 0)) h := c1.upd_out hit
    have x2 := ext_new c1 (o := ItO lp it 0) hit
    have hit0 : H it = none := by rw [upd_ne hitq] at hit; exact hit
    refine ⟨it, lp, rfl, upd_same, ⟨b, dx, gs, rfl, by rw [upd_ne hbit, upd_ne hbq]; exact hb⟩, rfl, μ, h, _, c2, .cons (.ref hm) .nil, ?_⟩
    rw [he]
    intro v μ3 H3 e3 c3 r3
    cases r3
    refine ⟨nn, rfl, hn.1, hn.2, ?_⟩
    have f1 := e3.fr it _ upd_same (c1.free hit)
    have f2 := e3.fr qq (.lst []) (by rw [upd_ne (Ne.symm hitq)]; exact upd_same) (c.free hqq)
    obtain ⟨_, hp3, ws, hw, rw3⟩ := c3.at (getL_some hg2)
    rw [e3.at hml] at hp3
    cases hp3
    refine ⟨ws, hitq, hlq, f1.1, f2.1, SqL.of hw, by rw [RepAll.length rw3]; exact hlen, fun u => ?_⟩
    -- the new list joins the store
    have x3 : Ext μ H μ3 H3 := (x1.trans x2).trans e3
    have t1 : ∀ a zs, H3 a = some (.tup zs) → upd H3 it u a = some (.tup zs) := fun a zs z => by
      rw [upd_ne (fun y => by rw [y, f1.1] at z; cases z)]; exact z
    have t2 : ∀ a ob v, H3 a = some (.frz ob v) → upd H3 it u a = some (.frz ob v) := fun a ob v z => by
      rw [upd_ne (fun y => by rw [y, f1.1] at z; cases z)]; exact z
    have c4 : Cfg K cls μ3 (upd H3 it u) h2' := c3.chgO f1.2 t1 t2
    have g3 : upd H3 it u qq = some (.lst []) := by rw [upd_ne (Ne.symm hitq)]; exact f2.1
    have c5 : Cfg K cls μ3 (upd (upd H3 it u) qq (.lst ws)) h2' := c4.chg f2.2 g3
    have x5 : Ext μ H μ3 (upd (upd H3 it u) qq (.lst ws)) := ext_out (ext_out x3 hit0) hqq
    have rws : RepAll K (upd (upd H3 it u) qq (.lst ws)) μ3 ws l := (rw3.keep t1 t2).keep (kt g3) (kf g3)
    refine q (.ref qq) (μ3 ++ [qq]) _ (ext_join c5 x5 hqq) (c5.join f2.2 ⟨ws, upd_same, rws.pre⟩) (.ref ?_)
    rw [← c5.len, List.getElem?_append_right (Nat.le_refl _), Nat.sub_self]
    rfl
end
end G

/-! what the generator leans on besides. -/
namespace G
open PySem PySem.Spec PyProof.Rows L2 GT
def mFldT (o : Option Bool) (f : PySem.Str) (fs : Fs) : ME := match o with
  | some _ => mFld f fs
  | none => fun _ => stuck
def mNever : ME := fun _ => stuck
/-- the promise of the law, wherever the classes stand -/
def spAll (K : PySem.W.Frag) (f : List D → M D) (n : Nat) : Sp := fun vs H Q E => ∀ cls, spM K cls f n vs H Q E
section
variable {K : PySem.W.Frag} {cls : Nat → Addr} {E : XK} {W : WI} {X : Cx}
theorem e_fldT {o : Option Bool} {f : PySem.Str} {a : Addr} {k : Nat} {d : Option Addr} {gs : List (PySem.Str × V)} {fs : Fs} {i : Nat} (hf : FsOk d gs fs) (ho : ∀ b, o = some b → FldC K (cls k) f) : EvE K cls (wSu W (some i) a d gs) (GT.tFld K f a (.ref (cls k)) d (tVar i)) (mFldT o f fs) := by
  cases o with
  | none => exact fun μ H σ ρ h Q c e q => q.elim
  | some b => exact e_fld hf fun _ => ho b rfl
theorem e_isEo {a : Addr} {k : Nat} {d : Option Addr} {gs : List (PySem.Str × V)} {o : Option Bool} {i : Nat} {D : Addr} (ho : ∀ b, o = some b → PySem.W.kitOne K (.ref (cls k)) (.ref D) = some b ∧ L2.ExcC K (cls k)) :
    EvE K cls (wSu W (some i) a d gs) (tCB (rIsD K (.ref (cls k)) a d) (tCons (tVar i) (tCons (tC (.ref D)) tNil))) (mIsE o) := e_isE (C := .ref D) (cv := .ref D) (fun _ z => z) ho
theorem e_isEv {a : Addr} {k : Nat} {d : Option Addr} {gs : List (PySem.Str × V)} {o : Option Bool} {i : Nat} {T : String} (ho : ∀ b, o = some b → PySem.W.kitOne K (.ref (cls k)) (.type T) = some b ∧ L2.ExcC K (cls k)) :
    EvE K cls (wSu W (some i) a d gs) (tCB (rIsD K (.ref (cls k)) a d) (tCons (tVar i) (tCons (tC (.ty T)) tNil))) (mIsE o) := e_isE (C := .ty T) (cv := .type T) (fun _ z => z) ho
theorem e_never : EvE K cls W (fun _ _ _ => False) mNever := fun μ H σ ρ h Q c e q => q.elim
theorem pe_never {e : Expr} : PE X e fun _ _ _ => False := ⟨fun _ _ _ _ _ _ h => h.elim⟩
theorem c_no : CaE K cls E (fun _ _ _ => False) (fun _ => stuck) := fun μ H h xs as Q c r q => q.elim
theorem o_no : OpE K cls E (fun _ _ _ _ => False) (fun _ _ => stuck) := fun μ H h x y a b Q c r s q => q.elim
theorem cr_no {f : Value} : CallR X f fun _ _ _ => False := fun _ _ _ _ _ _ _ _ _ h => h.elim
theorem op_no {f : Value → Value → Sem Value} : OpR X f fun _ _ _ _ => False := fun _ _ _ _ _ _ _ _ _ _ _ _ h => h.elim
theorem law_all {f : List D → M D} {H : Hp} {a : Addr} {ns : List Int} {h' : Store} (hO : Only H) (hS : SqL K H a (ns.map V.int)) (e : f [.fzl (ns.map D.int)] [] = .ok (.bl true) h') : spAll K f 1 [.ref a] H (fun v _ => v = .bl true) E := fun cls => law_sp hO hS e
end
/-- a method that keeps its mirror's promise -/
structure Mth (P : Program) (w : World) (K : PySem.W.Frag) (cls : Nat → Addr) (mg : PySem.Str → Option Value) (base : Heap) (c : Nat) (x : PySem.Str) (k : Nat) (f : List D → M D) (n : Nat) : Prop where
  ex : ∃ (a : Addr) (fd : FuncData) (ps : List PySem.Str), FnOk P w K mg base CX0 k a fd ps (spM K cls f n) ∧ Meth K (cls c) x a ∧ Binds K fd ps []
structure MthX (P : Program) (w : World) (K : PySem.W.Frag) (cls : Nat → Addr) (mg : PySem.Str → Option Value) (base : Heap) (c : Nat) (x : PySem.Str) (k : Nat) (f : List D → M D) (n : Nat) : Prop where
  ex : ∃ (a : Addr) (fd : FuncData) (ps : List PySem.Str), FnOk P w K mg base (L2N.CX P w) k a fd ps (spX K cls f n) ∧ Meth K (cls c) x a ∧ Binds K fd ps []
/-- an __iter__ of the form return iter(self.F) -/
structure MthI (P : Program) (w : World) (K : PySem.W.Frag) (cls : Nat → Addr) (mg : PySem.Str → Option Value) (base : Heap) (c : Nat) (F : PySem.Str) : Prop where
  ex : ∃ (a : Addr) (fd : FuncData) (ps : List PySem.Str), FnOk P w K mg base CX0 1 a fd ps (spIt K (cls c) F) ∧ Meth K (cls c) "__iter__" a ∧ Binds K fd ps []
/-- what an own class says -/
structure CI (K : PySem.W.Frag) (C : Addr) : Prop where
  cl : Cls K C
  mak : PySem.W.makesIn K C = true
  kp : PySem.W.keepIn K (.ref C) = true
  inf : InF K C
/-- how a def's arguments bind -/
abbrev BindQ (x q : PySem.Str) (st : Stmt) (ps : List PySem.Str) : Prop := ∀ (kV doc pm : Value) (an : Option Addr) (cdv ct : Value) (us : List Value), us.length = ps.length → bindArgs (PySem.W.fnOf x q (defArgs st) (defBody st) (defScope st) .none kV doc pm an cdv ct) ⟨us, []⟩ = pure (ps.zip us)
/-- the body of a class of the text -/
def clsBody (s : Stmt) : List Stmt := match s with
  | .ClassDef _ _ _ b _ _ _ _ _ _ _ => b
  | _ => []
end G

/-! The plain side: what a mirror's run ends in (WpX NoX), construct by construct; WpX says also what exceptions must meet. -/
namespace G
open PySem PySem.Spec PyProof.Rows L2
abbrev XQ := Nat → Fs → Store → Prop
def Wq {α : Type} (X : XQ) (r : Rs α) (Q : α → Store → Prop) : Prop := match r with
  | .ok a h => Q a h
  | .exc c fs h => X c fs h
  | .stuck => False
/-- the run ends well, in what is wished (sealed: nothing is to be computed by unfolding) -/
structure WpX {α : Type} (X : XQ) (r : Rs α) (Q : α → Store → Prop) : Prop where
  is : Wq X r Q
def NoX : XQ := fun _ _ _ => False
section
variable {α β : Type} {X X' : XQ}
theorem w_ok {a : α} {h : Store} {Q : α → Store → Prop} : WpX X (.ok a h) Q ↔ Q a h := ⟨fun z => z.is, fun z => ⟨z⟩⟩
theorem w_stk {Q : α → Store → Prop} : WpX X (Rs.stuck) Q ↔ False := ⟨fun z => z.is, fun z => z.elim⟩
theorem w_exc {Q : α → Store → Prop} {c : Nat} {fs : Fs} {h : Store} : WpX X (.exc c fs h) Q ↔ X c fs h := ⟨fun z => z.is, fun z => ⟨z⟩⟩
theorem WpX.imp2 {r : Rs α} {Q Q' : α → Store → Prop} (h : WpX X r Q) (f : ∀ a h, Q a h → Q' a h) (g : ∀ c fs h, X c fs h → X' c fs h) : WpX X' r Q' := by
  cases r with
  | ok a h1 => exact w_ok.mpr (f _ _ (w_ok.mp h))
  | exc c fs h1 => exact w_exc.mpr (g _ _ _ (w_exc.mp h))
  | stuck => exact (w_stk.mp h).elim
theorem WpX.imp {r : Rs α} {Q Q' : α → Store → Prop} (h : WpX NoX r Q) (f : ∀ a h, Q a h → Q' a h) : WpX X r Q' := h.imp2 f fun _ _ _ z => z.elim
theorem WpX.same {r : Rs α} {Q Q' : α → Store → Prop} (h : WpX X r Q) (f : ∀ a h, Q a h → Q' a h) : WpX X r Q' := h.imp2 f fun _ _ _ z => z
theorem WpX.ex {r : Rs α} {Q : α → Store → Prop} (h : WpX NoX r Q) : ∃ a h1, r = .ok a h1 ∧ Q a h1 := by
  cases r with
  | ok a h1 => exact ⟨a, h1, rfl, w_ok.mp h⟩
  | exc c fs h1 => exact (w_exc.mp h).elim
  | stuck => exact (w_stk.mp h).elim
theorem WpX.of {r : Rs α} {Q : α → Store → Prop} {a : α} {h1 : Store} (e : r = .ok a h1) (q : Q a h1) : WpX X r Q := by
  rw [e]
  exact w_ok.mpr q
theorem WpX.iff {r : Rs α} {Q Q' : α → Store → Prop} (f : ∀ a h, Q a h ↔ Q' a h) : WpX X r Q ↔ WpX X r Q' := ⟨fun z => z.same fun a h => (f a h).mp, fun z => z.same fun a h => (f a h).mpr⟩
theorem w_bnd {m : M α} {f : α → M β} {h : Store} {Q : β → Store → Prop} : WpX X (bnd m f h) Q ↔ WpX X (m h) fun a h1 => WpX X (f a h1) Q := by
  unfold bnd
  cases m h with
  | ok a h1 => exact (w_ok (Q := fun a h1 => WpX X (f a h1) Q)).symm
  | exc c fs h1 => exact w_exc.trans w_exc.symm
  | stuck => exact w_stk.trans w_stk.symm
theorem w_ret {a : α} {h : Store} {Q : α → Store → Prop} : WpX X (ret a h) Q ↔ Q a h := w_ok
theorem w_stuck {h : Store} {Q : α → Store → Prop} : WpX X (stuck h) Q ↔ False := w_stk
theorem w_noexc {m : M α} {h : Store} {Q : α → Store → Prop} : WpX X (noexc m h) Q ↔ WpX NoX (m h) Q := by
  unfold noexc
  cases m h with
  | ok a h1 => exact w_ok.trans w_ok.symm
  | exc c fs h1 => exact w_stk.trans (w_exc (X := NoX)).symm
  | stuck => exact w_stk.trans w_stk.symm
/-- a statement's wish of its expressions' exceptions -/
def exX (ρ : Env) (QF : Fl → Store → Prop) : XQ := fun c fs h => QF (.ex ρ c fs) h
theorem w_bndS {ρ : Env} {m : M α} {f : α → M Fl} {h : Store} {QF : Fl → Store → Prop} : WpX NoX (bndS ρ m f h) QF ↔ WpX (exX ρ QF) (m h) fun a h1 => WpX NoX (f a h1) QF := by
  unfold bndS
  cases m h with
  | ok a h1 => exact (w_ok (Q := fun a h1 => WpX NoX (f a h1) QF)).symm
  | exc c fs h1 => exact w_ok.trans (w_exc (X := exX ρ QF)).symm
  | stuck => exact w_stk.trans w_stk.symm
end
section
variable {X : XQ} {ρ : Env} {h : Store} {Q : D → Store → Prop} {QB : Bool → Store → Prop} {QA : List D → Store → Prop} {QF : Fl → Store → Prop} {QO : Option Int → Store → Prop} {a b o i e : ME} {t u : MT} {r : MA} {s s' : MS} {f : D → D → M D}
/-- what is there -/
def oQ {α : Type} (o : Option α) (k : α → Prop) : Prop := match o with
  | some a => k a
  | none => False
theorem oq_some {α : Type} {a : α} {k : α → Prop} : oQ (some a) k ↔ k a := by first | exact Iff.rfl | exact w_ok | exact w_stk | exact w_exc
theorem oq_iff {α : Type} {o : Option α} {k : α → Prop} : oQ o k ↔ ∃ a, o = some a ∧ k a := by
  cases o with
  | none => exact ⟨fun z => z.elim, fun ⟨_, z, _⟩ => by cases z⟩
  | some a => exact ⟨fun z => ⟨a, rfl, z⟩, fun ⟨_, z, w⟩ => by cases z; exact w⟩
/-- a slot's datum -/
def atS (ρ : Env) (i : Nat) (k : D → Prop) : Prop := match ρ[i]? with
  | some (some d) => k d
  | _ => False
theorem w_var {i : Nat} : WpX X (mVar i ρ h) Q ↔ atS ρ i fun d => Q d h := by
  unfold mVar atS
  cases ρ[i]? with
  | none => first | exact Iff.rfl | exact w_ok | exact w_stk | exact w_exc | exact w_stk.trans w_stk.symm | exact w_exc.trans w_exc.symm | exact w_ok.symm
  | some o => cases o <;> first | exact Iff.rfl | exact w_ok | exact w_stk | exact w_exc | exact w_stk.trans w_stk.symm | exact w_exc.trans w_exc.symm | exact w_ok.symm
theorem s_z {d : D} {ρ : Env} {k : D → Prop} : atS (some d :: ρ) 0 k ↔ k d := by first | exact Iff.rfl | exact w_ok | exact w_stk | exact w_exc
theorem s_s {d : Option D} {ρ : Env} {n : Nat} {k : D → Prop} : atS (d :: ρ) (n + 1) k ↔ atS ρ n k := by
  unfold atS
  rw [List.getElem?_cons_succ]
theorem w_c {d : D} : WpX X (mC d ρ h) Q ↔ Q d h := by first | exact Iff.rfl | exact w_ok | exact w_stk | exact w_exc
theorem w_op : WpX X (mOp f a b ρ h) Q ↔ WpX X (a ρ h) fun x h1 => WpX X (b ρ h1) fun y h2 => WpX X (f x y h2) Q := by
  unfold mOp
  simp only [w_bnd]
theorem w_un {f : D → M D} : WpX X (mUn f a ρ h) Q ↔ WpX X (a ρ h) fun x h1 => WpX X (f x h1) Q := by
  unfold mUn
  simp only [w_bnd]
theorem w_nil : WpX X (mNil ρ h) QA ↔ QA [] h := by first | exact Iff.rfl | exact w_ok | exact w_stk | exact w_exc
theorem w_cons : WpX X (mCons a r ρ h) QA ↔ WpX X (a ρ h) fun x h1 => WpX X (r ρ h1) fun xs h2 => QA (x :: xs) h2 := by
  unfold mCons
  simp only [w_bnd, w_ret]
theorem w_cb {f : List D → M D} : WpX X (mCB f r ρ h) Q ↔ WpX X (r ρ h) fun xs h1 => WpX X (f xs h1) Q := by
  unfold mCB
  simp only [w_bnd]
theorem w_call {n : Nat} {f : List D → M D} : WpX X (mCall n f r ρ h) Q ↔ WpX X (r ρ h) fun xs h1 => xs.length = n ∧ WpX NoX (f xs h1) Q := by
  unfold mCall
  rw [w_bnd]
  have : ∀ xs h1, WpX X ((if xs.length = n then noexc (f xs) else stuck) h1) Q ↔ (xs.length = n ∧ WpX NoX (f xs h1) Q) := fun xs h1 => by
    by_cases e : xs.length = n
    · rw [if_pos e, w_noexc]; exact ⟨fun z => ⟨e, z⟩, fun z => z.2⟩
    · rw [if_neg e]; exact ⟨fun z => (w_stk.mp z).elim, fun z => (e z.1).elim⟩
  simp only [this]
theorem w_callX {n : Nat} {f : List D → M D} : WpX X (mCallX n f r ρ h) Q ↔ WpX X (r ρ h) fun xs h1 => xs.length = n ∧ WpX X (f xs h1) Q := by
  unfold mCallX
  rw [w_bnd]
  have : ∀ xs h1, WpX X ((if xs.length = n then f xs else stuck) h1) Q ↔ (xs.length = n ∧ WpX X (f xs h1) Q) := fun xs h1 => by
    by_cases e : xs.length = n
    · rw [if_pos e]; exact ⟨fun z => ⟨e, z⟩, fun z => z.2⟩
    · rw [if_neg e]; exact ⟨fun z => (w_stk.mp z).elim, fun z => (e z.1).elim⟩
  simp only [this]
theorem w_fld {f : PySem.Str} {fs : Fs} : WpX X (mFld f fs ρ h) Q ↔ oQ fs fun l => oQ (l.lookup f) fun d => (flatD d).isSome = true ∧ Q d h := by
  unfold mFld
  cases fs with
  | none => exact w_stk
  | some l =>
    dsimp only [oQ]
    cases l.lookup f with
    | none => exact w_stk
    | some d =>
      dsimp only
      by_cases e : (flatD d).isSome = true
      · rw [if_pos e]; exact ⟨fun z => ⟨e, w_ok.mp z⟩, fun z => w_ok.mpr z.2⟩
      · rw [if_neg e]; exact ⟨fun z => (w_stk.mp z).elim, fun z => (e z.1).elim⟩
theorem w_isE {o : Option Bool} : WpX X (mIsE o ρ h) Q ↔ oQ o fun b => Q (.bl b) h := by
  unfold mIsE
  cases o with
  | none => exact w_stk
  | some b => exact w_ok
theorem line2 {n : Nat} (h : n ≤ 1000) : n ≤ sizeLine := by rw [sizeLine_eq]; omega
theorem w_tup : WpX X (mTup r ρ h) Q ↔ WpX X (r ρ h) fun xs h1 => xs.length ≤ sizeLine ∧ Q (.tup xs) h1 := by
  unfold mTup
  rw [w_bnd]
  have : ∀ xs h1, WpX X ((if xs.length ≤ sizeLine then ret (D.tup xs) else stuck) h1) Q ↔ (xs.length ≤ sizeLine ∧ Q (.tup xs) h1) := fun xs h1 => by
    by_cases e : xs.length ≤ sizeLine
    · rw [if_pos e]; first | exact ⟨fun z => ⟨e, w_ok.mp z⟩, fun z => w_ok.mpr z.2⟩ | exact ⟨fun z => ⟨e, z⟩, fun z => z.2⟩
    · rw [if_neg e]; exact ⟨fun z => (w_stk.mp z).elim, fun z => (e z.1).elim⟩
  simp only [this]
theorem w_alloc {o : O} : WpX X (alloc o h) Q ↔ Q (.ref h.length) (h ++ [o]) := by first | exact Iff.rfl | exact w_ok | exact w_stk | exact w_exc
theorem w_lst : WpX X (mLst r ρ h) Q ↔ WpX X (r ρ h) fun xs h1 => xs.length ≤ sizeLine ∧ Q (.ref h1.length) (h1 ++ [.lst xs]) := by
  unfold mLst
  rw [w_bnd]
  have : ∀ xs h1, WpX X ((if xs.length ≤ sizeLine then alloc (.lst xs) else stuck) h1) Q ↔ (xs.length ≤ sizeLine ∧ Q (.ref h1.length) (h1 ++ [.lst xs])) := fun xs h1 => by
    by_cases e : xs.length ≤ sizeLine
    · rw [if_pos e]; first | exact ⟨fun z => ⟨e, w_ok.mp z⟩, fun z => w_ok.mpr z.2⟩ | exact ⟨fun z => ⟨e, z⟩, fun z => z.2⟩
    · rw [if_neg e]; exact ⟨fun z => (w_stk.mp z).elim, fun z => (e z.1).elim⟩
  simp only [this]
/-- a bool's own -/
def asB (d : D) (k : Bool → Prop) : Prop := match d with
  | .bl b => k b
  | _ => False
theorem b_bl {b : Bool} {k : Bool → Prop} : asB (.bl b) k ↔ k b := by first | exact Iff.rfl | exact w_ok | exact w_stk | exact w_exc
theorem w_asBl {d : D} : WpX X (asBl d h) QB ↔ asB d fun b => QB b h := by
  cases d <;> first | exact Iff.rfl | exact w_ok | exact w_stk | exact w_exc | exact w_stk.trans w_stk.symm | exact w_exc.trans w_exc.symm | exact w_ok.symm
theorem w_test : WpX X (mTest a ρ h) QB ↔ WpX X (a ρ h) fun d h1 => asB d fun b => QB b h1 := by
  unfold mTest
  simp only [w_bnd, w_asBl]
theorem w_yes : WpX X (mYes ρ h) QB ↔ QB true h := by first | exact Iff.rfl | exact w_ok | exact w_stk | exact w_exc
theorem ite_wp {α : Type} {c : Bool} {x y : M α} {h : Store} {Q : α → Store → Prop} : WpX X ((if c = true then x else y) h) Q ↔ (if c = true then WpX X (x h) Q else WpX X (y h) Q) := by
  cases c <;> first | exact Iff.rfl | exact w_ok | exact w_stk | exact w_exc | exact w_stk.trans w_stk.symm | exact w_exc.trans w_exc.symm | exact w_ok.symm
theorem w_and : WpX X (mAnd t u ρ h) QB ↔ WpX X (t ρ h) fun c h1 => if c = true then WpX X (u ρ h1) QB else QB false h1 := by
  unfold mAnd
  simp only [w_bnd, ite_wp, w_ret]
theorem w_or : WpX X (mOr t u ρ h) QB ↔ WpX X (t ρ h) fun c h1 => if c = true then QB true h1 else WpX X (u ρ h1) QB := by
  unfold mOr
  simp only [w_bnd, ite_wp, w_ret]
theorem w_not : WpX X (mNot t ρ h) QB ↔ WpX X (t ρ h) fun c h1 => QB (!c) h1 := by
  unfold mNot
  simp only [w_bnd, w_ret]
theorem w_andV : WpX X (mAndV a b ρ h) Q ↔ WpX X (a ρ h) fun x h1 => asB x fun c => if c = true then WpX X (b ρ h1) Q else Q (.bl false) h1 := by
  unfold mAndV
  simp only [w_bnd, ite_wp, w_ret, w_asBl]
theorem w_orV : WpX X (mOrV a b ρ h) Q ↔ WpX X (a ρ h) fun x h1 => asB x fun c => if c = true then Q (.bl true) h1 else WpX X (b ρ h1) Q := by
  unfold mOrV
  simp only [w_bnd, ite_wp, w_ret, w_asBl]
theorem w_notV : WpX X (mNotV a ρ h) Q ↔ WpX X (a ρ h) fun x h1 => asB x fun c => Q (.bl (!c)) h1 := by
  unfold mNotV
  simp only [w_bnd, w_ret, w_asBl]
theorem w_ifx : WpX X (mIf t a b ρ h) Q ↔ WpX X (t ρ h) fun c h1 => if c = true then WpX X (a ρ h1) Q else WpX X (b ρ h1) Q := by
  unfold mIf
  simp only [w_bnd, ite_wp]
theorem w_nop : WpX X (mNoPart ρ h) QO ↔ QO none h := by first | exact Iff.rfl | exact w_ok | exact w_stk | exact w_exc
def asI (d : D) (k : Int → Prop) : Prop := match d with
  | .int b => k b
  | _ => False
theorem i_int {b : Int} {k : Int → Prop} : asI (.int b) k ↔ k b := by first | exact Iff.rfl | exact w_ok | exact w_stk | exact w_exc
theorem w_part : WpX X (mPart a ρ h) QO ↔ WpX X (a ρ h) fun x h1 => asI x fun i => QO (some i) h1 := by
  unfold mPart
  rw [w_bnd]
  exact WpX.iff fun x h1 => by cases x <;> first | exact Iff.rfl | exact w_ok | exact w_stk | exact w_exc | exact w_stk.trans w_stk.symm | exact w_exc.trans w_exc.symm | exact w_ok.symm
theorem w_sl {f : D → Option Int → Option Int → M D} {l u : MO} : WpX X (mSl f a l u ρ h) Q ↔ WpX X (a ρ h) fun x h1 => WpX X (l ρ h1) fun i h2 => WpX X (u ρ h2) fun j h3 => WpX X (f x i j h3) Q := by
  unfold mSl
  simp only [w_bnd]
/-! statements -/
theorem w_next : WpX NoX (mNext ρ h) QF ↔ QF (.nx ρ) h := by first | exact Iff.rfl | exact w_ok | exact w_stk | exact w_exc
theorem w_rt : WpX NoX (mRet a ρ h) QF ↔ WpX (exX ρ QF) (a ρ h) fun d h1 => QF (.rt d) h1 := by
  unfold mRet
  simp only [w_bndS, w_bnd, w_ret]
theorem w_rtN : WpX NoX (mRetN ρ h) QF ↔ QF (.rt .non) h := by first | exact Iff.rfl | exact w_ok | exact w_stk | exact w_exc
theorem w_brk : WpX NoX (mBrk ρ h) QF ↔ QF (.bk ρ) h := by first | exact Iff.rfl | exact w_ok | exact w_stk | exact w_exc
theorem w_cont : WpX NoX (mCont ρ h) QF ↔ QF (.ct ρ) h := by first | exact Iff.rfl | exact w_ok | exact w_stk | exact w_exc
theorem w_drop : WpX NoX (mDrop a ρ h) QF ↔ WpX (exX ρ QF) (a ρ h) fun _ h1 => QF (.nx ρ) h1 := by
  unfold mDrop
  simp only [w_bndS, w_bnd, w_ret]
/-- what follows a statement -/
def seqQ (u : MS) (QF : Fl → Store → Prop) (f : Fl) (h : Store) : Prop := match f with
  | .nx ρ => WpX NoX (u ρ h) QF
  | f => QF f h
theorem q_nx {u : MS} : seqQ u QF (.nx ρ) h ↔ WpX NoX (u ρ h) QF := by first | exact Iff.rfl | exact w_ok | exact w_stk | exact w_exc
theorem q_rt {u : MS} {d : D} : seqQ u QF (.rt d) h ↔ QF (.rt d) h := by first | exact Iff.rfl | exact w_ok | exact w_stk | exact w_exc
theorem q_bk {u : MS} : seqQ u QF (.bk ρ) h ↔ QF (.bk ρ) h := by first | exact Iff.rfl | exact w_ok | exact w_stk | exact w_exc
theorem q_ex {u : MS} {c : Nat} {fs : Fs} : seqQ u QF (.ex ρ c fs) h ↔ QF (.ex ρ c fs) h := Iff.rfl
theorem x_ex {c : Nat} {fs : Fs} : exX ρ QF c fs h ↔ QF (.ex ρ c fs) h := Iff.rfl
theorem w_raise {k : Nat} {ns : List PySem.Str} : WpX NoX (mRaise k ns r ρ h) QF ↔ WpX (exX ρ QF) (r ρ h) fun ds h1 => ds.length = ns.length ∧ QF (.ex ρ k (some (ns.zip ds))) h1 := by
  unfold mRaise
  rw [w_bndS]
  refine WpX.iff fun ds h1 => ?_
  by_cases e : ds.length = ns.length
  · rw [if_pos e]; exact ⟨fun z => ⟨e, w_ok.mp z⟩, fun z => w_ok.mpr z.2⟩
  · rw [if_neg e]; exact ⟨fun z => (w_stk.mp z).elim, fun z => (e z.1).elim⟩
theorem w_raise0 {k : Nat} : WpX NoX (mRaise0 k ρ h) QF ↔ QF (.ex ρ k none) h := w_ok
/-- behind a try's body -/
def tryQ (cl : List CM) (QF : Fl → Store → Prop) (f : Fl) (h : Store) : Prop := match f with
  | .ex ρ c fs => WpX NoX (mClauses cl c fs ρ h) QF
  | f => QF f h
theorem y_nx {cl : List CM} : tryQ cl QF (.nx ρ) h ↔ QF (.nx ρ) h := Iff.rfl
theorem y_rt {cl : List CM} {d : D} : tryQ cl QF (.rt d) h ↔ QF (.rt d) h := Iff.rfl
theorem y_bk {cl : List CM} : tryQ cl QF (.bk ρ) h ↔ QF (.bk ρ) h := Iff.rfl
theorem y_ct {cl : List CM} : tryQ cl QF (.ct ρ) h ↔ QF (.ct ρ) h := Iff.rfl
theorem y_ex {cl : List CM} {c : Nat} {fs : Fs} : tryQ cl QF (.ex ρ c fs) h ↔ WpX NoX (mClauses cl c fs ρ h) QF := Iff.rfl
theorem w_try {cl : List CM} : WpX NoX (mTry s cl ρ h) QF ↔ WpX NoX (s ρ h) (tryQ cl QF) := by
  unfold mTry
  rw [w_bnd, w_noexc]
  exact WpX.iff fun f h1 => by cases f <;> first | exact Iff.rfl | exact w_ok
theorem w_cl0 {c : Nat} {fs : Fs} : WpX NoX (mClauses [] c fs ρ h) QF ↔ QF (.ex ρ c fs) h := w_ok
theorem w_cl1 {t : Nat → Option Bool} {o : Option Nat} {su : Nat → Fs → MS} {l : List CM} {c : Nat} {fs : Fs} : WpX NoX (mClauses ((t, o, su) :: l) c fs ρ h) QF ↔ oQ (t c) fun b => if b = true then WpX NoX (mSuite o (su c fs) ρ h) QF else WpX NoX (mClauses l c fs ρ h) QF := by
  have e : mClauses ((t, o, su) :: l) c fs = (match t c with
    | none => fun _ => stuck
    | some true => mSuite o (su c fs)
    | some false => mClauses l c fs) := rfl
  rw [e]
  cases t c with
  | none => exact w_stk
  | some b => cases b <;> exact Iff.rfl
def stayQ (QF : Fl → Store → Prop) (f : Fl) (h : Store) : Prop := match f with
  | .ex _ _ _ => False
  | f => QF f h
def closeQ (i : Nat) (QF : Fl → Store → Prop) (f : Fl) (h : Store) : Prop := match f with
  | .nx ρ => QF (.nx (ρ.set i none)) h
  | .rt d => QF (.rt d) h
  | .bk ρ => QF (.bk (ρ.set i none)) h
  | .ct ρ => QF (.ct (ρ.set i none)) h
  | .ex _ _ _ => False
theorem st_nx : stayQ QF (.nx ρ) h ↔ QF (.nx ρ) h := Iff.rfl
theorem st_rt {d : D} : stayQ QF (.rt d) h ↔ QF (.rt d) h := Iff.rfl
theorem st_bk : stayQ QF (.bk ρ) h ↔ QF (.bk ρ) h := Iff.rfl
theorem st_ct : stayQ QF (.ct ρ) h ↔ QF (.ct ρ) h := Iff.rfl
theorem cl_nx {i : Nat} : closeQ i QF (.nx ρ) h ↔ QF (.nx (ρ.set i none)) h := Iff.rfl
theorem cl_rt {i : Nat} {d : D} : closeQ i QF (.rt d) h ↔ QF (.rt d) h := Iff.rfl
theorem cl_bk {i : Nat} : closeQ i QF (.bk ρ) h ↔ QF (.bk (ρ.set i none)) h := Iff.rfl
theorem cl_ct {i : Nat} : closeQ i QF (.ct ρ) h ↔ QF (.ct (ρ.set i none)) h := Iff.rfl
theorem w_su0 {m : MS} : WpX NoX (mSuite none m ρ h) QF ↔ WpX NoX (m ρ h) (stayQ QF) := by
  unfold mSuite
  dsimp only
  rw [w_bnd, w_noexc]
  exact WpX.iff fun f h1 => by cases f <;> first | exact Iff.rfl | exact w_ok | exact w_stk
theorem w_su1 {i : Nat} {m : MS} : WpX NoX (mSuite (some i) m ρ h) QF ↔ i < ρ.length ∧ WpX NoX (m (ρ.set i none) h) (closeQ i QF) := by
  unfold mSuite
  dsimp only
  by_cases e : i < ρ.length
  · rw [if_pos e, w_bnd, w_noexc]
    have : ∀ f h1, WpX NoX (closeF i f h1) QF ↔ closeQ i QF f h1 := fun f h1 => by cases f <;> first | exact Iff.rfl | exact w_ok | exact w_stk
    simp only [this]
    exact ⟨fun z => ⟨e, z⟩, fun z => z.2⟩
  · rw [if_neg e]; exact ⟨fun z => (w_stk.mp z).elim, fun z => (e z.1).elim⟩
theorem q_ct {u : MS} : seqQ u QF (.ct ρ) h ↔ QF (.ct ρ) h := by first | exact Iff.rfl | exact w_ok | exact w_stk | exact w_exc
theorem w_seq : WpX NoX (mSeq s s' ρ h) QF ↔ WpX NoX (s ρ h) (seqQ s' QF) := by
  unfold mSeq
  rw [w_bnd]
  have : ∀ f h1, WpX NoX (thenF f s' h1) QF ↔ seqQ s' QF f h1 := fun f h1 => by cases f <;> first | exact Iff.rfl | exact w_ok | exact w_stk | exact w_exc | exact w_stk.trans w_stk.symm | exact w_exc.trans w_exc.symm | exact w_ok.symm
  simp only [this]
theorem w_ifS : WpX NoX (mIfS t s s' ρ h) QF ↔ WpX (exX ρ QF) (t ρ h) fun c h1 => if c = true then WpX NoX (s ρ h1) QF else WpX NoX (s' ρ h1) QF := by
  unfold mIfS
  simp only [w_bndS, w_bnd, ite_wp]
theorem w_set {i : Nat} : WpX NoX (mSet i a ρ h) QF ↔ WpX (exX ρ QF) (a ρ h) fun d h1 => QF (.nx (ρ.set i (some d))) h1 := by
  unfold mSet
  simp only [w_bndS, w_bnd, w_ret]
def goQ (o : Option Env) (k : Env → Prop) : Prop := match o with
  | some ρ => k ρ
  | none => False
theorem g_some {k : Env → Prop} : goQ (some ρ) k ↔ k ρ := by first | exact Iff.rfl | exact w_ok | exact w_stk | exact w_exc
theorem w_asg {g : MG} : WpX NoX (mAsg g a ρ h) QF ↔ WpX (exX ρ QF) (a ρ h) fun d h1 => goQ (g h1 d ρ) fun ρ' => QF (.nx ρ') h1 := by
  unfold mAsg
  rw [w_bndS]
  have : ∀ d h1, WpX NoX (goF (g h1 d ρ) (fun ρ' => ret (.nx ρ')) h1) QF ↔ goQ (g h1 d ρ) fun ρ' => QF (.nx ρ') h1 := fun d h1 => by cases g h1 d ρ <;> first | exact Iff.rfl | exact w_ok | exact w_stk | exact w_exc | exact w_stk.trans w_stk.symm | exact w_exc.trans w_exc.symm | exact w_ok.symm
  simp only [this]
theorem w_setIx : WpX NoX (mSetIx o i a ρ h) QF ↔ WpX (exX ρ QF) (a ρ h) fun v h1 => WpX (exX ρ QF) (o ρ h1) fun x h2 => WpX (exX ρ QF) (i ρ h2) fun k h3 => WpX NoX (setItem x k v h3) fun _ h4 => QF (.nx ρ) h4 := by
  unfold mSetIx
  simp only [w_bndS, w_bnd, w_ret]
theorem w_aug {i : Nat} : WpX NoX (mAug i f a ρ h) QF ↔ atS ρ i fun x => WpX (exX ρ QF) (a ρ h) fun y h1 => WpX (exX ρ QF) (f x y h1) fun z h2 => QF (.nx (ρ.set i (some z))) h2 := by
  unfold mAug atS
  cases ρ[i]? with
  | none => first | exact Iff.rfl | exact w_ok | exact w_stk | exact w_exc | exact w_stk.trans w_stk.symm | exact w_exc.trans w_exc.symm | exact w_ok.symm
  | some o =>
    cases o with
    | none => first | exact Iff.rfl | exact w_ok | exact w_stk | exact w_exc | exact w_stk.trans w_stk.symm | exact w_exc.trans w_exc.symm | exact w_ok.symm
    | some x => simp only [w_bndS, w_bnd, w_ret]
def endQ (X : XQ) (Q : D → Store → Prop) (f : Fl) (h : Store) : Prop := match f with
  | .rt d => Q d h
  | .nx _ => Q .non h
  | .ex _ c fs => X c fs h
  | _ => False
theorem n_rt {d : D} : endQ X Q (.rt d) h ↔ Q d h := by first | exact Iff.rfl | exact w_ok | exact w_stk | exact w_exc
theorem n_nx : endQ X Q (.nx ρ) h ↔ Q .non h := by first | exact Iff.rfl | exact w_ok | exact w_stk | exact w_exc
theorem n_ex {c : Nat} {fs : Fs} : endQ X Q (.ex ρ c fs) h ↔ X c fs h := Iff.rfl
theorem w_fn {N : Nat} {ds : List D} : WpX X (mFn N s ds h) Q ↔ WpX NoX (s (ds.map some ++ List.replicate (N - ds.length) none) h) (endQ X Q) := by
  unfold mFn
  rw [w_bnd, w_noexc]
  have : ∀ f h1, WpX X (endF f h1) Q ↔ endQ X Q f h1 := fun f h1 => by cases f <;> first | exact Iff.rfl | exact w_ok | exact w_stk | exact w_exc
  simp only [this]
theorem w_for {w : MI} {g : MG} : WpX NoX (mFor w g s ρ h) QF ↔ WpX (exX ρ QF) (w ρ h) fun k h1 => WpX NoX (forGo k.lv g s k.ds ρ h1) QF := by
  unfold mFor
  simp only [w_bndS, w_bnd]
theorem w_for0 {lv : Store → Bool} {g : MG} : WpX NoX (forGo lv g s [] ρ h) QF ↔ lv h = true ∧ QF (.nx ρ) h := by
  unfold forGo
  by_cases e : lv h = true
  · rw [if_pos e]; first | exact ⟨fun z => ⟨e, w_ok.mp z⟩, fun z => w_ok.mpr z.2⟩ | exact ⟨fun z => ⟨e, z⟩, fun z => z.2⟩
  · rw [if_neg e]; exact ⟨fun z => (w_stk.mp z).elim, fun z => (e z.1).elim⟩
/-- behind a turn -/
def turnQ (lv : Store → Bool) (g : MG) (s : MS) (ds : List D) (QF : Fl → Store → Prop) (f : Fl) (h : Store) : Prop := match f with
  | .nx ρ => WpX NoX (forGo lv g s ds ρ h) QF
  | .ct ρ => WpX NoX (forGo lv g s ds ρ h) QF
  | .bk ρ => QF (.nx ρ) h
  | .rt d => QF (.rt d) h
  | .ex ρ c fs => QF (.ex ρ c fs) h
theorem w_for1 {lv : Store → Bool} {g : MG} {d : D} {ds : List D} : WpX NoX (forGo lv g s (d :: ds) ρ h) QF ↔ lv h = true ∧ goQ (g h d ρ) fun ρ1 => WpX NoX (s ρ1 h) (turnQ lv g s ds QF) := by
  unfold forGo
  by_cases e : lv h = true
  · rw [if_pos e]
    have : WpX NoX (match g h d ρ with
      | none => Rs.stuck
      | some ρ1 => match s ρ1 h with
        | .ok (.nx ρ2) h2 => forGo lv g s ds ρ2 h2
        | .ok (.ct ρ2) h2 => forGo lv g s ds ρ2 h2
        | .ok (.bk ρ2) h2 => .ok (.nx ρ2) h2
        | .ok (.rt d) h2 => .ok (.rt d) h2
        | .ok (.ex ρ2 c fs) h2 => .ok (.ex ρ2 c fs) h2
        | .exc c fs h2 => .stuck
        | .stuck => .stuck) QF ↔ goQ (g h d ρ) fun ρ1 => WpX NoX (s ρ1 h) (turnQ lv g s ds QF) := by
      cases g h d ρ with
      | none => first | exact Iff.rfl | exact w_ok | exact w_stk | exact w_exc | exact w_stk.trans w_stk.symm | exact w_exc.trans w_exc.symm | exact w_ok.symm
      | some ρ1 =>
        dsimp only [goQ]
        cases s ρ1 h with
        | ok f h2 =>
          refine Iff.trans ?_ (w_ok (Q := turnQ lv g s ds QF)).symm
          cases f <;> first | exact Iff.rfl | exact w_ok
        | exc c fs h2 => exact w_stk.trans (w_exc (X := NoX)).symm
        | stuck => exact w_stk.trans w_stk.symm
    exact ⟨fun z => ⟨e, this.mp z⟩, fun z => this.mpr z.2⟩
  · rw [if_neg e]; exact ⟨fun z => (w_stk.mp z).elim, fun z => (e z.1).elim⟩
/-- a loop by what holds between its turns -/
theorem for_inv {lv : Store → Bool} {g : MG} {ds : List D} (I : Nat → Env → Store → Prop) (h0 : I 0 ρ h) (hl : ∀ k ρ h, k ≤ ds.length → I k ρ h → lv h = true)
    (hs : ∀ (k : Nat) (d : D) ρ h, ds[k]? = some d → I k ρ h → goQ (g h d ρ) fun ρ1 => WpX NoX (s ρ1 h) fun f h1 => match f with
      | .nx ρ => I (k + 1) ρ h1
      | .ct ρ => I (k + 1) ρ h1
      | .bk ρ => QF (.nx ρ) h1
      | .rt d => QF (.rt d) h1
      | .ex ρ c fs => QF (.ex ρ c fs) h1)
    (hd : ∀ ρ h, I ds.length ρ h → QF (.nx ρ) h) : WpX NoX (forGo lv g s ds ρ h) QF := by
  have key : ∀ (n k : Nat) ρ h, n + k = ds.length → I k ρ h → WpX NoX (forGo lv g s (ds.drop k) ρ h) QF := by
    intro n
    induction n with
    | zero =>
      intro k ρ h e i
      have : ds.drop k = [] := List.drop_eq_nil_iff.mpr (by omega)
      rw [this, w_for0]
      have e : k = ds.length := by omega
      subst e
      exact ⟨hl _ _ _ (Nat.le_refl _) i, hd _ _ i⟩
    | succ n ih =>
      intro k ρ h e i
      have hk : k < ds.length := by omega
      rw [List.drop_eq_getElem_cons hk, w_for1]
      refine ⟨hl _ _ _ (Nat.le_of_lt hk) i, ?_⟩
      have q := hs k ds[k] ρ h (List.getElem?_eq_getElem hk) i
      cases z : g h ds[k] ρ with
      | none => rw [z] at q; exact q.elim
      | some ρ1 =>
        rw [z] at q
        refine WpX.same q fun f h1 q1 => ?_
        cases f with
        | nx ρ2 => exact ih (k + 1) ρ2 h1 (by omega) q1
        | ct ρ2 => exact ih (k + 1) ρ2 h1 (by omega) q1
        | bk ρ2 => exact q1
        | rt d => exact q1
        | ex ρ2 c fs => exact q1
  exact key ds.length 0 ρ h (by omega) h0
/-! what is walked -/
def wkQ (QW : Wk → Store → Prop) (x : D) (h : Store) : Prop := match x with
  | .tup l => QW ⟨l, fun _ => true⟩ h
  | .fzl l => QW ⟨l, fun _ => true⟩ h
  | .ref n => oQ (getL h n) fun l => QW ⟨l, fun h' => decide (getL h' n = some l)⟩ h
  | _ => False
theorem w_wseq {QW : Wk → Store → Prop} : WpX X (wSeq a ρ h) QW ↔ WpX X (a ρ h) (wkQ QW) := by
  unfold wSeq
  rw [w_bnd]
  exact WpX.iff fun x h1 => by
    cases x with
    | ref n =>
      dsimp only [wkQ]
      cases getL h1 n with
      | none => first | exact Iff.rfl | exact w_ok | exact w_stk | exact w_exc | exact w_stk.trans w_stk.symm | exact w_exc.trans w_exc.symm | exact w_ok.symm
      | some l => first | exact Iff.rfl | exact w_ok | exact w_stk | exact w_exc | exact w_stk.trans w_stk.symm | exact w_exc.trans w_exc.symm | exact w_ok.symm
    | _ => first | exact Iff.rfl | exact w_ok | exact w_stk | exact w_exc | exact w_stk.trans w_stk.symm | exact w_exc.trans w_exc.symm | exact w_ok.symm
theorem k_tup {QW : Wk → Store → Prop} {l : List D} : wkQ QW (.tup l) h ↔ QW ⟨l, fun _ => true⟩ h := by first | exact Iff.rfl | exact w_ok | exact w_stk | exact w_exc
theorem k_fzl {QW : Wk → Store → Prop} {l : List D} : wkQ QW (.fzl l) h ↔ QW ⟨l, fun _ => true⟩ h := by first | exact Iff.rfl | exact w_ok | exact w_stk | exact w_exc
theorem k_ref {QW : Wk → Store → Prop} {n : Nat} : wkQ QW (.ref n) h ↔ oQ (getL h n) fun l => QW ⟨l, fun h' => decide (getL h' n = some l)⟩ h := by first | exact Iff.rfl | exact w_ok | exact w_stk | exact w_exc
theorem w_wr1 {QW : Wk → Store → Prop} : WpX X (wRng1 r ρ h) QW ↔ WpX X (r ρ h) fun vs h1 => ∃ j, vs = [D.int j] ∧ -(2 ^ 62) ≤ j ∧ j < 2 ^ 62 ∧ QW ⟨rng 0 j.toNat, fun _ => true⟩ h1 := by
  unfold wRng1
  rw [w_bnd]
  exact WpX.iff fun vs h1 => by
    split
    · next j =>
      by_cases e : -(2 ^ 62) ≤ j ∧ j < 2 ^ 62
      · rw [if_pos e]; exact ⟨fun z => ⟨j, rfl, e.1, e.2, w_ok.mp z⟩, fun ⟨_, z, _, _, w⟩ => by cases z; exact w_ok.mpr w⟩
      · rw [if_neg e]; exact ⟨fun z => (w_stk.mp z).elim, fun ⟨_, z, p, q, w⟩ => by cases z; exact (e ⟨p, q⟩).elim⟩
    · next hn => exact ⟨fun z => (w_stk.mp z).elim, fun ⟨j, z, _⟩ => absurd z (hn j)⟩
theorem w_wr2 {QW : Wk → Store → Prop} : WpX X (wRng2 r ρ h) QW ↔ WpX X (r ρ h) fun vs h1 => ∃ i j, vs = [D.int i, D.int j] ∧ (-(2 ^ 62) ≤ i ∧ i < 2 ^ 62 ∧ -(2 ^ 62) ≤ j ∧ j < 2 ^ 62) ∧ QW ⟨rng i (j - i).toNat, fun _ => true⟩ h1 := by
  unfold wRng2
  rw [w_bnd]
  exact WpX.iff fun vs h1 => by
    split
    · next i j =>
      by_cases e : -(2 ^ 62) ≤ i ∧ i < 2 ^ 62 ∧ -(2 ^ 62) ≤ j ∧ j < 2 ^ 62
      · rw [if_pos e]; exact ⟨fun z => ⟨i, j, rfl, e, w_ok.mp z⟩, fun ⟨_, _, z, _, w⟩ => by cases z; exact w_ok.mpr w⟩
      · rw [if_neg e]; exact ⟨fun z => (w_stk.mp z).elim, fun ⟨_, _, z, p, w⟩ => by cases z; exact (e p).elim⟩
    · next hn => exact ⟨fun z => (w_stk.mp z).elim, fun ⟨i, j, z, _⟩ => absurd z (hn i j)⟩
theorem rng_get {lo : Int} {n k : Nat} {d : D} (e : (rng lo n)[k]? = some d) : k < n ∧ d = .int (lo + (k : Int)) := by
  unfold rng at e
  rw [List.getElem?_map] at e
  obtain ⟨m, hm, rfl⟩ := Option.map_eq_some_iff.mp e
  obtain ⟨hi, hk⟩ := List.getElem?_eq_some_iff.mp hm
  rw [List.getElem_range] at hk
  subst hk
  rw [List.length_range] at hi
  exact ⟨hi, rfl⟩
theorem rng_len {lo : Int} {n : Nat} : (rng lo n).length = n := by simp [rng]
/-! operators on ints -/
theorem f_add {i j : Int} : WpX X (fAdd (.int i) (.int j) h) Q ↔ Q (.int (i + j)) h := by first | exact Iff.rfl | exact w_ok | exact w_stk | exact w_exc
theorem f_sub {i j : Int} : WpX X (fSub (.int i) (.int j) h) Q ↔ Q (.int (i - j)) h := by first | exact Iff.rfl | exact w_ok | exact w_stk | exact w_exc
theorem f_addI {i j : Int} : WpX X (fAddI (.int i) (.int j) h) Q ↔ Q (.int (i + j)) h := by first | exact Iff.rfl | exact w_ok | exact w_stk | exact w_exc
theorem f_mul {i j : Int} : WpX X (fMul (.int i) (.int j) h) Q ↔ mulOk i j = true ∧ Q (.int (i * j)) h := by
  unfold fMul
  dsimp only
  by_cases e : mulOk i j = true
  · rw [if_pos e]; first | exact ⟨fun z => ⟨e, w_ok.mp z⟩, fun z => w_ok.mpr z.2⟩ | exact ⟨fun z => ⟨e, z⟩, fun z => z.2⟩
  · rw [if_neg e]; exact ⟨fun z => (w_stk.mp z).elim, fun z => (e z.1).elim⟩
theorem f_div {i j : Int} : WpX X (fDiv (.int i) (.int j) h) Q ↔ (j ≠ 0 ∧ j.natAbs.log2 < 9000) ∧ Q (.int (i.fdiv j)) h := by
  unfold fDiv
  dsimp only
  by_cases e : j ≠ 0 ∧ j.natAbs.log2 < 9000
  · rw [if_pos e]; first | exact ⟨fun z => ⟨e, w_ok.mp z⟩, fun z => w_ok.mpr z.2⟩ | exact ⟨fun z => ⟨e, z⟩, fun z => z.2⟩
  · rw [if_neg e]; exact ⟨fun z => (w_stk.mp z).elim, fun z => (e z.1).elim⟩
theorem f_mod {i j : Int} : WpX X (fMod (.int i) (.int j) h) Q ↔ j ≠ 0 ∧ Q (.int (i.fmod j)) h := by
  unfold fMod
  dsimp only
  by_cases e : j ≠ 0
  · rw [if_pos e]; first | exact ⟨fun z => ⟨e, w_ok.mp z⟩, fun z => w_ok.mpr z.2⟩ | exact ⟨fun z => ⟨e, z⟩, fun z => z.2⟩
  · rw [if_neg e]; exact ⟨fun z => (w_stk.mp z).elim, fun z => (e z.1).elim⟩
theorem f_pow {i j : Int} : WpX X (fPow (.int i) (.int j) h) Q ↔ (0 ≤ j ∧ j ≤ 1000000 ∧ i.natAbs < 2 ^ 64) ∧ Q (.int (i ^ j.toNat)) h := by
  unfold fPow
  dsimp only
  by_cases e : 0 ≤ j ∧ j ≤ 1000000 ∧ i.natAbs < 2 ^ 64
  · rw [if_pos e]; exact ⟨fun z => ⟨e, w_ok.mp z⟩, fun z => w_ok.mpr z.2⟩
  · rw [if_neg e]; exact ⟨fun z => (w_stk.mp z).elim, fun z => (e z.1).elim⟩
theorem f_neg {i : Int} : WpX X (fNeg (.int i) h) Q ↔ Q (.int (-i)) h := by first | exact Iff.rfl | exact w_ok | exact w_stk | exact w_exc
theorem f_cmp {p : Int → Int → Bool} {i j : Int} : WpX X (fCmp p (.int i) (.int j) h) Q ↔ Q (.bl (p i j)) h := by first | exact Iff.rfl | exact w_ok | exact w_stk | exact w_exc
theorem f_isB {a b : Bool} : WpX X (fIsB false (.bl a) (.bl b) h) Q ↔ Q (.bl (decide (a = b))) h := by first | exact Iff.rfl | exact w_ok | exact w_stk | exact w_exc
theorem f_notB {a b : Bool} : WpX X (fIsB true (.bl a) (.bl b) h) Q ↔ Q (.bl (!decide (a = b))) h := by first | exact Iff.rfl | exact w_ok | exact w_stk | exact w_exc
theorem f_isN {x : D} : WpX X (fIsN false x .non h) Q ↔ Q (.bl (isNon x)) h := by first | exact Iff.rfl | exact w_ok | exact w_stk | exact w_exc
theorem f_notN {x : D} : WpX X (fIsN true x .non h) Q ↔ Q (.bl (!isNon x)) h := by first | exact Iff.rfl | exact w_ok | exact w_stk | exact w_exc
theorem n_non : isNon .non = true := rfl
theorem n_int {i : Int} : isNon (.int i) = false := rfl
theorem n_bl {i : Bool} : isNon (.bl i) = false := rfl
theorem n_ref {i : Nat} : isNon (.ref i) = false := rfl
theorem n_tup {i : List D} : isNon (.tup i) = false := rfl
theorem toPy_int {n : Nat} {i : Int} : toPy h n (.int i) = some (.int i) := by cases n <;> (unfold toPy; rfl)
theorem f_eq {i j : Int} : WpX X (fEq false (.int i) (.int j) h) Q ↔ Q (.bl (decide (i = j))) h := by
  unfold fEq
  rw [toPy_int, toPy_int]
  first | exact Iff.rfl | exact w_ok | exact w_stk | exact w_exc | exact w_stk.trans w_stk.symm | exact w_exc.trans w_exc.symm | exact w_ok.symm
theorem f_ne {i j : Int} : WpX X (fEq true (.int i) (.int j) h) Q ↔ Q (.bl (!decide (i = j))) h := by
  unfold fEq
  rw [toPy_int, toPy_int]
  first | exact Iff.rfl | exact w_ok | exact w_stk | exact w_exc | exact w_stk.trans w_stk.symm | exact w_exc.trans w_exc.symm | exact w_ok.symm
theorem f_abs {i : Int} : WpX X (fAbs [.int i] h) Q ↔ Q (.int (if i < 0 then -i else i)) h := by first | exact Iff.rfl | exact w_ok | exact w_stk | exact w_exc
theorem f_int {i : Int} : WpX X (fInt [.int i] h) Q ↔ Q (.int i) h := by first | exact Iff.rfl | exact w_ok | exact w_stk | exact w_exc
theorem f_intB {k : Bool} : WpX X (fInt [.bl k] h) Q ↔ Q (.int (if k then 1 else 0)) h := by first | exact Iff.rfl | exact w_ok | exact w_stk | exact w_exc
theorem f_max2 {i j : Int} : WpX X (fMax2 [.int i, .int j] h) Q ↔ Q (.int (if j > i then j else i)) h := by first | exact Iff.rfl | exact w_ok | exact w_stk | exact w_exc
theorem f_min2 {i j : Int} : WpX X (fMin2 [.int i, .int j] h) Q ↔ Q (.int (if j < i then j else i)) h := by first | exact Iff.rfl | exact w_ok | exact w_stk | exact w_exc
theorem f_gcd {i j : Int} : WpX X (fGcd [.int i, .int j] h) Q ↔ Q (.int ((Nat.gcd i.natAbs j.natAbs : Nat) : Int)) h := by first | exact Iff.rfl | exact w_ok | exact w_stk | exact w_exc
/-! items -/
theorem it_tupD {l : List D} : items h (.tup l) = some l := rfl
theorem it_fzlD {l : List D} : items h (.fzl l) = some l := rfl
theorem it_refD {n : Nat} : items h (.ref n) = getL h n := rfl
theorem f_ix {x : D} {i : Int} : WpX X (fIx x (.int i) h) Q ↔ oQ (items h x) fun l => oQ (atI l i) fun d => Q d h := by
  unfold fIx
  cases items h x with
  | none => first | exact Iff.rfl | exact w_ok | exact w_stk | exact w_exc | exact w_stk.trans w_stk.symm | exact w_exc.trans w_exc.symm | exact w_ok.symm
  | some l =>
    dsimp only [oQ]
    cases e : atI l i <;> first | exact Iff.rfl | exact w_ok | exact w_stk | exact w_exc | exact w_stk.trans w_stk.symm | exact w_exc.trans w_exc.symm | exact w_ok.symm
theorem f_len {x : D} : WpX X (fLen [x] h) Q ↔ oQ (items h x) fun l => Q (.int (l.length : Int)) h := by
  unfold fLen
  dsimp only
  cases items h x <;> first | exact Iff.rfl | exact w_ok | exact w_stk | exact w_exc | exact w_stk.trans w_stk.symm | exact w_exc.trans w_exc.symm | exact w_ok.symm
theorem f_list {x : D} : WpX X (fList [x] h) Q ↔ oQ (items h x) fun l => Q (.ref h.length) (h ++ [.lst l]) := by
  unfold fList
  dsimp only
  cases items h x <;> first | exact Iff.rfl | exact w_ok | exact w_stk | exact w_exc | exact w_stk.trans w_stk.symm | exact w_exc.trans w_exc.symm | exact w_ok.symm
theorem f_setItem {n : Nat} {k : Int} {v : D} {QU : Unit → Store → Prop} : WpX X (setItem (.ref n) (.int k) v h) QU ↔ oQ (getL h n) fun xs => oQ (ixN xs.length k) fun j => QU () (h.set n (.lst (xs.set j v))) := by
  unfold setItem
  dsimp only
  cases getL h n with
  | none => first | exact Iff.rfl | exact w_ok | exact w_stk | exact w_exc | exact w_stk.trans w_stk.symm | exact w_exc.trans w_exc.symm | exact w_ok.symm
  | some xs =>
    dsimp only [oQ]
    cases e : ixN xs.length k <;> first | exact Iff.rfl | exact w_ok | exact w_stk | exact w_exc | exact w_stk.trans w_stk.symm | exact w_exc.trans w_exc.symm | exact w_ok.symm
theorem f_slF {l : List D} {lo hi : Option Int} : WpX X (fSl (.fzl l) lo hi h) Q ↔ Q (.ref h.length) (h ++ [.lst (cutD l lo hi)]) := by first | exact Iff.rfl | exact w_ok | exact w_stk | exact w_exc
theorem f_slR {n : Nat} {lo hi : Option Int} : WpX X (fSl (.ref n) lo hi h) Q ↔ oQ (getL h n) fun l => Q (.ref h.length) (h ++ [.lst (cutD l lo hi)]) := by
  unfold fSl
  dsimp only
  cases getL h n <;> first | exact Iff.rfl | exact w_ok | exact w_stk | exact w_exc | exact w_stk.trans w_stk.symm | exact w_exc.trans w_exc.symm | exact w_ok.symm
theorem f_isi {x : D} {b : String} : WpX X (fIsi [x, .ty b] h) Q ↔ oQ (tyName h x) fun a => oQ (kitB a b) fun k => Q (.bl k) h := by
  unfold fIsi
  dsimp only
  cases tyName h x with
  | none => first | exact Iff.rfl | exact w_ok | exact w_stk | exact w_exc | exact w_stk.trans w_stk.symm | exact w_exc.trans w_exc.symm | exact w_ok.symm
  | some a =>
    dsimp only [oQ]
    cases e : kitB a b <;> first | exact Iff.rfl | exact w_ok | exact w_stk | exact w_exc | exact w_stk.trans w_stk.symm | exact w_exc.trans w_exc.symm | exact w_ok.symm
theorem f_app {n : Nat} {y : D} : WpX X (fAppend (.ref n) [y] h) Q ↔ oQ (getL h n) fun xs => xs.length < sizeLine ∧ Q .non (h.set n (.lst (xs ++ [y]))) := by
  unfold fAppend
  dsimp only
  cases getL h n with
  | none => first | exact Iff.rfl | exact w_ok | exact w_stk | exact w_exc | exact w_stk.trans w_stk.symm | exact w_exc.trans w_exc.symm | exact w_ok.symm
  | some xs =>
    dsimp only [oQ]
    by_cases e : xs.length < sizeLine
    · rw [if_pos e]; first | exact ⟨fun z => ⟨e, w_ok.mp z⟩, fun z => w_ok.mpr z.2⟩ | exact ⟨fun z => ⟨e, z⟩, fun z => z.2⟩
    · rw [if_neg e]; exact ⟨fun z => (w_stk.mp z).elim, fun z => (e z.1).elim⟩
theorem w_bm {f : D → List D → M D} : WpX X (mBM f o r ρ h) Q ↔ WpX X (o ρ h) fun x h1 => match x with
    | .ref n => oQ (getL h1 n) fun _ => WpX X (r ρ h1) fun vs h2 => WpX X (f x vs h2) Q
    | _ => False := by
  unfold mBM
  rw [w_bnd]
  refine WpX.iff fun x h1 => ?_
  cases x with
  | ref n =>
    dsimp only
    cases getL h1 n with
    | none => first | exact Iff.rfl | exact w_ok | exact w_stk | exact w_exc | exact w_stk.trans w_stk.symm | exact w_exc.trans w_exc.symm | exact w_ok.symm
    | some l => exact w_bnd
  | _ => first | exact Iff.rfl | exact w_ok | exact w_stk | exact w_exc | exact w_stk.trans w_stk.symm | exact w_exc.trans w_exc.symm | exact w_ok.symm
/-! the store -/
theorem getL_set {n : Nat} {xs ys : List D} (e : getL h n = some xs) : getL (h.set n (.lst ys)) n = some ys := by
  have hl : n < h.length := by
    obtain ⟨q, _⟩ := List.getElem?_eq_some_iff.mp (getL_some e)
    exact q
  unfold getL
  rw [List.getElem?_set_self hl]
theorem getL_ne {n m : Nat} {o : O} (e : m ≠ n) : getL (h.set n o) m = getL h m := by
  unfold getL
  rw [List.getElem?_set_ne (Ne.symm e)]
theorem getL_lt {n : Nat} {xs : List D} (e : getL h n = some xs) : n < h.length := by
  obtain ⟨q, _⟩ := List.getElem?_eq_some_iff.mp (getL_some e)
  exact q
theorem getL_old {n : Nat} {l : Store} (e : n < h.length) : getL (h ++ l) n = getL h n := by
  unfold getL
  rw [List.getElem?_append_left e]
theorem getL_new {xs : List D} : getL (h ++ [.lst xs]) h.length = some xs := by
  unfold getL
  rw [List.getElem?_append_right (Nat.le_refl _), Nat.sub_self]
  rfl
theorem ty_non : tyName h .non = some "NoneType" := rfl
theorem ty_bl {b : Bool} : tyName h (.bl b) = some "bool" := rfl
theorem ty_int {b : Int} : tyName h (.int b) = some "int" := rfl
theorem ty_str {b : PySem.Str} : tyName h (.str b) = some "str" := rfl
theorem ty_tup {b : List D} : tyName h (.tup b) = some "tuple" := rfl
theorem ty_fzl {b : List D} : tyName h (.fzl b) = some "list" := rfl
theorem ty_ref {n : Nat} {xs : List D} (e : getL h n = some xs) : tyName h (.ref n) = some "list" := by
  unfold tyName
  dsimp only
  rw [getL_some e]
theorem kb_ii : kitB "int" "int" = some true := by decide +kernel
theorem kb_ib : kitB "int" "bool" = some false := by decide +kernel
theorem kb_bi : kitB "bool" "int" = some true := by decide +kernel
theorem kb_bb : kitB "bool" "bool" = some true := by decide +kernel
theorem kb_ni : kitB "NoneType" "int" = some false := by decide +kernel
theorem kb_si : kitB "str" "int" = some false := by decide +kernel
theorem kb_li : kitB "list" "int" = some false := by decide +kernel
theorem kb_ti : kitB "tuple" "int" = some false := by decide +kernel
theorem kb_ll : kitB "list" "list" = some true := by decide +kernel
theorem kb_tl : kitB "tuple" "list" = some false := by decide +kernel
theorem kb_nl : kitB "NoneType" "list" = some false := by decide +kernel
theorem kb_il : kitB "int" "list" = some false := by decide +kernel
theorem kb_bl : kitB "bool" "list" = some false := by decide +kernel
theorem kb_sl : kitB "str" "list" = some false := by decide +kernel
theorem kb_tt : kitB "tuple" "tuple" = some true := by decide +kernel
theorem kb_lt : kitB "list" "tuple" = some false := by decide +kernel
theorem kb_nt : kitB "NoneType" "tuple" = some false := by decide +kernel
theorem kb_it : kitB "int" "tuple" = some false := by decide +kernel
theorem kb_bt : kitB "bool" "tuple" = some false := by decide +kernel
theorem kb_st : kitB "str" "tuple" = some false := by decide +kernel
end
end G

/-! The plain side of chains, enumerate, instances. -/
namespace G
open PySem PySem.Spec PyProof.Rows L2
section
variable {X : XQ} {ρ : Env} {h : Store} {Q : D → Store → Prop} {QF : Fl → Store → Prop} {QW : Wk → Store → Prop} {a b c o : ME} {r : MA} {s : MS} {k n : Nat} {f : PySem.Str}
theorem w_chain {p q : D → D → M D} : WpX X (mChain p q a b c ρ h) Q ↔ WpX X (a ρ h) fun x h1 => WpX X (b ρ h1) fun y h2 => WpX X (p x y h2) fun z h3 => asB z fun k => if k = true then WpX X (c ρ h3) fun w h4 => WpX X (q y w h4) Q else Q (.bl false) h3 := by
  unfold mChain
  simp only [w_bnd, ite_wp, w_ret, w_asBl]
def enQ (QW : Wk → Store → Prop) (x : D) (h : Store) : Prop := match x with
  | .fzl l => QW ⟨enumD l, fun _ => true⟩ h
  | .ref n => oQ (getL h n) fun l => QW ⟨enumD l, fun h' => decide (getL h' n = some l)⟩ h
  | _ => False
theorem w_wenum : WpX X (wEnum a ρ h) QW ↔ WpX X (a ρ h) (enQ QW) := by
  unfold wEnum
  rw [w_bnd]
  exact WpX.iff fun x h1 => by
    cases x with
    | ref n =>
      dsimp only [enQ]
      cases getL h1 n with
      | none => exact w_stk
      | some l => exact w_ok
    | fzl l => exact w_ok
    | _ => exact w_stk
theorem en_fzl {l : List D} : enQ QW (.fzl l) h ↔ QW ⟨enumD l, fun _ => true⟩ h := Iff.rfl
theorem en_ref : enQ QW (.ref n) h ↔ oQ (getL h n) fun l => QW ⟨enumD l, fun h' => decide (getL h' n = some l)⟩ h := Iff.rfl
theorem f_insert {i : Int} {y : D} : WpX X (fInsert (.ref n) [.int i, y] h) Q ↔ oQ (getL h n) fun xs => (xs.length < sizeLine ∧ 0 ≤ i ∧ i < 2 ^ 63) ∧ Q .non (h.set n (.lst (xs.take i.toNat ++ [y] ++ xs.drop i.toNat))) := by
  unfold fInsert
  dsimp only
  cases getL h n with
  | none => exact w_stk
  | some xs =>
    dsimp only [oQ]
    by_cases e : xs.length < sizeLine ∧ 0 ≤ i ∧ i < 2 ^ 63
    · rw [if_pos e]; exact ⟨fun z => ⟨e, w_ok.mp z⟩, fun z => w_ok.mpr z.2⟩
    · rw [if_neg e]; exact ⟨fun z => (w_stk.mp z).elim, fun z => (e z.1).elim⟩
theorem f_tuple {x : D} : WpX X (fTuple x h) Q ↔ oQ (items h x) fun l => Q (.tup l) h := by
  cases x with
  | tup l => exact w_ok
  | fzl l => exact w_ok
  | ref n =>
    show WpX X (match getL h n with | some l => Rs.ok (D.tup l) h | none => Rs.stuck) Q ↔ oQ (getL h n) fun l => Q (.tup l) h
    cases getL h n with
    | none => exact w_stk
    | some l => exact w_ok
  | _ => exact w_stk
theorem f_isC_ins {t : Nat → Option Bool} {fs : List (PySem.Str × D)} (e : h[n]? = some (.ins k fs)) : WpX X (fIsC t (.ref n) h) Q ↔ oQ (t k) fun b => Q (.bl b) h := by
  unfold fIsC
  dsimp only
  rw [e]
  dsimp only
  cases t k with
  | none => exact w_stk
  | some b => exact w_ok
theorem of_ins {fs : List (PySem.Str × D)} (e : h[n]? = some (.ins k fs)) : ofIns k (.ref n) h = some (n, fs) := by
  unfold ofIns
  dsimp only
  rw [e]
  dsimp only
  rw [if_pos rfl]
theorem w_getF : WpX X (mGetF k f a ρ h) Q ↔ WpX X (a ρ h) fun x h1 => oQ (ofIns k x h1) fun p => oQ (p.2.lookup f) fun d => Q d h1 := by
  unfold mGetF
  rw [w_bnd]
  exact WpX.iff fun x h1 => by
    cases ofIns k x h1 with
    | none => exact w_stk
    | some p =>
      dsimp only [oQ]
      cases p.2.lookup f with
      | none => exact w_stk
      | some d => exact w_ok
theorem w_setF : WpX NoX (mSetF k f o a ρ h) QF ↔ WpX (exX ρ QF) (a ρ h) fun v h1 => WpX (exX ρ QF) (o ρ h1) fun x h2 => oQ (ofIns k x h2) fun p => p.2.length < 1000 ∧ QF (.nx ρ) (h2.set p.1 (.ins k (putD f v p.2))) := by
  unfold mSetF
  rw [w_bndS]
  refine WpX.iff fun v h1 => ?_
  rw [w_bndS]
  refine WpX.iff fun x h2 => ?_
  cases ofIns k x h2 with
  | none => exact w_stk
  | some p =>
    dsimp only [oQ]
    by_cases e : p.2.length < 1000
    · rw [if_pos e]; exact ⟨fun z => ⟨e, w_ok.mp z⟩, fun z => w_ok.mpr z.2⟩
    · rw [if_neg e]; exact ⟨fun z => (w_stk.mp z).elim, fun z => (e z.1).elim⟩
theorem w_makeX {m : List D → M D} : WpX X (mMakeX k n m r ρ h) Q ↔ WpX X (r ρ h) fun ds h1 => ds.length + 1 = n ∧ WpX X (m (.ref h1.length :: ds) (h1 ++ [.ins k []])) fun d h2 => d = .non ∧ Q (.ref h1.length) h2 := by
  unfold mMakeX
  rw [w_bnd]
  refine WpX.iff fun ds h1 => ?_
  by_cases e : ds.length + 1 = n
  · rw [if_pos e, w_bnd, w_alloc, w_bnd]
    have : ∀ d h2, WpX X (madeF (.ref h1.length) d h2) Q ↔ (d = .non ∧ Q (.ref h1.length) h2) := fun d h2 => by
      cases d with
      | non => exact ⟨fun z => ⟨rfl, w_ok.mp z⟩, fun z => w_ok.mpr z.2⟩
      | _ => exact ⟨fun z => (w_stk.mp z).elim, fun z => by cases z.1⟩
    simp only [this]
    exact ⟨fun z => ⟨e, z⟩, fun z => z.2⟩
  · rw [if_neg e]; exact ⟨fun z => (w_stk.mp z).elim, fun z => (e z.1).elim⟩
theorem w_make {m : List D → M D} : WpX X (mMake k n m r ρ h) Q ↔ WpX X (r ρ h) fun ds h1 => ds.length + 1 = n ∧ WpX NoX (m (.ref h1.length :: ds) (h1 ++ [.ins k []])) fun d h2 => d = .non ∧ Q (.ref h1.length) h2 := by
  unfold mMake
  rw [w_makeX]
  simp only [w_noexc]
theorem w_methX {m : PySem.Str} {g : List D → M D} : WpX X (mMethX k m n g o r ρ h) Q ↔ WpX X (o ρ h) fun x h1 => oQ (ofIns k x h1) fun p => p.2.lookup m = none ∧ WpX X (r ρ h1) fun ds h2 => ds.length + 1 = n ∧ WpX X (g (x :: ds) h2) Q := by
  unfold mMethX
  rw [w_bnd]
  refine WpX.iff fun x h1 => ?_
  cases ofIns k x h1 with
  | none => exact w_stk
  | some p =>
    dsimp only [oQ]
    cases p.2.lookup m with
    | some _ => exact ⟨fun z => (w_stk.mp z).elim, fun z => by cases z.1⟩
    | none =>
      dsimp only
      rw [w_bnd]
      have : ∀ ds h2, WpX X ((if ds.length + 1 = n then g (x :: ds) else stuck) h2) Q ↔ (ds.length + 1 = n ∧ WpX X (g (x :: ds) h2) Q) := fun ds h2 => by
        by_cases e : ds.length + 1 = n
        · rw [if_pos e]; exact ⟨fun z => ⟨e, z⟩, fun z => z.2⟩
        · rw [if_neg e]; exact ⟨fun z => (w_stk.mp z).elim, fun z => (e z.1).elim⟩
      simp only [this]
      exact ⟨fun z => ⟨trivial, z⟩, fun z => z.2⟩
theorem w_meth {m : PySem.Str} {g : List D → M D} : WpX X (mMeth k m n g o r ρ h) Q ↔ WpX X (o ρ h) fun x h1 => oQ (ofIns k x h1) fun p => p.2.lookup m = none ∧ WpX X (r ρ h1) fun ds h2 => ds.length + 1 = n ∧ WpX NoX (g (x :: ds) h2) Q := by
  unfold mMeth
  rw [w_methX]
  simp only [w_noexc]
theorem f_lenO {g : List D → M D} {ds : List D} : WpX X (fLenO g ds h) Q ↔ WpX NoX (g ds h) fun d h1 => asI d fun i => (0 ≤ i ∧ i < 2 ^ 63) ∧ Q (.int i) h1 := by
  unfold fLenO
  rw [w_bnd, w_noexc]
  refine WpX.iff fun d h1 => ?_
  cases d with
  | int i =>
    show WpX X ((if 0 ≤ i ∧ i < 2 ^ 63 then ret (D.int i) else stuck) h1) Q ↔ (0 ≤ i ∧ i < 2 ^ 63) ∧ Q (.int i) h1
    by_cases e : 0 ≤ i ∧ i < 2 ^ 63
    · rw [if_pos e]; exact ⟨fun z => ⟨e, w_ok.mp z⟩, fun z => w_ok.mpr z.2⟩
    · rw [if_neg e]; exact ⟨fun z => (w_stk.mp z).elim, fun z => (e z.1).elim⟩
  | _ => exact w_stk
theorem f_insC {g1 g2 : List D → M D} {fs : List (PySem.Str × D)} (e : h[n]? = some (.ins k fs)) : WpX X (insC k g1 g2 [.ref n] h) Q ↔ WpX X (g1 [.ref n] h) Q := by
  show WpX X (if (ofIns k (.ref n) h).isSome = true then g1 [.ref n] h else g2 [.ref n] h) Q ↔ _
  rw [of_ins e]
  exact Iff.rfl
theorem f_eqO {g : List D → M D} {g2 : D → D → M D} {m : Nat} {fs gs : List (PySem.Str × D)} (e : h[n]? = some (.ins k fs)) (e2 : h[m]? = some (.ins k gs)) : WpX X (insL k (fEqO k g) g2 (.ref n) (.ref m) h) Q ↔ WpX NoX (g [.ref n, .ref m] h) Q := by
  unfold insL fEqO
  rw [of_ins e, of_ins e2]
  exact w_noexc
theorem f_neO {g : List D → M D} {g2 : D → D → M D} {m : Nat} {fs gs : List (PySem.Str × D)} (e : h[n]? = some (.ins k fs)) (e2 : h[m]? = some (.ins k gs)) : WpX X (insL k (fNeO k g) g2 (.ref n) (.ref m) h) Q ↔ WpX NoX (g [.ref n, .ref m] h) fun d h1 => asB d fun b => Q (.bl (!b)) h1 := by
  unfold insL fNeO
  rw [of_ins e, of_ins e2]
  show WpX X (bnd (noexc (g [.ref n, .ref m])) negF h) Q ↔ _
  rw [w_bnd, w_noexc]
  exact WpX.iff fun d h1 => by cases d <;> first | exact w_ok | exact w_stk
theorem f_inO {neg : Bool} {g : List D → M D} {g2 : D → D → M D} {x : D} {fs : List (PySem.Str × D)} (e : h[n]? = some (.ins k fs)) : WpX X (insR k (fInO neg g) g2 x (.ref n) h) Q ↔ WpX NoX (g [.ref n, x] h) fun d h1 => asB d fun b => Q (.bl (if neg then !b else b)) h1 := by
  unfold insR
  rw [of_ins e]
  show WpX X (bnd (noexc (g [.ref n, x])) (if neg then negF else idF) h) Q ↔ _
  rw [w_bnd, w_noexc]
  exact WpX.iff fun d h1 => by cases neg <;> cases d <;> first | exact w_ok | exact w_stk
theorem w_addX {g : List D → M D} : WpX X (mAddX k g a b ρ h) Q ↔ WpX X (a ρ h) fun x h1 => WpX X (b ρ h1) fun y h2 => ((ofIns k x h2).isSome = true ∧ (ofIns k y h2).isSome = true) ∧ WpX X (g [x, y] h2) Q := by
  unfold mAddX
  rw [w_bnd]
  refine WpX.iff fun x h1 => ?_
  rw [w_bnd]
  refine WpX.iff fun y h2 => ?_
  --
  by_cases e : (ofIns k x h2).isSome = true ∧ (ofIns k y h2).isSome = true
  · rw [if_pos e]; exact ⟨fun z => ⟨e, z⟩, fun z => z.2⟩
  · rw [if_neg e]; exact ⟨fun z => (w_stk.mp z).elim, fun z => (e z.1).elim⟩
theorem w_fldT {o : Option Bool} {fs : Fs} : WpX X (mFldT o f fs ρ h) Q ↔ oQ o fun _ => oQ fs fun l => oQ (l.lookup f) fun d => (flatD d).isSome = true ∧ Q d h := by
  cases o with
  | none => exact w_stk
  | some b => exact w_fld (ρ := ρ)
/-- list(o) -/
theorem f_listG {g : List D → M D} {g2 : List D → M D} {F : PySem.Str} {fs : List (PySem.Str × D)} {m : Nat} {l l2 : List D} {i : Int} {h2 : Store} (e : h[n]? = some (.ins k fs)) (e1 : fs.lookup F = some (.ref m)) (e2 : getL h m = some l) (e3 : g [.ref n] h = .ok (.int i) h2) (hi : 0 ≤ i ∧ i < 16000000) (e4 : getL h2 m = some l2) (e5 : l2.length < sizeLine) :
    WpX X (fListG k F g g2 [.ref n] h) Q ↔ Q (.ref h2.length) (h2 ++ [.lst l2]) := by
  show WpX X (if (ofIns k (.ref n) h).isSome = true then fListO k F g (.ref n) h else g2 [.ref n] h) Q ↔ _
  rw [of_ins e]
  show WpX X (fListO k F g (.ref n) h) Q ↔ _
  unfold fListO
  rw [of_ins e]
  dsimp only
  rw [e1]
  dsimp only
  rw [e2]
  dsimp only
  rw [e3]
  dsimp only
  rw [if_pos hi, e4]
  dsimp only
  rw [if_pos e5]
  exact w_alloc
end
end G

/-! Comprehensions on the plain side; the helpers that all laws share. -/
namespace G
open PySem PySem.Spec PyProof.Rows L2
section
variable {X : XQ} {ρ : Env} {h : Store} {Q : D → Store → Prop} {QA : List D → Store → Prop} {e : ME} {t : MT} {w : MI} {g : MG} {vs : List Nat}
theorem w_lc : WpX X (mLc w g t e vs ρ h) Q ↔ WpX X (w ρ h) fun k h1 => k.ds.length ≤ 1000000 ∧ WpX X (lcGo k.lv g t e (wipeD ρ vs) k.ds h1) fun ys h2 => Q (.ref h2.length) (h2 ++ [.lst ys]) := by
  unfold mLc
  rw [w_bnd]
  refine WpX.iff fun k h1 => ?_
  by_cases z : k.ds.length ≤ 1000000
  · rw [if_pos z, w_bnd]
    exact ⟨fun q => ⟨z, q.same fun _ _ => w_ok.mp⟩, fun q => q.2.same fun _ _ => w_ok.mpr⟩
  · rw [if_neg z]
    exact ⟨fun q => (w_stk.mp q).elim, fun q => (z q.1).elim⟩
theorem w_lc0 {lv : Store → Bool} : WpX X (lcGo lv g t e ρ [] h) QA ↔ lv h = true ∧ QA [] h := by
  unfold lcGo
  by_cases z : lv h = true
  · rw [if_pos z]; exact ⟨fun q => ⟨z, w_ok.mp q⟩, fun q => w_ok.mpr q.2⟩
  · rw [if_neg z]; exact ⟨fun q => (w_stk.mp q).elim, fun q => (z q.1).elim⟩
theorem w_lc1 {lv : Store → Bool} {d : D} {ds : List D} : WpX X (lcGo lv g t e ρ (d :: ds) h) QA ↔ lv h = true ∧ goQ (g h d ρ) fun ρ1 => WpX NoX (t ρ1 h) fun b h1 => if b = true then WpX NoX (e ρ1 h1) fun y h2 => WpX X (lcGo lv g t e ρ ds h2) fun ys h3 => QA (y :: ys) h3 else WpX X (lcGo lv g t e ρ ds h1) QA := by
  conv => lhs; unfold lcGo
  by_cases z : lv h = true
  · rw [if_pos z]
    cases g h d ρ with
    | none => exact ⟨fun q => (w_stk.mp q).elim, fun q => q.2.elim⟩
    | some ρ1 =>
      dsimp only [goQ]
      rw [w_bnd, w_noexc]
      have : ∀ b h1, WpX X ((if b = true then bnd (noexc (e ρ1)) fun y => bnd (lcGo lv g t e ρ ds) fun ys => ret (y :: ys) else lcGo lv g t e ρ ds) h1) QA ↔ if b = true then WpX NoX (e ρ1 h1) fun y h2 => WpX X (lcGo lv g t e ρ ds h2) fun ys h3 => QA (y :: ys) h3 else WpX X (lcGo lv g t e ρ ds h1) QA := fun b h1 => by
        cases b
        · exact Iff.rfl
        · simp only [if_true, w_bnd, w_ret, w_noexc]
      rw [WpX.iff this]
      exact ⟨fun q => ⟨z, q⟩, fun q => q.2⟩
  · rw [if_neg z]; exact ⟨fun q => (w_stk.mp q).elim, fun q => (z q.1).elim⟩
/-- a comprehension by what holds between its turns -/
theorem lc_inv {lv : Store → Bool} {ds : List D} (I : Nat → List D → Store → Prop) (h0 : I 0 [] h) (hl : ∀ k acc h, k ≤ ds.length → I k acc h → lv h = true)
    (hs : ∀ (k : Nat) (d : D) acc h, ds[k]? = some d → I k acc h → goQ (g h d ρ) fun ρ1 => WpX NoX (t ρ1 h) fun b h1 => if b = true then WpX NoX (e ρ1 h1) fun y h2 => I (k + 1) (acc ++ [y]) h2 else I (k + 1) acc h1)
    (hd : ∀ acc h, I ds.length acc h → QA acc h) : WpX X (lcGo lv g t e ρ ds h) QA := by
  have key : ∀ (n k : Nat) acc h, n + k = ds.length → I k acc h → WpX X (lcGo lv g t e ρ (ds.drop k) h) fun ys h2 => QA (acc ++ ys) h2 := by
    intro n
    induction n with
    | zero =>
      intro k acc h z i
      have : ds.drop k = [] := List.drop_eq_nil_iff.mpr (by omega)
      rw [this, w_lc0, List.append_nil]
      have z : k = ds.length := by omega
      subst z
      exact ⟨hl _ _ _ (Nat.le_refl _) i, hd _ _ i⟩
    | succ n ih =>
      intro k acc h z i
      have hk : k < ds.length := by omega
      rw [List.drop_eq_getElem_cons hk, w_lc1]
      refine ⟨hl _ _ _ (Nat.le_of_lt hk) i, ?_⟩
      have q := hs k ds[k] acc h (List.getElem?_eq_getElem hk) i
      cases y : g h ds[k] ρ with
      | none => rw [y] at q; exact q.elim
      | some ρ1 =>
        rw [y] at q
        refine WpX.same q fun b h1 q1 => ?_
        cases b with
        | false => exact ih (k + 1) acc h1 (by omega) q1
        | true =>
          refine WpX.same q1 fun d h2 q2 => ?_
          refine WpX.same (ih (k + 1) (acc ++ [d]) h2 (by omega) q2) fun ys h3 q3 => ?_
          rw [List.append_assoc] at q3
          exact q3
  have := key ds.length 0 [] h (by omega) h0
  simpa using this
end
section
variable {α : Type} {a b c d : α} {l : List α} {h : Store}
theorem at_0 : atI (a :: l) 0 = some a := by
  unfold atI ixN
  rw [if_pos (by omega), if_pos (by rw [List.length_cons]; omega)]
  rfl
theorem at_1 : atI (a :: b :: l) 1 = some b := by
  unfold atI ixN
  rw [if_pos (by omega), if_pos (by rw [List.length_cons, List.length_cons]; omega)]
  rfl
theorem at_2 : atI (a :: b :: c :: l) 2 = some c := by
  unfold atI ixN
  rw [if_pos (by omega), if_pos (by rw [List.length_cons, List.length_cons, List.length_cons]; omega)]
  rfl
theorem at_3 : atI (a :: b :: c :: d :: l) 3 = some d := by
  unfold atI ixN
  rw [if_pos (by omega), if_pos (by rw [List.length_cons, List.length_cons, List.length_cons, List.length_cons]; omega)]
  rfl
theorem at_m1 : atI [a] (-1) = some a := rfl
theorem ix1_0 : ixN 1 0 = some 0 := rfl
theorem ix2_0 : ixN 2 0 = some 0 := rfl
theorem ix2_1 : ixN 2 1 = some 1 := rfl
theorem ix3_0 : ixN 3 0 = some 0 := rfl
theorem ix3_1 : ixN 3 1 = some 1 := rfl
theorem ix3_2 : ixN 3 2 = some 2 := rfl
theorem getL_lset {n : Nat} {ys : List D} (hl : n < h.length) : getL (h.set n (.lst ys)) n = some ys := by
  unfold getL
  rw [List.getElem?_set_self hl]
theorem set_lt {n : Nat} {o : O} (hl : n < h.length) : n < (h.set n o).length := by rw [List.length_set]; exact hl
end
local macro_rules | `(tactic| walk_at "wps") => `(tactic| try simp only [G.w_bnd, G.w_chain, G.w_wenum, G.en_fzl, G.en_ref, G.f_insert, G.f_tuple, G.w_getF, G.w_setF, G.w_makeX, G.w_make, G.w_methX, G.w_meth, G.f_lenO, G.w_addX, G.w_fldT, G.w_callX, G.w_fld, G.w_isE, G.w_bndS, G.q_ex, G.x_ex, G.w_raise, G.w_raise0, G.y_nx, G.y_rt, G.y_bk, G.y_ct, G.y_ex, G.w_try, G.w_cl0, G.w_cl1, G.st_nx, G.st_rt, G.st_bk, G.st_ct, G.cl_nx, G.cl_rt, G.cl_bk, G.cl_ct, G.w_su0, G.w_su1, G.n_ex, G.w_ret, G.w_ok, G.w_var, G.s_z, G.s_s, G.w_c, G.w_op, G.w_un, G.w_nil, G.w_cons, G.w_cb, G.w_call, G.w_tup, G.w_alloc, G.w_lst, G.b_bl, G.w_asBl, G.w_test, G.w_yes, G.w_and, G.w_or, G.w_not, G.w_andV, G.w_orV, G.w_notV, G.w_ifx, G.w_nop, G.i_int, G.w_part, G.w_sl, G.w_next, G.w_rt, G.w_rtN, G.w_brk, G.w_cont, G.w_drop, G.q_nx, G.q_rt, G.q_bk, G.q_ct, G.w_seq, G.w_ifS, G.w_set, G.g_some, G.w_asg, G.w_setIx, G.w_aug, G.n_rt, G.n_nx, G.w_fn, G.w_for, G.w_wseq, G.k_tup, G.k_fzl, G.k_ref, G.w_wr1, G.w_wr2, G.f_add, G.f_sub, G.f_addI, G.f_mul, G.f_div, G.f_mod, G.f_pow, G.f_neg, G.f_cmp, G.f_isB, G.f_notB, G.f_isN, G.f_notN, G.n_non, G.n_int, G.n_bl, G.n_ref, G.n_tup, G.f_eq, G.f_ne, G.ty_non, G.ty_bl, G.ty_int, G.ty_str, G.ty_tup, G.ty_fzl, G.kb_ii, G.kb_ib, G.kb_bi, G.kb_bb, G.kb_ni, G.kb_si, G.kb_li, G.kb_ti, G.kb_ll, G.kb_tl, G.kb_nl, G.kb_il, G.kb_bl, G.kb_sl, G.kb_tt, G.kb_lt, G.kb_nt, G.kb_it, G.kb_bt, G.kb_st, decide_eq_true_eq, Bool.not_eq_true', decide_eq_false_iff_not, ↓reduceIte, eq_self, Bool.false_eq_true, Bool.true_eq_false, reduceCtorEq, Bool.not_true, Bool.not_false, ne_eq, not_false_eq_true, G.f_abs, G.f_int, G.f_intB, G.f_max2, G.f_min2, G.f_gcd, G.it_tupD, G.it_fzlD, G.it_refD, G.f_ix, G.f_len, G.f_list, G.f_setItem, G.f_slF, G.f_slR, G.f_isi, G.f_app, G.w_bm, G.oq_some, G.w_lc, List.map_cons, List.map_nil, List.length_cons, List.length_nil, List.cons_append, List.nil_append, Nat.zero_add, List.replicate, Nat.sub_self, Nat.reduceAdd, Nat.reduceSub, List.set_cons_zero, List.set_cons_succ, Option.some.injEq, exists_eq_left', exists_eq_left, true_and, and_true, G.at_0, G.at_1, G.at_2, G.at_3, G.at_m1, G.ix1_0, G.ix2_0, G.ix2_1, G.ix3_0, G.ix3_1, G.ix3_2, List.length_set, List.set_set])
local macro_rules | `(tactic| walk_at "wpx") => `(tactic| try simp only [G.w_bnd, G.w_chain, G.w_wenum, G.en_fzl, G.en_ref, G.f_insert, G.f_tuple, G.w_getF, G.w_setF, G.w_makeX, G.w_make, G.w_methX, G.w_meth, G.f_lenO, G.w_addX, G.w_fldT, G.w_callX, G.w_fld, G.w_isE, G.w_bndS, G.q_ex, G.x_ex, G.w_raise, G.w_raise0, G.y_nx, G.y_rt, G.y_bk, G.y_ct, G.y_ex, G.w_try, G.w_cl0, G.w_cl1, G.st_nx, G.st_rt, G.st_bk, G.st_ct, G.cl_nx, G.cl_rt, G.cl_bk, G.cl_ct, G.w_su0, G.w_su1, G.n_ex, G.w_ret, G.w_ok, G.w_var, G.s_z, G.s_s, G.w_c, G.w_op, G.w_un, G.w_nil, G.w_cons, G.w_cb, G.w_call, G.w_tup, G.w_alloc, G.w_lst, G.b_bl, G.w_asBl, G.w_test, G.w_yes, G.w_and, G.w_or, G.w_not, G.w_andV, G.w_orV, G.w_notV, G.w_ifx, G.w_nop, G.i_int, G.w_part, G.w_sl, G.w_next, G.w_rt, G.w_rtN, G.w_brk, G.w_cont, G.w_drop, G.q_nx, G.q_rt, G.q_bk, G.q_ct, G.w_seq, G.w_ifS, G.w_set, G.g_some, G.w_asg, G.w_setIx, G.w_aug, G.n_rt, G.n_nx, G.w_fn, G.w_for, G.w_wseq, G.k_tup, G.k_fzl, G.k_ref, G.w_wr1, G.w_wr2, G.f_add, G.f_sub, G.f_addI, G.f_mul, G.f_div, G.f_mod, G.f_pow, G.f_neg, G.f_cmp, G.f_isB, G.f_notB, G.f_isN, G.f_notN, G.n_non, G.n_int, G.n_bl, G.n_ref, G.n_tup, G.f_eq, G.f_ne, G.ty_non, G.ty_bl, G.ty_int, G.ty_str, G.ty_tup, G.ty_fzl, G.kb_ii, G.kb_ib, G.kb_bi, G.kb_bb, G.kb_ni, G.kb_si, G.kb_li, G.kb_ti, G.kb_ll, G.kb_tl, G.kb_nl, G.kb_il, G.kb_bl, G.kb_sl, G.kb_tt, G.kb_lt, G.kb_nt, G.kb_it, G.kb_bt, G.kb_st, decide_eq_true_eq, Bool.not_eq_true', decide_eq_false_iff_not, ↓reduceIte, eq_self, Bool.false_eq_true, Bool.true_eq_false, reduceCtorEq, Bool.not_true, Bool.not_false, ne_eq, not_false_eq_true, G.f_abs, G.f_int, G.f_intB, G.f_max2, G.f_min2, G.f_gcd, G.it_tupD, G.it_fzlD, G.it_refD, G.f_ix, G.f_len, G.f_list, G.f_setItem, G.f_slF, G.f_slR, G.f_isi, G.f_app, G.w_bm, G.oq_some, G.w_lc, List.map_cons, List.map_nil, List.length_cons, List.length_nil, List.cons_append, List.nil_append, Nat.zero_add, List.replicate, Nat.sub_self, Nat.reduceAdd, Nat.reduceSub, List.set_cons_zero, List.set_cons_succ, Option.some.injEq, exists_eq_left', exists_eq_left, true_and, and_true, G.at_0, G.at_1, G.at_2, G.at_3, G.at_m1, G.ix1_0, G.ix2_0, G.ix2_1, G.ix3_0, G.ix3_1, G.ix3_2, List.length_set, List.set_set, *])
local macro_rules | `(tactic| walk_at "wpz") => `(tactic| try simp only [G.w_bnd, G.w_chain, G.w_wenum, G.en_fzl, G.en_ref, G.f_insert, G.f_tuple, G.w_getF, G.w_setF, G.w_makeX, G.w_make, G.w_methX, G.w_meth, G.f_lenO, G.w_addX, G.w_fldT, G.w_callX, G.w_fld, G.w_isE, G.w_bndS, G.q_ex, G.x_ex, G.w_raise, G.w_raise0, G.y_nx, G.y_rt, G.y_bk, G.y_ct, G.y_ex, G.w_try, G.w_cl0, G.w_cl1, G.st_nx, G.st_rt, G.st_bk, G.st_ct, G.cl_nx, G.cl_rt, G.cl_bk, G.cl_ct, G.w_su0, G.w_su1, G.n_ex, G.w_ret, G.w_ok, G.w_var, G.s_z, G.s_s, G.w_c, G.w_op, G.w_un, G.w_nil, G.w_cons, G.w_cb, G.w_call, G.w_tup, G.w_alloc, G.w_lst, G.b_bl, G.w_asBl, G.w_test, G.w_yes, G.w_and, G.w_or, G.w_not, G.w_andV, G.w_orV, G.w_notV, G.w_ifx, G.w_nop, G.i_int, G.w_part, G.w_sl, G.w_next, G.w_rt, G.w_rtN, G.w_brk, G.w_cont, G.w_drop, G.q_rt, G.q_bk, G.q_ct, G.w_seq, G.w_ifS, G.w_set, G.g_some, G.w_asg, G.w_setIx, G.w_aug, G.n_rt, G.n_nx, G.w_fn, G.w_for, G.w_wseq, G.k_tup, G.k_fzl, G.k_ref, G.w_wr1, G.w_wr2, G.f_add, G.f_sub, G.f_addI, G.f_mul, G.f_div, G.f_mod, G.f_pow, G.f_neg, G.f_cmp, G.f_isB, G.f_notB, G.f_isN, G.f_notN, G.n_non, G.n_int, G.n_bl, G.n_ref, G.n_tup, G.f_eq, G.f_ne, G.ty_non, G.ty_bl, G.ty_int, G.ty_str, G.ty_tup, G.ty_fzl, G.kb_ii, G.kb_ib, G.kb_bi, G.kb_bb, G.kb_ni, G.kb_si, G.kb_li, G.kb_ti, G.kb_ll, G.kb_tl, G.kb_nl, G.kb_il, G.kb_bl, G.kb_sl, G.kb_tt, G.kb_lt, G.kb_nt, G.kb_it, G.kb_bt, G.kb_st, decide_eq_true_eq, Bool.not_eq_true', decide_eq_false_iff_not, ↓reduceIte, eq_self, Bool.false_eq_true, Bool.true_eq_false, reduceCtorEq, Bool.not_true, Bool.not_false, ne_eq, not_false_eq_true, G.f_abs, G.f_int, G.f_intB, G.f_max2, G.f_min2, G.f_gcd, G.it_tupD, G.it_fzlD, G.it_refD, G.f_ix, G.f_len, G.f_list, G.f_setItem, G.f_slF, G.f_slR, G.f_isi, G.f_app, G.w_bm, G.oq_some, G.w_lc, List.map_cons, List.map_nil, List.length_cons, List.length_nil, List.cons_append, List.nil_append, Nat.zero_add, List.replicate, Nat.sub_self, Nat.reduceAdd, Nat.reduceSub, List.set_cons_zero, List.set_cons_succ, Option.some.injEq, exists_eq_left', exists_eq_left, true_and, and_true, G.at_0, G.at_1, G.at_2, G.at_3, G.at_m1, G.ix1_0, G.ix2_0, G.ix2_1, G.ix3_0, G.ix3_1, G.ix3_2, List.length_set, List.set_set])
def m_law_int_b : MS :=
  (mRet (mAndV (mCB fIsi (mCons (mVar 0) (mCons (mC (.ty "int")) mNil))) (mNotV (mCB fIsi (mCons (mVar 0) (mCons (mC (.ty "bool")) mNil))))))
def m_law_int : List D → M D := mFn 1 m_law_int_b
def m_law_next_b : MS :=
  (mSeq (mSetIx (mVar 0) (mC (.int 1)) (mOp fAdd (mOp fIx (mVar 0) (mC (.int 1))) (mC (.int 1))))
  (mSeq (mIfS (mAnd (mTest (mOp (fEq false) (mOp fIx (mVar 0) (mC (.int 2))) (mC (.int 1)))) (mTest (mOp (fCmp fun i j => decide (j < i)) (mOp fIx (mVar 0) (mC (.int 0))) (mC (.int 0))))) (mSeq (mSet 2 (mOp fMod (mCB fInt (mCons (mOp fIx (mVar 0) (mC (.int 0))) mNil)) (mVar 1)))
  (mSeq (mSetIx (mVar 0) (mC (.int 0)) (mOp fDiv (mCB fInt (mCons (mOp fIx (mVar 0) (mC (.int 0))) mNil)) (mVar 1)))
  (mRet (mVar 2)))) mNext)
  (mSeq (mSet 3 (mOp fMod (mCB fInt (mCons (mOp fAdd (mOp fAdd (mOp fIx (mVar 0) (mC (.int 0))) (mOp fMul (mC (.int 7919)) (mOp fIx (mVar 0) (mC (.int 1))))) (mC (.int 13))) mNil)) (mC (.int 2147483647))))
  (mSeq (mSet 3 (mOp fMod (mCB fInt (mCons (mOp fMul (mVar 3) (mOp fAdd (mVar 3) (mC (.int 48271)))) mNil)) (mC (.int 2147483629))))
  (mSeq (mSet 3 (mOp fMod (mCB fInt (mCons (mOp fAdd (mOp fMul (mVar 3) (mOp fAdd (mVar 3) (mC (.int 69621)))) (mOp fMul (mC (.int 31)) (mOp fIx (mVar 0) (mC (.int 1))))) mNil)) (mC (.int 2147483647))))
  (mRet (mOp fMod (mCB fInt (mCons (mOp fDiv (mVar 3) (mC (.int 9))) mNil)) (mVar 1))))))))
def m_law_next : List D → M D := mFn 4 m_law_next_b
/-- a draw's state stands at st -/
def StA (h : Store) (st : Nat) : Prop := ∃ c k f : Int, getL h st = some [.int c, .int k, .int f]
theorem mul_small {i j : Int} (h : -(2 ^ 64) < i ∧ i < 2 ^ 64) : mulOk i j = true := by
  unfold mulOk
  rw [decide_eq_true h]
  rfl
theorem mul_small' {i j : Int} (h : -(2 ^ 64) < j ∧ j < 2 ^ 64) : mulOk i j = true := by
  unfold mulOk
  rw [decide_eq_true h]
  simp
theorem log2_small {j : Int} (h : j.natAbs < 2 ^ 64) : j.natAbs.log2 < 9000 := Nat.lt_of_lt_of_le (PySem.Flt.log2_lt_of (by decide) h) (by decide)
theorem fmod_bd {i j : Int} (h : 0 < j) : 0 ≤ i.fmod j ∧ i.fmod j < j := by
  rw [Int.fmod_eq_emod_of_nonneg i (by omega)]
  exact ⟨Int.emod_nonneg _ (by omega), Int.emod_lt_of_pos _ h⟩
theorem eq_D {a b : Int} : (D.int a = D.int b) ↔ a = b := by
  constructor
  · intro h; cases h; rfl
  · intro h; rw [h]
theorem next_spec {h : Store} {st : Nat} {size : Int} (hs : StA h st) (h0 : 0 < size) (h1 : size < 2 ^ 64) : WpX NoX (m_law_next [.ref st, .int size] h) fun d h' => ∃ v c k f : Int, d = .int v ∧ 0 ≤ v ∧ v < size ∧ h' = h.set st (.lst [.int c, .int k, .int f]) := by
  obtain ⟨c, k, f, e⟩ := hs
  have hl := getL_lt e
  have g : ∀ ys, getL (h.set st (.lst ys)) st = some ys := fun ys => getL_lset hl
  have hn : size ≠ 0 := by omega
  have hb : size.natAbs.log2 < 9000 := log2_small (by omega)
  unfold m_law_next m_law_next_b
  walk_at "wpx"
  have fb := fun x : Int => fmod_bd (i := x) h0
  have m1 : ∀ x : Int, -(2 ^ 64) < x.fmod 2147483647 ∧ x.fmod 2147483647 < 2 ^ 64 := fun x => by
    have := fmod_bd (i := x) (j := 2147483647) (by decide)
    omega
  have m2 : ∀ x : Int, -(2 ^ 64) < x.fmod 2147483629 ∧ x.fmod 2147483629 < 2 ^ 64 := fun x => by
    have := fmod_bd (i := x) (j := 2147483629) (by decide)
    omega
  have a1 : mulOk 7919 (k + 1) = true := mul_small (by decide)
  have a2 : mulOk 31 (k + 1) = true := mul_small (by decide)
  have a3 := fun x y : Int => mul_small (j := y) (m1 x)
  have a4 := fun x y : Int => mul_small (j := y) (m2 x)
  have a5 : (Int.natAbs 9).log2 < 9000 := log2_small (by decide)
  simp only [a1, a2, a3, a4, a5, hn, hb, ne_eq, not_false_eq_true, true_and, Bool.false_eq_true, if_false]
  have fin1 : ∀ x y z : Int, ∃ v c_1 k_1 f_1 : Int, D.int (x.fmod size) = D.int v ∧ 0 ≤ v ∧ v < size ∧ List.set h st (O.lst [D.int y, D.int z, D.int f]) = List.set h st (O.lst [D.int c_1, D.int k_1, D.int f_1]) :=
    fun x y z => ⟨_, _, _, _, rfl, (fb x).1, (fb x).2, rfl⟩
  repeat' split
  all_goals first
    | exact fin1 _ _ _
    | exact ⟨by decide, by decide, by decide, by decide, fin1 _ _ _⟩
    | exact ⟨by decide, by decide, fin1 _ _ _⟩
theorem StA.set {h : Store} {st : Nat} (hs : StA h st) {c k f : Int} : StA (h.set st (.lst [.int c, .int k, .int f])) st := by
  obtain ⟨_, _, _, e⟩ := hs
  exact ⟨c, k, f, getL_lset (getL_lt e)⟩
def m_law_state_b : MS :=
  (mSeq (mSet 2 (mC (.int 0)))
  (mSeq (mIfS (mTest (mOp (fCmp fun i j => decide (i < j)) (mVar 1) (mCB fLen (mCons (mVar 0) mNil)))) (mSet 2 (mCB fAbs (mCons (mCB fInt (mCons (mOp fIx (mVar 0) (mVar 1)) mNil)) mNil))) mNext)
  (mSeq (mIfS (mTest (mOp (fCmp fun i j => decide (j ≤ i)) (mVar 2) (mC (.int 1000000000000000000)))) (mRet (mLst (mCons (mVar 2) (mCons (mC (.int 0)) (mCons (mC (.int 1)) mNil))))) mNext)
  (mSeq (mFor (wSeq (mSl fSl (mVar 0) mNoPart (mPart (mC (.int 63))))) (gmName 3) (mSet 2 (mOp fMod (mCB fInt (mCons (mOp fAdd (mOp fAdd (mOp fMul (mVar 2) (mC (.int 31))) (mCB fAbs (mCons (mCB fInt (mCons (mVar 3) mNil)) mNil))) (mVar 1)) mNil)) (mC (.int 999999999989)))))
  (mRet (mLst (mCons (mOp fAdd (mVar 2) (mOp fMul (mC (.int 101)) (mVar 1))) (mCons (mC (.int 0)) (mCons (mC (.int 0)) mNil)))))))))
def m_law_state : List D → M D := mFn 4 m_law_state_b
theorem ints_at {ns : List Int} {k : Nat} {d : D} (e : (ns.map D.int)[k]? = some d) : ∃ z ∈ ns, d = .int z := by
  rw [List.getElem?_map] at e
  obtain ⟨z, hz, rfl⟩ := Option.map_eq_some_iff.mp e
  exact ⟨z, List.mem_of_getElem? hz, rfl⟩
theorem line_small {n : Nat} (h : n ≤ 1000) : n ≤ sizeLine := by rw [sizeLine_eq]; omega
/-- a new state -/
def NewSt (h : Store) (d : D) (h' : Store) : Prop := ∃ st l, d = .ref st ∧ StA h' st ∧ h' = h ++ l ∧ h.length ≤ st
theorem state_tail {ns : List Int} {k c : Int} {d3 : Option D} {h : Store} :
    WpX NoX ((mSeq (mFor (wSeq (mSl fSl (mVar 0) mNoPart (mPart (mC (.int 63))))) (gmName 3) (mSet 2 (mOp fMod (mCB fInt (mCons (mOp fAdd (mOp fAdd (mOp fMul (mVar 2) (mC (.int 31))) (mCB fAbs (mCons (mCB fInt (mCons (mVar 3) mNil)) mNil))) (mVar 1)) mNil)) (mC (.int 999999999989)))))
  (mRet (mLst (mCons (mOp fAdd (mVar 2) (mOp fMul (mC (.int 101)) (mVar 1))) (mCons (mC (.int 0)) (mCons (mC (.int 0)) mNil)))))) [some (.fzl (ns.map D.int)), some (.int k), some (.int c), d3] h) (endQ NoX (NewSt h)) := by
  walk_at "wps"
  rw [getL_new]
  walk_at "wps"
  refine for_inv (fun _ ρ h' => h' = h ++ [.lst (cutD (ns.map D.int) none (some 63))] ∧ ∃ c d3, ρ = [some (.fzl (ns.map D.int)), some (.int k), some (.int c), d3]) ⟨rfl, c, d3, rfl⟩ ?_ ?_ ?_
  · rintro _ _ _ _ ⟨rfl, _⟩
    rw [getL_new]
    exact decide_eq_true rfl
  · rintro i d _ _ hd ⟨rfl, c, d3, rfl⟩
    have : ∃ z ∈ ns, d = .int z := by
      unfold cutD at hd
      rw [List.getElem?_take] at hd
      split at hd
      · rw [List.getElem?_drop] at hd
        exact ints_at hd
      · cases hd
    obtain ⟨z, _, rfl⟩ := this
    have a1 : ∀ c, mulOk c 31 = true := fun c => mul_small' (by decide)
    show goQ (some _) _
    walk_at "wps"
    exact ⟨a1 _, by decide, _, _, rfl⟩
  · rintro _ _ ⟨rfl, c, d3, rfl⟩
    have a1 : mulOk 101 k = true := mul_small (by decide)
    walk_at "wpx"
    refine ⟨line_small (by decide), _, [.lst (cutD (ns.map D.int) none (some 63)), .lst [.int (c + 101 * k), .int 0, .int 0]], rfl, ⟨c + 101 * k, 0, 0, ?_⟩, by simp, by simp⟩
    exact getL_new
theorem state_spec {ns : List Int} {k : Nat} {h : Store} : WpX NoX (m_law_state [.fzl (ns.map D.int), .int (k : Int)] h) (NewSt h) := by
  have key : ∀ (c : Int) (d3 : Option D), WpX NoX ((mSeq (mIfS (mTest (mOp (fCmp fun i j => decide (j ≤ i)) (mVar 2) (mC (.int 1000000000000000000)))) (mRet (mLst (mCons (mVar 2) (mCons (mC (.int 0)) (mCons (mC (.int 1)) mNil))))) mNext)
    (mSeq (mFor (wSeq (mSl fSl (mVar 0) mNoPart (mPart (mC (.int 63))))) (gmName 3) (mSet 2 (mOp fMod (mCB fInt (mCons (mOp fAdd (mOp fAdd (mOp fMul (mVar 2) (mC (.int 31))) (mCB fAbs (mCons (mCB fInt (mCons (mVar 3) mNil)) mNil))) (mVar 1)) mNil)) (mC (.int 999999999989)))))
    (mRet (mLst (mCons (mOp fAdd (mVar 2) (mOp fMul (mC (.int 101)) (mVar 1))) (mCons (mC (.int 0)) (mCons (mC (.int 0)) mNil))))))) [some (.fzl (ns.map D.int)), some (.int k), some (.int c), d3] h) (endQ NoX (NewSt h)) := fun c d3 => by
    rw [w_seq]
    simp only [w_ifS, w_test, w_op, w_var, s_z, s_s, w_c, f_cmp, b_bl]
    split
    · walk_at "wps"
      exact ⟨line_small (by decide), _, [_], rfl, ⟨_, _, _, getL_new⟩, rfl, Nat.le_refl _⟩
    · rw [w_next, q_nx]
      exact state_tail
  unfold m_law_state m_law_state_b
  walk_at "wpz"
  rw [q_nx, w_seq]
  walk_at "wpz"
  split
  · next hk =>
    rw [List.length_map] at hk
    have hk' : k < ns.length := by omega
    have e : atI (ns.map D.int) (k : Int) = some (.int ns[k]) := atI_nat (by rw [List.getElem?_map, List.getElem?_eq_getElem hk']; rfl)
    rw [e]
    walk_at "wpz"
    exact key _ _
  · exact key _ _
/-! ### the frame of a draw -/
/-- all but the place st stands; more may have come -/
def Ch (st : Nat) (h h' : Store) : Prop := h.length ≤ h'.length ∧ ∀ n, n < h.length → n ≠ st → h'[n]? = h[n]?
theorem Ch.refl (st : Nat) (h : Store) : Ch st h h := ⟨Nat.le_refl _, fun _ _ _ => rfl⟩
theorem Ch.trans {st : Nat} {h h1 h2 : Store} (a : Ch st h h1) (b : Ch st h1 h2) : Ch st h h2 :=
  ⟨Nat.le_trans a.1 b.1, fun n hn hs => (b.2 n (Nat.lt_of_lt_of_le hn a.1) hs).trans (a.2 n hn hs)⟩
theorem Ch.set {st : Nat} {h : Store} {o : O} : Ch st h (h.set st o) := ⟨by rw [List.length_set]; exact Nat.le_refl _, fun n _ hs => List.getElem?_set_ne (Ne.symm hs)⟩
theorem Ch.app {st : Nat} {h l : Store} : Ch st h (h ++ l) := ⟨by rw [List.length_append]; omega, fun n hn _ => List.getElem?_append_left hn⟩
theorem Ch.getL {st n : Nat} {h h' : Store} {l : List D} (c : Ch st h h') (e : G.getL h n = some l) (hn : n ≠ st) : G.getL h' n = some l := by
  have := c.2 n (getL_lt e) hn
  unfold G.getL at e ⊢
  rw [this]
  exact e
theorem StA.app {st : Nat} {h l : Store} (s : StA h st) : StA (h ++ l) st := by
  obtain ⟨c, k, f, e⟩ := s
  exact ⟨c, k, f, by rw [getL_old (getL_lt e)]; exact e⟩
theorem next_sp {h : Store} {st : Nat} {size : Int} (hs : StA h st) (h0 : 0 < size := by decide) (h1 : size < 2 ^ 64 := by decide) : WpX NoX (m_law_next [.ref st, .int size] h) fun d h' => ∃ v : Int, d = .int v ∧ 0 ≤ v ∧ v < size ∧ StA h' st ∧ Ch st h h' :=
  WpX.imp (next_spec hs h0 h1) fun d h' ⟨v, c, k, f, e, p, q, r⟩ => ⟨v, e, p, q, by rw [r]; exact hs.set, by rw [r]; exact Ch.set⟩
theorem lint_spec {h : Store} {z : Int} : WpX NoX (m_law_int [.int z] h) fun d h' => d = .bl true ∧ h' = h := by
  unfold m_law_int m_law_int_b
  walk_at "wps"
def m_law_ints_b : MS :=
  (mSeq (mIfS (mNot (mTest (mCB fIsi (mCons (mVar 0) (mCons (mC (.ty "list")) mNil))))) (mRet (mC (.bl false))) mNext)
  (mRet (mOp (fEq false) (mCB fLen (mCons (mLc (wSeq (mVar 0)) (gmName 1) (mNot (mTest (mCall 1 m_law_int (mCons (mVar 1) mNil)))) (mVar 1) [1]) mNil)) (mC (.int 0)))))
def m_law_ints : List D → M D := mFn 2 m_law_ints_b
/-- a list of ints is one -/
theorem lints_spec {h : Store} {n : Nat} {zs : List Int} (e : getL h n = some (zs.map D.int)) (hz : zs.length ≤ 1000000) : WpX NoX (m_law_ints [.ref n] h) fun d h' => d = .bl true ∧ h' = h ++ [.lst []] := by
  unfold m_law_ints m_law_ints_b
  have t := ty_ref e
  walk_at "wps"
  simp only [t, e]
  walk_at "wps"
  refine ⟨by rw [List.length_map]; exact hz, ?_⟩
  refine lc_inv (fun k acc h' => acc = [] ∧ h' = h) ⟨rfl, rfl⟩ ?_ ?_ ?_
  · rintro k acc h' _ ⟨_, rfl⟩
    rw [e]
    exact decide_eq_true rfl
  · rintro k d acc h' hd ⟨rfl, rfl⟩
    obtain ⟨z, _, rfl⟩ := ints_at hd
    show goQ (some _) _
    unfold wipeD wipeD
    walk_at "wps"
    refine lint_spec.imp ?_
    rintro _ _ ⟨rfl, rfl⟩
    walk_at "wps"
  · rintro acc h' ⟨rfl, rfl⟩
    rw [getL_new]
    walk_at "wps"
    simp
/-! == of data -/
theorem toPys_nil {h : Store} {n : Nat} : toPys h n [] = some [] := by cases n <;> (unfold toPys; rfl)
theorem toPys_ints {h : Store} : ∀ (zs : List Int) (n : Nat), zs.length ≤ n → toPys h n (zs.map D.int) = some (zs.map PyData.int)
  | [], n, _ => toPys_nil
  | z :: zs, 0, e => by simp at e
  | z :: zs, n + 1, e => by
    have ih := toPys_ints (h := h) zs n (by simpa using e)
    rw [List.map_cons]
    unfold toPys
    rw [toPy_int, ih]
    rfl
theorem toPy_tup {h : Store} {n : Nat} {l : List D} : toPy h (n + 1) (.tup l) = (toPys h n l).map .tuple := by
  conv => lhs; unfold toPy
theorem toPy_fzl {h : Store} {n : Nat} {l : List D} : toPy h (n + 1) (.fzl l) = (toPys h n l).map .list := by
  conv => lhs; unfold toPy
theorem toPy_ref {h : Store} {n k : Nat} {l : List D} (e : getL h k = some l) : toPy h (n + 1) (.ref k) = (toPys h n l).map .list := by
  conv => lhs; unfold toPy
  rw [e]
theorem deep_s : deep = 1999999 + 1 := rfl
theorem toPy_tints {h : Store} {zs : List Int} (e : zs.length ≤ 1999999) : toPy h deep (.tup (zs.map D.int)) = some (.tuple (zs.map PyData.int)) := by
  rw [deep_s, toPy_tup, toPys_ints zs _ e]
  rfl
theorem shaped_ints {zs : List Int} : SeqAt.shaped (.tuple (zs.map PyData.int)) = true ∧ SeqAt.shaped (.list (zs.map PyData.int)) = true := by
  have h1 : ∀ zs : List Int, PyData.canLayAll0 (zs.map PyData.int) = true := by
    intro zs
    induction zs with
    | nil => unfold PyData.canLayAll0; rfl
    | cons z zs ih => rw [List.map_cons]; unfold PyData.canLayAll0; rw [ih]; unfold PyData.canLay0; rfl
  have h2 : ∀ zs : List Int, PyData.depthAll (zs.map PyData.int) = 0 := by
    intro zs
    induction zs with
    | nil => unfold PyData.depthAll; rfl
    | cons z zs ih => rw [List.map_cons]; unfold PyData.depthAll; rw [ih]; unfold PyData.depth; rfl
  constructor <;>
  · unfold SeqAt.shaped PyData.canLay0 PyData.depth
    rw [h1, h2]
    decide
theorem eqvAll_ints : ∀ (xs ys : List Int), PyData.eqvAll (xs.map PyData.int) (ys.map PyData.int) = decide (xs = ys)
  | [], [] => rfl
  | [], _ :: _ => by simp [PyData.eqvAll]
  | _ :: _, [] => by simp [PyData.eqvAll]
  | x :: xs, y :: ys => by
    rw [List.map_cons, List.map_cons]
    unfold PyData.eqvAll PyData.eqv
    rw [eqvAll_ints xs ys, Bool.eq_iff_iff]
    simp
theorem feq_tints {h : Store} {xs ys : List Int} {n : Bool} {Q : D → Store → Prop} (ex : xs.length ≤ 1999999) (ey : ys.length ≤ 1999999) : WpX NoX (fEq n (.tup (xs.map D.int)) (.tup (ys.map D.int)) h) Q ↔ Q (.bl (if n then !decide (xs = ys) else decide (xs = ys))) h := by
  unfold fEq
  rw [toPy_tints ex, toPy_tints ey]
  dsimp only
  rw [if_pos ⟨shaped_ints.1, shaped_ints.1⟩]
  unfold PyData.eqv
  rw [eqvAll_ints]
  exact w_ok
end G

/-! mirrors, printed by gen2.py -/
namespace K01
open PySem PySem.Spec PyProof.Rows L2 G

def m_is_whole_b : MS :=
  (mRet (mAndV (mCB fIsi (mCons (mVar 0) (mCons (mC (.ty "int")) mNil))) (mNotV (mCB fIsi (mCons (mVar 0) (mCons (mC (.ty "bool")) mNil))))))
def m_is_whole : List D → M D := mFn 1 m_is_whole_b

def m_joined_point_b : MS :=
  (mSeq (mIfS (mTest (mOp (fEq false) (mVar 0) (mC (.int 0)))) (mRet (mC (.int 0))) mNext)
  (mRet (mOp fAdd (mVar 0) (mVar 1))))
def m_joined_point : List D → M D := mFn 2 m_joined_point_b

def m_law_int_b : MS :=
  (mRet (mAndV (mCB fIsi (mCons (mVar 0) (mCons (mC (.ty "int")) mNil))) (mNotV (mCB fIsi (mCons (mVar 0) (mCons (mC (.ty "bool")) mNil))))))
def m_law_int : List D → M D := mFn 1 m_law_int_b

def m_law_state_b : MS :=
  (mSeq (mSet 2 (mC (.int 0)))
  (mSeq (mIfS (mTest (mOp (fCmp fun i j => decide (i < j)) (mVar 1) (mCB fLen (mCons (mVar 0) mNil)))) (mSet 2 (mCB fAbs (mCons (mCB fInt (mCons (mOp fIx (mVar 0) (mVar 1)) mNil)) mNil))) mNext)
  (mSeq (mIfS (mTest (mOp (fCmp fun i j => decide (j ≤ i)) (mVar 2) (mC (.int 1000000000000000000)))) (mRet (mLst (mCons (mVar 2) (mCons (mC (.int 0)) (mCons (mC (.int 1)) mNil))))) mNext)
  (mSeq (mFor (wSeq (mSl fSl (mVar 0) mNoPart (mPart (mC (.int 63))))) (gmName 3) (mSet 2 (mOp fMod (mCB fInt (mCons (mOp fAdd (mOp fAdd (mOp fMul (mVar 2) (mC (.int 31))) (mCB fAbs (mCons (mCB fInt (mCons (mVar 3) mNil)) mNil))) (mVar 1)) mNil)) (mC (.int 999999999989)))))
  (mRet (mLst (mCons (mOp fAdd (mVar 2) (mOp fMul (mC (.int 101)) (mVar 1))) (mCons (mC (.int 0)) (mCons (mC (.int 0)) mNil)))))))))
def m_law_state : List D → M D := mFn 4 m_law_state_b

def m_law_next_b : MS :=
  (mSeq (mSetIx (mVar 0) (mC (.int 1)) (mOp fAdd (mOp fIx (mVar 0) (mC (.int 1))) (mC (.int 1))))
  (mSeq (mIfS (mAnd (mTest (mOp (fEq false) (mOp fIx (mVar 0) (mC (.int 2))) (mC (.int 1)))) (mTest (mOp (fCmp fun i j => decide (j < i)) (mOp fIx (mVar 0) (mC (.int 0))) (mC (.int 0))))) (mSeq (mSet 2 (mOp fMod (mCB fInt (mCons (mOp fIx (mVar 0) (mC (.int 0))) mNil)) (mVar 1)))
  (mSeq (mSetIx (mVar 0) (mC (.int 0)) (mOp fDiv (mCB fInt (mCons (mOp fIx (mVar 0) (mC (.int 0))) mNil)) (mVar 1)))
  (mRet (mVar 2)))) mNext)
  (mSeq (mSet 3 (mOp fMod (mCB fInt (mCons (mOp fAdd (mOp fAdd (mOp fIx (mVar 0) (mC (.int 0))) (mOp fMul (mC (.int 7919)) (mOp fIx (mVar 0) (mC (.int 1))))) (mC (.int 13))) mNil)) (mC (.int 2147483647))))
  (mSeq (mSet 3 (mOp fMod (mCB fInt (mCons (mOp fMul (mVar 3) (mOp fAdd (mVar 3) (mC (.int 48271)))) mNil)) (mC (.int 2147483629))))
  (mSeq (mSet 3 (mOp fMod (mCB fInt (mCons (mOp fAdd (mOp fMul (mVar 3) (mOp fAdd (mVar 3) (mC (.int 69621)))) (mOp fMul (mC (.int 31)) (mOp fIx (mVar 0) (mC (.int 1))))) mNil)) (mC (.int 2147483647))))
  (mRet (mOp fMod (mCB fInt (mCons (mOp fDiv (mVar 3) (mC (.int 9))) mNil)) (mVar 1))))))))
def m_law_next : List D → M D := mFn 4 m_law_next_b

def m_law_keeps_b : MS :=
  (mSeq (mIfS (mOr (mTest (mOp (fEq true) (mCB fLen (mCons (mVar 2) mNil)) (mVar 0))) (mTest (mOp (fEq true) (mOp fIx (mVar 2) (mC (.int 0))) (mC (.int 0))))) (mRet (mC (.bl false))) mNext)
  (mRet (mOp (fEq false) (mCB fLen (mCons (mLc (wSeq (mVar 1)) (gmName 3) (mTest (mOp (fCmp fun i j => decide (i < j)) (mOp fSub (mOp fIx (mVar 2) (mOp fIx (mVar 3) (mC (.int 1)))) (mOp fIx (mVar 2) (mOp fIx (mVar 3) (mC (.int 0))))) (mOp fIx (mVar 3) (mC (.int 2))))) (mVar 3) [3]) mNil)) (mC (.int 0)))))
def m_law_keeps : List D → M D := mFn 4 m_law_keeps_b

def m_law_due_b : MS :=
  (mSeq (mIfS (mNot (mTest (mChain (fCmp fun i j => decide (i ≤ j)) (fCmp fun i j => decide (i ≤ j)) (mC (.int 1)) (mVar 0) (mC (.int 120))))) (mRet (mTup (mCons (mC (.str "count")) (mCons (mVar 0) mNil)))) mNext)
  (mSeq (mFor (wEnum (mVar 1)) (gmTup [(gmName 2), (gmName 3)]) (mIfS (mNot (mAnd (mTest (mChain (fCmp fun i j => decide (i ≤ j)) (fCmp fun i j => decide (i < j)) (mC (.int 0)) (mOp fIx (mVar 3) (mC (.int 0))) (mVar 0))) (mTest (mChain (fCmp fun i j => decide (i ≤ j)) (fCmp fun i j => decide (i < j)) (mC (.int 0)) (mOp fIx (mVar 3) (mC (.int 1))) (mVar 0))))) (mRet (mTup (mCons (mC (.str "row")) (mCons (mVar 2) mNil)))) mNext))
  (mRet (mTup (mCons (mC (.str "let")) (mCons (mC (.int 0)) mNil))))))
def m_law_due : List D → M D := mFn 4 m_law_due_b

def m_law_joined_b : MS :=
  (mSeq (mSet 2 (mOp fSub (mOp fIx (mVar 0) (mC (.int 0))) (mC (.int 1))))
  (mSeq (mSet 3 (mCB fList (mCons (mOp fIx (mVar 0) (mC (.int 1))) mNil)))
  (mSeq (mFor (wSeq (mOp fIx (mVar 1) (mC (.int 1)))) (gmTup [(gmName 4), (gmName 5), (gmName 6)]) (mDrop (mBM fAppend (mVar 3) (mCons (mTup (mCons (mOp fAdd (mVar 4) (mOp fMul (mVar 2) (mCB fInt (mCons (mOp (fCmp fun i j => decide (j < i)) (mVar 4) (mC (.int 0))) mNil)))) (mCons (mOp fAdd (mVar 5) (mOp fMul (mVar 2) (mCB fInt (mCons (mOp (fCmp fun i j => decide (j < i)) (mVar 5) (mC (.int 0))) mNil)))) (mCons (mVar 6) mNil)))) mNil))))
  (mRet (mLst (mCons (mOp fSub (mOp fAdd (mOp fIx (mVar 0) (mC (.int 0))) (mOp fIx (mVar 1) (mC (.int 0)))) (mC (.int 1))) (mCons (mVar 3) (mCons (mOp fAdd (mOp fIx (mVar 0) (mC (.int 2))) (mSl fSl (mOp fIx (mVar 1) (mC (.int 2))) (mPart (mC (.int 1))) mNoPart)) mNil))))))))
def m_law_joined : List D → M D := mFn 7 m_law_joined_b

def m_Rows_init_b : MS :=
  (mSeq (mIfS (mNot (mTest (mChain (fCmp fun i j => decide (i ≤ j)) (fCmp fun i j => decide (i ≤ j)) (mC (.int 1)) (mVar 1) (mC (.int 120))))) (mRaise 1 ["number"] (mCons (mVar 1) mNil)) mNext)
  (mSeq (mFor (wEnum (mVar 2)) (gmTup [(gmName 3), (gmName 4)]) (mIfS (mNot (mAnd (mTest (mChain (fCmp fun i j => decide (i ≤ j)) (fCmp fun i j => decide (i < j)) (mC (.int 0)) (mOp fIx (mVar 4) (mC (.int 0))) (mVar 1))) (mTest (mChain (fCmp fun i j => decide (i ≤ j)) (fCmp fun i j => decide (i < j)) (mC (.int 0)) (mOp fIx (mVar 4) (mC (.int 1))) (mVar 1))))) (mRaise 2 ["index"] (mCons (mVar 3) mNil)) mNext))
  (mSeq (mSetF 3 "points" (mVar 0) (mVar 1))
  (mSetF 3 "_rows" (mVar 0) (mCB fList (mCons (mVar 2) mNil))))))
def m_Rows_init : List D → M D := mFn 5 m_Rows_init_b

def m_Rows_len_b : MS :=
  (mRet (mCB fLen (mCons (mGetF 3 "_rows" (mVar 0)) mNil)))
def m_Rows_len : List D → M D := mFn 1 m_Rows_len_b

def m_Rows_eq_b : MS :=
  (mRet (mAndV (mUn (fIsC (tb [none, none, none, some true])) (mVar 1)) (mAndV (mOp (fEq false) (mGetF 3 "points" (mVar 0)) (mGetF 3 "points" (mVar 1))) (mOp (fEq false) (mGetF 3 "_rows" (mVar 0)) (mGetF 3 "_rows" (mVar 1))))))
def m_Rows_eq : List D → M D := mFn 2 m_Rows_eq_b

def m_is_whole_list_b : MS :=
  (mSeq (mIfS (mNot (mTest (mCB fIsi (mCons (mVar 0) (mCons (mC (.ty "list")) mNil))))) (mRet (mC (.bl false))) mNext)
  (mSeq (mFor (wSeq (mVar 0)) (gmName 1) (mIfS (mNot (mTest (mCall 1 m_is_whole (mCons (mVar 1) mNil)))) (mRet (mC (.bl false))) mNext))
  (mRet (mC (.bl true)))))
def m_is_whole_list : List D → M D := mFn 2 m_is_whole_list_b

def m_law_ints_b : MS :=
  (mSeq (mIfS (mNot (mTest (mCB fIsi (mCons (mVar 0) (mCons (mC (.ty "list")) mNil))))) (mRet (mC (.bl false))) mNext)
  (mRet (mOp (fEq false) (mCB fLen (mCons (mLc (wSeq (mVar 0)) (gmName 1) (mNot (mTest (mCall 1 m_law_int (mCons (mVar 1) mNil)))) (mVar 1) [1]) mNil)) (mC (.int 0)))))
def m_law_ints : List D → M D := mFn 2 m_law_ints_b

def m_law_points_b : MS :=
  (mSeq (mSet 1 (mCall 2 m_law_next (mCons (mVar 0) (mCons (mC (.int 4)) mNil))))
  (mSeq (mIfS (mTest (mOp (fEq false) (mVar 1) (mC (.int 1)))) (mRet (mOp fIx (mLst (mCons (mC (.int 1)) (mCons (mC (.int 2)) (mCons (mC (.int 3)) (mCons (mC (.int 119)) (mCons (mC (.int 120)) mNil)))))) (mCall 2 m_law_next (mCons (mVar 0) (mCons (mC (.int 5)) mNil))))) mNext)
  (mSeq (mIfS (mTest (mOp (fEq false) (mVar 1) (mC (.int 2)))) (mRet (mOp fAdd (mC (.int 1)) (mCall 2 m_law_next (mCons (mVar 0) (mCons (mC (.int 120)) mNil))))) mNext)
  (mRet (mOp fAdd (mC (.int 1)) (mCall 2 m_law_next (mCons (mVar 0) (mCons (mC (.int 6)) mNil))))))))
def m_law_points : List D → M D := mFn 2 m_law_points_b

def m_law_system_b : MS :=
  (mSeq (mSet 2 (mCall 2 m_law_next (mCons (mVar 0) (mCons (mC (.int 10)) mNil))))
  (mSeq (mSet 3 (mCall 2 m_law_next (mCons (mVar 0) (mCons (mC (.int 16)) mNil))))
  (mSeq (mIfS (mTest (mOp (fEq false) (mVar 3) (mC (.int 1)))) (mSet 2 (mC (.int 24))) mNext)
  (mSeq (mIfS (mTest (mOp (fEq false) (mVar 3) (mC (.int 2)))) (mSet 2 (mOp fAdd (mC (.int 10)) (mCall 2 m_law_next (mCons (mVar 0) (mCons (mC (.int 200)) mNil))))) mNext)
  (mSeq (mSet 4 (mOp fIx (mLst (mCons (mC (.int 5)) (mCons (mC (.int 41)) (mCons (mC (.int 999999997)) mNil)))) (mCall 2 m_law_next (mCons (mVar 0) (mCons (mC (.int 3)) mNil)))))
  (mSeq (mSet 5 (mOp fAdd (mLst (mCons (mC (.int 0)) mNil)) (mLc (wRng1 (mCons (mOp fSub (mVar 1) (mC (.int 1))) mNil)) (gmName 7) mYes (mOp fSub (mCall 2 m_law_next (mCons (mVar 0) (mCons (mVar 4) mNil))) (mOp fDiv (mVar 4) (mC (.int 2)))) [7])))
  (mSeq (mSet 6 (mLst mNil))
  (mSeq (mFor (wRng1 (mCons (mVar 2) mNil)) (gmName 7) (mSeq (mSet 8 (mCall 2 m_law_next (mCons (mVar 0) (mCons (mVar 1) mNil))))
  (mSeq (mSet 9 (mCall 2 m_law_next (mCons (mVar 0) (mCons (mVar 1) mNil))))
  (mDrop (mBM fAppend (mVar 6) (mCons (mTup (mCons (mVar 8) (mCons (mVar 9) (mCons (mOp fSub (mOp fSub (mOp fIx (mVar 5) (mVar 9)) (mOp fIx (mVar 5) (mVar 8))) (mCall 2 m_law_next (mCons (mVar 0) (mCons (mC (.int 3)) mNil)))) mNil)))) mNil))))))
  (mRet (mLst (mCons (mVar 1) (mCons (mVar 6) (mCons (mVar 5) mNil)))))))))))))
def m_law_system : List D → M D := mFn 10 m_law_system_b

def m_law_lists_b : MS :=
  (mSeq (mSet 2 (mOp fSub (mCB fLen (mCons (mVar 1) mNil)) (mC (.int 1))))
  (mSeq (mSet 3 (mLst (mCons (mCB fList (mCons (mVar 1) mNil)) (mCons (mLc (wSeq (mVar 1)) (gmName 7) mYes (mOp fAdd (mVar 7) (mC (.int 1))) [7]) (mCons (mSl fSl (mVar 1) mNoPart (mPart (mVar 2))) (mCons (mOp fAdd (mVar 1) (mLst (mCons (mOp fIx (mVar 1) (mVar 2)) mNil))) mNil))))))
  (mSeq (mFor (wSeq (mLst (mCons (mOp fSub (mC (.int 0)) (mC (.int 1))) (mCons (mC (.int 1)) (mCons (mOp fSub (mC (.int 0)) (mC (.int 2))) mNil))))) (gmName 4) (mSeq (mSet 5 (mCB fList (mCons (mVar 1) mNil)))
  (mSeq (mSet 6 (mCall 2 m_law_next (mCons (mVar 0) (mCons (mCB fLen (mCons (mVar 1) mNil)) mNil))))
  (mSeq (mSetIx (mVar 5) (mVar 6) (mOp fAdd (mOp fIx (mVar 5) (mVar 6)) (mVar 4)))
  (mDrop (mBM fAppend (mVar 3) (mCons (mVar 5) mNil)))))))
  (mSeq (mDrop (mBM fAppend (mVar 3) (mCons (mLc (wSeq (mVar 1)) (gmName 7) mYes (mC (.int 0)) [7]) mNil)))
  (mRet (mVar 3))))))
def m_law_lists : List D → M D := mFn 8 m_law_lists_b

def m_law_broken_b : MS :=
  (mSeq (mIfS (mTest (mOp (fEq false) (mVar 1) (mLst mNil))) (mRet (mLst mNil)) mNext)
  (mSeq (mSet 3 (mCall 2 m_law_next (mCons (mVar 0) (mCons (mCB fLen (mCons (mVar 1) mNil)) mNil))))
  (mSeq (mSet 4 (mOp fIx (mVar 1) (mVar 3)))
  (mRet (mOp fAdd (mOp fAdd (mSl fSl (mVar 1) mNoPart (mPart (mVar 3))) (mLst (mCons (mTup (mCons (mOp fIx (mVar 4) (mC (.int 0))) (mCons (mOp fIx (mVar 4) (mC (.int 1))) (mCons (mOp fAdd (mOp fSub (mOp fIx (mVar 2) (mOp fIx (mVar 4) (mC (.int 1)))) (mOp fIx (mVar 2) (mOp fIx (mVar 4) (mC (.int 0))))) (mC (.int 1))) mNil)))) mNil))) (mSl fSl (mVar 1) (mPart (mOp fAdd (mVar 3) (mC (.int 1)))) mNoPart))))))
def m_law_broken : List D → M D := mFn 5 m_law_broken_b

def m_law_bad_b : MS :=
  (mSeq (mSet 3 (mCB fList (mCons (mVar 2) mNil)))
  (mSeq (mFor (wRng1 (mCons (mCall 2 m_law_next (mCons (mVar 0) (mCons (mC (.int 3)) mNil))) mNil)) (gmName 4) (mSeq (mSet 5 (mCall 2 m_law_next (mCons (mVar 0) (mCons (mOp fAdd (mCB fLen (mCons (mVar 2) mNil)) (mC (.int 1))) mNil))))
  (mSeq (mSet 6 (mOp fAdd (mC (.int 1)) (mCall 2 m_law_next (mCons (mVar 0) (mCons (mC (.int 200)) mNil)))))
  (mSeq (mSet 7 (mOp fIx (mLst (mCons (mOp fSub (mC (.int 0)) (mC (.int 1))) (mCons (mVar 1) (mCons (mOp fAdd (mVar 1) (mVar 6)) (mCons (mOp fSub (mC (.int 0)) (mVar 6)) mNil))))) (mCall 2 m_law_next (mCons (mVar 0) (mCons (mC (.int 4)) mNil)))))
  (mSeq (mSet 8 (mTup (mCons (mCall 2 m_law_next (mCons (mVar 0) (mCons (mVar 1) mNil))) (mCons (mVar 7) (mCons (mOp fSub (mCall 2 m_law_next (mCons (mVar 0) (mCons (mC (.int 9)) mNil))) (mC (.int 4))) mNil)))))
  (mSeq (mIfS (mTest (mOp (fEq false) (mCall 2 m_law_next (mCons (mVar 0) (mCons (mC (.int 2)) mNil))) (mC (.int 1)))) (mSet 8 (mTup (mCons (mOp fIx (mVar 8) (mC (.int 1))) (mCons (mOp fIx (mVar 8) (mC (.int 0))) (mCons (mOp fIx (mVar 8) (mC (.int 2))) mNil))))) mNext)
  (mDrop (mBM fInsert (mVar 3) (mCons (mVar 5) (mCons (mVar 8) mNil))))))))))
  (mRet (mVar 3))))
def m_law_bad : List D → M D := mFn 9 m_law_bad_b

def m_law_alike_b : MS :=
  (mRet (mAndV (mOp (fEq false) (mOp fIx (mVar 0) (mC (.int 0))) (mOp fIx (mVar 1) (mC (.int 0)))) (mAndV (mCall 1 m_law_int (mCons (mOp fIx (mVar 0) (mC (.int 1))) mNil)) (mOp (fEq false) (mOp fIx (mVar 0) (mC (.int 1))) (mOp fIx (mVar 1) (mC (.int 1)))))))
def m_law_alike : List D → M D := mFn 2 m_law_alike_b

def m_law_others_b : MS :=
  (mSeq (mSet 3 (mLst (mCons (mLst (mCons (mVar 1) (mCons (mCB fList (mCons (mVar 2) mNil)) mNil))) (mCons (mLst (mCons (mVar 1) (mCons (mOp fAdd (mVar 2) (mLst (mCons (mTup (mCons (mC (.int 0)) (mCons (mC (.int 0)) (mCons (mC (.int 0)) mNil)))) mNil))) mNil))) mNil))))
  (mSeq (mIfS (mTest (mOp (fCmp fun i j => decide (i < j)) (mVar 1) (mC (.int 120)))) (mDrop (mBM fAppend (mVar 3) (mCons (mLst (mCons (mOp fAdd (mVar 1) (mC (.int 1))) (mCons (mCB fList (mCons (mVar 2) mNil)) mNil))) mNil))) mNext)
  (mSeq (mIfS (mTest (mOp (fEq true) (mVar 2) (mLst mNil))) (mSeq (mSet 4 (mCall 2 m_law_next (mCons (mVar 0) (mCons (mCB fLen (mCons (mVar 2) mNil)) mNil))))
  (mSeq (mSet 5 (mOp fIx (mVar 2) (mVar 4)))
  (mSeq (mDrop (mBM fAppend (mVar 3) (mCons (mLst (mCons (mVar 1) (mCons (mOp fAdd (mSl fSl (mVar 2) mNoPart (mPart (mVar 4))) (mSl fSl (mVar 2) (mPart (mOp fAdd (mVar 4) (mC (.int 1)))) mNoPart)) mNil))) mNil)))
  (mSeq (mDrop (mBM fAppend (mVar 3) (mCons (mLst (mCons (mVar 1) (mCons (mOp fAdd (mOp fAdd (mSl fSl (mVar 2) mNoPart (mPart (mVar 4))) (mLst (mCons (mTup (mCons (mOp fIx (mVar 5) (mC (.int 0))) (mCons (mOp fIx (mVar 5) (mC (.int 1))) (mCons (mOp fAdd (mOp fIx (mVar 5) (mC (.int 2))) (mC (.int 1))) mNil)))) mNil))) (mSl fSl (mVar 2) (mPart (mOp fAdd (mVar 4) (mC (.int 1)))) mNoPart)) mNil))) mNil)))
  (mSeq (mDrop (mBM fAppend (mVar 3) (mCons (mLst (mCons (mVar 1) (mCons (mOp fAdd (mOp fAdd (mSl fSl (mVar 2) mNoPart (mPart (mVar 4))) (mLst (mCons (mTup (mCons (mOp fMod (mCB fInt (mCons (mOp fAdd (mOp fIx (mVar 5) (mC (.int 0))) (mC (.int 1))) mNil)) (mVar 1)) (mCons (mOp fIx (mVar 5) (mC (.int 1))) (mCons (mOp fIx (mVar 5) (mC (.int 2))) mNil)))) mNil))) (mSl fSl (mVar 2) (mPart (mOp fAdd (mVar 4) (mC (.int 1)))) mNoPart)) mNil))) mNil)))
  (mSeq (mDrop (mBM fAppend (mVar 3) (mCons (mLst (mCons (mVar 1) (mCons (mOp fAdd (mOp fAdd (mSl fSl (mVar 2) mNoPart (mPart (mVar 4))) (mLst (mCons (mTup (mCons (mOp fIx (mVar 5) (mC (.int 0))) (mCons (mOp fMod (mCB fInt (mCons (mOp fAdd (mOp fIx (mVar 5) (mC (.int 1))) (mC (.int 1))) mNil)) (mVar 1)) (mCons (mOp fIx (mVar 5) (mC (.int 2))) mNil)))) mNil))) (mSl fSl (mVar 2) (mPart (mOp fAdd (mVar 4) (mC (.int 1)))) mNoPart)) mNil))) mNil)))
  (mSeq (mSet 6 (mCB fList (mCons (mVar 2) mNil)))
  (mSeq (mSet 7 (mCall 2 m_law_next (mCons (mVar 0) (mCons (mCB fLen (mCons (mVar 2) mNil)) mNil))))
  (mSeq (mSetIx (mVar 6) (mVar 4) (mOp fIx (mVar 2) (mVar 7)))
  (mSeq (mSetIx (mVar 6) (mVar 7) (mVar 5))
  (mDrop (mBM fAppend (mVar 3) (mCons (mLst (mCons (mVar 1) (mCons (mVar 6) mNil))) mNil))))))))))))) mNext)
  (mRet (mVar 3)))))
def m_law_others : List D → M D := mFn 8 m_law_others_b

def m_law_made_b : MS :=
  (mSeq (mSet 2 (mCB fList (mCons (mVar 1) mNil)))
  (mSeq (mTry (mDrop (mMakeX 3 3 m_Rows_init (mCons (mVar 0) (mCons (mVar 2) mNil)))) [(tb [none, some true, some true, none], some 3, fun k fs => (mSeq (mIfS (mOr (mNot (mTest (mIsE (tb [none, some true, some true, none] k)))) (mTest (mOp (fEq true) (mVar 2) (mVar 1)))) (mRet (mTup (mCons (mC (.str "other")) (mCons (mC (.int 0)) mNil)))) mNext)
  (mSeq (mIfS (mAnd (mTest (mIsE (tb [none, some true, some false, none] k))) (mNot (mTest (mIsE (tb [none, some false, some true, none] k))))) (mRet (mTup (mCons (mC (.str "count")) (mCons (mFldT (tb [none, some true, none, none] k) "number" fs) mNil)))) mNext)
  (mSeq (mIfS (mAnd (mTest (mIsE (tb [none, some false, some true, none] k))) (mNot (mTest (mIsE (tb [none, some true, some false, none] k))))) (mRet (mTup (mCons (mC (.str "row")) (mCons (mFldT (tb [none, none, some true, none] k) "index" fs) mNil)))) mNext)
  (mRet (mTup (mCons (mC (.str "other")) (mCons (mC (.int 0)) mNil))))))))])
  (mRet (mTup (mCons (mC (.str "let")) (mCons (mC (.int 0)) mNil))))))
def m_law_made : List D → M D := mFn 4 m_law_made_b

def m_Rows_contains_b : MS :=
  (mSeq (mIfS (mNot (mTest (mCall 1 m_is_whole_list (mCons (mVar 1) mNil)))) (mRet (mC (.bl false))) mNext)
  (mSeq (mIfS (mOr (mTest (mOp (fEq true) (mCB fLen (mCons (mVar 1) mNil)) (mGetF 3 "points" (mVar 0)))) (mTest (mOp (fEq true) (mOp fIx (mVar 1) (mC (.int 0))) (mC (.int 0))))) (mRet (mC (.bl false))) mNext)
  (mSeq (mFor (wSeq (mGetF 3 "_rows" (mVar 0))) (gmTup [(gmName 2), (gmName 3), (gmName 4)]) (mIfS (mTest (mOp (fCmp fun i j => decide (i < j)) (mOp fSub (mOp fIx (mVar 1) (mVar 3)) (mOp fIx (mVar 1) (mVar 2))) (mVar 4))) (mRet (mC (.bl false))) mNext))
  (mRet (mC (.bl true))))))
def m_Rows_contains : List D → M D := mFn 5 m_Rows_contains_b

def m_Rows_add_b : MS :=
  (mSeq (mIfS (mNot (mTest (mUn (fIsC (tb [none, none, none, some true])) (mVar 1)))) (mRet mNever) mNext)
  (mSeq (mSet 2 (mOp fSub (mGetF 3 "points" (mVar 0)) (mC (.int 1))))
  (mSeq (mSet 3 (mCB fList (mCons (mGetF 3 "_rows" (mVar 0)) mNil)))
  (mSeq (mFor (wSeq (mGetF 3 "_rows" (mVar 1))) (gmTup [(gmName 4), (gmName 5), (gmName 6)]) (mDrop (mBM fAppend (mVar 3) (mCons (mTup (mCons (mCall 2 m_joined_point (mCons (mVar 4) (mCons (mVar 2) mNil))) (mCons (mCall 2 m_joined_point (mCons (mVar 5) (mCons (mVar 2) mNil))) (mCons (mVar 6) mNil)))) mNil))))
  (mRet (mMakeX 3 3 m_Rows_init (mCons (mOp fSub (mOp fAdd (mGetF 3 "points" (mVar 0)) (mGetF 3 "points" (mVar 1))) (mC (.int 1))) (mCons (mVar 3) mNil))))))))
def m_Rows_add : List D → M D := mFn 7 m_Rows_add_b

def m_Rows_with_more_b : MS :=
  (mRet (mMakeX 3 3 m_Rows_init (mCons (mGetF 3 "points" (mVar 0)) (mCons (mOp fAdd (mGetF 3 "_rows" (mVar 0)) (mCB fList (mCons (mVar 1) mNil))) mNil))))
def m_Rows_with_more : List D → M D := mFn 2 m_Rows_with_more_b

def m_law_holds_b : MS :=
  (mSeq (mFor (wSeq (mCall 2 m_law_lists (mCons (mVar 0) (mCons (mVar 4) mNil)))) (gmName 5) (mSeq (mSet 6 (mCB fList (mCons (mVar 5) mNil)))
  (mIfS (mOr (mTest (mOp (fEq true) (mOp (insR 3 (fInO false m_Rows_contains) (fun _ _ => stuck)) (mVar 6) (mVar 1)) (mCall 3 m_law_keeps (mCons (mVar 2) (mCons (mVar 3) (mCons (mVar 5) mNil)))))) (mTest (mOp (fEq true) (mVar 6) (mVar 5)))) (mRet (mC (.bl false))) mNext)))
  (mRet (mAndV (mOp (insR 3 (fInO true m_Rows_contains) (fun _ _ => stuck)) (mUn fTuple (mVar 4)) (mVar 1)) (mOp (insR 3 (fInO true m_Rows_contains) (fun _ _ => stuck)) (mOp fAdd (mLst (mCons (mC (.bl false)) mNil)) (mSl fSl (mVar 4) (mPart (mC (.int 1))) mNoPart)) (mVar 1)))))
def m_law_holds : List D → M D := mFn 7 m_law_holds_b

def m_law_more_b : MS :=
  (mSeq (mSet 2 (mCB fList (mCons (mVar 1) mNil)))
  (mSeq (mTry (mRet (mLst (mCons (mC (.str "let")) (mCons (mMethX 3 "with_more" 2 m_Rows_with_more (mVar 0) (mCons (mVar 2) mNil)) mNil)))) [(tb [none, some true, some true, none], some 3, fun k fs => (mIfS (mAnd (mTest (mIsE (tb [none, some false, some true, none] k))) (mAnd (mNot (mTest (mIsE (tb [none, some true, some false, none] k)))) (mTest (mOp (fEq false) (mVar 2) (mVar 1))))) (mRet (mLst (mCons (mC (.str "row")) (mCons (mFldT (tb [none, none, some true, none] k) "index" fs) mNil)))) mNext))])
  (mRet (mLst (mCons (mC (.str "other")) (mCons (mC (.int 0)) mNil))))))
def m_law_more : List D → M D := mFn 4 m_law_more_b

def m_law_compares_b : MS :=
  (mSeq (mFor (wSeq (mCall 3 m_law_others (mCons (mVar 0) (mCons (mVar 2) (mCons (mVar 3) mNil))))) (gmTup [(gmName 4), (gmName 5)]) (mSeq (mSet 6 (mMeth 3 "with_more" 2 m_Rows_with_more (mMake 3 3 m_Rows_init (mCons (mVar 4) (mCons (mLst mNil) mNil))) (mCons (mCB fList (mCons (mVar 5) mNil)) mNil)))
  (mSeq (mSet 7 (mAndV (mOp (fEq false) (mVar 4) (mVar 2)) (mOp (fEq false) (mVar 5) (mVar 3))))
  (mIfS (mOr (mTest (mOp (fEq true) (mOp (insL 3 (fEqO 3 m_Rows_eq) (fun _ _ => stuck)) (mVar 1) (mVar 6)) (mVar 7))) (mOr (mTest (mOp (fEq true) (mOp (insL 3 (fEqO 3 m_Rows_eq) (fun _ _ => stuck)) (mVar 6) (mVar 1)) (mVar 7))) (mTest (mOp (fEq false) (mOp (insL 3 (fNeO 3 m_Rows_eq) (fun _ _ => stuck)) (mVar 1) (mVar 6)) (mVar 7))))) (mRet (mC (.bl false))) mNext))))
  (mRet (mC (.bl true))))
def m_law_compares : List D → M D := mFn 8 m_law_compares_b

def m_law_sum_b : MS :=
  (mSeq (mTry (mRet (mLst (mCons (mC (.str "sum")) (mCons (mAddX 3 m_Rows_add (mVar 0) (mVar 1)) mNil)))) [(tb [none, some true, some true, none], some 2, fun k fs => (mIfS (mAnd (mTest (mIsE (tb [none, some true, some false, none] k))) (mNot (mTest (mIsE (tb [none, some false, some true, none] k))))) (mRet (mLst (mCons (mC (.str "count")) (mCons (mFldT (tb [none, some true, none, none] k) "number" fs) mNil)))) mNext))])
  (mRet (mLst (mCons (mC (.str "other")) (mCons (mC (.int 0)) mNil)))))
def m_law_sum : List D → M D := mFn 3 m_law_sum_b

def m_law_tells_b : MS :=
  (mSeq (mIfS (mOr (mNot (mTest (mUn (fIsC (tb [none, none, none, some true])) (mVar 0)))) (mNot (mTest (mCall 1 m_law_int (mCons (mGetF 3 "points" (mVar 0)) mNil))))) (mRet (mC (.bl false))) mNext)
  (mSeq (mIfS (mOr (mTest (mOp (fEq true) (mGetF 3 "points" (mVar 0)) (mVar 1))) (mTest (mOp (fEq true) (mCB (insC 3 (fLenO m_Rows_len) (fun _ => stuck)) (mCons (mVar 0) mNil)) (mCB fLen (mCons (mVar 2) mNil))))) (mRet (mC (.bl false))) mNext)
  (mSeq (mFor (wRng1 (mCons (mC (.int 2)) mNil)) (gmName 3) (mSeq (mSet 4 (mCB (fListG 3 "_rows" m_Rows_len (fun _ => stuck)) (mCons (mVar 0) mNil)))
  (mSeq (mIfS (mTest (mOp (fEq true) (mCB fLen (mCons (mVar 4) mNil)) (mCB fLen (mCons (mVar 2) mNil)))) (mRet (mC (.bl false))) mNext)
  (mFor (wEnum (mVar 4)) (gmTup [(gmName 5), (gmName 6)]) (mIfS (mOr (mNot (mTest (mCB fIsi (mCons (mVar 6) (mCons (mC (.ty "tuple")) mNil))))) (mOr (mNot (mTest (mCall 1 m_law_ints (mCons (mCB fList (mCons (mVar 6) mNil)) mNil)))) (mTest (mOp (fEq true) (mVar 6) (mOp fIx (mVar 2) (mVar 5)))))) (mRet (mC (.bl false))) mNext)))))
  (mRet (mC (.bl true))))))
def m_law_tells : List D → M D := mFn 7 m_law_tells_b

def m_law_refuses_b : MS :=
  (mSeq (mSet 3 (mCall 3 m_law_bad (mCons (mVar 0) (mCons (mVar 1) (mCons (mVar 2) mNil)))))
  (mSeq (mSet 4 (mOp fIx (mLst (mCons (mC (.int 0)) (mCons (mC (.int 121)) (mCons (mOp fSub (mC (.int 0)) (mC (.int 1))) (mCons (mOp fAdd (mC (.int 122)) (mCall 2 m_law_next (mCons (mVar 0) (mCons (mC (.int 201)) mNil)))) mNil))))) (mCall 2 m_law_next (mCons (mVar 0) (mCons (mC (.int 4)) mNil)))))
  (mSeq (mFor (wSeq (mLst (mCons (mTup (mCons (mVar 1) (mCons (mVar 3) mNil))) (mCons (mTup (mCons (mVar 4) (mCons (mVar 3) mNil))) (mCons (mTup (mCons (mVar 4) (mCons (mVar 2) mNil))) (mCons (mTup (mCons (mC (.int 120)) (mCons (mVar 2) mNil))) (mCons (mTup (mCons (mC (.int 1)) (mCons (mLst mNil) mNil))) (mCons (mTup (mCons (mC (.int 0)) (mCons (mLst mNil) mNil))) (mCons (mTup (mCons (mVar 1) (mCons (mVar 2) mNil))) mNil))))))))) (gmTup [(gmName 5), (gmName 6)]) (mIfS (mNot (mTest (mCall 2 m_law_alike (mCons (mCall 2 m_law_made (mCons (mVar 5) (mCons (mVar 6) mNil))) (mCons (mCall 2 m_law_due (mCons (mVar 5) (mCons (mVar 6) mNil))) mNil))))) (mRet (mC (.bl false))) mNext))
  (mSeq (mSet 7 (mMake 3 3 m_Rows_init (mCons (mVar 1) (mCons (mCB fList (mCons (mVar 2) mNil)) mNil))))
  (mSeq (mSet 8 (mCall 2 m_law_more (mCons (mVar 7) (mCons (mVar 3) mNil))))
  (mSeq (mSet 9 (mCall 2 m_law_due (mCons (mVar 1) (mCons (mVar 3) mNil))))
  (mSeq (mIfS (mTest (mOp (fEq false) (mOp fIx (mVar 9) (mC (.int 0))) (mC (.str "row")))) (mRet (mAndV (mCall 2 m_law_alike (mCons (mVar 8) (mCons (mTup (mCons (mC (.str "row")) (mCons (mOp fAdd (mCB fLen (mCons (mVar 2) mNil)) (mOp fIx (mVar 9) (mC (.int 1)))) mNil))) mNil))) (mCall 3 m_law_tells (mCons (mVar 7) (mCons (mVar 1) (mCons (mVar 2) mNil)))))) mNext)
  (mSeq (mIfS (mOr (mTest (mOp (fEq true) (mOp fIx (mVar 8) (mC (.int 0))) (mC (.str "let")))) (mNot (mTest (mCall 3 m_law_tells (mCons (mOp fIx (mVar 8) (mC (.int 1))) (mCons (mVar 1) (mCons (mOp fAdd (mVar 2) (mVar 3)) mNil))))))) (mRet (mC (.bl false))) mNext)
  (mRet (mAndV (mOp (insL 3 (fEqO 3 m_Rows_eq) (fun _ _ => stuck)) (mOp fIx (mVar 8) (mC (.int 1))) (mMake 3 3 m_Rows_init (mCons (mVar 1) (mCons (mOp fAdd (mVar 2) (mVar 3)) mNil)))) (mCall 3 m_law_tells (mCons (mVar 7) (mCons (mVar 1) (mCons (mVar 2) mNil))))))))))))))
def m_law_refuses : List D → M D := mFn 10 m_law_refuses_b

def m_law_adds_b : MS :=
  (mSeq (mSet 4 (mMake 3 3 m_Rows_init (mCons (mOp fIx (mVar 1) (mC (.int 0))) (mCons (mCB fList (mCons (mOp fIx (mVar 1) (mC (.int 1))) mNil)) mNil))))
  (mSeq (mSet 5 (mMake 3 3 m_Rows_init (mCons (mOp fIx (mVar 2) (mC (.int 0))) (mCons (mCB fList (mCons (mOp fIx (mVar 2) (mC (.int 1))) mNil)) mNil))))
  (mSeq (mIfS (mTest (mVar 3)) (mSet 5 (mVar 4)) mNext)
  (mSeq (mSet 6 (mCall 2 m_law_joined (mCons (mVar 1) (mCons (mVar 2) mNil))))
  (mSeq (mSet 7 (mCall 2 m_law_sum (mCons (mVar 4) (mCons (mVar 5) mNil))))
  (mSeq (mIfS (mTest (mOp (fCmp fun i j => decide (j < i)) (mOp fIx (mVar 6) (mC (.int 0))) (mC (.int 120)))) (mIfS (mNot (mTest (mCall 2 m_law_alike (mCons (mVar 7) (mCons (mTup (mCons (mC (.str "count")) (mCons (mOp fIx (mVar 6) (mC (.int 0))) mNil))) mNil))))) (mRet (mC (.bl false))) mNext) (mSeq (mIfS (mOr (mTest (mOp (fEq true) (mOp fIx (mVar 7) (mC (.int 0))) (mC (.str "sum")))) (mNot (mTest (mCall 3 m_law_tells (mCons (mOp fIx (mVar 7) (mC (.int 1))) (mCons (mOp fIx (mVar 6) (mC (.int 0))) (mCons (mOp fIx (mVar 6) (mC (.int 1))) mNil))))))) (mRet (mC (.bl false))) mNext)
  (mIfS (mNot (mTest (mCall 5 m_law_holds (mCons (mVar 0) (mCons (mOp fIx (mVar 7) (mC (.int 1))) (mCons (mOp fIx (mVar 6) (mC (.int 0))) (mCons (mOp fIx (mVar 6) (mC (.int 1))) (mCons (mOp fIx (mVar 6) (mC (.int 2))) mNil)))))))) (mRet (mC (.bl false))) mNext)))
  (mRet (mAndV (mCall 3 m_law_tells (mCons (mVar 4) (mCons (mOp fIx (mVar 1) (mC (.int 0))) (mCons (mOp fIx (mVar 1) (mC (.int 1))) mNil)))) (mCall 3 m_law_tells (mCons (mVar 5) (mCons (mOp fIx (mVar 2) (mC (.int 0))) (mCons (mOp fIx (mVar 2) (mC (.int 1))) mNil))))))))))))
def m_law_adds : List D → M D := mFn 8 m_law_adds_b

def m_law_copies_b : MS :=
  (mSeq (mSet 2 (mCB fList (mCons (mVar 1) mNil)))
  (mSeq (mSet 3 (mMake 3 3 m_Rows_init (mCons (mVar 0) (mCons (mVar 2) mNil))))
  (mSeq (mSet 4 (mCB fList (mCons (mVar 1) mNil)))
  (mSeq (mSet 5 (mMeth 3 "with_more" 2 m_Rows_with_more (mVar 3) (mCons (mVar 4) mNil)))
  (mSeq (mIfS (mOr (mTest (mOp (fEq true) (mVar 2) (mVar 1))) (mTest (mOp (fEq true) (mVar 4) (mVar 1)))) (mRet (mC (.bl false))) mNext)
  (mSeq (mFor (wSeq (mLst (mCons (mVar 2) (mCons (mVar 4) mNil)))) (gmName 6) (mSeq (mDrop (mBM fAppend (mVar 6) (mCons (mTup (mCons (mC (.int 0)) (mCons (mC (.int 0)) (mCons (mC (.int 7)) mNil)))) mNil)))
  (mSetIx (mVar 6) (mC (.int 0)) (mTup (mCons (mC (.int 0)) (mCons (mC (.int 0)) (mCons (mC (.int 8)) mNil)))))))
  (mRet (mAndV (mCall 3 m_law_tells (mCons (mVar 3) (mCons (mVar 0) (mCons (mVar 1) mNil)))) (mCall 3 m_law_tells (mCons (mVar 5) (mCons (mVar 0) (mCons (mOp fAdd (mVar 1) (mVar 1)) mNil))))))))))))
def m_law_copies : List D → M D := mFn 7 m_law_copies_b

def m_law_b : MS :=
  (mSeq (mSet 1 (mCall 2 m_law_state (mCons (mVar 0) (mCons (mC (.int 0)) mNil))))
  (mSeq (mSet 2 (mCall 1 m_law_points (mCons (mVar 1) mNil)))
  (mSeq (mSet 3 (mOp fAdd (mOp fSub (mC (.int 121)) (mVar 2)) (mCall 2 m_law_next (mCons (mVar 1) (mCons (mC (.int 2)) mNil)))))
  (mSeq (mSet 4 (mCB fMin2 (mCons (mC (.int 120)) (mCons (mOp fIx (mLst (mCons (mVar 3) (mCons (mOp fAdd (mC (.int 1)) (mCall 2 m_law_next (mCons (mVar 1) (mCons (mC (.int 6)) mNil)))) (mCons (mOp fAdd (mC (.int 1)) (mCall 2 m_law_next (mCons (mVar 1) (mCons (mC (.int 120)) mNil)))) (mCons (mVar 3) mNil))))) (mCall 2 m_law_next (mCons (mVar 1) (mCons (mC (.int 4)) mNil)))) mNil))))
  (mSeq (mSet 5 (mCall 2 m_law_system (mCons (mCall 2 m_law_state (mCons (mVar 0) (mCons (mC (.int 1)) mNil))) (mCons (mVar 2) mNil))))
  (mSeq (mSet 6 (mCall 2 m_law_system (mCons (mCall 2 m_law_state (mCons (mVar 0) (mCons (mC (.int 2)) mNil))) (mCons (mVar 4) mNil))))
  (mSeq (mSet 7 (mOp fIx (mVar 5) (mC (.int 1))))
  (mSeq (mSet 1 (mCall 2 m_law_state (mCons (mVar 0) (mCons (mC (.int 3)) mNil))))
  (mSeq (mSet 8 (mMake 3 3 m_Rows_init (mCons (mC (.int 2)) (mCons (mLst (mCons (mTup (mCons (mC (.int 0)) (mCons (mC (.int 1)) (mCons (mC (.int 1)) mNil)))) mNil)) mNil))))
  (mSeq (mIfS (mOr (mTest (mOp (insR 3 (fInO true m_Rows_contains) (fun _ _ => stuck)) (mLst (mCons (mC (.int 0)) (mCons (mC (.int 1)) mNil))) (mVar 8))) (mOr (mTest (mOp (insR 3 (fInO false m_Rows_contains) (fun _ _ => stuck)) (mLst (mCons (mC (.int 0)) (mCons (mC (.bl true)) mNil))) (mVar 8))) (mOr (mTest (mOp (insR 3 (fInO false m_Rows_contains) (fun _ _ => stuck)) (mLst (mCons (mC (.int 0)) (mCons (mC .non) mNil))) (mVar 8))) (mOr (mTest (mOp (insR 3 (fInO false m_Rows_contains) (fun _ _ => stuck)) (mLst (mCons (mC (.int 0)) (mCons (mC (.str "1")) mNil))) (mVar 8))) (mTest (mOp (insR 3 (fInO false m_Rows_contains) (fun _ _ => stuck)) (mLst (mCons (mC (.int 0)) (mCons (mC (.int 0)) mNil))) (mVar 8))))))) (mRet (mC (.bl false))) mNext)
  (mSeq (mSet 9 (mCall 3 m_law_broken (mCons (mVar 1) (mCons (mVar 7) (mCons (mOp fIx (mVar 5) (mC (.int 2))) mNil)))))
  (mSeq (mFor (wSeq (mLst (mCons (mVar 7) (mCons (mVar 9) mNil)))) (gmName 10) (mSeq (mSet 11 (mMake 3 3 m_Rows_init (mCons (mVar 2) (mCons (mCB fList (mCons (mVar 10) mNil)) mNil))))
  (mSeq (mIfS (mOr (mNot (mTest (mCall 3 m_law_tells (mCons (mVar 11) (mCons (mVar 2) (mCons (mVar 10) mNil)))))) (mNot (mTest (mCall 5 m_law_holds (mCons (mVar 1) (mCons (mVar 11) (mCons (mVar 2) (mCons (mVar 10) (mCons (mOp fIx (mVar 5) (mC (.int 2))) mNil))))))))) (mRet (mC (.bl false))) mNext)
  (mIfS (mNot (mTest (mCall 4 m_law_compares (mCons (mVar 1) (mCons (mVar 11) (mCons (mVar 2) (mCons (mVar 10) mNil))))))) (mRet (mC (.bl false))) mNext))))
  (mSeq (mSet 1 (mCall 2 m_law_state (mCons (mVar 0) (mCons (mC (.int 4)) mNil))))
  (mSeq (mIfS (mOr (mNot (mTest (mCall 3 m_law_refuses (mCons (mVar 1) (mCons (mVar 2) (mCons (mVar 7) mNil)))))) (mNot (mTest (mCall 2 m_law_copies (mCons (mVar 2) (mCons (mVar 7) mNil)))))) (mRet (mC (.bl false))) mNext)
  (mSeq (mIfS (mOr (mNot (mTest (mCall 4 m_law_adds (mCons (mVar 1) (mCons (mVar 5) (mCons (mVar 6) (mCons (mC (.bl false)) mNil))))))) (mNot (mTest (mCall 4 m_law_adds (mCons (mVar 1) (mCons (mVar 6) (mCons (mVar 5) (mCons (mC (.bl false)) mNil)))))))) (mRet (mC (.bl false))) mNext)
  (mRet (mCall 4 m_law_adds (mCons (mVar 1) (mCons (mVar 5) (mCons (mVar 5) (mCons (mC (.bl true)) mNil)))))))))))))))))))))
def m_law : List D → M D := mFn 12 m_law_b

end K01

/-! derivations, printed by gen2.py -/
namespace K01
open PySem PySem.Spec PyProof.Rows L2 G

def topS (i : Nat) : Stmt := PySem.Challenge.pw_roomsfit_k01_rows_hold_numbers.main.body.getD i (.Pass ⟨0, 0, 0, 0⟩)
abbrev s_is_whole : Stmt := topS 5
abbrev N_is_whole : List PySem.Str := ["value"]
theorem sc_is_whole : FnScope N_is_whole ["value"] (defScope s_is_whole) := ⟨rfl, rfl, rfl, by decide +kernel, rfl, by decide +kernel, by decide +kernel⟩
theorem ok_is_whole {P : Program} {w : World} {K : PySem.W.Frag} {cls : Nat → Addr} {mg : PySem.Str → Option Value} {base : Heap} (Fu : Df K mg "is_whole" s_is_whole) (z_isinstance : mg "isinstance" = none) (z_int : mg "int" = none) (z_bool : mg "bool" = none) : Fn P w K cls mg base "is_whole" 1 m_is_whole 1 := by
  exact df_ok (N := N_is_whole) (ps := ["value"]) (m := m_is_whole_b) Fu sc_is_whole rfl rfl (fun _ _ _ _ _ _ us hl => match us, hl with | [_], _ => rfl) (fun f cdv A outer s H E hr => ⟨_,
    (pss_one (ps_ret (pe_and (pe_callB call_isi (by rfl) z_isinstance (by decide +kernel) (pa_cons (pv 0) (pa_cons (pe_bltn (v := .ty "int") (by rfl) z_int (by decide +kernel) rfl) pa_nil))) (pe_one (pe_not (pe_callB call_isi (by rfl) z_isinstance (by decide +kernel) (pa_cons (pv 0) (pa_cons (pe_bltn (v := .ty "bool") (by rfl) z_bool (by decide +kernel) rfl) pa_nil)))))))),
    (s_ret (e_and (e_call c_isi (a_cons (e_var 0) (a_cons (e_ty _) a_nil))) (e_not (e_call c_isi (a_cons (e_var 0) (a_cons (e_ty _) a_nil))))))⟩)

abbrev s_joined_point : Stmt := topS 9
abbrev N_joined_point : List PySem.Str := ["point", "moved_by"]
theorem sc_joined_point : FnScope N_joined_point ["point", "moved_by"] (defScope s_joined_point) := ⟨rfl, rfl, rfl, by decide +kernel, rfl, by decide +kernel, by decide +kernel⟩
theorem ok_joined_point {P : Program} {w : World} {K : PySem.W.Frag} {cls : Nat → Addr} {mg : PySem.Str → Option Value} {base : Heap} (Fu : Df K mg "joined_point" s_joined_point) : Fn P w K cls mg base "joined_point" 1 m_joined_point 2 := by
  exact df_ok (N := N_joined_point) (ps := ["point", "moved_by"]) (m := m_joined_point_b) Fu sc_joined_point rfl rfl (fun _ _ _ _ _ _ us hl => match us, hl with | [_, _], _ => rfl) (fun f cdv A outer s H E hr => ⟨_,
    (pss_cons (ps_if (pt_cmpR (op_eqD hr.units) (pv 0) pe_int (nomark _)) (pss_one (ps_ret pe_int)) pss_nil)
      (pss_one (ps_ret (pe_op op_addU (pv 0) (pv 1))))),
    (s_seq (s_if (t_test (e_op o_eq (e_var 0) (e_int 0))) (s_ret (e_int 0)) s_next)
      (s_ret (e_op o_add (e_var 0) (e_var 1))))⟩)

abbrev s_law_int : Stmt := topS 12
abbrev N_law_int : List PySem.Str := ["value"]
theorem sc_law_int : FnScope N_law_int ["value"] (defScope s_law_int) := ⟨rfl, rfl, rfl, by decide +kernel, rfl, by decide +kernel, by decide +kernel⟩
theorem ok_law_int {P : Program} {w : World} {K : PySem.W.Frag} {cls : Nat → Addr} {mg : PySem.Str → Option Value} {base : Heap} (Fu : Df K mg "_law_int" s_law_int) (z_isinstance : mg "isinstance" = none) (z_int : mg "int" = none) (z_bool : mg "bool" = none) : Fn P w K cls mg base "_law_int" 1 m_law_int 1 := by
  exact df_ok (N := N_law_int) (ps := ["value"]) (m := m_law_int_b) Fu sc_law_int rfl rfl (fun _ _ _ _ _ _ us hl => match us, hl with | [_], _ => rfl) (fun f cdv A outer s H E hr => ⟨_,
    (pss_one (ps_ret (pe_and (pe_callB call_isi (by rfl) z_isinstance (by decide +kernel) (pa_cons (pv 0) (pa_cons (pe_bltn (v := .ty "int") (by rfl) z_int (by decide +kernel) rfl) pa_nil))) (pe_one (pe_not (pe_callB call_isi (by rfl) z_isinstance (by decide +kernel) (pa_cons (pv 0) (pa_cons (pe_bltn (v := .ty "bool") (by rfl) z_bool (by decide +kernel) rfl) pa_nil)))))))),
    (s_ret (e_and (e_call c_isi (a_cons (e_var 0) (a_cons (e_ty _) a_nil))) (e_not (e_call c_isi (a_cons (e_var 0) (a_cons (e_ty _) a_nil))))))⟩)

abbrev s_law_state : Stmt := topS 14
abbrev N_law_state : List PySem.Str := ["script", "k", "cell", "other"]
theorem sc_law_state : FnScope N_law_state ["script", "k"] (defScope s_law_state) := ⟨rfl, rfl, rfl, by decide +kernel, rfl, by decide +kernel, by decide +kernel⟩
theorem ok_law_state {P : Program} {w : World} {K : PySem.W.Frag} {cls : Nat → Addr} {mg : PySem.Str → Option Value} {base : Heap} (Fu : Df K mg "_law_state" s_law_state) (z_len : mg "len" = none) (z_int : mg "int" = none) (z_abs : mg "abs" = none) : Fn P w K cls mg base "_law_state" 1 m_law_state 2 := by
  exact df_ok (N := N_law_state) (ps := ["script", "k"]) (m := m_law_state_b) Fu sc_law_state rfl rfl (fun _ _ _ _ _ _ us hl => match us, hl with | [_, _], _ => rfl) (fun f cdv A outer s H E hr => ⟨_,
    (pss_cons (ps_set (i := 2) sc_law_state.nd rfl (Or.inl rfl) pe_int)
      (pss_cons (ps_if (pt_cmpR op_lt (pv 1) (pe_callB cr_len (by rfl) z_len (by decide +kernel) (pa_cons (pv 0) pa_nil)) (nomark _)) (pss_one (ps_set (i := 2) sc_law_state.nd rfl (Or.inl rfl) (pe_callB cr_abs (by rfl) z_abs (by decide +kernel) (pa_cons (pe_callTy cr_int (by rfl) z_int (by decide +kernel) (pa_cons (pe_ix ix_seq (pv 0) (pv 1) (fun _ _ => rfl)) pa_nil)) pa_nil)))) pss_nil)
      (pss_cons (ps_if (pt_cmpR op_ge (pv 2) pe_int (nomark _)) (pss_one (ps_ret (pe_lst (pa_cons (pv 2) (pa_cons pe_int (pa_cons pe_int pa_nil)))))) pss_nil)
      (pss_cons (ps_for PassesOwn.never rfl (pi_seq (pe_slice sl_list (pv 0) po_none (po_some pe_int))) (pg_name (i := 3) sc_law_state.nd rfl (Or.inl rfl)) (pss_one (ps_set (i := 2) sc_law_state.nd rfl (Or.inl rfl) (pe_op op_modN (pe_callTy cr_int (by rfl) z_int (by decide +kernel) (pa_cons (pe_op op_addU (pe_op op_addU (pe_op op_mulU (pv 2) pe_int) (pe_callB cr_abs (by rfl) z_abs (by decide +kernel) (pa_cons (pe_callTy cr_int (by rfl) z_int (by decide +kernel) (pa_cons (pv 3) pa_nil)) pa_nil))) (pv 1)) pa_nil)) pe_int))))
      (pss_one (ps_ret (pe_lst (pa_cons (pe_op op_addU (pv 2) (pe_op op_mulU pe_int (pv 1))) (pa_cons pe_int (pa_cons pe_int pa_nil)))))))))),
    (s_seq (s_set trivial (e_int 0))
      (s_seq (s_if (t_test (e_op (o_cmp fun i j => decide (i < j)) (e_var 1) (e_call c_len (a_cons (e_var 0) a_nil)))) (s_set trivial (e_call c_abs (a_cons (e_call c_int (a_cons (e_op o_ix (e_var 0) (e_var 1)) a_nil)) a_nil))) s_next)
      (s_seq (s_if (t_test (e_op (o_cmp fun i j => decide (j ≤ i)) (e_var 2) (e_int 1000000000000000000))) (s_ret (e_lst (a_cons (e_var 2) (a_cons (e_int 0) (a_cons (e_int 1) a_nil))))) s_next)
      (s_seq (s_for (i_seq (e_slice sl_lst (e_var 0) o_none (o_some (e_int 63)))) (g_name 3 trivial) (s_set trivial (e_op o_mod (e_call c_int (a_cons (e_op o_add (e_op o_add (e_op o_mul (e_var 2) (e_int 31)) (e_call c_abs (a_cons (e_call c_int (a_cons (e_var 3) a_nil)) a_nil))) (e_var 1)) a_nil)) (e_int 999999999989))))
      (s_ret (e_lst (a_cons (e_op o_add (e_var 2) (e_op o_mul (e_int 101) (e_var 1))) (a_cons (e_int 0) (a_cons (e_int 0) a_nil)))))))))⟩)

abbrev s_law_next : Stmt := topS 15
abbrev N_law_next : List PySem.Str := ["state", "size", "value", "mixed"]
theorem sc_law_next : FnScope N_law_next ["state", "size"] (defScope s_law_next) := ⟨rfl, rfl, rfl, by decide +kernel, rfl, by decide +kernel, by decide +kernel⟩
theorem ok_law_next {P : Program} {w : World} {K : PySem.W.Frag} {cls : Nat → Addr} {mg : PySem.Str → Option Value} {base : Heap} (Fu : Df K mg "_law_next" s_law_next) (z_int : mg "int" = none) : Fn P w K cls mg base "_law_next" 1 m_law_next 2 := by
  exact df_ok (N := N_law_next) (ps := ["state", "size"]) (m := m_law_next_b) Fu sc_law_next rfl rfl (fun _ _ _ _ _ _ us hl => match us, hl with | [_, _], _ => rfl) (fun f cdv A outer s H E hr => ⟨_,
    (pss_cons (ps_asg (pe_op op_addU (pe_ix ix_seq (pv 0) pe_int (fun _ _ => rfl)) pe_int) (pg_sub (pv 0) pe_int set_list))
      (pss_cons (ps_if (PW.pt (pw_and (pt_cmpR (op_eqD hr.units) (pe_ix ix_seq (pv 0) pe_int (fun _ _ => rfl)) pe_int (nomark _)) (pw_and1 (pt_cmpR op_gt (pe_ix ix_seq (pv 0) pe_int (fun _ _ => rfl)) pe_int (nomark _))))) (pss_cons (ps_set (i := 2) sc_law_next.nd rfl (Or.inl rfl) (pe_op op_modN (pe_callTy cr_int (by rfl) z_int (by decide +kernel) (pa_cons (pe_ix ix_seq (pv 0) pe_int (fun _ _ => rfl)) pa_nil)) (pv 1)))
      (pss_cons (ps_asg (pe_op op_divU (pe_callTy cr_int (by rfl) z_int (by decide +kernel) (pa_cons (pe_ix ix_seq (pv 0) pe_int (fun _ _ => rfl)) pa_nil)) (pv 1)) (pg_sub (pv 0) pe_int set_list))
      (pss_one (ps_ret (pv 2))))) pss_nil)
      (pss_cons (ps_set (i := 3) sc_law_next.nd rfl (Or.inl rfl) (pe_op op_modN (pe_callTy cr_int (by rfl) z_int (by decide +kernel) (pa_cons (pe_op op_addU (pe_op op_addU (pe_ix ix_seq (pv 0) pe_int (fun _ _ => rfl)) (pe_op op_mulU pe_int (pe_ix ix_seq (pv 0) pe_int (fun _ _ => rfl)))) pe_int) pa_nil)) pe_int))
      (pss_cons (ps_set (i := 3) sc_law_next.nd rfl (Or.inl rfl) (pe_op op_modN (pe_callTy cr_int (by rfl) z_int (by decide +kernel) (pa_cons (pe_op op_mulU (pv 3) (pe_op op_addU (pv 3) pe_int)) pa_nil)) pe_int))
      (pss_cons (ps_set (i := 3) sc_law_next.nd rfl (Or.inl rfl) (pe_op op_modN (pe_callTy cr_int (by rfl) z_int (by decide +kernel) (pa_cons (pe_op op_addU (pe_op op_mulU (pv 3) (pe_op op_addU (pv 3) pe_int)) (pe_op op_mulU pe_int (pe_ix ix_seq (pv 0) pe_int (fun _ _ => rfl)))) pa_nil)) pe_int))
      (pss_one (ps_ret (pe_op op_modN (pe_callTy cr_int (by rfl) z_int (by decide +kernel) (pa_cons (pe_op op_divU (pv 3) pe_int) pa_nil)) (pv 1))))))))),
    (s_seq (s_setIx (e_op o_add (e_op o_ix (e_var 0) (e_int 1)) (e_int 1)) (e_var 0) (e_int 1))
      (s_seq (s_if (t_and (t_test (e_op o_eq (e_op o_ix (e_var 0) (e_int 2)) (e_int 1))) (t_test (e_op (o_cmp fun i j => decide (j < i)) (e_op o_ix (e_var 0) (e_int 0)) (e_int 0)))) (s_seq (s_set trivial (e_op o_mod (e_call c_int (a_cons (e_op o_ix (e_var 0) (e_int 0)) a_nil)) (e_var 1)))
      (s_seq (s_setIx (e_op o_div (e_call c_int (a_cons (e_op o_ix (e_var 0) (e_int 0)) a_nil)) (e_var 1)) (e_var 0) (e_int 0))
      (s_ret (e_var 2)))) s_next)
      (s_seq (s_set trivial (e_op o_mod (e_call c_int (a_cons (e_op o_add (e_op o_add (e_op o_ix (e_var 0) (e_int 0)) (e_op o_mul (e_int 7919) (e_op o_ix (e_var 0) (e_int 1)))) (e_int 13)) a_nil)) (e_int 2147483647)))
      (s_seq (s_set trivial (e_op o_mod (e_call c_int (a_cons (e_op o_mul (e_var 3) (e_op o_add (e_var 3) (e_int 48271))) a_nil)) (e_int 2147483629)))
      (s_seq (s_set trivial (e_op o_mod (e_call c_int (a_cons (e_op o_add (e_op o_mul (e_var 3) (e_op o_add (e_var 3) (e_int 69621))) (e_op o_mul (e_int 31) (e_op o_ix (e_var 0) (e_int 1)))) a_nil)) (e_int 2147483647)))
      (s_ret (e_op o_mod (e_call c_int (a_cons (e_op o_div (e_var 3) (e_int 9)) a_nil)) (e_var 1))))))))⟩)

abbrev s_law_keeps : Stmt := topS 18
abbrev N_law_keeps : List PySem.Str := ["points", "rows", "numbers", "row"]
theorem sc_law_keeps : FnScope N_law_keeps ["points", "rows", "numbers"] (defScope s_law_keeps) := ⟨rfl, rfl, rfl, by decide +kernel, rfl, by decide +kernel, by decide +kernel⟩
theorem ok_law_keeps {P : Program} {w : World} {K : PySem.W.Frag} {cls : Nat → Addr} {mg : PySem.Str → Option Value} {base : Heap} (Fu : Df K mg "_law_keeps" s_law_keeps) (z_len : mg "len" = none) : Fn P w K cls mg base "_law_keeps" 1 m_law_keeps 3 := by
  exact df_ok (N := N_law_keeps) (ps := ["points", "rows", "numbers"]) (m := m_law_keeps_b) Fu sc_law_keeps rfl rfl (fun _ _ _ _ _ _ us hl => match us, hl with | [_, _, _], _ => rfl) (fun f cdv A outer s H E hr => ⟨_,
    (pss_cons (ps_if (PW.pt (pw_or (pt_cmpR (op_neD hr.units) (pe_callB cr_len (by rfl) z_len (by decide +kernel) (pa_cons (pv 2) pa_nil)) (pv 0) (nomark _)) (pw_or1 (pt_cmpR (op_neD hr.units) (pe_ix ix_seq (pv 2) pe_int (fun _ _ => rfl)) pe_int (nomark _))))) (pss_one (ps_ret pe_bl)) pss_nil)
      (pss_one (ps_ret (pe_cmpR (op_eqD hr.units) (pe_callB cr_len (by rfl) z_len (by decide +kernel) (pa_cons (pe_lc (own := [("row", 3)]) rfl sc_law_keeps.nd (pi_seq (pv 1)) (blkOk_by (own := [("row", 3)]) (N := N_law_keeps) (sc := defScope s_law_keeps) (by decide +kernel)) (fun _ _ _ _ _ => (pg_name (i := 3) sc_law_keeps.nd rfl (Or.inl rfl))) (fun _ _ _ _ _ => (pts_one (pt_cmpR op_lt (pe_op op_sub (pe_ix ix_seq (pv 2) (pe_ix ix_seq (pv 3) pe_int (fun _ _ => rfl)) (fun _ _ => rfl)) (pe_ix ix_seq (pv 2) (pe_ix ix_seq (pv 3) pe_int (fun _ _ => rfl)) (fun _ _ => rfl))) (pe_ix ix_seq (pv 3) pe_int (fun _ _ => rfl)) (nomark _)))) (fun _ _ _ _ _ => (pv 3))) pa_nil)) pe_int (nomark _))))),
    (s_seq (s_if (t_or (t_test (e_op o_ne (e_call c_len (a_cons (e_var 2) a_nil)) (e_var 0))) (t_test (e_op o_ne (e_op o_ix (e_var 2) (e_int 0)) (e_int 0)))) (s_ret (e_bl false)) s_next)
      (s_ret (e_op o_eq (e_call c_len (a_cons (e_lc (i_seq (e_var 1)) (g_name 3 trivial) (t_test (e_op (o_cmp fun i j => decide (i < j)) (e_op o_sub (e_op o_ix (e_var 2) (e_op o_ix (e_var 3) (e_int 1))) (e_op o_ix (e_var 2) (e_op o_ix (e_var 3) (e_int 0)))) (e_op o_ix (e_var 3) (e_int 2)))) (e_var 3) (gw_name (by decide)) (fun _ _ => trivial)) a_nil)) (e_int 0))))⟩)

abbrev s_law_due : Stmt := topS 24
abbrev N_law_due : List PySem.Str := ["points", "rows", "place", "row"]
theorem sc_law_due : FnScope N_law_due ["points", "rows"] (defScope s_law_due) := ⟨rfl, rfl, rfl, by decide +kernel, rfl, by decide +kernel, by decide +kernel⟩
theorem ok_law_due {P : Program} {w : World} {K : PySem.W.Frag} {cls : Nat → Addr} {mg : PySem.Str → Option Value} {base : Heap} (Fu : Df K mg "_law_due" s_law_due) (z_enumerate : mg "enumerate" = none) : Fn P w K cls mg base "_law_due" 1 m_law_due 2 := by
  exact df_ok (N := N_law_due) (ps := ["points", "rows"]) (m := m_law_due_b) Fu sc_law_due rfl rfl (fun _ _ _ _ _ _ us hl => match us, hl with | [_, _], _ => rfl) (fun f cdv A outer s H E hr => ⟨_,
    (pss_cons (ps_if (pt_not (pt_chain op_le op_le pe_int (pv 0) pe_int)) (pss_one (ps_ret (pe_tup (pa_cons pe_str (pa_cons (pv 0) pa_nil))))) pss_nil)
      (pss_cons (ps_for PassesOwn.never rfl (pi_enum (by rfl) z_enumerate (pa_cons (pv 1) pa_nil)) (pg_seq rfl (pgs_cons (pg_name (i := 2) sc_law_due.nd rfl (Or.inl rfl)) (pgs_cons (pg_name (i := 3) sc_law_due.nd rfl (Or.inl rfl)) pgs_nil))) (pss_one (ps_if (pt_not (PW.pt (pw_and (pt_chain op_le op_lt pe_int (pe_ix ix_seq (pv 3) pe_int (fun _ _ => rfl)) (pv 0)) (pw_and1 (pt_chain op_le op_lt pe_int (pe_ix ix_seq (pv 3) pe_int (fun _ _ => rfl)) (pv 0)))))) (pss_one (ps_ret (pe_tup (pa_cons pe_str (pa_cons (pv 2) pa_nil))))) pss_nil)))
      (pss_one (ps_ret (pe_tup (pa_cons pe_str (pa_cons pe_int pa_nil))))))),
    (s_seq (s_if (t_not (t_test (e_chain (o_cmp fun i j => decide (i ≤ j)) (o_cmp fun i j => decide (i ≤ j)) (e_int 1) (e_var 0) (e_int 120)))) (s_ret (e_tup (a_cons (e_str _) (a_cons (e_var 0) a_nil)))) s_next)
      (s_seq (s_for (i_enum (e_var 1)) (g_tup (g_cons (g_name 2 trivial) (g_cons (g_name 3 trivial) g_nil)) (gmAll_len _)) (s_if (t_not (t_and (t_test (e_chain (o_cmp fun i j => decide (i ≤ j)) (o_cmp fun i j => decide (i < j)) (e_int 0) (e_op o_ix (e_var 3) (e_int 0)) (e_var 0))) (t_test (e_chain (o_cmp fun i j => decide (i ≤ j)) (o_cmp fun i j => decide (i < j)) (e_int 0) (e_op o_ix (e_var 3) (e_int 1)) (e_var 0))))) (s_ret (e_tup (a_cons (e_str _) (a_cons (e_var 2) a_nil)))) s_next))
      (s_ret (e_tup (a_cons (e_str _) (a_cons (e_int 0) a_nil))))))⟩)

abbrev s_law_joined : Stmt := topS 31
abbrev N_law_joined : List PySem.Str := ["first", "second", "moved", "rows", "i", "j", "c"]
theorem sc_law_joined : FnScope N_law_joined ["first", "second"] (defScope s_law_joined) := ⟨rfl, rfl, rfl, by decide +kernel, rfl, by decide +kernel, by decide +kernel⟩
theorem ok_law_joined {P : Program} {w : World} {K : PySem.W.Frag} {cls : Nat → Addr} {mg : PySem.Str → Option Value} {base : Heap} (Fu : Df K mg "_law_joined" s_law_joined) (z_list : mg "list" = none) (z_int : mg "int" = none) : Fn P w K cls mg base "_law_joined" 1 m_law_joined 2 := by
  exact df_ok (N := N_law_joined) (ps := ["first", "second"]) (m := m_law_joined_b) Fu sc_law_joined rfl rfl (fun _ _ _ _ _ _ us hl => match us, hl with | [_, _], _ => rfl) (fun f cdv A outer s H E hr => ⟨_,
    (pss_cons (ps_set (i := 2) sc_law_joined.nd rfl (Or.inl rfl) (pe_op op_sub (pe_ix ix_seq (pv 0) pe_int (fun _ _ => rfl)) pe_int))
      (pss_cons (ps_set (i := 3) sc_law_joined.nd rfl (Or.inl rfl) (pe_callTy cr_list (by rfl) z_list (by decide +kernel) (pa_cons (pe_ix ix_seq (pv 0) pe_int (fun _ _ => rfl)) pa_nil)))
      (pss_cons (ps_for PassesOwn.never rfl (pi_seq (pe_ix ix_seq (pv 1) pe_int (fun _ _ => rfl))) (pg_seq rfl (pgs_cons (pg_name (i := 4) sc_law_joined.nd rfl (Or.inl rfl)) (pgs_cons (pg_name (i := 5) sc_law_joined.nd rfl (Or.inl rfl)) (pgs_cons (pg_name (i := 6) sc_law_joined.nd rfl (Or.inl rfl)) pgs_nil)))) (pss_one (ps_expr (pe_bm PySem.F.plainAttrs_list PySem.F.slot_list_append PySem.F.type_list_append mt_append (pv 3) (pa_cons (pe_tup (pa_cons (pe_op op_addU (pv 4) (pe_op op_mulU (pv 2) (pe_callTy cr_int (by rfl) z_int (by decide +kernel) (pa_cons (pe_cmpR op_gt (pv 4) pe_int (nomark _)) pa_nil)))) (pa_cons (pe_op op_addU (pv 5) (pe_op op_mulU (pv 2) (pe_callTy cr_int (by rfl) z_int (by decide +kernel) (pa_cons (pe_cmpR op_gt (pv 5) pe_int (nomark _)) pa_nil)))) (pa_cons (pv 6) pa_nil)))) pa_nil)))))
      (pss_one (ps_ret (pe_lst (pa_cons (pe_op op_sub (pe_op op_addU (pe_ix ix_seq (pv 0) pe_int (fun _ _ => rfl)) (pe_ix ix_seq (pv 1) pe_int (fun _ _ => rfl))) pe_int) (pa_cons (pv 3) (pa_cons (pe_op op_addU (pe_ix ix_seq (pv 0) pe_int (fun _ _ => rfl)) (pe_slice sl_list (pe_ix ix_seq (pv 1) pe_int (fun _ _ => rfl)) (po_some pe_int) po_none)) pa_nil))))))))),
    (s_seq (s_set trivial (e_op o_sub (e_op o_ix (e_var 0) (e_int 0)) (e_int 1)))
      (s_seq (s_set trivial (e_call c_list (a_cons (e_op o_ix (e_var 0) (e_int 1)) a_nil)))
      (s_seq (s_for (i_seq (e_op o_ix (e_var 1) (e_int 1))) (g_tup (g_cons (g_name 4 trivial) (g_cons (g_name 5 trivial) (g_cons (g_name 6 trivial) g_nil))) (gmAll_len _)) (s_drop (e_bm m_append (e_var 3) (a_cons (e_tup (a_cons (e_op o_add (e_var 4) (e_op o_mul (e_var 2) (e_call c_int (a_cons (e_op (o_cmp fun i j => decide (j < i)) (e_var 4) (e_int 0)) a_nil)))) (a_cons (e_op o_add (e_var 5) (e_op o_mul (e_var 2) (e_call c_int (a_cons (e_op (o_cmp fun i j => decide (j < i)) (e_var 5) (e_int 0)) a_nil)))) (a_cons (e_var 6) a_nil)))) a_nil) append_none)))
      (s_ret (e_lst (a_cons (e_op o_sub (e_op o_add (e_op o_ix (e_var 0) (e_int 0)) (e_op o_ix (e_var 1) (e_int 0))) (e_int 1)) (a_cons (e_var 3) (a_cons (e_op o_add (e_op o_ix (e_var 0) (e_int 2)) (e_slice sl_lst (e_op o_ix (e_var 1) (e_int 2)) (o_some (e_int 1)) o_none)) a_nil))))))))⟩)

abbrev s_Rows_init : Stmt := (clsBody (topS 10)).getD 0 (.Pass ⟨0, 0, 0, 0⟩)
abbrev N_Rows_init : List PySem.Str := ["self", "points", "rows", "index", "row"]
theorem sc_Rows_init : FnScope N_Rows_init ["self", "points", "rows"] (defScope s_Rows_init) := ⟨rfl, rfl, rfl, by decide +kernel, rfl, by decide +kernel, by decide +kernel⟩
theorem ok_Rows_init {P : Program} {w : World} {K : PySem.W.Frag} {cls : Nat → Addr} {mg : PySem.Str → Option Value} {base : Heap} {f : Addr} {fd : FuncData} (Fu : Fun K "__init__" "Rows.__init__" s_Rows_init f fd) (mc_MOST_POINTS : ∃ t, mg "MOST_POINTS" = some (.int 120 t)) (T_BadCount : GX.Er P K (cls 1) ["number"]) (g_BadCount : mg "BadCount" = some (.ref (cls 1))) (k_BadCount : PySem.W.keepIn K (.ref (cls 1)) = true) (z_super : mg "super" = none) (z_enumerate : mg "enumerate" = none) (T_BadRow : GX.Er P K (cls 2) ["index"]) (g_BadRow : mg "BadRow" = some (.ref (cls 2))) (k_BadRow : PySem.W.keepIn K (.ref (cls 2)) = true) (cl_Rows : Cls K (cls 3)) (na_Rows_points : NoAttr K (cls 3) "points") (na_Rows__rows : NoAttr K (cls 3) "_rows") (z_list : mg "list" = none) : FnOk P w K mg base (L2N.CX P w) 1 f fd ["self", "points", "rows"] (spX K cls m_Rows_init 3) := by
  obtain ⟨ct_MOST_POINTS, cg_MOST_POINTS⟩ := mc_MOST_POINTS
  exact fun_okX (N := N_Rows_init) (m := m_Rows_init_b) Fu sc_Rows_init rfl rfl (fun cdv A outer s H E hr => ⟨_,
    (pss_cons (ps_if (pt_not (pt_chain op_le op_le pe_int (pv 1) (pe_glob (v := .int 120) (by rfl) cg_MOST_POINTS ⟨_, rfl⟩))) (pss_one (GT.ps_er rfl (L2N.takes_of rfl rfl rfl rfl) (GT.pmk_er T_BadCount g_BadCount k_BadCount z_super hr (pa_cons (pv 1) pa_nil)))) pss_nil)
      (pss_cons (ps_for (L2.passes_of rfl) rfl (pi_enum (by rfl) z_enumerate (pa_cons (pv 2) pa_nil)) (pg_seq rfl (pgs_cons (pg_name (i := 3) sc_Rows_init.nd rfl (Or.inl rfl)) (pgs_cons (pg_name (i := 4) sc_Rows_init.nd rfl (Or.inl rfl)) pgs_nil))) (pss_one (ps_if (pt_not (PW.pt (pw_and (pt_chain op_le op_lt pe_int (pe_ix ix_seq (pv 4) pe_int (fun _ _ => rfl)) (pv 1)) (pw_and1 (pt_chain op_le op_lt pe_int (pe_ix ix_seq (pv 4) pe_int (fun _ _ => rfl)) (pv 1)))))) (pss_one (GT.ps_er rfl (L2N.takes_of rfl rfl rfl rfl) (GT.pmk_er T_BadRow g_BadRow k_BadRow z_super hr (pa_cons (pv 3) pa_nil)))) pss_nil)))
      (pss_cons (ps_fld (pv 0) (pv 1) rfl)
      (pss_one (ps_fld (pv 0) (pe_callTy cr_list (by rfl) z_list (by decide +kernel) (pa_cons (pv 2) pa_nil)) rfl))))),
    (s_seq (s_if (t_not (t_test (e_chain (o_cmp fun i j => decide (i ≤ j)) (o_cmp fun i j => decide (i ≤ j)) (e_int 1) (e_var 1) (e_int 120)))) (s_raise rfl (a_cons (e_var 1) a_nil)) s_next)
      (s_seq (s_for (i_enum (e_var 2)) (g_tup (g_cons (g_name 3 trivial) (g_cons (g_name 4 trivial) g_nil)) (gmAll_len _)) (s_if (t_not (t_and (t_test (e_chain (o_cmp fun i j => decide (i ≤ j)) (o_cmp fun i j => decide (i < j)) (e_int 0) (e_op o_ix (e_var 4) (e_int 0)) (e_var 1))) (t_test (e_chain (o_cmp fun i j => decide (i ≤ j)) (o_cmp fun i j => decide (i < j)) (e_int 0) (e_op o_ix (e_var 4) (e_int 1)) (e_var 1))))) (s_raise rfl (a_cons (e_var 3) a_nil)) s_next))
      (s_seq (s_setF cl_Rows na_Rows_points (e_var 0) (e_var 1))
      (s_setF cl_Rows na_Rows__rows (e_var 0) (e_call c_list (a_cons (e_var 2) a_nil))))))⟩)

abbrev s_Rows_len : Stmt := (clsBody (topS 10)).getD 1 (.Pass ⟨0, 0, 0, 0⟩)
abbrev N_Rows_len : List PySem.Str := ["self"]
theorem sc_Rows_len : FnScope N_Rows_len ["self"] (defScope s_Rows_len) := ⟨rfl, rfl, rfl, by decide +kernel, rfl, by decide +kernel, by decide +kernel⟩
theorem ok_Rows_len {P : Program} {w : World} {K : PySem.W.Frag} {cls : Nat → Addr} {mg : PySem.Str → Option Value} {base : Heap} {f : Addr} {fd : FuncData} (Fu : Fun K "__len__" "Rows.__len__" s_Rows_len f fd) (cl_Rows : Cls K (cls 3)) (na_Rows__rows : NoAttr K (cls 3) "_rows") (z_len : mg "len" = none) : FnOk P w K mg base CX0 1 f fd ["self"] (spM K cls m_Rows_len 1) := by
  exact fun_ok (N := N_Rows_len) (m := m_Rows_len_b) Fu sc_Rows_len rfl rfl (fun cdv A outer s H E hr => ⟨_,
    (pss_one (ps_ret (pe_callB cr_len (by rfl) z_len (by decide +kernel) (pa_cons (pe_fld (pv 0) rfl) pa_nil)))),
    (s_ret (e_call c_len (a_cons (e_getF cl_Rows na_Rows__rows (e_var 0)) a_nil)))⟩)

abbrev s_Rows_iter : Stmt := (clsBody (topS 10)).getD 2 (.Pass ⟨0, 0, 0, 0⟩)
abbrev N_Rows_iter : List PySem.Str := ["self"]
theorem sc_Rows_iter : FnScope N_Rows_iter ["self"] (defScope s_Rows_iter) := ⟨rfl, rfl, rfl, by decide +kernel, rfl, by decide +kernel, by decide +kernel⟩
theorem ok_Rows_iter {P : Program} {w : World} {K : PySem.W.Frag} {cls : Nat → Addr} {mg : PySem.Str → Option Value} {base : Heap} {f : Addr} {fd : FuncData} (Fu : Fun K "__iter__" "Rows.__iter__" s_Rows_iter f fd) (cl_Rows : Cls K (cls 3)) (na_Rows__rows : NoAttr K (cls 3) "_rows") (z_iter : mg "iter" = none) : FnOk P w K mg base CX0 1 f fd ["self"] (GT.spIt K (cls 3) "_rows") :=
  GT.iter_ok cl_Rows na_Rows__rows z_iter Fu sc_Rows_iter (fun cdv A outer s H E => ⟨_, pss_one (ps_ret (pe_callB call_iterL (by rfl) z_iter (by decide +kernel) (pa_cons (pe_fld (pv 0) rfl) pa_nil))), rfl⟩)

abbrev s_Rows_eq : Stmt := (clsBody (topS 10)).getD 3 (.Pass ⟨0, 0, 0, 0⟩)
abbrev N_Rows_eq : List PySem.Str := ["self", "other"]
theorem sc_Rows_eq : FnScope N_Rows_eq ["self", "other"] (defScope s_Rows_eq) := ⟨rfl, rfl, rfl, by decide +kernel, rfl, by decide +kernel, by decide +kernel⟩
theorem ok_Rows_eq {P : Program} {w : World} {K : PySem.W.Frag} {cls : Nat → Addr} {mg : PySem.Str → Option Value} {base : Heap} {f : Addr} {fd : FuncData} (Fu : Fun K "__eq__" "Rows.__eq__" s_Rows_eq f fd) (z_isinstance : mg "isinstance" = none) (g_Rows : mg "Rows" = some (.ref (cls 3))) (it_Rows : ∀ T ∈ ["NoneType", "bool", "int", "str", "tuple", "list"], PySem.W.kitOne K (.type T) (.ref (cls 3)) = some false) (ic_Rows : ∀ k b, tb [none, none, none, some true] k = some b → InF K (cls k) ∧ PySem.W.kitOne K (.ref (cls k)) (.ref (cls 3)) = some b) (cl_Rows : Cls K (cls 3)) (na_Rows_points : NoAttr K (cls 3) "points") (na_Rows__rows : NoAttr K (cls 3) "_rows") : FnOk P w K mg base CX0 1 f fd ["self", "other"] (spM K cls m_Rows_eq 2) := by
  exact fun_ok (N := N_Rows_eq) (m := m_Rows_eq_b) Fu sc_Rows_eq rfl rfl (fun cdv A outer s H E hr => ⟨_,
    (pss_one (ps_ret (pe_and (pe_callB call_isi (by rfl) z_isinstance (by decide +kernel) (pa_cons (pv 1) (pa_cons (pe_glob (v := .ref (cls 3)) (by rfl) g_Rows rfl) pa_nil))) (pe_and (pe_cmpR (op_eqD hr.units) (pe_fld (pv 0) rfl) (pe_fld (pv 1) rfl) (nomark _)) (pe_one (pe_cmpR (op_eqD hr.units) (pe_fld (pv 0) rfl) (pe_fld (pv 1) rfl) (nomark _))))))),
    (s_ret (e_and (e_isC it_Rows ic_Rows (e_var 1)) (e_and (e_op o_eq (e_getF cl_Rows na_Rows_points (e_var 0)) (e_getF cl_Rows na_Rows_points (e_var 1))) (e_op o_eq (e_getF cl_Rows na_Rows__rows (e_var 0)) (e_getF cl_Rows na_Rows__rows (e_var 1))))))⟩)

abbrev s_is_whole_list : Stmt := topS 6
abbrev N_is_whole_list : List PySem.Str := ["values", "value"]
theorem sc_is_whole_list : FnScope N_is_whole_list ["values"] (defScope s_is_whole_list) := ⟨rfl, rfl, rfl, by decide +kernel, rfl, by decide +kernel, by decide +kernel⟩
theorem ok_is_whole_list {P : Program} {w : World} {K : PySem.W.Frag} {cls : Nat → Addr} {mg : PySem.Str → Option Value} {base : Heap} (Fu : Df K mg "is_whole_list" s_is_whole_list) (z_isinstance : mg "isinstance" = none) (z_list : mg "list" = none) (h_is_whole : Fn P w K cls mg base "is_whole" 1 m_is_whole 1) : Fn P w K cls mg base "is_whole_list" 2 m_is_whole_list 1 := by
  obtain ⟨a_is_whole, fd_is_whole, ps_is_whole, G_is_whole, g_is_whole, kp_is_whole, b_is_whole⟩ := h_is_whole.ex
  exact df_ok (N := N_is_whole_list) (ps := ["values"]) (m := m_is_whole_list_b) Fu sc_is_whole_list rfl rfl (fun _ _ _ _ _ _ us hl => match us, hl with | [_], _ => rfl) (fun f cdv A outer s H E hr => ⟨_,
    (pss_cons (ps_if (pt_not (pt_val (pe_callB call_isi (by rfl) z_isinstance (by decide +kernel) (pa_cons (pv 0) (pa_cons (pe_bltn (v := .ty "list") (by rfl) z_list (by decide +kernel) rfl) pa_nil))))) (pss_one (ps_ret pe_bl)) pss_nil)
      (pss_cons (ps_for PassesOwn.never rfl (pi_seq (pv 0)) (pg_name (i := 1) sc_is_whole_list.nd rfl (Or.inl rfl)) (pss_one (ps_if (pt_not (pt_val (pe_call G_is_whole (hr.mono (by decide)) (by rfl) g_is_whole kp_is_whole b_is_whole .nil pass0 (pa_cons (pv 1) pa_nil)))) (pss_one (ps_ret pe_bl)) pss_nil)))
      (pss_one (ps_ret pe_bl)))),
    (s_seq (s_if (t_not (t_B (e_call c_isi (a_cons (e_var 0) (a_cons (e_ty _) a_nil))))) (s_ret (e_bl false)) s_next)
      (s_seq (s_for (i_seq (e_var 0)) (g_name 1 trivial) (s_if (t_not (t_B (e_own (a_cons (e_var 1) a_nil)))) (s_ret (e_bl false)) s_next))
      (s_ret (e_bl true))))⟩)

abbrev s_law_ints : Stmt := topS 13
abbrev N_law_ints : List PySem.Str := ["value", "x"]
theorem sc_law_ints : FnScope N_law_ints ["value"] (defScope s_law_ints) := ⟨rfl, rfl, rfl, by decide +kernel, rfl, by decide +kernel, by decide +kernel⟩
theorem ok_law_ints {P : Program} {w : World} {K : PySem.W.Frag} {cls : Nat → Addr} {mg : PySem.Str → Option Value} {base : Heap} (Fu : Df K mg "_law_ints" s_law_ints) (z_isinstance : mg "isinstance" = none) (z_list : mg "list" = none) (h_law_int : Fn P w K cls mg base "_law_int" 1 m_law_int 1) (z_len : mg "len" = none) : Fn P w K cls mg base "_law_ints" 2 m_law_ints 1 := by
  obtain ⟨a_law_int, fd_law_int, ps_law_int, G_law_int, g_law_int, kp_law_int, b_law_int⟩ := h_law_int.ex
  exact df_ok (N := N_law_ints) (ps := ["value"]) (m := m_law_ints_b) Fu sc_law_ints rfl rfl (fun _ _ _ _ _ _ us hl => match us, hl with | [_], _ => rfl) (fun f cdv A outer s H E hr => ⟨_,
    (pss_cons (ps_if (pt_not (pt_val (pe_callB call_isi (by rfl) z_isinstance (by decide +kernel) (pa_cons (pv 0) (pa_cons (pe_bltn (v := .ty "list") (by rfl) z_list (by decide +kernel) rfl) pa_nil))))) (pss_one (ps_ret pe_bl)) pss_nil)
      (pss_one (ps_ret (pe_cmpR (op_eqD hr.units) (pe_callB cr_len (by rfl) z_len (by decide +kernel) (pa_cons (pe_lc (own := [("x", 1)]) rfl sc_law_ints.nd (pi_seq (pv 0)) (blkOk_by (own := [("x", 1)]) (N := N_law_ints) (sc := defScope s_law_ints) (by decide +kernel)) (fun _ _ _ _ _ => (pg_name (i := 1) sc_law_ints.nd rfl (Or.inl rfl))) (fun _ _ _ _ _ => (pts_one (pt_not (pt_val (pe_call G_law_int (hr.mono (by decide)) (by rfl) g_law_int kp_law_int b_law_int .nil pass0 (pa_cons (pv 1) pa_nil)))))) (fun _ _ _ _ _ => (pv 1))) pa_nil)) pe_int (nomark _))))),
    (s_seq (s_if (t_not (t_B (e_call c_isi (a_cons (e_var 0) (a_cons (e_ty _) a_nil))))) (s_ret (e_bl false)) s_next)
      (s_ret (e_op o_eq (e_call c_len (a_cons (e_lc (i_seq (e_var 0)) (g_name 1 trivial) (t_not (t_B (e_own (a_cons (e_var 1) a_nil)))) (e_var 1) (gw_name (by decide)) (fun _ _ => trivial)) a_nil)) (e_int 0))))⟩)

abbrev s_law_points : Stmt := topS 16
abbrev N_law_points : List PySem.Str := ["state", "kind"]
theorem sc_law_points : FnScope N_law_points ["state"] (defScope s_law_points) := ⟨rfl, rfl, rfl, by decide +kernel, rfl, by decide +kernel, by decide +kernel⟩
theorem ok_law_points {P : Program} {w : World} {K : PySem.W.Frag} {cls : Nat → Addr} {mg : PySem.Str → Option Value} {base : Heap} (Fu : Df K mg "_law_points" s_law_points) (h_law_next : Fn P w K cls mg base "_law_next" 1 m_law_next 2) : Fn P w K cls mg base "_law_points" 2 m_law_points 1 := by
  obtain ⟨a_law_next, fd_law_next, ps_law_next, G_law_next, g_law_next, kp_law_next, b_law_next⟩ := h_law_next.ex
  exact df_ok (N := N_law_points) (ps := ["state"]) (m := m_law_points_b) Fu sc_law_points rfl rfl (fun _ _ _ _ _ _ us hl => match us, hl with | [_], _ => rfl) (fun f cdv A outer s H E hr => ⟨_,
    (pss_cons (ps_set (i := 1) sc_law_points.nd rfl (Or.inl rfl) (pe_call G_law_next (hr.mono (by decide)) (by rfl) g_law_next kp_law_next b_law_next .nil pass0 (pa_cons (pv 0) (pa_cons pe_int pa_nil))))
      (pss_cons (ps_if (pt_cmpR (op_eqD hr.units) (pv 1) pe_int (nomark _)) (pss_one (ps_ret (pe_ix ix_seq (pe_lst (pa_cons pe_int (pa_cons pe_int (pa_cons pe_int (pa_cons pe_int (pa_cons pe_int pa_nil)))))) (pe_call G_law_next (hr.mono (by decide)) (by rfl) g_law_next kp_law_next b_law_next .nil pass0 (pa_cons (pv 0) (pa_cons pe_int pa_nil))) (fun _ _ => rfl)))) pss_nil)
      (pss_cons (ps_if (pt_cmpR (op_eqD hr.units) (pv 1) pe_int (nomark _)) (pss_one (ps_ret (pe_op op_addU pe_int (pe_call G_law_next (hr.mono (by decide)) (by rfl) g_law_next kp_law_next b_law_next .nil pass0 (pa_cons (pv 0) (pa_cons pe_int pa_nil)))))) pss_nil)
      (pss_one (ps_ret (pe_op op_addU pe_int (pe_call G_law_next (hr.mono (by decide)) (by rfl) g_law_next kp_law_next b_law_next .nil pass0 (pa_cons (pv 0) (pa_cons pe_int pa_nil))))))))),
    (s_seq (s_set trivial (e_own (a_cons (e_var 0) (a_cons (e_int 4) a_nil))))
      (s_seq (s_if (t_test (e_op o_eq (e_var 1) (e_int 1))) (s_ret (e_op o_ix (e_lst (a_cons (e_int 1) (a_cons (e_int 2) (a_cons (e_int 3) (a_cons (e_int 119) (a_cons (e_int 120) a_nil)))))) (e_own (a_cons (e_var 0) (a_cons (e_int 5) a_nil))))) s_next)
      (s_seq (s_if (t_test (e_op o_eq (e_var 1) (e_int 2))) (s_ret (e_op o_add (e_int 1) (e_own (a_cons (e_var 0) (a_cons (e_int 120) a_nil))))) s_next)
      (s_ret (e_op o_add (e_int 1) (e_own (a_cons (e_var 0) (a_cons (e_int 6) a_nil))))))))⟩)

abbrev s_law_system : Stmt := topS 17
abbrev N_law_system : List PySem.Str := ["state", "points", "many", "kind", "size", "numbers", "rows", "k", "i", "j"]
theorem sc_law_system : FnScope N_law_system ["state", "points"] (defScope s_law_system) := ⟨rfl, rfl, rfl, by decide +kernel, rfl, by decide +kernel, by decide +kernel⟩
theorem ok_law_system {P : Program} {w : World} {K : PySem.W.Frag} {cls : Nat → Addr} {mg : PySem.Str → Option Value} {base : Heap} (Fu : Df K mg "_law_system" s_law_system) (h_law_next : Fn P w K cls mg base "_law_next" 1 m_law_next 2) (z_range : mg "range" = none) : Fn P w K cls mg base "_law_system" 2 m_law_system 2 := by
  obtain ⟨a_law_next, fd_law_next, ps_law_next, G_law_next, g_law_next, kp_law_next, b_law_next⟩ := h_law_next.ex
  exact df_ok (N := N_law_system) (ps := ["state", "points"]) (m := m_law_system_b) Fu sc_law_system rfl rfl (fun _ _ _ _ _ _ us hl => match us, hl with | [_, _], _ => rfl) (fun f cdv A outer s H E hr => ⟨_,
    (pss_cons (ps_set (i := 2) sc_law_system.nd rfl (Or.inl rfl) (pe_call G_law_next (hr.mono (by decide)) (by rfl) g_law_next kp_law_next b_law_next .nil pass0 (pa_cons (pv 0) (pa_cons pe_int pa_nil))))
      (pss_cons (ps_set (i := 3) sc_law_system.nd rfl (Or.inl rfl) (pe_call G_law_next (hr.mono (by decide)) (by rfl) g_law_next kp_law_next b_law_next .nil pass0 (pa_cons (pv 0) (pa_cons pe_int pa_nil))))
      (pss_cons (ps_if (pt_cmpR (op_eqD hr.units) (pv 3) pe_int (nomark _)) (pss_one (ps_set (i := 2) sc_law_system.nd rfl (Or.inl rfl) pe_int)) pss_nil)
      (pss_cons (ps_if (pt_cmpR (op_eqD hr.units) (pv 3) pe_int (nomark _)) (pss_one (ps_set (i := 2) sc_law_system.nd rfl (Or.inl rfl) (pe_op op_addU pe_int (pe_call G_law_next (hr.mono (by decide)) (by rfl) g_law_next kp_law_next b_law_next .nil pass0 (pa_cons (pv 0) (pa_cons pe_int pa_nil)))))) pss_nil)
      (pss_cons (ps_set (i := 4) sc_law_system.nd rfl (Or.inr rfl) (pe_ix ix_seq (pe_lst (pa_cons pe_int (pa_cons pe_int (pa_cons pe_int pa_nil)))) (pe_call G_law_next (hr.mono (by decide)) (by rfl) g_law_next kp_law_next b_law_next .nil pass0 (pa_cons (pv 0) (pa_cons pe_int pa_nil))) (fun _ _ => rfl)))
      (pss_cons (ps_set (i := 5) sc_law_system.nd rfl (Or.inl rfl) (pe_op op_addU (pe_lst (pa_cons pe_int pa_nil)) (pe_lc (own := [("k", 7)]) rfl sc_law_system.nd (pi_range1 (by rfl) z_range (pa_cons (pe_op op_sub (pv 1) pe_int) pa_nil)) (blkOk_by (own := [("k", 7)]) (N := N_law_system) (sc := defScope s_law_system) (by decide +kernel)) (fun _ _ _ _ _ => (pg_name (i := 7) sc_law_system.nd rfl (Or.inl rfl))) (fun _ _ _ _ _ => pts_nil) (fun _ _ _ _ _ => (pe_op op_sub (pe_call G_law_next (hr.mono (by decide)) (by rfl) g_law_next kp_law_next b_law_next .nil pass0 (pa_cons (pv 0) (pa_cons (pv 4) pa_nil))) (pe_op op_divU (pv 4) pe_int))))))
      (pss_cons (ps_set (i := 6) sc_law_system.nd rfl (Or.inl rfl) (pe_lst pa_nil))
      (pss_cons (ps_for PassesOwn.never rfl (pi_range1 (by rfl) z_range (pa_cons (pv 2) pa_nil)) (pg_name (i := 7) sc_law_system.nd rfl (Or.inl rfl)) (pss_cons (ps_set (i := 8) sc_law_system.nd rfl (Or.inl rfl) (pe_call G_law_next (hr.mono (by decide)) (by rfl) g_law_next kp_law_next b_law_next .nil pass0 (pa_cons (pv 0) (pa_cons (pv 1) pa_nil))))
      (pss_cons (ps_set (i := 9) sc_law_system.nd rfl (Or.inl rfl) (pe_call G_law_next (hr.mono (by decide)) (by rfl) g_law_next kp_law_next b_law_next .nil pass0 (pa_cons (pv 0) (pa_cons (pv 1) pa_nil))))
      (pss_one (ps_expr (pe_bm PySem.F.plainAttrs_list PySem.F.slot_list_append PySem.F.type_list_append mt_append (pv 6) (pa_cons (pe_tup (pa_cons (pv 8) (pa_cons (pv 9) (pa_cons (pe_op op_sub (pe_op op_sub (pe_ix ix_seq (pv 5) (pv 9) (fun _ _ => rfl)) (pe_ix ix_seq (pv 5) (pv 8) (fun _ _ => rfl))) (pe_call G_law_next (hr.mono (by decide)) (by rfl) g_law_next kp_law_next b_law_next .nil pass0 (pa_cons (pv 0) (pa_cons pe_int pa_nil)))) pa_nil)))) pa_nil)))))))
      (pss_one (ps_ret (pe_lst (pa_cons (pv 1) (pa_cons (pv 6) (pa_cons (pv 5) pa_nil)))))))))))))),
    (s_seq (s_set trivial (e_own (a_cons (e_var 0) (a_cons (e_int 10) a_nil))))
      (s_seq (s_set trivial (e_own (a_cons (e_var 0) (a_cons (e_int 16) a_nil))))
      (s_seq (s_if (t_test (e_op o_eq (e_var 3) (e_int 1))) (s_set trivial (e_int 24)) s_next)
      (s_seq (s_if (t_test (e_op o_eq (e_var 3) (e_int 2))) (s_set trivial (e_op o_add (e_int 10) (e_own (a_cons (e_var 0) (a_cons (e_int 200) a_nil))))) s_next)
      (s_seq (s_set trivial (e_op o_ix (e_lst (a_cons (e_int 5) (a_cons (e_int 41) (a_cons (e_int 999999997) a_nil)))) (e_own (a_cons (e_var 0) (a_cons (e_int 3) a_nil)))))
      (s_seq (s_set trivial (e_op o_add (e_lst (a_cons (e_int 0) a_nil)) (e_lc (i_rng1 (a_cons (e_op o_sub (e_var 1) (e_int 1)) a_nil)) (g_name 7 trivial) t_yes (e_op o_sub (e_own (a_cons (e_var 0) (a_cons (e_var 4) a_nil))) (e_op o_div (e_var 4) (e_int 2))) (gw_name (by decide)) (fun _ _ => trivial))))
      (s_seq (s_set trivial (e_lst a_nil))
      (s_seq (s_for (i_rng1 (a_cons (e_var 2) a_nil)) (g_name 7 trivial) (s_seq (s_set trivial (e_own (a_cons (e_var 0) (a_cons (e_var 1) a_nil))))
      (s_seq (s_set trivial (e_own (a_cons (e_var 0) (a_cons (e_var 1) a_nil))))
      (s_drop (e_bm m_append (e_var 6) (a_cons (e_tup (a_cons (e_var 8) (a_cons (e_var 9) (a_cons (e_op o_sub (e_op o_sub (e_op o_ix (e_var 5) (e_var 9)) (e_op o_ix (e_var 5) (e_var 8))) (e_own (a_cons (e_var 0) (a_cons (e_int 3) a_nil)))) a_nil)))) a_nil) append_none)))))
      (s_ret (e_lst (a_cons (e_var 1) (a_cons (e_var 6) (a_cons (e_var 5) a_nil)))))))))))))⟩)

abbrev s_law_lists : Stmt := topS 19
abbrev N_law_lists : List PySem.Str := ["state", "numbers", "last", "found", "change", "fresh", "place", "value"]
theorem sc_law_lists : FnScope N_law_lists ["state", "numbers"] (defScope s_law_lists) := ⟨rfl, rfl, rfl, by decide +kernel, rfl, by decide +kernel, by decide +kernel⟩
theorem ok_law_lists {P : Program} {w : World} {K : PySem.W.Frag} {cls : Nat → Addr} {mg : PySem.Str → Option Value} {base : Heap} (Fu : Df K mg "_law_lists" s_law_lists) (z_len : mg "len" = none) (z_list : mg "list" = none) (h_law_next : Fn P w K cls mg base "_law_next" 1 m_law_next 2) : Fn P w K cls mg base "_law_lists" 2 m_law_lists 2 := by
  obtain ⟨a_law_next, fd_law_next, ps_law_next, G_law_next, g_law_next, kp_law_next, b_law_next⟩ := h_law_next.ex
  exact df_ok (N := N_law_lists) (ps := ["state", "numbers"]) (m := m_law_lists_b) Fu sc_law_lists rfl rfl (fun _ _ _ _ _ _ us hl => match us, hl with | [_, _], _ => rfl) (fun f cdv A outer s H E hr => ⟨_,
    (pss_cons (ps_set (i := 2) sc_law_lists.nd rfl (Or.inl rfl) (pe_op op_sub (pe_callB cr_len (by rfl) z_len (by decide +kernel) (pa_cons (pv 1) pa_nil)) pe_int))
      (pss_cons (ps_set (i := 3) sc_law_lists.nd rfl (Or.inl rfl) (pe_lst (pa_cons (pe_callTy cr_list (by rfl) z_list (by decide +kernel) (pa_cons (pv 1) pa_nil)) (pa_cons (pe_lc (own := [("value", 7)]) rfl sc_law_lists.nd (pi_seq (pv 1)) (blkOk_by (own := [("value", 7)]) (N := N_law_lists) (sc := defScope s_law_lists) (by decide +kernel)) (fun _ _ _ _ _ => (pg_name (i := 7) sc_law_lists.nd rfl (Or.inl rfl))) (fun _ _ _ _ _ => pts_nil) (fun _ _ _ _ _ => (pe_op op_addU (pv 7) pe_int))) (pa_cons (pe_slice sl_list (pv 1) po_none (po_some (pv 2))) (pa_cons (pe_op op_addU (pv 1) (pe_lst (pa_cons (pe_ix ix_seq (pv 1) (pv 2) (fun _ _ => rfl)) pa_nil))) pa_nil))))))
      (pss_cons (ps_for PassesOwn.never rfl (pi_seq (pe_lst (pa_cons (pe_op op_sub pe_int pe_int) (pa_cons pe_int (pa_cons (pe_op op_sub pe_int pe_int) pa_nil))))) (pg_name (i := 4) sc_law_lists.nd rfl (Or.inl rfl)) (pss_cons (ps_set (i := 5) sc_law_lists.nd rfl (Or.inl rfl) (pe_callTy cr_list (by rfl) z_list (by decide +kernel) (pa_cons (pv 1) pa_nil)))
      (pss_cons (ps_set (i := 6) sc_law_lists.nd rfl (Or.inl rfl) (pe_call G_law_next (hr.mono (by decide)) (by rfl) g_law_next kp_law_next b_law_next .nil pass0 (pa_cons (pv 0) (pa_cons (pe_callB cr_len (by rfl) z_len (by decide +kernel) (pa_cons (pv 1) pa_nil)) pa_nil))))
      (pss_cons (ps_asg (pe_op op_addU (pe_ix ix_seq (pv 5) (pv 6) (fun _ _ => rfl)) (pv 4)) (pg_sub (pv 5) (pv 6) set_list))
      (pss_one (ps_expr (pe_bm PySem.F.plainAttrs_list PySem.F.slot_list_append PySem.F.type_list_append mt_append (pv 3) (pa_cons (pv 5) pa_nil))))))))
      (pss_cons (ps_expr (pe_bm PySem.F.plainAttrs_list PySem.F.slot_list_append PySem.F.type_list_append mt_append (pv 3) (pa_cons (pe_lc (own := [("value", 7)]) rfl sc_law_lists.nd (pi_seq (pv 1)) (blkOk_by (own := [("value", 7)]) (N := N_law_lists) (sc := defScope s_law_lists) (by decide +kernel)) (fun _ _ _ _ _ => (pg_name (i := 7) sc_law_lists.nd rfl (Or.inl rfl))) (fun _ _ _ _ _ => pts_nil) (fun _ _ _ _ _ => pe_int)) pa_nil)))
      (pss_one (ps_ret (pv 3))))))),
    (s_seq (s_set trivial (e_op o_sub (e_call c_len (a_cons (e_var 1) a_nil)) (e_int 1)))
      (s_seq (s_set trivial (e_lst (a_cons (e_call c_list (a_cons (e_var 1) a_nil)) (a_cons (e_lc (i_seq (e_var 1)) (g_name 7 trivial) t_yes (e_op o_add (e_var 7) (e_int 1)) (gw_name (by decide)) (fun _ _ => trivial)) (a_cons (e_slice sl_lst (e_var 1) o_none (o_some (e_var 2))) (a_cons (e_op o_add (e_var 1) (e_lst (a_cons (e_op o_ix (e_var 1) (e_var 2)) a_nil))) a_nil))))))
      (s_seq (s_for (i_seq (e_lst (a_cons (e_op o_sub (e_int 0) (e_int 1)) (a_cons (e_int 1) (a_cons (e_op o_sub (e_int 0) (e_int 2)) a_nil))))) (g_name 4 trivial) (s_seq (s_set trivial (e_call c_list (a_cons (e_var 1) a_nil)))
      (s_seq (s_set trivial (e_own (a_cons (e_var 0) (a_cons (e_call c_len (a_cons (e_var 1) a_nil)) a_nil))))
      (s_seq (s_setIx (e_op o_add (e_op o_ix (e_var 5) (e_var 6)) (e_var 4)) (e_var 5) (e_var 6))
      (s_drop (e_bm m_append (e_var 3) (a_cons (e_var 5) a_nil) append_none))))))
      (s_seq (s_drop (e_bm m_append (e_var 3) (a_cons (e_lc (i_seq (e_var 1)) (g_name 7 trivial) t_yes (e_int 0) (gw_name (by decide)) (fun _ _ => trivial)) a_nil) append_none))
      (s_ret (e_var 3))))))⟩)

abbrev s_law_broken : Stmt := topS 22
abbrev N_law_broken : List PySem.Str := ["state", "rows", "numbers", "place", "row"]
theorem sc_law_broken : FnScope N_law_broken ["state", "rows", "numbers"] (defScope s_law_broken) := ⟨rfl, rfl, rfl, by decide +kernel, rfl, by decide +kernel, by decide +kernel⟩
theorem ok_law_broken {P : Program} {w : World} {K : PySem.W.Frag} {cls : Nat → Addr} {mg : PySem.Str → Option Value} {base : Heap} (Fu : Df K mg "_law_broken" s_law_broken) (z_len : mg "len" = none) (h_law_next : Fn P w K cls mg base "_law_next" 1 m_law_next 2) : Fn P w K cls mg base "_law_broken" 2 m_law_broken 3 := by
  obtain ⟨a_law_next, fd_law_next, ps_law_next, G_law_next, g_law_next, kp_law_next, b_law_next⟩ := h_law_next.ex
  exact df_ok (N := N_law_broken) (ps := ["state", "rows", "numbers"]) (m := m_law_broken_b) Fu sc_law_broken rfl rfl (fun _ _ _ _ _ _ us hl => match us, hl with | [_, _, _], _ => rfl) (fun f cdv A outer s H E hr => ⟨_,
    (pss_cons (ps_if (pt_cmpR (op_eqD hr.units) (pv 1) (pe_lst pa_nil) (nomark _)) (pss_one (ps_ret (pe_lst pa_nil))) pss_nil)
      (pss_cons (ps_set (i := 3) sc_law_broken.nd rfl (Or.inl rfl) (pe_call G_law_next (hr.mono (by decide)) (by rfl) g_law_next kp_law_next b_law_next .nil pass0 (pa_cons (pv 0) (pa_cons (pe_callB cr_len (by rfl) z_len (by decide +kernel) (pa_cons (pv 1) pa_nil)) pa_nil))))
      (pss_cons (ps_set (i := 4) sc_law_broken.nd rfl (Or.inl rfl) (pe_ix ix_seq (pv 1) (pv 3) (fun _ _ => rfl)))
      (pss_one (ps_ret (pe_op op_addU (pe_op op_addU (pe_slice sl_list (pv 1) po_none (po_some (pv 3))) (pe_lst (pa_cons (pe_tup (pa_cons (pe_ix ix_seq (pv 4) pe_int (fun _ _ => rfl)) (pa_cons (pe_ix ix_seq (pv 4) pe_int (fun _ _ => rfl)) (pa_cons (pe_op op_addU (pe_op op_sub (pe_ix ix_seq (pv 2) (pe_ix ix_seq (pv 4) pe_int (fun _ _ => rfl)) (fun _ _ => rfl)) (pe_ix ix_seq (pv 2) (pe_ix ix_seq (pv 4) pe_int (fun _ _ => rfl)) (fun _ _ => rfl))) pe_int) pa_nil)))) pa_nil))) (pe_slice sl_list (pv 1) (po_some (pe_op op_addU (pv 3) pe_int)) po_none))))))),
    (s_seq (s_if (t_test (e_op o_eq (e_var 1) (e_lst a_nil))) (s_ret (e_lst a_nil)) s_next)
      (s_seq (s_set trivial (e_own (a_cons (e_var 0) (a_cons (e_call c_len (a_cons (e_var 1) a_nil)) a_nil))))
      (s_seq (s_set trivial (e_op o_ix (e_var 1) (e_var 3)))
      (s_ret (e_op o_add (e_op o_add (e_slice sl_lst (e_var 1) o_none (o_some (e_var 3))) (e_lst (a_cons (e_tup (a_cons (e_op o_ix (e_var 4) (e_int 0)) (a_cons (e_op o_ix (e_var 4) (e_int 1)) (a_cons (e_op o_add (e_op o_sub (e_op o_ix (e_var 2) (e_op o_ix (e_var 4) (e_int 1))) (e_op o_ix (e_var 2) (e_op o_ix (e_var 4) (e_int 0)))) (e_int 1)) a_nil)))) a_nil))) (e_slice sl_lst (e_var 1) (o_some (e_op o_add (e_var 3) (e_int 1))) o_none))))))⟩)

abbrev s_law_bad : Stmt := topS 23
abbrev N_law_bad : List PySem.Str := ["state", "points", "rows", "fresh", "k", "place", "far", "wrong", "row"]
theorem sc_law_bad : FnScope N_law_bad ["state", "points", "rows"] (defScope s_law_bad) := ⟨rfl, rfl, rfl, by decide +kernel, rfl, by decide +kernel, by decide +kernel⟩
theorem ok_law_bad {P : Program} {w : World} {K : PySem.W.Frag} {cls : Nat → Addr} {mg : PySem.Str → Option Value} {base : Heap} (Fu : Df K mg "_law_bad" s_law_bad) (z_list : mg "list" = none) (z_range : mg "range" = none) (h_law_next : Fn P w K cls mg base "_law_next" 1 m_law_next 2) (z_len : mg "len" = none) : Fn P w K cls mg base "_law_bad" 2 m_law_bad 3 := by
  obtain ⟨a_law_next, fd_law_next, ps_law_next, G_law_next, g_law_next, kp_law_next, b_law_next⟩ := h_law_next.ex
  exact df_ok (N := N_law_bad) (ps := ["state", "points", "rows"]) (m := m_law_bad_b) Fu sc_law_bad rfl rfl (fun _ _ _ _ _ _ us hl => match us, hl with | [_, _, _], _ => rfl) (fun f cdv A outer s H E hr => ⟨_,
    (pss_cons (ps_set (i := 3) sc_law_bad.nd rfl (Or.inl rfl) (pe_callTy cr_list (by rfl) z_list (by decide +kernel) (pa_cons (pv 2) pa_nil)))
      (pss_cons (ps_for PassesOwn.never rfl (pi_range1 (by rfl) z_range (pa_cons (pe_call G_law_next (hr.mono (by decide)) (by rfl) g_law_next kp_law_next b_law_next .nil pass0 (pa_cons (pv 0) (pa_cons pe_int pa_nil))) pa_nil)) (pg_name (i := 4) sc_law_bad.nd rfl (Or.inl rfl)) (pss_cons (ps_set (i := 5) sc_law_bad.nd rfl (Or.inl rfl) (pe_call G_law_next (hr.mono (by decide)) (by rfl) g_law_next kp_law_next b_law_next .nil pass0 (pa_cons (pv 0) (pa_cons (pe_op op_addU (pe_callB cr_len (by rfl) z_len (by decide +kernel) (pa_cons (pv 2) pa_nil)) pe_int) pa_nil))))
      (pss_cons (ps_set (i := 6) sc_law_bad.nd rfl (Or.inl rfl) (pe_op op_addU pe_int (pe_call G_law_next (hr.mono (by decide)) (by rfl) g_law_next kp_law_next b_law_next .nil pass0 (pa_cons (pv 0) (pa_cons pe_int pa_nil)))))
      (pss_cons (ps_set (i := 7) sc_law_bad.nd rfl (Or.inl rfl) (pe_ix ix_seq (pe_lst (pa_cons (pe_op op_sub pe_int pe_int) (pa_cons (pv 1) (pa_cons (pe_op op_addU (pv 1) (pv 6)) (pa_cons (pe_op op_sub pe_int (pv 6)) pa_nil))))) (pe_call G_law_next (hr.mono (by decide)) (by rfl) g_law_next kp_law_next b_law_next .nil pass0 (pa_cons (pv 0) (pa_cons pe_int pa_nil))) (fun _ _ => rfl)))
      (pss_cons (ps_set (i := 8) sc_law_bad.nd rfl (Or.inl rfl) (pe_tup (pa_cons (pe_call G_law_next (hr.mono (by decide)) (by rfl) g_law_next kp_law_next b_law_next .nil pass0 (pa_cons (pv 0) (pa_cons (pv 1) pa_nil))) (pa_cons (pv 7) (pa_cons (pe_op op_sub (pe_call G_law_next (hr.mono (by decide)) (by rfl) g_law_next kp_law_next b_law_next .nil pass0 (pa_cons (pv 0) (pa_cons pe_int pa_nil))) pe_int) pa_nil)))))
      (pss_cons (ps_if (pt_cmpR (op_eqD hr.units) (pe_call G_law_next (hr.mono (by decide)) (by rfl) g_law_next kp_law_next b_law_next .nil pass0 (pa_cons (pv 0) (pa_cons pe_int pa_nil))) pe_int (nomark _)) (pss_one (ps_set (i := 8) sc_law_bad.nd rfl (Or.inl rfl) (pe_tup (pa_cons (pe_ix ix_seq (pv 8) pe_int (fun _ _ => rfl)) (pa_cons (pe_ix ix_seq (pv 8) pe_int (fun _ _ => rfl)) (pa_cons (pe_ix ix_seq (pv 8) pe_int (fun _ _ => rfl)) pa_nil)))))) pss_nil)
      (pss_one (ps_expr (pe_bm PySem.F.plainAttrs_list PySem.F.slot_list_insert PySem.F.type_list_insert mt_insert (pv 3) (pa_cons (pv 5) (pa_cons (pv 8) pa_nil)))))))))))
      (pss_one (ps_ret (pv 3))))),
    (s_seq (s_set trivial (e_call c_list (a_cons (e_var 2) a_nil)))
      (s_seq (s_for (i_rng1 (a_cons (e_own (a_cons (e_var 0) (a_cons (e_int 3) a_nil))) a_nil)) (g_name 4 trivial) (s_seq (s_set trivial (e_own (a_cons (e_var 0) (a_cons (e_op o_add (e_call c_len (a_cons (e_var 2) a_nil)) (e_int 1)) a_nil))))
      (s_seq (s_set trivial (e_op o_add (e_int 1) (e_own (a_cons (e_var 0) (a_cons (e_int 200) a_nil)))))
      (s_seq (s_set trivial (e_op o_ix (e_lst (a_cons (e_op o_sub (e_int 0) (e_int 1)) (a_cons (e_var 1) (a_cons (e_op o_add (e_var 1) (e_var 6)) (a_cons (e_op o_sub (e_int 0) (e_var 6)) a_nil))))) (e_own (a_cons (e_var 0) (a_cons (e_int 4) a_nil)))))
      (s_seq (s_set trivial (e_tup (a_cons (e_own (a_cons (e_var 0) (a_cons (e_var 1) a_nil))) (a_cons (e_var 7) (a_cons (e_op o_sub (e_own (a_cons (e_var 0) (a_cons (e_int 9) a_nil))) (e_int 4)) a_nil)))))
      (s_seq (s_if (t_test (e_op o_eq (e_own (a_cons (e_var 0) (a_cons (e_int 2) a_nil))) (e_int 1))) (s_set trivial (e_tup (a_cons (e_op o_ix (e_var 8) (e_int 1)) (a_cons (e_op o_ix (e_var 8) (e_int 0)) (a_cons (e_op o_ix (e_var 8) (e_int 2)) a_nil))))) s_next)
      (s_drop (e_bm m_insert (e_var 3) (a_cons (e_var 5) (a_cons (e_var 8) a_nil)) insert_none))))))))
      (s_ret (e_var 3))))⟩)

abbrev s_law_alike : Stmt := topS 27
abbrev N_law_alike : List PySem.Str := ["told", "due"]
theorem sc_law_alike : FnScope N_law_alike ["told", "due"] (defScope s_law_alike) := ⟨rfl, rfl, rfl, by decide +kernel, rfl, by decide +kernel, by decide +kernel⟩
theorem ok_law_alike {P : Program} {w : World} {K : PySem.W.Frag} {cls : Nat → Addr} {mg : PySem.Str → Option Value} {base : Heap} (Fu : Df K mg "_law_alike" s_law_alike) (h_law_int : Fn P w K cls mg base "_law_int" 1 m_law_int 1) : Fn P w K cls mg base "_law_alike" 2 m_law_alike 2 := by
  obtain ⟨a_law_int, fd_law_int, ps_law_int, G_law_int, g_law_int, kp_law_int, b_law_int⟩ := h_law_int.ex
  exact df_ok (N := N_law_alike) (ps := ["told", "due"]) (m := m_law_alike_b) Fu sc_law_alike rfl rfl (fun _ _ _ _ _ _ us hl => match us, hl with | [_, _], _ => rfl) (fun f cdv A outer s H E hr => ⟨_,
    (pss_one (ps_ret (pe_and (pe_cmpR (op_eqD hr.units) (pe_ix ix_seq (pv 0) pe_int (fun _ _ => rfl)) (pe_ix ix_seq (pv 1) pe_int (fun _ _ => rfl)) (nomark _)) (pe_and (pe_call G_law_int (hr.mono (by decide)) (by rfl) g_law_int kp_law_int b_law_int .nil pass0 (pa_cons (pe_ix ix_seq (pv 0) pe_int (fun _ _ => rfl)) pa_nil)) (pe_one (pe_cmpR (op_eqD hr.units) (pe_ix ix_seq (pv 0) pe_int (fun _ _ => rfl)) (pe_ix ix_seq (pv 1) pe_int (fun _ _ => rfl)) (nomark _))))))),
    (s_ret (e_and (e_op o_eq (e_op o_ix (e_var 0) (e_int 0)) (e_op o_ix (e_var 1) (e_int 0))) (e_and (e_own (a_cons (e_op o_ix (e_var 0) (e_int 1)) a_nil)) (e_op o_eq (e_op o_ix (e_var 0) (e_int 1)) (e_op o_ix (e_var 1) (e_int 1))))))⟩)

abbrev s_law_others : Stmt := topS 29
abbrev N_law_others : List PySem.Str := ["state", "points", "rows", "found", "place", "row", "fresh", "other"]
theorem sc_law_others : FnScope N_law_others ["state", "points", "rows"] (defScope s_law_others) := ⟨rfl, rfl, rfl, by decide +kernel, rfl, by decide +kernel, by decide +kernel⟩
theorem ok_law_others {P : Program} {w : World} {K : PySem.W.Frag} {cls : Nat → Addr} {mg : PySem.Str → Option Value} {base : Heap} (Fu : Df K mg "_law_others" s_law_others) (z_list : mg "list" = none) (z_len : mg "len" = none) (h_law_next : Fn P w K cls mg base "_law_next" 1 m_law_next 2) (z_int : mg "int" = none) : Fn P w K cls mg base "_law_others" 2 m_law_others 3 := by
  obtain ⟨a_law_next, fd_law_next, ps_law_next, G_law_next, g_law_next, kp_law_next, b_law_next⟩ := h_law_next.ex
  exact df_ok (N := N_law_others) (ps := ["state", "points", "rows"]) (m := m_law_others_b) Fu sc_law_others rfl rfl (fun _ _ _ _ _ _ us hl => match us, hl with | [_, _, _], _ => rfl) (fun f cdv A outer s H E hr => ⟨_,
    (pss_cons (ps_set (i := 3) sc_law_others.nd rfl (Or.inl rfl) (pe_lst (pa_cons (pe_lst (pa_cons (pv 1) (pa_cons (pe_callTy cr_list (by rfl) z_list (by decide +kernel) (pa_cons (pv 2) pa_nil)) pa_nil))) (pa_cons (pe_lst (pa_cons (pv 1) (pa_cons (pe_op op_addU (pv 2) (pe_lst (pa_cons (pe_tup (pa_cons pe_int (pa_cons pe_int (pa_cons pe_int pa_nil)))) pa_nil))) pa_nil))) pa_nil))))
      (pss_cons (ps_if (pt_cmpR op_lt (pv 1) pe_int (nomark _)) (pss_one (ps_expr (pe_bm PySem.F.plainAttrs_list PySem.F.slot_list_append PySem.F.type_list_append mt_append (pv 3) (pa_cons (pe_lst (pa_cons (pe_op op_addU (pv 1) pe_int) (pa_cons (pe_callTy cr_list (by rfl) z_list (by decide +kernel) (pa_cons (pv 2) pa_nil)) pa_nil))) pa_nil)))) pss_nil)
      (pss_cons (ps_if (pt_cmpR (op_neD hr.units) (pv 2) (pe_lst pa_nil) (nomark _)) (pss_cons (ps_set (i := 4) sc_law_others.nd rfl (Or.inl rfl) (pe_call G_law_next (hr.mono (by decide)) (by rfl) g_law_next kp_law_next b_law_next .nil pass0 (pa_cons (pv 0) (pa_cons (pe_callB cr_len (by rfl) z_len (by decide +kernel) (pa_cons (pv 2) pa_nil)) pa_nil))))
      (pss_cons (ps_set (i := 5) sc_law_others.nd rfl (Or.inl rfl) (pe_ix ix_seq (pv 2) (pv 4) (fun _ _ => rfl)))
      (pss_cons (ps_expr (pe_bm PySem.F.plainAttrs_list PySem.F.slot_list_append PySem.F.type_list_append mt_append (pv 3) (pa_cons (pe_lst (pa_cons (pv 1) (pa_cons (pe_op op_addU (pe_slice sl_list (pv 2) po_none (po_some (pv 4))) (pe_slice sl_list (pv 2) (po_some (pe_op op_addU (pv 4) pe_int)) po_none)) pa_nil))) pa_nil)))
      (pss_cons (ps_expr (pe_bm PySem.F.plainAttrs_list PySem.F.slot_list_append PySem.F.type_list_append mt_append (pv 3) (pa_cons (pe_lst (pa_cons (pv 1) (pa_cons (pe_op op_addU (pe_op op_addU (pe_slice sl_list (pv 2) po_none (po_some (pv 4))) (pe_lst (pa_cons (pe_tup (pa_cons (pe_ix ix_seq (pv 5) pe_int (fun _ _ => rfl)) (pa_cons (pe_ix ix_seq (pv 5) pe_int (fun _ _ => rfl)) (pa_cons (pe_op op_addU (pe_ix ix_seq (pv 5) pe_int (fun _ _ => rfl)) pe_int) pa_nil)))) pa_nil))) (pe_slice sl_list (pv 2) (po_some (pe_op op_addU (pv 4) pe_int)) po_none)) pa_nil))) pa_nil)))
      (pss_cons (ps_expr (pe_bm PySem.F.plainAttrs_list PySem.F.slot_list_append PySem.F.type_list_append mt_append (pv 3) (pa_cons (pe_lst (pa_cons (pv 1) (pa_cons (pe_op op_addU (pe_op op_addU (pe_slice sl_list (pv 2) po_none (po_some (pv 4))) (pe_lst (pa_cons (pe_tup (pa_cons (pe_op op_modN (pe_callTy cr_int (by rfl) z_int (by decide +kernel) (pa_cons (pe_op op_addU (pe_ix ix_seq (pv 5) pe_int (fun _ _ => rfl)) pe_int) pa_nil)) (pv 1)) (pa_cons (pe_ix ix_seq (pv 5) pe_int (fun _ _ => rfl)) (pa_cons (pe_ix ix_seq (pv 5) pe_int (fun _ _ => rfl)) pa_nil)))) pa_nil))) (pe_slice sl_list (pv 2) (po_some (pe_op op_addU (pv 4) pe_int)) po_none)) pa_nil))) pa_nil)))
      (pss_cons (ps_expr (pe_bm PySem.F.plainAttrs_list PySem.F.slot_list_append PySem.F.type_list_append mt_append (pv 3) (pa_cons (pe_lst (pa_cons (pv 1) (pa_cons (pe_op op_addU (pe_op op_addU (pe_slice sl_list (pv 2) po_none (po_some (pv 4))) (pe_lst (pa_cons (pe_tup (pa_cons (pe_ix ix_seq (pv 5) pe_int (fun _ _ => rfl)) (pa_cons (pe_op op_modN (pe_callTy cr_int (by rfl) z_int (by decide +kernel) (pa_cons (pe_op op_addU (pe_ix ix_seq (pv 5) pe_int (fun _ _ => rfl)) pe_int) pa_nil)) (pv 1)) (pa_cons (pe_ix ix_seq (pv 5) pe_int (fun _ _ => rfl)) pa_nil)))) pa_nil))) (pe_slice sl_list (pv 2) (po_some (pe_op op_addU (pv 4) pe_int)) po_none)) pa_nil))) pa_nil)))
      (pss_cons (ps_set (i := 6) sc_law_others.nd rfl (Or.inl rfl) (pe_callTy cr_list (by rfl) z_list (by decide +kernel) (pa_cons (pv 2) pa_nil)))
      (pss_cons (ps_set (i := 7) sc_law_others.nd rfl (Or.inl rfl) (pe_call G_law_next (hr.mono (by decide)) (by rfl) g_law_next kp_law_next b_law_next .nil pass0 (pa_cons (pv 0) (pa_cons (pe_callB cr_len (by rfl) z_len (by decide +kernel) (pa_cons (pv 2) pa_nil)) pa_nil))))
      (pss_cons (ps_asg (pe_ix ix_seq (pv 2) (pv 7) (fun _ _ => rfl)) (pg_sub (pv 6) (pv 4) set_list))
      (pss_cons (ps_asg (pv 5) (pg_sub (pv 6) (pv 7) set_list))
      (pss_one (ps_expr (pe_bm PySem.F.plainAttrs_list PySem.F.slot_list_append PySem.F.type_list_append mt_append (pv 3) (pa_cons (pe_lst (pa_cons (pv 1) (pa_cons (pv 6) pa_nil))) pa_nil)))))))))))))) pss_nil)
      (pss_one (ps_ret (pv 3)))))),
    (s_seq (s_set trivial (e_lst (a_cons (e_lst (a_cons (e_var 1) (a_cons (e_call c_list (a_cons (e_var 2) a_nil)) a_nil))) (a_cons (e_lst (a_cons (e_var 1) (a_cons (e_op o_add (e_var 2) (e_lst (a_cons (e_tup (a_cons (e_int 0) (a_cons (e_int 0) (a_cons (e_int 0) a_nil)))) a_nil))) a_nil))) a_nil))))
      (s_seq (s_if (t_test (e_op (o_cmp fun i j => decide (i < j)) (e_var 1) (e_int 120))) (s_drop (e_bm m_append (e_var 3) (a_cons (e_lst (a_cons (e_op o_add (e_var 1) (e_int 1)) (a_cons (e_call c_list (a_cons (e_var 2) a_nil)) a_nil))) a_nil) append_none)) s_next)
      (s_seq (s_if (t_test (e_op o_ne (e_var 2) (e_lst a_nil))) (s_seq (s_set trivial (e_own (a_cons (e_var 0) (a_cons (e_call c_len (a_cons (e_var 2) a_nil)) a_nil))))
      (s_seq (s_set trivial (e_op o_ix (e_var 2) (e_var 4)))
      (s_seq (s_drop (e_bm m_append (e_var 3) (a_cons (e_lst (a_cons (e_var 1) (a_cons (e_op o_add (e_slice sl_lst (e_var 2) o_none (o_some (e_var 4))) (e_slice sl_lst (e_var 2) (o_some (e_op o_add (e_var 4) (e_int 1))) o_none)) a_nil))) a_nil) append_none))
      (s_seq (s_drop (e_bm m_append (e_var 3) (a_cons (e_lst (a_cons (e_var 1) (a_cons (e_op o_add (e_op o_add (e_slice sl_lst (e_var 2) o_none (o_some (e_var 4))) (e_lst (a_cons (e_tup (a_cons (e_op o_ix (e_var 5) (e_int 0)) (a_cons (e_op o_ix (e_var 5) (e_int 1)) (a_cons (e_op o_add (e_op o_ix (e_var 5) (e_int 2)) (e_int 1)) a_nil)))) a_nil))) (e_slice sl_lst (e_var 2) (o_some (e_op o_add (e_var 4) (e_int 1))) o_none)) a_nil))) a_nil) append_none))
      (s_seq (s_drop (e_bm m_append (e_var 3) (a_cons (e_lst (a_cons (e_var 1) (a_cons (e_op o_add (e_op o_add (e_slice sl_lst (e_var 2) o_none (o_some (e_var 4))) (e_lst (a_cons (e_tup (a_cons (e_op o_mod (e_call c_int (a_cons (e_op o_add (e_op o_ix (e_var 5) (e_int 0)) (e_int 1)) a_nil)) (e_var 1)) (a_cons (e_op o_ix (e_var 5) (e_int 1)) (a_cons (e_op o_ix (e_var 5) (e_int 2)) a_nil)))) a_nil))) (e_slice sl_lst (e_var 2) (o_some (e_op o_add (e_var 4) (e_int 1))) o_none)) a_nil))) a_nil) append_none))
      (s_seq (s_drop (e_bm m_append (e_var 3) (a_cons (e_lst (a_cons (e_var 1) (a_cons (e_op o_add (e_op o_add (e_slice sl_lst (e_var 2) o_none (o_some (e_var 4))) (e_lst (a_cons (e_tup (a_cons (e_op o_ix (e_var 5) (e_int 0)) (a_cons (e_op o_mod (e_call c_int (a_cons (e_op o_add (e_op o_ix (e_var 5) (e_int 1)) (e_int 1)) a_nil)) (e_var 1)) (a_cons (e_op o_ix (e_var 5) (e_int 2)) a_nil)))) a_nil))) (e_slice sl_lst (e_var 2) (o_some (e_op o_add (e_var 4) (e_int 1))) o_none)) a_nil))) a_nil) append_none))
      (s_seq (s_set trivial (e_call c_list (a_cons (e_var 2) a_nil)))
      (s_seq (s_set trivial (e_own (a_cons (e_var 0) (a_cons (e_call c_len (a_cons (e_var 2) a_nil)) a_nil))))
      (s_seq (s_setIx (e_op o_ix (e_var 2) (e_var 7)) (e_var 6) (e_var 4))
      (s_seq (s_setIx (e_var 5) (e_var 6) (e_var 7))
      (s_drop (e_bm m_append (e_var 3) (a_cons (e_lst (a_cons (e_var 1) (a_cons (e_var 6) a_nil))) a_nil) append_none)))))))))))) s_next)
      (s_ret (e_var 3)))))⟩)

abbrev s_law_made : Stmt := topS 25
abbrev N_law_made : List PySem.Str := ["points", "rows", "handed", "e"]
theorem sc_law_made : FnScope N_law_made ["points", "rows"] (defScope s_law_made) := ⟨rfl, rfl, rfl, by decide +kernel, rfl, by decide +kernel, by decide +kernel⟩
theorem ok_law_made {P : Program} {w : World} {K : PySem.W.Frag} {cls : Nat → Addr} {mg : PySem.Str → Option Value} {base : Heap} (Fu : Df K mg "_law_made" s_law_made) (z_list : mg "list" = none) (h_Rows_init : MthX P w K cls mg base 3 "__init__" 1 m_Rows_init 3) (g_Rows : mg "Rows" = some (.ref (cls 3))) (k_Rows : PySem.W.keepIn K (.ref (cls 3)) = true) (mk_Rows_ : PySem.W.makesIn K (cls 3) = true) (g_FitError : mg "FitError" = some (.ref (cls 0))) (xm_FitError : ∀ k b, tb [none, some true, some true, none] k = some b → PySem.W.exmOne K (.ref (cls k)) (.ref (cls 0)) = some b) (z_isinstance : mg "isinstance" = none) (z_ValueError : mg "ValueError" = none) (kt_VE : ∀ k b, tb [none, some true, some true, none] k = some b → PySem.W.kitOne K (.ref (cls k)) (.type "ValueError") = some b ∧ L2.ExcC K (cls k)) (g_BadCount : mg "BadCount" = some (.ref (cls 1))) (kt_BadCount : ∀ k b, tb [none, some true, some false, none] k = some b → PySem.W.kitOne K (.ref (cls k)) (.ref (cls 1)) = some b ∧ L2.ExcC K (cls k)) (g_BadRow : mg "BadRow" = some (.ref (cls 2))) (kt_BadRow : ∀ k b, tb [none, some false, some true, none] k = some b → PySem.W.kitOne K (.ref (cls k)) (.ref (cls 2)) = some b ∧ L2.ExcC K (cls k)) (fx_number : ∀ k b, tb [none, some true, none, none] k = some b → GT.FldC K (cls k) "number") (fx_index : ∀ k b, tb [none, none, some true, none] k = some b → GT.FldC K (cls k) "index") : Fn P w K cls mg base "_law_made" 3 m_law_made 2 := by
  obtain ⟨a_Rows_init, fd_Rows_init, ps_Rows_init, G_Rows_init, M_Rows_init, b_Rows_init⟩ := h_Rows_init.ex
  exact df_ok (N := N_law_made) (ps := ["points", "rows"]) (m := m_law_made_b) Fu sc_law_made rfl rfl (fun _ _ _ _ _ _ us hl => match us, hl with | [_, _], _ => rfl) (fun f cdv A outer s H E hr => ⟨_,
    (pss_cons (ps_set (i := 2) sc_law_made.nd rfl (Or.inl rfl) (pe_callTy cr_list (by rfl) z_list (by decide +kernel) (pa_cons (pv 1) pa_nil)))
      (pss_cons (GT.ps_mix rfl rfl sc_law_made.nd takesF (fun W pn xe tk po => (pss_one (ps_expr (GT.pe_makeS ⟨mk_Rows_, M_Rows_init.at_, M_Rows_init.fn, k_Rows⟩ G_Rows_init (hr.mono (by decide)) (by rfl) g_Rows b_Rows_init (fun σ => L2N.passAt tk σ) (pa_cons (pv 0) (pa_cons (pv 2) pa_nil)))))) (GT.Cls'.named (i := 3) rfl rfl ⟨by rfl, by decide, .inl g_FitError⟩ (fun a oe k d pn hz hf => (pss_cons (ps_if (PW.pt (pw_or (pt_not (pt_val (pe_callB (GT.call_isD hz.zc hf) (by rfl) z_isinstance (by decide +kernel) (pa_cons (pv 3) (pa_cons (pe_bltn (v := .ty "ValueError") (by rfl) z_ValueError (by decide +kernel) rfl) pa_nil))))) (pw_or1 (pt_cmpR (op_neD hr.units) (pv 2) (pv 1) (nomark _))))) (pss_one (ps_ret (pe_tup (pa_cons pe_str (pa_cons pe_int pa_nil))))) pss_nil)
      (pss_cons (ps_if (PW.pt (pw_and (pt_val (pe_callB (GT.call_isD hz.zc hf) (by rfl) z_isinstance (by decide +kernel) (pa_cons (pv 3) (pa_cons (pe_glob (v := .ref (cls 1)) (by rfl) g_BadCount rfl) pa_nil)))) (pw_and1 (pt_not (pt_val (pe_callB (GT.call_isD hz.zc hf) (by rfl) z_isinstance (by decide +kernel) (pa_cons (pv 3) (pa_cons (pe_glob (v := .ref (cls 2)) (by rfl) g_BadRow rfl) pa_nil)))))))) (pss_one (ps_ret (pe_tup (pa_cons pe_str (pa_cons (GT.pe_fldX hz.zc hf (pv 3)) pa_nil))))) pss_nil)
      (pss_cons (ps_if (PW.pt (pw_and (pt_val (pe_callB (GT.call_isD hz.zc hf) (by rfl) z_isinstance (by decide +kernel) (pa_cons (pv 3) (pa_cons (pe_glob (v := .ref (cls 2)) (by rfl) g_BadRow rfl) pa_nil)))) (pw_and1 (pt_not (pt_val (pe_callB (GT.call_isD hz.zc hf) (by rfl) z_isinstance (by decide +kernel) (pa_cons (pv 3) (pa_cons (pe_glob (v := .ref (cls 1)) (by rfl) g_BadCount rfl) pa_nil)))))))) (pss_one (ps_ret (pe_tup (pa_cons pe_str (pa_cons (GT.pe_fldX hz.zc hf (pv 3)) pa_nil))))) pss_nil)
      (pss_one (ps_ret (pe_tup (pa_cons pe_str (pa_cons pe_int pa_nil))))))))) GT.Cls'.nil))
      (pss_one (ps_ret (pe_tup (pa_cons pe_str (pa_cons pe_int pa_nil))))))),
    (s_seq (s_set trivial (e_call c_list (a_cons (e_var 1) a_nil)))
      (s_seq (s_try (fun _ => (s_drop (e_makeX rfl (a_cons (e_var 0) (a_cons (e_var 2) a_nil))))) (ClsOk.mk2 (fun _ _ => trivial) xm_FitError (fun a k d gs fs hb hf => (s_seq (s_if (t_or (t_not (t_B (e_isEv (kt_VE k)))) (t_test (e_op o_ne (e_var 2) (e_var 1)))) (s_ret (e_tup (a_cons (e_str _) (a_cons (e_int 0) a_nil)))) s_next)
      (s_seq (s_if (t_and (t_B (e_isEo (kt_BadCount k))) (t_not (t_B (e_isEo (kt_BadRow k))))) (s_ret (e_tup (a_cons (e_str _) (a_cons (e_fldT hf (fx_number k)) a_nil)))) s_next)
      (s_seq (s_if (t_and (t_B (e_isEo (kt_BadRow k))) (t_not (t_B (e_isEo (kt_BadCount k))))) (s_ret (e_tup (a_cons (e_str _) (a_cons (e_fldT hf (fx_index k)) a_nil)))) s_next)
      (s_ret (e_tup (a_cons (e_str _) (a_cons (e_int 0) a_nil)))))))) .nil))
      (s_ret (e_tup (a_cons (e_str _) (a_cons (e_int 0) a_nil))))))⟩)

abbrev s_Rows_contains : Stmt := (clsBody (topS 10)).getD 4 (.Pass ⟨0, 0, 0, 0⟩)
abbrev N_Rows_contains : List PySem.Str := ["self", "numbers", "i", "j", "c"]
theorem sc_Rows_contains : FnScope N_Rows_contains ["self", "numbers"] (defScope s_Rows_contains) := ⟨rfl, rfl, rfl, by decide +kernel, rfl, by decide +kernel, by decide +kernel⟩
theorem ok_Rows_contains {P : Program} {w : World} {K : PySem.W.Frag} {cls : Nat → Addr} {mg : PySem.Str → Option Value} {base : Heap} {f : Addr} {fd : FuncData} (Fu : Fun K "__contains__" "Rows.__contains__" s_Rows_contains f fd) (h_is_whole_list : Fn P w K cls mg base "is_whole_list" 2 m_is_whole_list 1) (z_len : mg "len" = none) (cl_Rows : Cls K (cls 3)) (na_Rows_points : NoAttr K (cls 3) "points") (na_Rows__rows : NoAttr K (cls 3) "_rows") : FnOk P w K mg base CX0 3 f fd ["self", "numbers"] (spM K cls m_Rows_contains 2) := by
  obtain ⟨a_is_whole_list, fd_is_whole_list, ps_is_whole_list, G_is_whole_list, g_is_whole_list, kp_is_whole_list, b_is_whole_list⟩ := h_is_whole_list.ex
  exact fun_ok (N := N_Rows_contains) (m := m_Rows_contains_b) Fu sc_Rows_contains rfl rfl (fun cdv A outer s H E hr => ⟨_,
    (pss_cons (ps_if (pt_not (pt_val (pe_call G_is_whole_list (hr.mono (by decide)) (by rfl) g_is_whole_list kp_is_whole_list b_is_whole_list .nil pass0 (pa_cons (pv 1) pa_nil)))) (pss_one (ps_ret pe_bl)) pss_nil)
      (pss_cons (ps_if (PW.pt (pw_or (pt_cmpR (op_neD hr.units) (pe_callB cr_len (by rfl) z_len (by decide +kernel) (pa_cons (pv 1) pa_nil)) (pe_fld (pv 0) rfl) (nomark _)) (pw_or1 (pt_cmpR (op_neD hr.units) (pe_ix ix_seq (pv 1) pe_int (fun _ _ => rfl)) pe_int (nomark _))))) (pss_one (ps_ret pe_bl)) pss_nil)
      (pss_cons (ps_for PassesOwn.never rfl (pi_seq (pe_fld (pv 0) rfl)) (pg_seq rfl (pgs_cons (pg_name (i := 2) sc_Rows_contains.nd rfl (Or.inl rfl)) (pgs_cons (pg_name (i := 3) sc_Rows_contains.nd rfl (Or.inl rfl)) (pgs_cons (pg_name (i := 4) sc_Rows_contains.nd rfl (Or.inl rfl)) pgs_nil)))) (pss_one (ps_if (pt_cmpR op_lt (pe_op op_sub (pe_ix ix_seq (pv 1) (pv 3) (fun _ _ => rfl)) (pe_ix ix_seq (pv 1) (pv 2) (fun _ _ => rfl))) (pv 4) (nomark _)) (pss_one (ps_ret pe_bl)) pss_nil)))
      (pss_one (ps_ret pe_bl))))),
    (s_seq (s_if (t_not (t_B (e_own (a_cons (e_var 1) a_nil)))) (s_ret (e_bl false)) s_next)
      (s_seq (s_if (t_or (t_test (e_op o_ne (e_call c_len (a_cons (e_var 1) a_nil)) (e_getF cl_Rows na_Rows_points (e_var 0)))) (t_test (e_op o_ne (e_op o_ix (e_var 1) (e_int 0)) (e_int 0)))) (s_ret (e_bl false)) s_next)
      (s_seq (s_for (i_seq (e_getF cl_Rows na_Rows__rows (e_var 0))) (g_tup (g_cons (g_name 2 trivial) (g_cons (g_name 3 trivial) (g_cons (g_name 4 trivial) g_nil))) (gmAll_len _)) (s_if (t_test (e_op (o_cmp fun i j => decide (i < j)) (e_op o_sub (e_op o_ix (e_var 1) (e_var 3)) (e_op o_ix (e_var 1) (e_var 2))) (e_var 4))) (s_ret (e_bl false)) s_next))
      (s_ret (e_bl true)))))⟩)

abbrev s_Rows_add : Stmt := (clsBody (topS 10)).getD 5 (.Pass ⟨0, 0, 0, 0⟩)
abbrev N_Rows_add : List PySem.Str := ["self", "other", "moved_by", "found", "i", "j", "c"]
theorem sc_Rows_add : FnScope N_Rows_add ["self", "other"] (defScope s_Rows_add) := ⟨rfl, rfl, rfl, by decide +kernel, rfl, by decide +kernel, by decide +kernel⟩
theorem ok_Rows_add {P : Program} {w : World} {K : PySem.W.Frag} {cls : Nat → Addr} {mg : PySem.Str → Option Value} {base : Heap} {f : Addr} {fd : FuncData} (Fu : Fun K "__add__" "Rows.__add__" s_Rows_add f fd) (z_isinstance : mg "isinstance" = none) (g_Rows : mg "Rows" = some (.ref (cls 3))) (it_Rows : ∀ T ∈ ["NoneType", "bool", "int", "str", "tuple", "list"], PySem.W.kitOne K (.type T) (.ref (cls 3)) = some false) (ic_Rows : ∀ k b, tb [none, none, none, some true] k = some b → InF K (cls k) ∧ PySem.W.kitOne K (.ref (cls k)) (.ref (cls 3)) = some b) (cl_Rows : Cls K (cls 3)) (na_Rows_points : NoAttr K (cls 3) "points") (na_Rows__rows : NoAttr K (cls 3) "_rows") (z_list : mg "list" = none) (h_joined_point : Fn P w K cls mg base "joined_point" 1 m_joined_point 2) (h_Rows_init : MthX P w K cls mg base 3 "__init__" 1 m_Rows_init 3) (k_Rows : PySem.W.keepIn K (.ref (cls 3)) = true) (mk_Rows_ : PySem.W.makesIn K (cls 3) = true) : FnOk P w K mg base (L2N.CX P w) 3 f fd ["self", "other"] (spX K cls m_Rows_add 2) := by
  obtain ⟨a_joined_point, fd_joined_point, ps_joined_point, G_joined_point, g_joined_point, kp_joined_point, b_joined_point⟩ := h_joined_point.ex
  obtain ⟨a_Rows_init, fd_Rows_init, ps_Rows_init, G_Rows_init, M_Rows_init, b_Rows_init⟩ := h_Rows_init.ex
  exact fun_okX (N := N_Rows_add) (m := m_Rows_add_b) Fu sc_Rows_add rfl rfl (fun cdv A outer s H E hr => ⟨_,
    (pss_cons (ps_if (pt_not (pt_val (pe_callB call_isi (by rfl) z_isinstance (by decide +kernel) (pa_cons (pv 1) (pa_cons (pe_glob (v := .ref (cls 3)) (by rfl) g_Rows rfl) pa_nil))))) (pss_one (ps_ret pe_never)) pss_nil)
      (pss_cons (ps_set (i := 2) sc_Rows_add.nd rfl (Or.inl rfl) (pe_op op_sub (pe_fld (pv 0) rfl) pe_int))
      (pss_cons (ps_set (i := 3) sc_Rows_add.nd rfl (Or.inl rfl) (pe_callTy cr_list (by rfl) z_list (by decide +kernel) (pa_cons (pe_fld (pv 0) rfl) pa_nil)))
      (pss_cons (ps_for (L2.passes_of rfl) rfl (pi_seq (pe_fld (pv 1) rfl)) (pg_seq rfl (pgs_cons (pg_name (i := 4) sc_Rows_add.nd rfl (Or.inl rfl)) (pgs_cons (pg_name (i := 5) sc_Rows_add.nd rfl (Or.inl rfl)) (pgs_cons (pg_name (i := 6) sc_Rows_add.nd rfl (Or.inl rfl)) pgs_nil)))) (pss_one (ps_expr (pe_bm PySem.F.plainAttrs_list PySem.F.slot_list_append PySem.F.type_list_append mt_append (pv 3) (pa_cons (pe_tup (pa_cons (pe_call G_joined_point (hr.mono (by decide)) (by rfl) g_joined_point kp_joined_point b_joined_point .nil pass0 (pa_cons (pv 4) (pa_cons (pv 2) pa_nil))) (pa_cons (pe_call G_joined_point (hr.mono (by decide)) (by rfl) g_joined_point kp_joined_point b_joined_point .nil pass0 (pa_cons (pv 5) (pa_cons (pv 2) pa_nil))) (pa_cons (pv 6) pa_nil)))) pa_nil)))))
      (pss_one (ps_ret (GT.pe_makeS ⟨mk_Rows_, M_Rows_init.at_, M_Rows_init.fn, k_Rows⟩ G_Rows_init (hr.mono (by decide)) (by rfl) g_Rows b_Rows_init (fun σ => L2N.passAt (L2N.takes_of rfl rfl rfl rfl) σ) (pa_cons (pe_op op_sub (pe_op op_addU (pe_fld (pv 0) rfl) (pe_fld (pv 1) rfl)) pe_int) (pa_cons (pv 3) pa_nil))))))))),
    (s_seq (s_if (t_not (t_B (e_isC it_Rows ic_Rows (e_var 1)))) (s_ret e_never) s_next)
      (s_seq (s_set trivial (e_op o_sub (e_getF cl_Rows na_Rows_points (e_var 0)) (e_int 1)))
      (s_seq (s_set trivial (e_call c_list (a_cons (e_getF cl_Rows na_Rows__rows (e_var 0)) a_nil)))
      (s_seq (s_for (i_seq (e_getF cl_Rows na_Rows__rows (e_var 1))) (g_tup (g_cons (g_name 4 trivial) (g_cons (g_name 5 trivial) (g_cons (g_name 6 trivial) g_nil))) (gmAll_len _)) (s_drop (e_bm m_append (e_var 3) (a_cons (e_tup (a_cons (e_own (a_cons (e_var 4) (a_cons (e_var 2) a_nil))) (a_cons (e_own (a_cons (e_var 5) (a_cons (e_var 2) a_nil))) (a_cons (e_var 6) a_nil)))) a_nil) append_none)))
      (s_ret (e_makeX rfl (a_cons (e_op o_sub (e_op o_add (e_getF cl_Rows na_Rows_points (e_var 0)) (e_getF cl_Rows na_Rows_points (e_var 1))) (e_int 1)) (a_cons (e_var 3) a_nil))))))))⟩)

abbrev s_Rows_with_more : Stmt := (clsBody (topS 10)).getD 6 (.Pass ⟨0, 0, 0, 0⟩)
abbrev N_Rows_with_more : List PySem.Str := ["self", "more"]
theorem sc_Rows_with_more : FnScope N_Rows_with_more ["self", "more"] (defScope s_Rows_with_more) := ⟨rfl, rfl, rfl, by decide +kernel, rfl, by decide +kernel, by decide +kernel⟩
theorem ok_Rows_with_more {P : Program} {w : World} {K : PySem.W.Frag} {cls : Nat → Addr} {mg : PySem.Str → Option Value} {base : Heap} {f : Addr} {fd : FuncData} (Fu : Fun K "with_more" "Rows.with_more" s_Rows_with_more f fd) (cl_Rows : Cls K (cls 3)) (na_Rows__rows : NoAttr K (cls 3) "_rows") (z_list : mg "list" = none) (na_Rows_points : NoAttr K (cls 3) "points") (h_Rows_init : MthX P w K cls mg base 3 "__init__" 1 m_Rows_init 3) (g_Rows : mg "Rows" = some (.ref (cls 3))) (k_Rows : PySem.W.keepIn K (.ref (cls 3)) = true) (mk_Rows_ : PySem.W.makesIn K (cls 3) = true) : FnOk P w K mg base (L2N.CX P w) 3 f fd ["self", "more"] (spX K cls m_Rows_with_more 2) := by
  obtain ⟨a_Rows_init, fd_Rows_init, ps_Rows_init, G_Rows_init, M_Rows_init, b_Rows_init⟩ := h_Rows_init.ex
  exact fun_okX (N := N_Rows_with_more) (m := m_Rows_with_more_b) Fu sc_Rows_with_more rfl rfl (fun cdv A outer s H E hr => ⟨_,
    (pss_one (ps_ret (GT.pe_makeS ⟨mk_Rows_, M_Rows_init.at_, M_Rows_init.fn, k_Rows⟩ G_Rows_init (hr.mono (by decide)) (by rfl) g_Rows b_Rows_init (fun σ => L2N.passAt (L2N.takes_of rfl rfl rfl rfl) σ) (pa_cons (pe_fld (pv 0) rfl) (pa_cons (pe_op op_addU (pe_fld (pv 0) rfl) (pe_callTy cr_list (by rfl) z_list (by decide +kernel) (pa_cons (pv 1) pa_nil))) pa_nil))))),
    (s_ret (e_makeX rfl (a_cons (e_getF cl_Rows na_Rows_points (e_var 0)) (a_cons (e_op o_add (e_getF cl_Rows na_Rows__rows (e_var 0)) (e_call c_list (a_cons (e_var 1) a_nil))) a_nil))))⟩)

abbrev s_law_holds : Stmt := topS 21
abbrev N_law_holds : List PySem.Str := ["state", "made", "points", "rows", "numbers", "one", "handed"]
theorem sc_law_holds : FnScope N_law_holds ["state", "made", "points", "rows", "numbers"] (defScope s_law_holds) := ⟨rfl, rfl, rfl, by decide +kernel, rfl, by decide +kernel, by decide +kernel⟩
theorem ok_law_holds {P : Program} {w : World} {K : PySem.W.Frag} {cls : Nat → Addr} {mg : PySem.Str → Option Value} {base : Heap} (Fu : Df K mg "_law_holds" s_law_holds) (h_law_lists : Fn P w K cls mg base "_law_lists" 2 m_law_lists 2) (z_list : mg "list" = none) (h_Rows_contains : Mth P w K cls mg base 3 "__contains__" 3 m_Rows_contains 2) (h_law_keeps : Fn P w K cls mg base "_law_keeps" 1 m_law_keeps 3) (z_tuple : mg "tuple" = none) : Fn P w K cls mg base "_law_holds" 4 m_law_holds 5 := by
  obtain ⟨a_law_lists, fd_law_lists, ps_law_lists, G_law_lists, g_law_lists, kp_law_lists, b_law_lists⟩ := h_law_lists.ex
  obtain ⟨a_Rows_contains, fd_Rows_contains, ps_Rows_contains, G_Rows_contains, M_Rows_contains, b_Rows_contains⟩ := h_Rows_contains.ex
  obtain ⟨a_law_keeps, fd_law_keeps, ps_law_keeps, G_law_keeps, g_law_keeps, kp_law_keeps, b_law_keeps⟩ := h_law_keeps.ex
  exact df_ok (N := N_law_holds) (ps := ["state", "made", "points", "rows", "numbers"]) (m := m_law_holds_b) Fu sc_law_holds rfl rfl (fun _ _ _ _ _ _ us hl => match us, hl with | [_, _, _, _, _], _ => rfl) (fun f cdv A outer s H E hr => ⟨_,
    (pss_cons (ps_for PassesOwn.never rfl (pi_seq (pe_call G_law_lists (hr.mono (by decide)) (by rfl) g_law_lists kp_law_lists b_law_lists .nil pass0 (pa_cons (pv 0) (pa_cons (pv 4) pa_nil)))) (pg_name (i := 5) sc_law_holds.nd rfl (Or.inl rfl)) (pss_cons (ps_set (i := 6) sc_law_holds.nd rfl (Or.inl rfl) (pe_callTy cr_list (by rfl) z_list (by decide +kernel) (pa_cons (pv 5) pa_nil)))
      (pss_one (ps_if (PW.pt (pw_or (pt_cmpR (op_neD hr.units) (pe_cmpR (op_or (GT.op_inO G_Rows_contains (hr.mono (by decide)) M_Rows_contains.at_ M_Rows_contains.fn b_Rows_contains (fun σ => passC (E := E0) σ)) op_no) (pv 6) (pv 1) rfl) (pe_call G_law_keeps (hr.mono (by decide)) (by rfl) g_law_keeps kp_law_keeps b_law_keeps .nil pass0 (pa_cons (pv 2) (pa_cons (pv 3) (pa_cons (pv 5) pa_nil)))) (nomark _)) (pw_or1 (pt_cmpR (op_neD hr.units) (pv 6) (pv 5) (nomark _))))) (pss_one (ps_ret pe_bl)) pss_nil))))
      (pss_one (ps_ret (pe_and (pe_cmpR (op_or (GT.op_notinO G_Rows_contains (hr.mono (by decide)) M_Rows_contains.at_ M_Rows_contains.fn b_Rows_contains (fun σ => passC (E := E0) σ)) op_no) (pe_tupleOf (by rfl) z_tuple (pv 4)) (pv 1) rfl) (pe_one (pe_cmpR (op_or (GT.op_notinO G_Rows_contains (hr.mono (by decide)) M_Rows_contains.at_ M_Rows_contains.fn b_Rows_contains (fun σ => passC (E := E0) σ)) op_no) (pe_op op_addU (pe_lst (pa_cons pe_bl pa_nil)) (pe_slice sl_list (pv 4) (po_some pe_int) po_none)) (pv 1) rfl)))))),
    (s_seq (s_for (i_seq (e_own (a_cons (e_var 0) (a_cons (e_var 4) a_nil)))) (g_name 5 trivial) (s_seq (s_set trivial (e_call c_list (a_cons (e_var 5) a_nil)))
      (s_if (t_or (t_test (e_op o_ne (e_op (o_inO rfl o_no) (e_var 6) (e_var 1)) (e_own (a_cons (e_var 2) (a_cons (e_var 3) (a_cons (e_var 5) a_nil)))))) (t_test (e_op o_ne (e_var 6) (e_var 5)))) (s_ret (e_bl false)) s_next)))
      (s_ret (e_and (e_op (o_inO rfl o_no) (e_tupleOf (e_var 4)) (e_var 1)) (e_op (o_inO rfl o_no) (e_op o_add (e_lst (a_cons (e_bl false) a_nil)) (e_slice sl_lst (e_var 4) (o_some (e_int 1)) o_none)) (e_var 1)))))⟩)

abbrev s_law_more : Stmt := topS 26
abbrev N_law_more : List PySem.Str := ["made", "more", "handed", "e"]
theorem sc_law_more : FnScope N_law_more ["made", "more"] (defScope s_law_more) := ⟨rfl, rfl, rfl, by decide +kernel, rfl, by decide +kernel, by decide +kernel⟩
theorem ok_law_more {P : Program} {w : World} {K : PySem.W.Frag} {cls : Nat → Addr} {mg : PySem.Str → Option Value} {base : Heap} (Fu : Df K mg "_law_more" s_law_more) (z_list : mg "list" = none) (h_Rows_with_more : MthX P w K cls mg base 3 "with_more" 3 m_Rows_with_more 2) (cl_Rows : Cls K (cls 3)) (g_FitError : mg "FitError" = some (.ref (cls 0))) (xm_FitError : ∀ k b, tb [none, some true, some true, none] k = some b → PySem.W.exmOne K (.ref (cls k)) (.ref (cls 0)) = some b) (z_isinstance : mg "isinstance" = none) (g_BadRow : mg "BadRow" = some (.ref (cls 2))) (kt_BadRow : ∀ k b, tb [none, some false, some true, none] k = some b → PySem.W.kitOne K (.ref (cls k)) (.ref (cls 2)) = some b ∧ L2.ExcC K (cls k)) (g_BadCount : mg "BadCount" = some (.ref (cls 1))) (kt_BadCount : ∀ k b, tb [none, some true, some false, none] k = some b → PySem.W.kitOne K (.ref (cls k)) (.ref (cls 1)) = some b ∧ L2.ExcC K (cls k)) (fx_index : ∀ k b, tb [none, none, some true, none] k = some b → GT.FldC K (cls k) "index") : Fn P w K cls mg base "_law_more" 4 m_law_more 2 := by
  obtain ⟨a_Rows_with_more, fd_Rows_with_more, ps_Rows_with_more, G_Rows_with_more, M_Rows_with_more, b_Rows_with_more⟩ := h_Rows_with_more.ex
  exact df_ok (N := N_law_more) (ps := ["made", "more"]) (m := m_law_more_b) Fu sc_law_more rfl rfl (fun _ _ _ _ _ _ us hl => match us, hl with | [_, _], _ => rfl) (fun f cdv A outer s H E hr => ⟨_,
    (pss_cons (ps_set (i := 2) sc_law_more.nd rfl (Or.inl rfl) (pe_callTy cr_list (by rfl) z_list (by decide +kernel) (pa_cons (pv 1) pa_nil)))
      (pss_cons (GT.ps_mix rfl rfl sc_law_more.nd takesF (fun W pn xe tk po => (pss_one (ps_ret (pe_lst (pa_cons pe_str (pa_cons (GT.pe_methO (pv 0) cl_Rows M_Rows_with_more G_Rows_with_more (hr.mono (by decide)) b_Rows_with_more (fun σ => L2N.passAt tk σ) (pa_cons (pv 2) pa_nil)) pa_nil)))))) (GT.Cls'.named (i := 3) rfl rfl ⟨by rfl, by decide, .inl g_FitError⟩ (fun a oe k d pn hz hf => (pss_one (ps_if (PW.pt (pw_and (pt_val (pe_callB (GT.call_isD hz.zc hf) (by rfl) z_isinstance (by decide +kernel) (pa_cons (pv 3) (pa_cons (pe_glob (v := .ref (cls 2)) (by rfl) g_BadRow rfl) pa_nil)))) (pw_and (pt_not (pt_val (pe_callB (GT.call_isD hz.zc hf) (by rfl) z_isinstance (by decide +kernel) (pa_cons (pv 3) (pa_cons (pe_glob (v := .ref (cls 1)) (by rfl) g_BadCount rfl) pa_nil))))) (pw_and1 (pt_cmpR (op_eqD hr.units) (pv 2) (pv 1) (nomark _)))))) (pss_one (ps_ret (pe_lst (pa_cons pe_str (pa_cons (GT.pe_fldX hz.zc hf (pv 3)) pa_nil))))) pss_nil))) GT.Cls'.nil))
      (pss_one (ps_ret (pe_lst (pa_cons pe_str (pa_cons pe_int pa_nil))))))),
    (s_seq (s_set trivial (e_call c_list (a_cons (e_var 1) a_nil)))
      (s_seq (s_try (fun _ => (s_ret (e_lst (a_cons (e_str _) (a_cons (e_methX rfl (e_var 0) (a_cons (e_var 2) a_nil)) a_nil))))) (ClsOk.mk2 (fun _ _ => trivial) xm_FitError (fun a k d gs fs hb hf => (s_if (t_and (t_B (e_isEo (kt_BadRow k))) (t_and (t_not (t_B (e_isEo (kt_BadCount k)))) (t_test (e_op o_eq (e_var 2) (e_var 1))))) (s_ret (e_lst (a_cons (e_str _) (a_cons (e_fldT hf (fx_index k)) a_nil)))) s_next)) .nil))
      (s_ret (e_lst (a_cons (e_str _) (a_cons (e_int 0) a_nil))))))⟩)

abbrev s_law_compares : Stmt := topS 30
abbrev N_law_compares : List PySem.Str := ["state", "made", "points", "rows", "many", "listed", "other", "same"]
theorem sc_law_compares : FnScope N_law_compares ["state", "made", "points", "rows"] (defScope s_law_compares) := ⟨rfl, rfl, rfl, by decide +kernel, rfl, by decide +kernel, by decide +kernel⟩
theorem ok_law_compares {P : Program} {w : World} {K : PySem.W.Frag} {cls : Nat → Addr} {mg : PySem.Str → Option Value} {base : Heap} (Fu : Df K mg "_law_compares" s_law_compares) (h_law_others : Fn P w K cls mg base "_law_others" 2 m_law_others 3) (h_Rows_with_more : MthX P w K cls mg base 3 "with_more" 3 m_Rows_with_more 2) (h_Rows_init : MthX P w K cls mg base 3 "__init__" 1 m_Rows_init 3) (g_Rows : mg "Rows" = some (.ref (cls 3))) (k_Rows : PySem.W.keepIn K (.ref (cls 3)) = true) (mk_Rows_ : PySem.W.makesIn K (cls 3) = true) (z_list : mg "list" = none) (cl_Rows : Cls K (cls 3)) (h_Rows_eq : Mth P w K cls mg base 3 "__eq__" 1 m_Rows_eq 2) (ne_Rows_ : PySem.W.findIn K (.ref (cls 3)) "__ne__" = some (some (.builtin "object.__ne__"))) (ob_Rows_ : PySem.W.mroIn K (cls 3) (.type "object") = some true) : Fn P w K cls mg base "_law_compares" 4 m_law_compares 4 := by
  obtain ⟨a_law_others, fd_law_others, ps_law_others, G_law_others, g_law_others, kp_law_others, b_law_others⟩ := h_law_others.ex
  obtain ⟨a_Rows_with_more, fd_Rows_with_more, ps_Rows_with_more, G_Rows_with_more, M_Rows_with_more, b_Rows_with_more⟩ := h_Rows_with_more.ex
  obtain ⟨a_Rows_init, fd_Rows_init, ps_Rows_init, G_Rows_init, M_Rows_init, b_Rows_init⟩ := h_Rows_init.ex
  obtain ⟨a_Rows_eq, fd_Rows_eq, ps_Rows_eq, G_Rows_eq, M_Rows_eq, b_Rows_eq⟩ := h_Rows_eq.ex
  exact df_ok (N := N_law_compares) (ps := ["state", "made", "points", "rows"]) (m := m_law_compares_b) Fu sc_law_compares rfl rfl (fun _ _ _ _ _ _ us hl => match us, hl with | [_, _, _, _], _ => rfl) (fun f cdv A outer s H E hr => ⟨_,
    (pss_cons (ps_for PassesOwn.never rfl (pi_seq (pe_call G_law_others (hr.mono (by decide)) (by rfl) g_law_others kp_law_others b_law_others .nil pass0 (pa_cons (pv 0) (pa_cons (pv 2) (pa_cons (pv 3) pa_nil))))) (pg_seq rfl (pgs_cons (pg_name (i := 4) sc_law_compares.nd rfl (Or.inl rfl)) (pgs_cons (pg_name (i := 5) sc_law_compares.nd rfl (Or.inl rfl)) pgs_nil))) (pss_cons (ps_set (i := 6) sc_law_compares.nd rfl (Or.inl rfl) (GT.pe_methO (GT.pe_makeS ⟨mk_Rows_, M_Rows_init.at_, M_Rows_init.fn, k_Rows⟩ G_Rows_init (hr.mono (by decide)) (by rfl) g_Rows b_Rows_init (fun σ => pass0X σ) (pa_cons (pv 4) (pa_cons (pe_lst pa_nil) pa_nil))) cl_Rows M_Rows_with_more G_Rows_with_more (hr.mono (by decide)) b_Rows_with_more (fun σ => pass0X σ) (pa_cons (pe_callTy cr_list (by rfl) z_list (by decide +kernel) (pa_cons (pv 5) pa_nil)) pa_nil)))
      (pss_cons (ps_set (i := 7) sc_law_compares.nd rfl (Or.inl rfl) (pe_and (pe_cmpR (op_eqD hr.units) (pv 4) (pv 2) (nomark _)) (pe_one (pe_cmpR (op_eqD hr.units) (pv 5) (pv 3) (nomark _)))))
      (pss_one (ps_if (PW.pt (pw_or (pt_cmpR (op_neD hr.units) (pe_cmpR (op_or (GT.op_eqO G_Rows_eq (hr.mono (by decide)) M_Rows_eq.at_ M_Rows_eq.fn b_Rows_eq (fun σ => passC (E := E0) σ)) op_no) (pv 1) (pv 6) (nomark _)) (pv 7) (nomark _)) (pw_or (pt_cmpR (op_neD hr.units) (pe_cmpR (op_or (GT.op_eqO G_Rows_eq (hr.mono (by decide)) M_Rows_eq.at_ M_Rows_eq.fn b_Rows_eq (fun σ => passC (E := E0) σ)) op_no) (pv 6) (pv 1) (nomark _)) (pv 7) (nomark _)) (pw_or1 (pt_cmpR (op_eqD hr.units) (pe_cmpR (op_or (GT.op_neO G_Rows_eq (hr.mono (by decide)) ne_Rows_ ob_Rows_ M_Rows_eq.at_ M_Rows_eq.fn b_Rows_eq (fun σ => passC (E := E0) σ)) op_no) (pv 1) (pv 6) (nomark _)) (pv 7) (nomark _)))))) (pss_one (ps_ret pe_bl)) pss_nil)))))
      (pss_one (ps_ret pe_bl))),
    (s_seq (s_for (i_seq (e_own (a_cons (e_var 0) (a_cons (e_var 2) (a_cons (e_var 3) a_nil))))) (g_tup (g_cons (g_name 4 trivial) (g_cons (g_name 5 trivial) g_nil)) (gmAll_len _)) (s_seq (s_set trivial (e_meth0 rfl (e_make0 rfl (a_cons (e_var 4) (a_cons (e_lst a_nil) a_nil))) (a_cons (e_call c_list (a_cons (e_var 5) a_nil)) a_nil)))
      (s_seq (s_set trivial (e_and (e_op o_eq (e_var 4) (e_var 2)) (e_op o_eq (e_var 5) (e_var 3))))
      (s_if (t_or (t_test (e_op o_ne (e_op (o_eqO rfl o_no) (e_var 1) (e_var 6)) (e_var 7))) (t_or (t_test (e_op o_ne (e_op (o_eqO rfl o_no) (e_var 6) (e_var 1)) (e_var 7))) (t_test (e_op o_eq (e_op (o_neO rfl o_no) (e_var 1) (e_var 6)) (e_var 7))))) (s_ret (e_bl false)) s_next))))
      (s_ret (e_bl true)))⟩)

abbrev s_law_sum : Stmt := topS 32
abbrev N_law_sum : List PySem.Str := ["one", "two", "e"]
theorem sc_law_sum : FnScope N_law_sum ["one", "two"] (defScope s_law_sum) := ⟨rfl, rfl, rfl, by decide +kernel, rfl, by decide +kernel, by decide +kernel⟩
theorem ok_law_sum {P : Program} {w : World} {K : PySem.W.Frag} {cls : Nat → Addr} {mg : PySem.Str → Option Value} {base : Heap} (Fu : Df K mg "_law_sum" s_law_sum) (h_Rows_add : MthX P w K cls mg base 3 "__add__" 3 m_Rows_add 2) (sf_Rows_ : PySem.W.selfFirst K (cls 3) = true) (g_FitError : mg "FitError" = some (.ref (cls 0))) (xm_FitError : ∀ k b, tb [none, some true, some true, none] k = some b → PySem.W.exmOne K (.ref (cls k)) (.ref (cls 0)) = some b) (z_isinstance : mg "isinstance" = none) (g_BadCount : mg "BadCount" = some (.ref (cls 1))) (kt_BadCount : ∀ k b, tb [none, some true, some false, none] k = some b → PySem.W.kitOne K (.ref (cls k)) (.ref (cls 1)) = some b ∧ L2.ExcC K (cls k)) (g_BadRow : mg "BadRow" = some (.ref (cls 2))) (kt_BadRow : ∀ k b, tb [none, some false, some true, none] k = some b → PySem.W.kitOne K (.ref (cls k)) (.ref (cls 2)) = some b ∧ L2.ExcC K (cls k)) (fx_number : ∀ k b, tb [none, some true, none, none] k = some b → GT.FldC K (cls k) "number") : Fn P w K cls mg base "_law_sum" 4 m_law_sum 2 := by
  obtain ⟨a_Rows_add, fd_Rows_add, ps_Rows_add, G_Rows_add, M_Rows_add, b_Rows_add⟩ := h_Rows_add.ex
  exact df_ok (N := N_law_sum) (ps := ["one", "two"]) (m := m_law_sum_b) Fu sc_law_sum rfl rfl (fun _ _ _ _ _ _ us hl => match us, hl with | [_, _], _ => rfl) (fun f cdv A outer s H E hr => ⟨_,
    (pss_cons (GT.ps_mix rfl rfl sc_law_sum.nd takesF (fun W pn xe tk po => (pss_one (ps_ret (pe_lst (pa_cons pe_str (pa_cons (GT.pe_addO G_Rows_add (hr.mono (by decide)) sf_Rows_ M_Rows_add.at_ M_Rows_add.fn b_Rows_add (fun σ => L2N.passAt tk σ) (pv 0) (pv 1)) pa_nil)))))) (GT.Cls'.named (i := 2) rfl rfl ⟨by rfl, by decide, .inl g_FitError⟩ (fun a oe k d pn hz hf => (pss_one (ps_if (PW.pt (pw_and (pt_val (pe_callB (GT.call_isD hz.zc hf) (by rfl) z_isinstance (by decide +kernel) (pa_cons (pv 2) (pa_cons (pe_glob (v := .ref (cls 1)) (by rfl) g_BadCount rfl) pa_nil)))) (pw_and1 (pt_not (pt_val (pe_callB (GT.call_isD hz.zc hf) (by rfl) z_isinstance (by decide +kernel) (pa_cons (pv 2) (pa_cons (pe_glob (v := .ref (cls 2)) (by rfl) g_BadRow rfl) pa_nil)))))))) (pss_one (ps_ret (pe_lst (pa_cons pe_str (pa_cons (GT.pe_fldX hz.zc hf (pv 2)) pa_nil))))) pss_nil))) GT.Cls'.nil))
      (pss_one (ps_ret (pe_lst (pa_cons pe_str (pa_cons pe_int pa_nil)))))),
    (s_seq (s_try (fun _ => (s_ret (e_lst (a_cons (e_str _) (a_cons (e_addX rfl (e_var 0) (e_var 1)) a_nil))))) (ClsOk.mk2 (fun _ _ => trivial) xm_FitError (fun a k d gs fs hb hf => (s_if (t_and (t_B (e_isEo (kt_BadCount k))) (t_not (t_B (e_isEo (kt_BadRow k))))) (s_ret (e_lst (a_cons (e_str _) (a_cons (e_fldT hf (fx_number k)) a_nil)))) s_next)) .nil))
      (s_ret (e_lst (a_cons (e_str _) (a_cons (e_int 0) a_nil)))))⟩)

abbrev s_law_tells : Stmt := topS 20
abbrev N_law_tells : List PySem.Str := ["made", "points", "rows", "turn", "told", "place", "row"]
theorem sc_law_tells : FnScope N_law_tells ["made", "points", "rows"] (defScope s_law_tells) := ⟨rfl, rfl, rfl, by decide +kernel, rfl, by decide +kernel, by decide +kernel⟩
theorem ok_law_tells {P : Program} {w : World} {K : PySem.W.Frag} {cls : Nat → Addr} {mg : PySem.Str → Option Value} {base : Heap} (Fu : Df K mg "_law_tells" s_law_tells) (z_isinstance : mg "isinstance" = none) (g_Rows : mg "Rows" = some (.ref (cls 3))) (it_Rows : ∀ T ∈ ["NoneType", "bool", "int", "str", "tuple", "list"], PySem.W.kitOne K (.type T) (.ref (cls 3)) = some false) (ic_Rows : ∀ k b, tb [none, none, none, some true] k = some b → InF K (cls k) ∧ PySem.W.kitOne K (.ref (cls k)) (.ref (cls 3)) = some b) (cl_Rows : Cls K (cls 3)) (na_Rows_points : NoAttr K (cls 3) "points") (h_law_int : Fn P w K cls mg base "_law_int" 1 m_law_int 1) (h_Rows_len : Mth P w K cls mg base 3 "__len__" 1 m_Rows_len 1) (z_len : mg "len" = none) (z_range : mg "range" = none) (h_Rows_iter : MthI P w K cls mg base 3 "_rows") (z_list : mg "list" = none) (z_enumerate : mg "enumerate" = none) (z_tuple : mg "tuple" = none) (h_law_ints : Fn P w K cls mg base "_law_ints" 2 m_law_ints 1) : Fn P w K cls mg base "_law_tells" 5 m_law_tells 3 := by
  obtain ⟨a_law_int, fd_law_int, ps_law_int, G_law_int, g_law_int, kp_law_int, b_law_int⟩ := h_law_int.ex
  obtain ⟨a_Rows_len, fd_Rows_len, ps_Rows_len, G_Rows_len, M_Rows_len, b_Rows_len⟩ := h_Rows_len.ex
  obtain ⟨a_Rows_iter, fd_Rows_iter, ps_Rows_iter, G_Rows_iter, M_Rows_iter, b_Rows_iter⟩ := h_Rows_iter.ex
  obtain ⟨a_law_ints, fd_law_ints, ps_law_ints, G_law_ints, g_law_ints, kp_law_ints, b_law_ints⟩ := h_law_ints.ex
  exact df_ok (N := N_law_tells) (ps := ["made", "points", "rows"]) (m := m_law_tells_b) Fu sc_law_tells rfl rfl (fun _ _ _ _ _ _ us hl => match us, hl with | [_, _, _], _ => rfl) (fun f cdv A outer s H E hr => ⟨_,
    (pss_cons (ps_if (PW.pt (pw_or (pt_not (pt_val (pe_callB call_isi (by rfl) z_isinstance (by decide +kernel) (pa_cons (pv 0) (pa_cons (pe_glob (v := .ref (cls 3)) (by rfl) g_Rows rfl) pa_nil))))) (pw_or1 (pt_not (pt_val (pe_call G_law_int (hr.mono (by decide)) (by rfl) g_law_int kp_law_int b_law_int .nil pass0 (pa_cons (pe_fld (pv 0) rfl) pa_nil))))))) (pss_one (ps_ret pe_bl)) pss_nil)
      (pss_cons (ps_if (PW.pt (pw_or (pt_cmpR (op_neD hr.units) (pe_fld (pv 0) rfl) (pv 1) (nomark _)) (pw_or1 (pt_cmpR (op_neD hr.units) (pe_callB (cr_or (GT.cr_lenO G_Rows_len (hr.mono (by decide)) M_Rows_len.at_ M_Rows_len.fn b_Rows_len (fun σ => passC (E := E0) σ)) cr_no) (by rfl) z_len (by decide +kernel) (pa_cons (pv 0) pa_nil)) (pe_callB cr_len (by rfl) z_len (by decide +kernel) (pa_cons (pv 2) pa_nil)) (nomark _))))) (pss_one (ps_ret pe_bl)) pss_nil)
      (pss_cons (ps_for PassesOwn.never rfl (pi_range1 (by rfl) z_range (pa_cons pe_int pa_nil)) (pg_name (i := 3) sc_law_tells.nd rfl (Or.inl rfl)) (pss_cons (ps_set (i := 4) sc_law_tells.nd rfl (Or.inl rfl) (pe_callTy (cr_or (GT.call_listO rfl G_Rows_iter G_Rows_len (hr.mono (by decide)) (hr.mono (by decide)) M_Rows_iter.at_ M_Rows_iter.fn b_Rows_iter M_Rows_len.at_ M_Rows_len.fn b_Rows_len) cr_no) (by rfl) z_list (by decide +kernel) (pa_cons (pv 0) pa_nil)))
      (pss_cons (ps_if (pt_cmpR (op_neD hr.units) (pe_callB cr_len (by rfl) z_len (by decide +kernel) (pa_cons (pv 4) pa_nil)) (pe_callB cr_len (by rfl) z_len (by decide +kernel) (pa_cons (pv 2) pa_nil)) (nomark _)) (pss_one (ps_ret pe_bl)) pss_nil)
      (pss_one (ps_for PassesOwn.never rfl (pi_enum (by rfl) z_enumerate (pa_cons (pv 4) pa_nil)) (pg_seq rfl (pgs_cons (pg_name (i := 5) sc_law_tells.nd rfl (Or.inl rfl)) (pgs_cons (pg_name (i := 6) sc_law_tells.nd rfl (Or.inl rfl)) pgs_nil))) (pss_one (ps_if (PW.pt (pw_or (pt_not (pt_val (pe_callB call_isi (by rfl) z_isinstance (by decide +kernel) (pa_cons (pv 6) (pa_cons (pe_bltn (v := .ty "tuple") (by rfl) z_tuple (by decide +kernel) rfl) pa_nil))))) (pw_or (pt_not (pt_val (pe_call G_law_ints (hr.mono (by decide)) (by rfl) g_law_ints kp_law_ints b_law_ints .nil pass0 (pa_cons (pe_callTy cr_list (by rfl) z_list (by decide +kernel) (pa_cons (pv 6) pa_nil)) pa_nil)))) (pw_or1 (pt_cmpR (op_neD hr.units) (pv 6) (pe_ix ix_seq (pv 2) (pv 5) (fun _ _ => rfl)) (nomark _)))))) (pss_one (ps_ret pe_bl)) pss_nil)))))))
      (pss_one (ps_ret pe_bl))))),
    (s_seq (s_if (t_or (t_not (t_B (e_isC it_Rows ic_Rows (e_var 0)))) (t_not (t_B (e_own (a_cons (e_getF cl_Rows na_Rows_points (e_var 0)) a_nil))))) (s_ret (e_bl false)) s_next)
      (s_seq (s_if (t_or (t_test (e_op o_ne (e_getF cl_Rows na_Rows_points (e_var 0)) (e_var 1))) (t_test (e_op o_ne (e_call (c_lenO rfl c_no) (a_cons (e_var 0) a_nil)) (e_call c_len (a_cons (e_var 2) a_nil))))) (s_ret (e_bl false)) s_next)
      (s_seq (s_for (i_rng1 (a_cons (e_int 2) a_nil)) (g_name 3 trivial) (s_seq (s_set trivial (e_call (c_listO rfl c_no) (a_cons (e_var 0) a_nil)))
      (s_seq (s_if (t_test (e_op o_ne (e_call c_len (a_cons (e_var 4) a_nil)) (e_call c_len (a_cons (e_var 2) a_nil)))) (s_ret (e_bl false)) s_next)
      (s_for (i_enum (e_var 4)) (g_tup (g_cons (g_name 5 trivial) (g_cons (g_name 6 trivial) g_nil)) (gmAll_len _)) (s_if (t_or (t_not (t_B (e_call c_isi (a_cons (e_var 6) (a_cons (e_ty _) a_nil))))) (t_or (t_not (t_B (e_own (a_cons (e_call c_list (a_cons (e_var 6) a_nil)) a_nil)))) (t_test (e_op o_ne (e_var 6) (e_op o_ix (e_var 2) (e_var 5)))))) (s_ret (e_bl false)) s_next)))))
      (s_ret (e_bl true)))))⟩)

abbrev s_law_refuses : Stmt := topS 28
abbrev N_law_refuses : List PySem.Str := ["state", "points", "rows", "bad", "wrong", "many", "listed", "made", "told", "due"]
theorem sc_law_refuses : FnScope N_law_refuses ["state", "points", "rows"] (defScope s_law_refuses) := ⟨rfl, rfl, rfl, by decide +kernel, rfl, by decide +kernel, by decide +kernel⟩
theorem ok_law_refuses {P : Program} {w : World} {K : PySem.W.Frag} {cls : Nat → Addr} {mg : PySem.Str → Option Value} {base : Heap} (Fu : Df K mg "_law_refuses" s_law_refuses) (h_law_bad : Fn P w K cls mg base "_law_bad" 2 m_law_bad 3) (h_law_next : Fn P w K cls mg base "_law_next" 1 m_law_next 2) (h_law_due : Fn P w K cls mg base "_law_due" 1 m_law_due 2) (h_law_made : Fn P w K cls mg base "_law_made" 3 m_law_made 2) (h_law_alike : Fn P w K cls mg base "_law_alike" 2 m_law_alike 2) (z_list : mg "list" = none) (h_Rows_init : MthX P w K cls mg base 3 "__init__" 1 m_Rows_init 3) (g_Rows : mg "Rows" = some (.ref (cls 3))) (k_Rows : PySem.W.keepIn K (.ref (cls 3)) = true) (mk_Rows_ : PySem.W.makesIn K (cls 3) = true) (h_law_more : Fn P w K cls mg base "_law_more" 4 m_law_more 2) (z_len : mg "len" = none) (h_law_tells : Fn P w K cls mg base "_law_tells" 5 m_law_tells 3) (h_Rows_eq : Mth P w K cls mg base 3 "__eq__" 1 m_Rows_eq 2) : Fn P w K cls mg base "_law_refuses" 6 m_law_refuses 3 := by
  obtain ⟨a_law_bad, fd_law_bad, ps_law_bad, G_law_bad, g_law_bad, kp_law_bad, b_law_bad⟩ := h_law_bad.ex
  obtain ⟨a_law_next, fd_law_next, ps_law_next, G_law_next, g_law_next, kp_law_next, b_law_next⟩ := h_law_next.ex
  obtain ⟨a_law_due, fd_law_due, ps_law_due, G_law_due, g_law_due, kp_law_due, b_law_due⟩ := h_law_due.ex
  obtain ⟨a_law_made, fd_law_made, ps_law_made, G_law_made, g_law_made, kp_law_made, b_law_made⟩ := h_law_made.ex
  obtain ⟨a_law_alike, fd_law_alike, ps_law_alike, G_law_alike, g_law_alike, kp_law_alike, b_law_alike⟩ := h_law_alike.ex
  obtain ⟨a_Rows_init, fd_Rows_init, ps_Rows_init, G_Rows_init, M_Rows_init, b_Rows_init⟩ := h_Rows_init.ex
  obtain ⟨a_law_more, fd_law_more, ps_law_more, G_law_more, g_law_more, kp_law_more, b_law_more⟩ := h_law_more.ex
  obtain ⟨a_law_tells, fd_law_tells, ps_law_tells, G_law_tells, g_law_tells, kp_law_tells, b_law_tells⟩ := h_law_tells.ex
  obtain ⟨a_Rows_eq, fd_Rows_eq, ps_Rows_eq, G_Rows_eq, M_Rows_eq, b_Rows_eq⟩ := h_Rows_eq.ex
  exact df_ok (N := N_law_refuses) (ps := ["state", "points", "rows"]) (m := m_law_refuses_b) Fu sc_law_refuses rfl rfl (fun _ _ _ _ _ _ us hl => match us, hl with | [_, _, _], _ => rfl) (fun f cdv A outer s H E hr => ⟨_,
    (pss_cons (ps_set (i := 3) sc_law_refuses.nd rfl (Or.inl rfl) (pe_call G_law_bad (hr.mono (by decide)) (by rfl) g_law_bad kp_law_bad b_law_bad .nil pass0 (pa_cons (pv 0) (pa_cons (pv 1) (pa_cons (pv 2) pa_nil)))))
      (pss_cons (ps_set (i := 4) sc_law_refuses.nd rfl (Or.inl rfl) (pe_ix ix_seq (pe_lst (pa_cons pe_int (pa_cons pe_int (pa_cons (pe_op op_sub pe_int pe_int) (pa_cons (pe_op op_addU pe_int (pe_call G_law_next (hr.mono (by decide)) (by rfl) g_law_next kp_law_next b_law_next .nil pass0 (pa_cons (pv 0) (pa_cons pe_int pa_nil)))) pa_nil))))) (pe_call G_law_next (hr.mono (by decide)) (by rfl) g_law_next kp_law_next b_law_next .nil pass0 (pa_cons (pv 0) (pa_cons pe_int pa_nil))) (fun _ _ => rfl)))
      (pss_cons (ps_for PassesOwn.never rfl (pi_seq (pe_lst (pa_cons (pe_tup (pa_cons (pv 1) (pa_cons (pv 3) pa_nil))) (pa_cons (pe_tup (pa_cons (pv 4) (pa_cons (pv 3) pa_nil))) (pa_cons (pe_tup (pa_cons (pv 4) (pa_cons (pv 2) pa_nil))) (pa_cons (pe_tup (pa_cons pe_int (pa_cons (pv 2) pa_nil))) (pa_cons (pe_tup (pa_cons pe_int (pa_cons (pe_lst pa_nil) pa_nil))) (pa_cons (pe_tup (pa_cons pe_int (pa_cons (pe_lst pa_nil) pa_nil))) (pa_cons (pe_tup (pa_cons (pv 1) (pa_cons (pv 2) pa_nil))) pa_nil))))))))) (pg_seq rfl (pgs_cons (pg_name (i := 5) sc_law_refuses.nd rfl (Or.inl rfl)) (pgs_cons (pg_name (i := 6) sc_law_refuses.nd rfl (Or.inl rfl)) pgs_nil))) (pss_one (ps_if (pt_not (pt_val (pe_call G_law_alike (hr.mono (by decide)) (by rfl) g_law_alike kp_law_alike b_law_alike .nil pass0 (pa_cons (pe_call G_law_made (hr.mono (by decide)) (by rfl) g_law_made kp_law_made b_law_made .nil pass0 (pa_cons (pv 5) (pa_cons (pv 6) pa_nil))) (pa_cons (pe_call G_law_due (hr.mono (by decide)) (by rfl) g_law_due kp_law_due b_law_due .nil pass0 (pa_cons (pv 5) (pa_cons (pv 6) pa_nil))) pa_nil))))) (pss_one (ps_ret pe_bl)) pss_nil)))
      (pss_cons (ps_set (i := 7) sc_law_refuses.nd rfl (Or.inl rfl) (GT.pe_makeS ⟨mk_Rows_, M_Rows_init.at_, M_Rows_init.fn, k_Rows⟩ G_Rows_init (hr.mono (by decide)) (by rfl) g_Rows b_Rows_init (fun σ => pass0X σ) (pa_cons (pv 1) (pa_cons (pe_callTy cr_list (by rfl) z_list (by decide +kernel) (pa_cons (pv 2) pa_nil)) pa_nil))))
      (pss_cons (ps_set (i := 8) sc_law_refuses.nd rfl (Or.inl rfl) (pe_call G_law_more (hr.mono (by decide)) (by rfl) g_law_more kp_law_more b_law_more .nil pass0 (pa_cons (pv 7) (pa_cons (pv 3) pa_nil))))
      (pss_cons (ps_set (i := 9) sc_law_refuses.nd rfl (Or.inl rfl) (pe_call G_law_due (hr.mono (by decide)) (by rfl) g_law_due kp_law_due b_law_due .nil pass0 (pa_cons (pv 1) (pa_cons (pv 3) pa_nil))))
      (pss_cons (ps_if (pt_cmpR (op_eqD hr.units) (pe_ix ix_seq (pv 9) pe_int (fun _ _ => rfl)) pe_str (nomark _)) (pss_one (ps_ret (pe_and (pe_call G_law_alike (hr.mono (by decide)) (by rfl) g_law_alike kp_law_alike b_law_alike .nil pass0 (pa_cons (pv 8) (pa_cons (pe_tup (pa_cons pe_str (pa_cons (pe_op op_addU (pe_callB cr_len (by rfl) z_len (by decide +kernel) (pa_cons (pv 2) pa_nil)) (pe_ix ix_seq (pv 9) pe_int (fun _ _ => rfl))) pa_nil))) pa_nil))) (pe_one (pe_call G_law_tells (hr.mono (by decide)) (by rfl) g_law_tells kp_law_tells b_law_tells .nil pass0 (pa_cons (pv 7) (pa_cons (pv 1) (pa_cons (pv 2) pa_nil)))))))) pss_nil)
      (pss_cons (ps_if (PW.pt (pw_or (pt_cmpR (op_neD hr.units) (pe_ix ix_seq (pv 8) pe_int (fun _ _ => rfl)) pe_str (nomark _)) (pw_or1 (pt_not (pt_val (pe_call G_law_tells (hr.mono (by decide)) (by rfl) g_law_tells kp_law_tells b_law_tells .nil pass0 (pa_cons (pe_ix ix_seq (pv 8) pe_int (fun _ _ => rfl)) (pa_cons (pv 1) (pa_cons (pe_op op_addU (pv 2) (pv 3)) pa_nil))))))))) (pss_one (ps_ret pe_bl)) pss_nil)
      (pss_one (ps_ret (pe_and (pe_cmpR (op_or (GT.op_eqO G_Rows_eq (hr.mono (by decide)) M_Rows_eq.at_ M_Rows_eq.fn b_Rows_eq (fun σ => passC (E := E0) σ)) op_no) (pe_ix ix_seq (pv 8) pe_int (fun _ _ => rfl)) (GT.pe_makeS ⟨mk_Rows_, M_Rows_init.at_, M_Rows_init.fn, k_Rows⟩ G_Rows_init (hr.mono (by decide)) (by rfl) g_Rows b_Rows_init (fun σ => pass0X σ) (pa_cons (pv 1) (pa_cons (pe_op op_addU (pv 2) (pv 3)) pa_nil))) (nomark _)) (pe_one (pe_call G_law_tells (hr.mono (by decide)) (by rfl) g_law_tells kp_law_tells b_law_tells .nil pass0 (pa_cons (pv 7) (pa_cons (pv 1) (pa_cons (pv 2) pa_nil)))))))))))))))),
    (s_seq (s_set trivial (e_own (a_cons (e_var 0) (a_cons (e_var 1) (a_cons (e_var 2) a_nil)))))
      (s_seq (s_set trivial (e_op o_ix (e_lst (a_cons (e_int 0) (a_cons (e_int 121) (a_cons (e_op o_sub (e_int 0) (e_int 1)) (a_cons (e_op o_add (e_int 122) (e_own (a_cons (e_var 0) (a_cons (e_int 201) a_nil)))) a_nil))))) (e_own (a_cons (e_var 0) (a_cons (e_int 4) a_nil)))))
      (s_seq (s_for (i_seq (e_lst (a_cons (e_tup (a_cons (e_var 1) (a_cons (e_var 3) a_nil))) (a_cons (e_tup (a_cons (e_var 4) (a_cons (e_var 3) a_nil))) (a_cons (e_tup (a_cons (e_var 4) (a_cons (e_var 2) a_nil))) (a_cons (e_tup (a_cons (e_int 120) (a_cons (e_var 2) a_nil))) (a_cons (e_tup (a_cons (e_int 1) (a_cons (e_lst a_nil) a_nil))) (a_cons (e_tup (a_cons (e_int 0) (a_cons (e_lst a_nil) a_nil))) (a_cons (e_tup (a_cons (e_var 1) (a_cons (e_var 2) a_nil))) a_nil))))))))) (g_tup (g_cons (g_name 5 trivial) (g_cons (g_name 6 trivial) g_nil)) (gmAll_len _)) (s_if (t_not (t_B (e_own (a_cons (e_own (a_cons (e_var 5) (a_cons (e_var 6) a_nil))) (a_cons (e_own (a_cons (e_var 5) (a_cons (e_var 6) a_nil))) a_nil))))) (s_ret (e_bl false)) s_next))
      (s_seq (s_set trivial (e_make0 rfl (a_cons (e_var 1) (a_cons (e_call c_list (a_cons (e_var 2) a_nil)) a_nil))))
      (s_seq (s_set trivial (e_own (a_cons (e_var 7) (a_cons (e_var 3) a_nil))))
      (s_seq (s_set trivial (e_own (a_cons (e_var 1) (a_cons (e_var 3) a_nil))))
      (s_seq (s_if (t_test (e_op o_eq (e_op o_ix (e_var 9) (e_int 0)) (e_str _))) (s_ret (e_and (e_own (a_cons (e_var 8) (a_cons (e_tup (a_cons (e_str _) (a_cons (e_op o_add (e_call c_len (a_cons (e_var 2) a_nil)) (e_op o_ix (e_var 9) (e_int 1))) a_nil))) a_nil))) (e_own (a_cons (e_var 7) (a_cons (e_var 1) (a_cons (e_var 2) a_nil)))))) s_next)
      (s_seq (s_if (t_or (t_test (e_op o_ne (e_op o_ix (e_var 8) (e_int 0)) (e_str _))) (t_not (t_B (e_own (a_cons (e_op o_ix (e_var 8) (e_int 1)) (a_cons (e_var 1) (a_cons (e_op o_add (e_var 2) (e_var 3)) a_nil))))))) (s_ret (e_bl false)) s_next)
      (s_ret (e_and (e_op (o_eqO rfl o_no) (e_op o_ix (e_var 8) (e_int 1)) (e_make0 rfl (a_cons (e_var 1) (a_cons (e_op o_add (e_var 2) (e_var 3)) a_nil)))) (e_own (a_cons (e_var 7) (a_cons (e_var 1) (a_cons (e_var 2) a_nil))))))))))))))⟩)

abbrev s_law_adds : Stmt := topS 33
abbrev N_law_adds : List PySem.Str := ["state", "first", "second", "twin", "one", "two", "due", "told"]
theorem sc_law_adds : FnScope N_law_adds ["state", "first", "second", "twin"] (defScope s_law_adds) := ⟨rfl, rfl, rfl, by decide +kernel, rfl, by decide +kernel, by decide +kernel⟩
theorem ok_law_adds {P : Program} {w : World} {K : PySem.W.Frag} {cls : Nat → Addr} {mg : PySem.Str → Option Value} {base : Heap} (Fu : Df K mg "_law_adds" s_law_adds) (z_list : mg "list" = none) (h_Rows_init : MthX P w K cls mg base 3 "__init__" 1 m_Rows_init 3) (g_Rows : mg "Rows" = some (.ref (cls 3))) (k_Rows : PySem.W.keepIn K (.ref (cls 3)) = true) (mk_Rows_ : PySem.W.makesIn K (cls 3) = true) (h_law_joined : Fn P w K cls mg base "_law_joined" 1 m_law_joined 2) (h_law_sum : Fn P w K cls mg base "_law_sum" 4 m_law_sum 2) (h_law_alike : Fn P w K cls mg base "_law_alike" 2 m_law_alike 2) (h_law_tells : Fn P w K cls mg base "_law_tells" 5 m_law_tells 3) (h_law_holds : Fn P w K cls mg base "_law_holds" 4 m_law_holds 5) : Fn P w K cls mg base "_law_adds" 6 m_law_adds 4 := by
  obtain ⟨a_Rows_init, fd_Rows_init, ps_Rows_init, G_Rows_init, M_Rows_init, b_Rows_init⟩ := h_Rows_init.ex
  obtain ⟨a_law_joined, fd_law_joined, ps_law_joined, G_law_joined, g_law_joined, kp_law_joined, b_law_joined⟩ := h_law_joined.ex
  obtain ⟨a_law_sum, fd_law_sum, ps_law_sum, G_law_sum, g_law_sum, kp_law_sum, b_law_sum⟩ := h_law_sum.ex
  obtain ⟨a_law_alike, fd_law_alike, ps_law_alike, G_law_alike, g_law_alike, kp_law_alike, b_law_alike⟩ := h_law_alike.ex
  obtain ⟨a_law_tells, fd_law_tells, ps_law_tells, G_law_tells, g_law_tells, kp_law_tells, b_law_tells⟩ := h_law_tells.ex
  obtain ⟨a_law_holds, fd_law_holds, ps_law_holds, G_law_holds, g_law_holds, kp_law_holds, b_law_holds⟩ := h_law_holds.ex
  exact df_ok (N := N_law_adds) (ps := ["state", "first", "second", "twin"]) (m := m_law_adds_b) Fu sc_law_adds rfl rfl (fun _ _ _ _ _ _ us hl => match us, hl with | [_, _, _, _], _ => rfl) (fun f cdv A outer s H E hr => ⟨_,
    (pss_cons (ps_set (i := 4) sc_law_adds.nd rfl (Or.inl rfl) (GT.pe_makeS ⟨mk_Rows_, M_Rows_init.at_, M_Rows_init.fn, k_Rows⟩ G_Rows_init (hr.mono (by decide)) (by rfl) g_Rows b_Rows_init (fun σ => pass0X σ) (pa_cons (pe_ix ix_seq (pv 1) pe_int (fun _ _ => rfl)) (pa_cons (pe_callTy cr_list (by rfl) z_list (by decide +kernel) (pa_cons (pe_ix ix_seq (pv 1) pe_int (fun _ _ => rfl)) pa_nil)) pa_nil))))
      (pss_cons (ps_set (i := 5) sc_law_adds.nd rfl (Or.inl rfl) (GT.pe_makeS ⟨mk_Rows_, M_Rows_init.at_, M_Rows_init.fn, k_Rows⟩ G_Rows_init (hr.mono (by decide)) (by rfl) g_Rows b_Rows_init (fun σ => pass0X σ) (pa_cons (pe_ix ix_seq (pv 2) pe_int (fun _ _ => rfl)) (pa_cons (pe_callTy cr_list (by rfl) z_list (by decide +kernel) (pa_cons (pe_ix ix_seq (pv 2) pe_int (fun _ _ => rfl)) pa_nil)) pa_nil))))
      (pss_cons (ps_if (pt_val (pv 3)) (pss_one (ps_set (i := 5) sc_law_adds.nd rfl (Or.inl rfl) (pv 4))) pss_nil)
      (pss_cons (ps_set (i := 6) sc_law_adds.nd rfl (Or.inl rfl) (pe_call G_law_joined (hr.mono (by decide)) (by rfl) g_law_joined kp_law_joined b_law_joined .nil pass0 (pa_cons (pv 1) (pa_cons (pv 2) pa_nil))))
      (pss_cons (ps_set (i := 7) sc_law_adds.nd rfl (Or.inl rfl) (pe_call G_law_sum (hr.mono (by decide)) (by rfl) g_law_sum kp_law_sum b_law_sum .nil pass0 (pa_cons (pv 4) (pa_cons (pv 5) pa_nil))))
      (pss_cons (ps_if (pt_cmpR op_gt (pe_ix ix_seq (pv 6) pe_int (fun _ _ => rfl)) pe_int (nomark _)) (pss_one (ps_if (pt_not (pt_val (pe_call G_law_alike (hr.mono (by decide)) (by rfl) g_law_alike kp_law_alike b_law_alike .nil pass0 (pa_cons (pv 7) (pa_cons (pe_tup (pa_cons pe_str (pa_cons (pe_ix ix_seq (pv 6) pe_int (fun _ _ => rfl)) pa_nil))) pa_nil))))) (pss_one (ps_ret pe_bl)) pss_nil)) (pss_cons (ps_if (PW.pt (pw_or (pt_cmpR (op_neD hr.units) (pe_ix ix_seq (pv 7) pe_int (fun _ _ => rfl)) pe_str (nomark _)) (pw_or1 (pt_not (pt_val (pe_call G_law_tells (hr.mono (by decide)) (by rfl) g_law_tells kp_law_tells b_law_tells .nil pass0 (pa_cons (pe_ix ix_seq (pv 7) pe_int (fun _ _ => rfl)) (pa_cons (pe_ix ix_seq (pv 6) pe_int (fun _ _ => rfl)) (pa_cons (pe_ix ix_seq (pv 6) pe_int (fun _ _ => rfl)) pa_nil))))))))) (pss_one (ps_ret pe_bl)) pss_nil)
      (pss_one (ps_if (pt_not (pt_val (pe_call G_law_holds (hr.mono (by decide)) (by rfl) g_law_holds kp_law_holds b_law_holds .nil pass0 (pa_cons (pv 0) (pa_cons (pe_ix ix_seq (pv 7) pe_int (fun _ _ => rfl)) (pa_cons (pe_ix ix_seq (pv 6) pe_int (fun _ _ => rfl)) (pa_cons (pe_ix ix_seq (pv 6) pe_int (fun _ _ => rfl)) (pa_cons (pe_ix ix_seq (pv 6) pe_int (fun _ _ => rfl)) pa_nil)))))))) (pss_one (ps_ret pe_bl)) pss_nil))))
      (pss_one (ps_ret (pe_and (pe_call G_law_tells (hr.mono (by decide)) (by rfl) g_law_tells kp_law_tells b_law_tells .nil pass0 (pa_cons (pv 4) (pa_cons (pe_ix ix_seq (pv 1) pe_int (fun _ _ => rfl)) (pa_cons (pe_ix ix_seq (pv 1) pe_int (fun _ _ => rfl)) pa_nil)))) (pe_one (pe_call G_law_tells (hr.mono (by decide)) (by rfl) g_law_tells kp_law_tells b_law_tells .nil pass0 (pa_cons (pv 5) (pa_cons (pe_ix ix_seq (pv 2) pe_int (fun _ _ => rfl)) (pa_cons (pe_ix ix_seq (pv 2) pe_int (fun _ _ => rfl)) pa_nil)))))))))))))),
    (s_seq (s_set trivial (e_make0 rfl (a_cons (e_op o_ix (e_var 1) (e_int 0)) (a_cons (e_call c_list (a_cons (e_op o_ix (e_var 1) (e_int 1)) a_nil)) a_nil))))
      (s_seq (s_set trivial (e_make0 rfl (a_cons (e_op o_ix (e_var 2) (e_int 0)) (a_cons (e_call c_list (a_cons (e_op o_ix (e_var 2) (e_int 1)) a_nil)) a_nil))))
      (s_seq (s_if (t_B (e_var 3)) (s_set trivial (e_var 4)) s_next)
      (s_seq (s_set trivial (e_own (a_cons (e_var 1) (a_cons (e_var 2) a_nil))))
      (s_seq (s_set trivial (e_own (a_cons (e_var 4) (a_cons (e_var 5) a_nil))))
      (s_seq (s_if (t_test (e_op (o_cmp fun i j => decide (j < i)) (e_op o_ix (e_var 6) (e_int 0)) (e_int 120))) (s_if (t_not (t_B (e_own (a_cons (e_var 7) (a_cons (e_tup (a_cons (e_str _) (a_cons (e_op o_ix (e_var 6) (e_int 0)) a_nil))) a_nil))))) (s_ret (e_bl false)) s_next) (s_seq (s_if (t_or (t_test (e_op o_ne (e_op o_ix (e_var 7) (e_int 0)) (e_str _))) (t_not (t_B (e_own (a_cons (e_op o_ix (e_var 7) (e_int 1)) (a_cons (e_op o_ix (e_var 6) (e_int 0)) (a_cons (e_op o_ix (e_var 6) (e_int 1)) a_nil))))))) (s_ret (e_bl false)) s_next)
      (s_if (t_not (t_B (e_own (a_cons (e_var 0) (a_cons (e_op o_ix (e_var 7) (e_int 1)) (a_cons (e_op o_ix (e_var 6) (e_int 0)) (a_cons (e_op o_ix (e_var 6) (e_int 1)) (a_cons (e_op o_ix (e_var 6) (e_int 2)) a_nil)))))))) (s_ret (e_bl false)) s_next)))
      (s_ret (e_and (e_own (a_cons (e_var 4) (a_cons (e_op o_ix (e_var 1) (e_int 0)) (a_cons (e_op o_ix (e_var 1) (e_int 1)) a_nil)))) (e_own (a_cons (e_var 5) (a_cons (e_op o_ix (e_var 2) (e_int 0)) (a_cons (e_op o_ix (e_var 2) (e_int 1)) a_nil))))))))))))⟩)

abbrev s_law_copies : Stmt := topS 34
abbrev N_law_copies : List PySem.Str := ["points", "rows", "handed", "made", "more", "longer", "spoilt"]
theorem sc_law_copies : FnScope N_law_copies ["points", "rows"] (defScope s_law_copies) := ⟨rfl, rfl, rfl, by decide +kernel, rfl, by decide +kernel, by decide +kernel⟩
theorem ok_law_copies {P : Program} {w : World} {K : PySem.W.Frag} {cls : Nat → Addr} {mg : PySem.Str → Option Value} {base : Heap} (Fu : Df K mg "_law_copies" s_law_copies) (z_list : mg "list" = none) (h_Rows_init : MthX P w K cls mg base 3 "__init__" 1 m_Rows_init 3) (g_Rows : mg "Rows" = some (.ref (cls 3))) (k_Rows : PySem.W.keepIn K (.ref (cls 3)) = true) (mk_Rows_ : PySem.W.makesIn K (cls 3) = true) (h_Rows_with_more : MthX P w K cls mg base 3 "with_more" 3 m_Rows_with_more 2) (cl_Rows : Cls K (cls 3)) (h_law_tells : Fn P w K cls mg base "_law_tells" 5 m_law_tells 3) : Fn P w K cls mg base "_law_copies" 6 m_law_copies 2 := by
  obtain ⟨a_Rows_init, fd_Rows_init, ps_Rows_init, G_Rows_init, M_Rows_init, b_Rows_init⟩ := h_Rows_init.ex
  obtain ⟨a_Rows_with_more, fd_Rows_with_more, ps_Rows_with_more, G_Rows_with_more, M_Rows_with_more, b_Rows_with_more⟩ := h_Rows_with_more.ex
  obtain ⟨a_law_tells, fd_law_tells, ps_law_tells, G_law_tells, g_law_tells, kp_law_tells, b_law_tells⟩ := h_law_tells.ex
  exact df_ok (N := N_law_copies) (ps := ["points", "rows"]) (m := m_law_copies_b) Fu sc_law_copies rfl rfl (fun _ _ _ _ _ _ us hl => match us, hl with | [_, _], _ => rfl) (fun f cdv A outer s H E hr => ⟨_,
    (pss_cons (ps_set (i := 2) sc_law_copies.nd rfl (Or.inl rfl) (pe_callTy cr_list (by rfl) z_list (by decide +kernel) (pa_cons (pv 1) pa_nil)))
      (pss_cons (ps_set (i := 3) sc_law_copies.nd rfl (Or.inl rfl) (GT.pe_makeS ⟨mk_Rows_, M_Rows_init.at_, M_Rows_init.fn, k_Rows⟩ G_Rows_init (hr.mono (by decide)) (by rfl) g_Rows b_Rows_init (fun σ => pass0X σ) (pa_cons (pv 0) (pa_cons (pv 2) pa_nil))))
      (pss_cons (ps_set (i := 4) sc_law_copies.nd rfl (Or.inl rfl) (pe_callTy cr_list (by rfl) z_list (by decide +kernel) (pa_cons (pv 1) pa_nil)))
      (pss_cons (ps_set (i := 5) sc_law_copies.nd rfl (Or.inl rfl) (GT.pe_methO (pv 3) cl_Rows M_Rows_with_more G_Rows_with_more (hr.mono (by decide)) b_Rows_with_more (fun σ => pass0X σ) (pa_cons (pv 4) pa_nil)))
      (pss_cons (ps_if (PW.pt (pw_or (pt_cmpR (op_neD hr.units) (pv 2) (pv 1) (nomark _)) (pw_or1 (pt_cmpR (op_neD hr.units) (pv 4) (pv 1) (nomark _))))) (pss_one (ps_ret pe_bl)) pss_nil)
      (pss_cons (ps_for PassesOwn.never rfl (pi_seq (pe_lst (pa_cons (pv 2) (pa_cons (pv 4) pa_nil)))) (pg_name (i := 6) sc_law_copies.nd rfl (Or.inl rfl)) (pss_cons (ps_expr (pe_bm PySem.F.plainAttrs_list PySem.F.slot_list_append PySem.F.type_list_append mt_append (pv 6) (pa_cons (pe_tup (pa_cons pe_int (pa_cons pe_int (pa_cons pe_int pa_nil)))) pa_nil)))
      (pss_one (ps_asg (pe_tup (pa_cons pe_int (pa_cons pe_int (pa_cons pe_int pa_nil)))) (pg_sub (pv 6) pe_int set_list)))))
      (pss_one (ps_ret (pe_and (pe_call G_law_tells (hr.mono (by decide)) (by rfl) g_law_tells kp_law_tells b_law_tells .nil pass0 (pa_cons (pv 3) (pa_cons (pv 0) (pa_cons (pv 1) pa_nil)))) (pe_one (pe_call G_law_tells (hr.mono (by decide)) (by rfl) g_law_tells kp_law_tells b_law_tells .nil pass0 (pa_cons (pv 5) (pa_cons (pv 0) (pa_cons (pe_op op_addU (pv 1) (pv 1)) pa_nil)))))))))))))),
    (s_seq (s_set trivial (e_call c_list (a_cons (e_var 1) a_nil)))
      (s_seq (s_set trivial (e_make0 rfl (a_cons (e_var 0) (a_cons (e_var 2) a_nil))))
      (s_seq (s_set trivial (e_call c_list (a_cons (e_var 1) a_nil)))
      (s_seq (s_set trivial (e_meth0 rfl (e_var 3) (a_cons (e_var 4) a_nil)))
      (s_seq (s_if (t_or (t_test (e_op o_ne (e_var 2) (e_var 1))) (t_test (e_op o_ne (e_var 4) (e_var 1)))) (s_ret (e_bl false)) s_next)
      (s_seq (s_for (i_seq (e_lst (a_cons (e_var 2) (a_cons (e_var 4) a_nil)))) (g_name 6 trivial) (s_seq (s_drop (e_bm m_append (e_var 6) (a_cons (e_tup (a_cons (e_int 0) (a_cons (e_int 0) (a_cons (e_int 7) a_nil)))) a_nil) append_none))
      (s_setIx (e_tup (a_cons (e_int 0) (a_cons (e_int 0) (a_cons (e_int 8) a_nil)))) (e_var 6) (e_int 0))))
      (s_ret (e_and (e_own (a_cons (e_var 3) (a_cons (e_var 0) (a_cons (e_var 1) a_nil)))) (e_own (a_cons (e_var 5) (a_cons (e_var 0) (a_cons (e_op o_add (e_var 1) (e_var 1)) a_nil))))))))))))⟩)

abbrev s_law : Stmt := topS 35
abbrev N_law : List PySem.Str := ["script", "state", "points", "near", "other", "first", "second", "rows", "one", "broken", "listed", "made"]
theorem sc_law : FnScope N_law ["script"] (defScope s_law) := ⟨rfl, rfl, rfl, by decide +kernel, rfl, by decide +kernel, by decide +kernel⟩
theorem ok_law {P : Program} {w : World} {K : PySem.W.Frag} {cls : Nat → Addr} {mg : PySem.Str → Option Value} {base : Heap} {f : Addr} {fd : FuncData} (Fu : Fun K "law" "law" s_law f fd) (h_law_state : Fn P w K cls mg base "_law_state" 1 m_law_state 2) (h_law_points : Fn P w K cls mg base "_law_points" 2 m_law_points 1) (h_law_next : Fn P w K cls mg base "_law_next" 1 m_law_next 2) (z_min : mg "min" = none) (h_law_system : Fn P w K cls mg base "_law_system" 2 m_law_system 2) (h_Rows_init : MthX P w K cls mg base 3 "__init__" 1 m_Rows_init 3) (g_Rows : mg "Rows" = some (.ref (cls 3))) (k_Rows : PySem.W.keepIn K (.ref (cls 3)) = true) (mk_Rows_ : PySem.W.makesIn K (cls 3) = true) (h_Rows_contains : Mth P w K cls mg base 3 "__contains__" 3 m_Rows_contains 2) (h_law_broken : Fn P w K cls mg base "_law_broken" 2 m_law_broken 3) (z_list : mg "list" = none) (h_law_tells : Fn P w K cls mg base "_law_tells" 5 m_law_tells 3) (h_law_holds : Fn P w K cls mg base "_law_holds" 4 m_law_holds 5) (h_law_compares : Fn P w K cls mg base "_law_compares" 4 m_law_compares 4) (h_law_refuses : Fn P w K cls mg base "_law_refuses" 6 m_law_refuses 3) (h_law_copies : Fn P w K cls mg base "_law_copies" 6 m_law_copies 2) (h_law_adds : Fn P w K cls mg base "_law_adds" 6 m_law_adds 4) : FnOk P w K mg base CX0 7 f fd ["script"] (spM K cls m_law 1) := by
  obtain ⟨a_law_state, fd_law_state, ps_law_state, G_law_state, g_law_state, kp_law_state, b_law_state⟩ := h_law_state.ex
  obtain ⟨a_law_points, fd_law_points, ps_law_points, G_law_points, g_law_points, kp_law_points, b_law_points⟩ := h_law_points.ex
  obtain ⟨a_law_next, fd_law_next, ps_law_next, G_law_next, g_law_next, kp_law_next, b_law_next⟩ := h_law_next.ex
  obtain ⟨a_law_system, fd_law_system, ps_law_system, G_law_system, g_law_system, kp_law_system, b_law_system⟩ := h_law_system.ex
  obtain ⟨a_Rows_init, fd_Rows_init, ps_Rows_init, G_Rows_init, M_Rows_init, b_Rows_init⟩ := h_Rows_init.ex
  obtain ⟨a_Rows_contains, fd_Rows_contains, ps_Rows_contains, G_Rows_contains, M_Rows_contains, b_Rows_contains⟩ := h_Rows_contains.ex
  obtain ⟨a_law_broken, fd_law_broken, ps_law_broken, G_law_broken, g_law_broken, kp_law_broken, b_law_broken⟩ := h_law_broken.ex
  obtain ⟨a_law_tells, fd_law_tells, ps_law_tells, G_law_tells, g_law_tells, kp_law_tells, b_law_tells⟩ := h_law_tells.ex
  obtain ⟨a_law_holds, fd_law_holds, ps_law_holds, G_law_holds, g_law_holds, kp_law_holds, b_law_holds⟩ := h_law_holds.ex
  obtain ⟨a_law_compares, fd_law_compares, ps_law_compares, G_law_compares, g_law_compares, kp_law_compares, b_law_compares⟩ := h_law_compares.ex
  obtain ⟨a_law_refuses, fd_law_refuses, ps_law_refuses, G_law_refuses, g_law_refuses, kp_law_refuses, b_law_refuses⟩ := h_law_refuses.ex
  obtain ⟨a_law_copies, fd_law_copies, ps_law_copies, G_law_copies, g_law_copies, kp_law_copies, b_law_copies⟩ := h_law_copies.ex
  obtain ⟨a_law_adds, fd_law_adds, ps_law_adds, G_law_adds, g_law_adds, kp_law_adds, b_law_adds⟩ := h_law_adds.ex
  exact fun_ok (N := N_law) (m := m_law_b) Fu sc_law rfl rfl (fun cdv A outer s H E hr => ⟨_,
    (pss_cons (ps_set (i := 1) sc_law.nd rfl (Or.inl rfl) (pe_call G_law_state (hr.mono (by decide)) (by rfl) g_law_state kp_law_state b_law_state .nil pass0 (pa_cons (pv 0) (pa_cons pe_int pa_nil))))
      (pss_cons (ps_set (i := 2) sc_law.nd rfl (Or.inl rfl) (pe_call G_law_points (hr.mono (by decide)) (by rfl) g_law_points kp_law_points b_law_points .nil pass0 (pa_cons (pv 1) pa_nil)))
      (pss_cons (ps_set (i := 3) sc_law.nd rfl (Or.inl rfl) (pe_op op_addU (pe_op op_sub pe_int (pv 2)) (pe_call G_law_next (hr.mono (by decide)) (by rfl) g_law_next kp_law_next b_law_next .nil pass0 (pa_cons (pv 1) (pa_cons pe_int pa_nil)))))
      (pss_cons (ps_set (i := 4) sc_law.nd rfl (Or.inl rfl) (pe_callB (cr_min2 rfl) (by rfl) z_min (by decide +kernel) (pa_cons pe_int (pa_cons (pe_ix ix_seq (pe_lst (pa_cons (pv 3) (pa_cons (pe_op op_addU pe_int (pe_call G_law_next (hr.mono (by decide)) (by rfl) g_law_next kp_law_next b_law_next .nil pass0 (pa_cons (pv 1) (pa_cons pe_int pa_nil)))) (pa_cons (pe_op op_addU pe_int (pe_call G_law_next (hr.mono (by decide)) (by rfl) g_law_next kp_law_next b_law_next .nil pass0 (pa_cons (pv 1) (pa_cons pe_int pa_nil)))) (pa_cons (pv 3) pa_nil))))) (pe_call G_law_next (hr.mono (by decide)) (by rfl) g_law_next kp_law_next b_law_next .nil pass0 (pa_cons (pv 1) (pa_cons pe_int pa_nil))) (fun _ _ => rfl)) pa_nil))))
      (pss_cons (ps_set (i := 5) sc_law.nd rfl (Or.inl rfl) (pe_call G_law_system (hr.mono (by decide)) (by rfl) g_law_system kp_law_system b_law_system .nil pass0 (pa_cons (pe_call G_law_state (hr.mono (by decide)) (by rfl) g_law_state kp_law_state b_law_state .nil pass0 (pa_cons (pv 0) (pa_cons pe_int pa_nil))) (pa_cons (pv 2) pa_nil))))
      (pss_cons (ps_set (i := 6) sc_law.nd rfl (Or.inl rfl) (pe_call G_law_system (hr.mono (by decide)) (by rfl) g_law_system kp_law_system b_law_system .nil pass0 (pa_cons (pe_call G_law_state (hr.mono (by decide)) (by rfl) g_law_state kp_law_state b_law_state .nil pass0 (pa_cons (pv 0) (pa_cons pe_int pa_nil))) (pa_cons (pv 4) pa_nil))))
      (pss_cons (ps_set (i := 7) sc_law.nd rfl (Or.inl rfl) (pe_ix ix_seq (pv 5) pe_int (fun _ _ => rfl)))
      (pss_cons (ps_set (i := 1) sc_law.nd rfl (Or.inl rfl) (pe_call G_law_state (hr.mono (by decide)) (by rfl) g_law_state kp_law_state b_law_state .nil pass0 (pa_cons (pv 0) (pa_cons pe_int pa_nil))))
      (pss_cons (ps_set (i := 8) sc_law.nd rfl (Or.inl rfl) (GT.pe_makeS ⟨mk_Rows_, M_Rows_init.at_, M_Rows_init.fn, k_Rows⟩ G_Rows_init (hr.mono (by decide)) (by rfl) g_Rows b_Rows_init (fun σ => pass0X σ) (pa_cons pe_int (pa_cons (pe_lst (pa_cons (pe_tup (pa_cons pe_int (pa_cons pe_int (pa_cons pe_int pa_nil)))) pa_nil)) pa_nil))))
      (pss_cons (ps_if (PW.pt (pw_or (pt_cmpR (op_or (GT.op_notinO G_Rows_contains (hr.mono (by decide)) M_Rows_contains.at_ M_Rows_contains.fn b_Rows_contains (fun σ => passC (E := E0) σ)) op_no) (pe_lst (pa_cons pe_int (pa_cons pe_int pa_nil))) (pv 8) rfl) (pw_or (pt_cmpR (op_or (GT.op_inO G_Rows_contains (hr.mono (by decide)) M_Rows_contains.at_ M_Rows_contains.fn b_Rows_contains (fun σ => passC (E := E0) σ)) op_no) (pe_lst (pa_cons pe_int (pa_cons pe_bl pa_nil))) (pv 8) rfl) (pw_or (pt_cmpR (op_or (GT.op_inO G_Rows_contains (hr.mono (by decide)) M_Rows_contains.at_ M_Rows_contains.fn b_Rows_contains (fun σ => passC (E := E0) σ)) op_no) (pe_lst (pa_cons pe_int (pa_cons pe_non pa_nil))) (pv 8) rfl) (pw_or (pt_cmpR (op_or (GT.op_inO G_Rows_contains (hr.mono (by decide)) M_Rows_contains.at_ M_Rows_contains.fn b_Rows_contains (fun σ => passC (E := E0) σ)) op_no) (pe_lst (pa_cons pe_int (pa_cons pe_str pa_nil))) (pv 8) rfl) (pw_or1 (pt_cmpR (op_or (GT.op_inO G_Rows_contains (hr.mono (by decide)) M_Rows_contains.at_ M_Rows_contains.fn b_Rows_contains (fun σ => passC (E := E0) σ)) op_no) (pe_lst (pa_cons pe_int (pa_cons pe_int pa_nil))) (pv 8) rfl))))))) (pss_one (ps_ret pe_bl)) pss_nil)
      (pss_cons (ps_set (i := 9) sc_law.nd rfl (Or.inl rfl) (pe_call G_law_broken (hr.mono (by decide)) (by rfl) g_law_broken kp_law_broken b_law_broken .nil pass0 (pa_cons (pv 1) (pa_cons (pv 7) (pa_cons (pe_ix ix_seq (pv 5) pe_int (fun _ _ => rfl)) pa_nil)))))
      (pss_cons (ps_for PassesOwn.never rfl (pi_seq (pe_lst (pa_cons (pv 7) (pa_cons (pv 9) pa_nil)))) (pg_name (i := 10) sc_law.nd rfl (Or.inl rfl)) (pss_cons (ps_set (i := 11) sc_law.nd rfl (Or.inl rfl) (GT.pe_makeS ⟨mk_Rows_, M_Rows_init.at_, M_Rows_init.fn, k_Rows⟩ G_Rows_init (hr.mono (by decide)) (by rfl) g_Rows b_Rows_init (fun σ => pass0X σ) (pa_cons (pv 2) (pa_cons (pe_callTy cr_list (by rfl) z_list (by decide +kernel) (pa_cons (pv 10) pa_nil)) pa_nil))))
      (pss_cons (ps_if (PW.pt (pw_or (pt_not (pt_val (pe_call G_law_tells (hr.mono (by decide)) (by rfl) g_law_tells kp_law_tells b_law_tells .nil pass0 (pa_cons (pv 11) (pa_cons (pv 2) (pa_cons (pv 10) pa_nil)))))) (pw_or1 (pt_not (pt_val (pe_call G_law_holds (hr.mono (by decide)) (by rfl) g_law_holds kp_law_holds b_law_holds .nil pass0 (pa_cons (pv 1) (pa_cons (pv 11) (pa_cons (pv 2) (pa_cons (pv 10) (pa_cons (pe_ix ix_seq (pv 5) pe_int (fun _ _ => rfl)) pa_nil))))))))))) (pss_one (ps_ret pe_bl)) pss_nil)
      (pss_one (ps_if (pt_not (pt_val (pe_call G_law_compares (hr.mono (by decide)) (by rfl) g_law_compares kp_law_compares b_law_compares .nil pass0 (pa_cons (pv 1) (pa_cons (pv 11) (pa_cons (pv 2) (pa_cons (pv 10) pa_nil))))))) (pss_one (ps_ret pe_bl)) pss_nil)))))
      (pss_cons (ps_set (i := 1) sc_law.nd rfl (Or.inl rfl) (pe_call G_law_state (hr.mono (by decide)) (by rfl) g_law_state kp_law_state b_law_state .nil pass0 (pa_cons (pv 0) (pa_cons pe_int pa_nil))))
      (pss_cons (ps_if (PW.pt (pw_or (pt_not (pt_val (pe_call G_law_refuses (hr.mono (by decide)) (by rfl) g_law_refuses kp_law_refuses b_law_refuses .nil pass0 (pa_cons (pv 1) (pa_cons (pv 2) (pa_cons (pv 7) pa_nil)))))) (pw_or1 (pt_not (pt_val (pe_call G_law_copies (hr.mono (by decide)) (by rfl) g_law_copies kp_law_copies b_law_copies .nil pass0 (pa_cons (pv 2) (pa_cons (pv 7) pa_nil)))))))) (pss_one (ps_ret pe_bl)) pss_nil)
      (pss_cons (ps_if (PW.pt (pw_or (pt_not (pt_val (pe_call G_law_adds (hr.mono (by decide)) (by rfl) g_law_adds kp_law_adds b_law_adds .nil pass0 (pa_cons (pv 1) (pa_cons (pv 5) (pa_cons (pv 6) (pa_cons pe_bl pa_nil))))))) (pw_or1 (pt_not (pt_val (pe_call G_law_adds (hr.mono (by decide)) (by rfl) g_law_adds kp_law_adds b_law_adds .nil pass0 (pa_cons (pv 1) (pa_cons (pv 6) (pa_cons (pv 5) (pa_cons pe_bl pa_nil)))))))))) (pss_one (ps_ret pe_bl)) pss_nil)
      (pss_one (ps_ret (pe_call G_law_adds (hr.mono (by decide)) (by rfl) g_law_adds kp_law_adds b_law_adds .nil pass0 (pa_cons (pv 1) (pa_cons (pv 5) (pa_cons (pv 5) (pa_cons pe_bl pa_nil)))))))))))))))))))))),
    (s_seq (s_set trivial (e_own (a_cons (e_var 0) (a_cons (e_int 0) a_nil))))
      (s_seq (s_set trivial (e_own (a_cons (e_var 1) a_nil)))
      (s_seq (s_set trivial (e_op o_add (e_op o_sub (e_int 121) (e_var 2)) (e_own (a_cons (e_var 1) (a_cons (e_int 2) a_nil)))))
      (s_seq (s_set trivial (e_call c_min2 (a_cons (e_int 120) (a_cons (e_op o_ix (e_lst (a_cons (e_var 3) (a_cons (e_op o_add (e_int 1) (e_own (a_cons (e_var 1) (a_cons (e_int 6) a_nil)))) (a_cons (e_op o_add (e_int 1) (e_own (a_cons (e_var 1) (a_cons (e_int 120) a_nil)))) (a_cons (e_var 3) a_nil))))) (e_own (a_cons (e_var 1) (a_cons (e_int 4) a_nil)))) a_nil))))
      (s_seq (s_set trivial (e_own (a_cons (e_own (a_cons (e_var 0) (a_cons (e_int 1) a_nil))) (a_cons (e_var 2) a_nil))))
      (s_seq (s_set trivial (e_own (a_cons (e_own (a_cons (e_var 0) (a_cons (e_int 2) a_nil))) (a_cons (e_var 4) a_nil))))
      (s_seq (s_set trivial (e_op o_ix (e_var 5) (e_int 1)))
      (s_seq (s_set trivial (e_own (a_cons (e_var 0) (a_cons (e_int 3) a_nil))))
      (s_seq (s_set trivial (e_make0 rfl (a_cons (e_int 2) (a_cons (e_lst (a_cons (e_tup (a_cons (e_int 0) (a_cons (e_int 1) (a_cons (e_int 1) a_nil)))) a_nil)) a_nil))))
      (s_seq (s_if (t_or (t_test (e_op (o_inO rfl o_no) (e_lst (a_cons (e_int 0) (a_cons (e_int 1) a_nil))) (e_var 8))) (t_or (t_test (e_op (o_inO rfl o_no) (e_lst (a_cons (e_int 0) (a_cons (e_bl true) a_nil))) (e_var 8))) (t_or (t_test (e_op (o_inO rfl o_no) (e_lst (a_cons (e_int 0) (a_cons e_non a_nil))) (e_var 8))) (t_or (t_test (e_op (o_inO rfl o_no) (e_lst (a_cons (e_int 0) (a_cons (e_str _) a_nil))) (e_var 8))) (t_test (e_op (o_inO rfl o_no) (e_lst (a_cons (e_int 0) (a_cons (e_int 0) a_nil))) (e_var 8))))))) (s_ret (e_bl false)) s_next)
      (s_seq (s_set trivial (e_own (a_cons (e_var 1) (a_cons (e_var 7) (a_cons (e_op o_ix (e_var 5) (e_int 2)) a_nil)))))
      (s_seq (s_for (i_seq (e_lst (a_cons (e_var 7) (a_cons (e_var 9) a_nil)))) (g_name 10 trivial) (s_seq (s_set trivial (e_make0 rfl (a_cons (e_var 2) (a_cons (e_call c_list (a_cons (e_var 10) a_nil)) a_nil))))
      (s_seq (s_if (t_or (t_not (t_B (e_own (a_cons (e_var 11) (a_cons (e_var 2) (a_cons (e_var 10) a_nil)))))) (t_not (t_B (e_own (a_cons (e_var 1) (a_cons (e_var 11) (a_cons (e_var 2) (a_cons (e_var 10) (a_cons (e_op o_ix (e_var 5) (e_int 2)) a_nil))))))))) (s_ret (e_bl false)) s_next)
      (s_if (t_not (t_B (e_own (a_cons (e_var 1) (a_cons (e_var 11) (a_cons (e_var 2) (a_cons (e_var 10) a_nil))))))) (s_ret (e_bl false)) s_next))))
      (s_seq (s_set trivial (e_own (a_cons (e_var 0) (a_cons (e_int 4) a_nil))))
      (s_seq (s_if (t_or (t_not (t_B (e_own (a_cons (e_var 1) (a_cons (e_var 2) (a_cons (e_var 7) a_nil)))))) (t_not (t_B (e_own (a_cons (e_var 2) (a_cons (e_var 7) a_nil)))))) (s_ret (e_bl false)) s_next)
      (s_seq (s_if (t_or (t_not (t_B (e_own (a_cons (e_var 1) (a_cons (e_var 5) (a_cons (e_var 6) (a_cons (e_bl false) a_nil))))))) (t_not (t_B (e_own (a_cons (e_var 1) (a_cons (e_var 6) (a_cons (e_var 5) (a_cons (e_bl false) a_nil)))))))) (s_ret (e_bl false)) s_next)
      (s_ret (e_own (a_cons (e_var 1) (a_cons (e_var 5) (a_cons (e_var 5) (a_cons (e_bl true) a_nil)))))))))))))))))))))⟩)

theorem txt_BadCount : GX.Txt ((clsBody (topS 2)).getD 0 (.Pass ⟨0, 0, 0, 0⟩)) ["number"] where
  body := ⟨_, _, _, _, _, _, _, _, rfl, by decide +kernel, ⟨_, _, _, _, rfl⟩⟩
  fk := rfl
  fc := rfl
  fg := rfl
  ns := by decide +kernel
  nc := by decide +kernel
  nl := by decide +kernel
  no := by decide +kernel
  hd := ⟨_, rfl, rfl⟩
  nd := by decide +kernel
  bd := fun _ _ _ _ _ _ _ us hl => match us, hl with | [_, _], _ => rfl

theorem txt_BadRow : GX.Txt ((clsBody (topS 3)).getD 0 (.Pass ⟨0, 0, 0, 0⟩)) ["index"] where
  body := ⟨_, _, _, _, _, _, _, _, rfl, by decide +kernel, ⟨_, _, _, _, rfl⟩⟩
  fk := rfl
  fc := rfl
  fg := rfl
  ns := by decide +kernel
  nc := by decide +kernel
  nl := by decide +kernel
  no := by decide +kernel
  hd := ⟨_, rfl, rfl⟩
  nd := by decide +kernel
  bd := fun _ _ _ _ _ _ _ us hl => match us, hl with | [_, _], _ => rfl

theorem all_mk {l : PySem.W.OpenLaw} {w : World} {K : PySem.W.Frag} {h : Heap} {mg : PySem.Str → Option Value} {fa : Addr} (X : K.In h) (G : h.Ns mainGlobals mg) (hfa : mg "law" = some (.ref fa))
    {tk_MOST_POINTS : Tok}
    {C_BadCount : Addr}
    {C_FitError : Addr}
    {nm_BadCount q_BadCount : PySem.Str} {N_BadCount : Addr} {bs_BadCount : List Value} {sn_BadCount : List PySem.Str} {sub_BadCount : List Value} {ab_BadCount : Bool} {col_BadCount : Option Bool} {dd_BadCount : Option Addr} {m0_BadCount m1_BadCount m2_BadCount m3_BadCount m5_BadCount : Option Value}
    {f_BadCount cc_BadCount cd_BadCount : Addr} {fi_BadCount : PySem.Str} {tf_BadCount : Tok} {oc_BadCount dc_BadCount pm_BadCount ct_BadCount cl_BadCount cv_BadCount : Value} {od_BadCount an_BadCount ed_BadCount ld_BadCount : Option Addr} {sl_BadCount cs_BadCount ls_BadCount : Array (Option Value)} {vs_BadCount : Array Value}
    {C_BadRow : Addr}
    {nm_BadRow q_BadRow : PySem.Str} {N_BadRow : Addr} {bs_BadRow : List Value} {sn_BadRow : List PySem.Str} {sub_BadRow : List Value} {ab_BadRow : Bool} {col_BadRow : Option Bool} {dd_BadRow : Option Addr} {m0_BadRow m1_BadRow m2_BadRow m3_BadRow m5_BadRow : Option Value}
    {f_BadRow cc_BadRow cd_BadRow : Addr} {fi_BadRow : PySem.Str} {tf_BadRow : Tok} {oc_BadRow dc_BadRow pm_BadRow ct_BadRow cl_BadRow cv_BadRow : Value} {od_BadRow an_BadRow ed_BadRow ld_BadRow : Option Addr} {sl_BadRow cs_BadRow ls_BadRow : Array (Option Value)} {vs_BadRow : Array Value}
    {C_Rows : Addr}
    {nm_FitError q_FitError : PySem.Str} {N_FitError : Addr} {bs_FitError : List Value} {sn_FitError : List PySem.Str} {sub_FitError : List Value} {ab_FitError : Bool} {col_FitError : Option Bool} {dd_FitError : Option Addr} {m0_FitError m1_FitError m2_FitError m3_FitError m5_FitError : Option Value}
    {f_is_whole : Addr} {od_is_whole an_is_whole : Option Addr} {sl_is_whole : Array (Option Value)} {oc_is_whole kV_is_whole dc_is_whole pm_is_whole cd_is_whole ct_is_whole : Value}
    {f_joined_point : Addr} {od_joined_point an_joined_point : Option Addr} {sl_joined_point : Array (Option Value)} {oc_joined_point kV_joined_point dc_joined_point pm_joined_point cd_joined_point ct_joined_point : Value}
    {f_law_int : Addr} {od_law_int an_law_int : Option Addr} {sl_law_int : Array (Option Value)} {oc_law_int kV_law_int dc_law_int pm_law_int cd_law_int ct_law_int : Value}
    {f_law_state : Addr} {od_law_state an_law_state : Option Addr} {sl_law_state : Array (Option Value)} {oc_law_state kV_law_state dc_law_state pm_law_state cd_law_state ct_law_state : Value}
    {f_law_next : Addr} {od_law_next an_law_next : Option Addr} {sl_law_next : Array (Option Value)} {oc_law_next kV_law_next dc_law_next pm_law_next cd_law_next ct_law_next : Value}
    {f_law_keeps : Addr} {od_law_keeps an_law_keeps : Option Addr} {sl_law_keeps : Array (Option Value)} {oc_law_keeps kV_law_keeps dc_law_keeps pm_law_keeps cd_law_keeps ct_law_keeps : Value}
    {f_law_due : Addr} {od_law_due an_law_due : Option Addr} {sl_law_due : Array (Option Value)} {oc_law_due kV_law_due dc_law_due pm_law_due cd_law_due ct_law_due : Value}
    {f_law_joined : Addr} {od_law_joined an_law_joined : Option Addr} {sl_law_joined : Array (Option Value)} {oc_law_joined kV_law_joined dc_law_joined pm_law_joined cd_law_joined ct_law_joined : Value}
    {f_Rows_init : Addr} {od_Rows_init an_Rows_init : Option Addr} {sl_Rows_init : Array (Option Value)} {oc_Rows_init kV_Rows_init dc_Rows_init pm_Rows_init cd_Rows_init ct_Rows_init : Value}
    {f_Rows_len : Addr} {od_Rows_len an_Rows_len : Option Addr} {sl_Rows_len : Array (Option Value)} {oc_Rows_len kV_Rows_len dc_Rows_len pm_Rows_len cd_Rows_len ct_Rows_len : Value}
    {f_Rows_iter : Addr} {od_Rows_iter an_Rows_iter : Option Addr} {sl_Rows_iter : Array (Option Value)} {oc_Rows_iter kV_Rows_iter dc_Rows_iter pm_Rows_iter cd_Rows_iter ct_Rows_iter : Value}
    {f_Rows_eq : Addr} {od_Rows_eq an_Rows_eq : Option Addr} {sl_Rows_eq : Array (Option Value)} {oc_Rows_eq kV_Rows_eq dc_Rows_eq pm_Rows_eq cd_Rows_eq ct_Rows_eq : Value}
    {f_is_whole_list : Addr} {od_is_whole_list an_is_whole_list : Option Addr} {sl_is_whole_list : Array (Option Value)} {oc_is_whole_list kV_is_whole_list dc_is_whole_list pm_is_whole_list cd_is_whole_list ct_is_whole_list : Value}
    {f_law_ints : Addr} {od_law_ints an_law_ints : Option Addr} {sl_law_ints : Array (Option Value)} {oc_law_ints kV_law_ints dc_law_ints pm_law_ints cd_law_ints ct_law_ints : Value}
    {f_law_points : Addr} {od_law_points an_law_points : Option Addr} {sl_law_points : Array (Option Value)} {oc_law_points kV_law_points dc_law_points pm_law_points cd_law_points ct_law_points : Value}
    {f_law_system : Addr} {od_law_system an_law_system : Option Addr} {sl_law_system : Array (Option Value)} {oc_law_system kV_law_system dc_law_system pm_law_system cd_law_system ct_law_system : Value}
    {f_law_lists : Addr} {od_law_lists an_law_lists : Option Addr} {sl_law_lists : Array (Option Value)} {oc_law_lists kV_law_lists dc_law_lists pm_law_lists cd_law_lists ct_law_lists : Value}
    {f_law_broken : Addr} {od_law_broken an_law_broken : Option Addr} {sl_law_broken : Array (Option Value)} {oc_law_broken kV_law_broken dc_law_broken pm_law_broken cd_law_broken ct_law_broken : Value}
    {f_law_bad : Addr} {od_law_bad an_law_bad : Option Addr} {sl_law_bad : Array (Option Value)} {oc_law_bad kV_law_bad dc_law_bad pm_law_bad cd_law_bad ct_law_bad : Value}
    {f_law_alike : Addr} {od_law_alike an_law_alike : Option Addr} {sl_law_alike : Array (Option Value)} {oc_law_alike kV_law_alike dc_law_alike pm_law_alike cd_law_alike ct_law_alike : Value}
    {f_law_others : Addr} {od_law_others an_law_others : Option Addr} {sl_law_others : Array (Option Value)} {oc_law_others kV_law_others dc_law_others pm_law_others cd_law_others ct_law_others : Value}
    {f_law_made : Addr} {od_law_made an_law_made : Option Addr} {sl_law_made : Array (Option Value)} {oc_law_made kV_law_made dc_law_made pm_law_made cd_law_made ct_law_made : Value}
    {f_Rows_contains : Addr} {od_Rows_contains an_Rows_contains : Option Addr} {sl_Rows_contains : Array (Option Value)} {oc_Rows_contains kV_Rows_contains dc_Rows_contains pm_Rows_contains cd_Rows_contains ct_Rows_contains : Value}
    {f_Rows_add : Addr} {od_Rows_add an_Rows_add : Option Addr} {sl_Rows_add : Array (Option Value)} {oc_Rows_add kV_Rows_add dc_Rows_add pm_Rows_add cd_Rows_add ct_Rows_add : Value}
    {f_Rows_with_more : Addr} {od_Rows_with_more an_Rows_with_more : Option Addr} {sl_Rows_with_more : Array (Option Value)} {oc_Rows_with_more kV_Rows_with_more dc_Rows_with_more pm_Rows_with_more cd_Rows_with_more ct_Rows_with_more : Value}
    {f_law_holds : Addr} {od_law_holds an_law_holds : Option Addr} {sl_law_holds : Array (Option Value)} {oc_law_holds kV_law_holds dc_law_holds pm_law_holds cd_law_holds ct_law_holds : Value}
    {f_law_more : Addr} {od_law_more an_law_more : Option Addr} {sl_law_more : Array (Option Value)} {oc_law_more kV_law_more dc_law_more pm_law_more cd_law_more ct_law_more : Value}
    {f_law_compares : Addr} {od_law_compares an_law_compares : Option Addr} {sl_law_compares : Array (Option Value)} {oc_law_compares kV_law_compares dc_law_compares pm_law_compares cd_law_compares ct_law_compares : Value}
    {f_law_sum : Addr} {od_law_sum an_law_sum : Option Addr} {sl_law_sum : Array (Option Value)} {oc_law_sum kV_law_sum dc_law_sum pm_law_sum cd_law_sum ct_law_sum : Value}
    {f_law_tells : Addr} {od_law_tells an_law_tells : Option Addr} {sl_law_tells : Array (Option Value)} {oc_law_tells kV_law_tells dc_law_tells pm_law_tells cd_law_tells ct_law_tells : Value}
    {f_law_refuses : Addr} {od_law_refuses an_law_refuses : Option Addr} {sl_law_refuses : Array (Option Value)} {oc_law_refuses kV_law_refuses dc_law_refuses pm_law_refuses cd_law_refuses ct_law_refuses : Value}
    {f_law_adds : Addr} {od_law_adds an_law_adds : Option Addr} {sl_law_adds : Array (Option Value)} {oc_law_adds kV_law_adds dc_law_adds pm_law_adds cd_law_adds ct_law_adds : Value}
    {f_law_copies : Addr} {od_law_copies an_law_copies : Option Addr} {sl_law_copies : Array (Option Value)} {oc_law_copies kV_law_copies dc_law_copies pm_law_copies cd_law_copies ct_law_copies : Value}
    {f_law : Addr} {od_law an_law : Option Addr} {sl_law : Array (Option Value)} {oc_law kV_law dc_law pm_law cd_law ct_law : Value}
    (zb_isinstance : PySem.W.nsIn K mainGlobals "isinstance" = some none)
    (zb_int : PySem.W.nsIn K mainGlobals "int" = some none)
    (zb_bool : PySem.W.nsIn K mainGlobals "bool" = some none)
    (zb_len : PySem.W.nsIn K mainGlobals "len" = some none)
    (zb_abs : PySem.W.nsIn K mainGlobals "abs" = some none)
    (zb_enumerate : PySem.W.nsIn K mainGlobals "enumerate" = some none)
    (zb_list : PySem.W.nsIn K mainGlobals "list" = some none)
    (kc_MOST_POINTS : PySem.W.nsIn K mainGlobals "MOST_POINTS" = some (some (.int 120 tk_MOST_POINTS)))
    (a_BadCount : PySem.W.nsIn K mainGlobals "BadCount" = some (some (.ref C_BadCount)))
    (a_FitError : PySem.W.nsIn K mainGlobals "FitError" = some (some (.ref C_FitError)))
    (x_BadCount : K.lookup C_BadCount = some (excClassObj nm_BadCount q_BadCount C_BadCount N_BadCount bs_BadCount [.ref C_FitError, .type "ValueError", .type "Exception", .type "BaseException", .type "object"] true sn_BadCount sub_BadCount ab_BadCount col_BadCount dd_BadCount m0_BadCount m1_BadCount m2_BadCount m3_BadCount m5_BadCount "ValueError.__new__"))
    (sa_BadCount : PySem.W.findIn K (.ref C_BadCount) "__setattr__" = some (some (.builtin "object.__setattr__")))
    (ga_BadCount : PySem.W.findIn K (.ref C_BadCount) "__getattribute__" = some (some (.builtin "BaseException.__getattribute__")))
    (gg_BadCount : PySem.W.findIn K (.ref C_BadCount) "__getattr__" = some none)
    (kp_BadCount : PySem.W.keepIn K (.ref C_BadCount) = true)
    (ex_BadCount : PySem.W.subIn K (.ref C_BadCount) (.type "BaseException") = some true)
    (ve_BadCount : PySem.W.subIn K (.ref C_BadCount) (.type "ValueError") = some true)
    (ty_BadCount : PySem.W.typeIn K (.ref C_BadCount) = some (.type "type"))
    (hd_BadCount : PySem.W.hasDictIn K C_BadCount = true)
    (su_BadCount : PySem.W.subIn K (.ref C_BadCount) (.ref C_BadCount) = some true)
    (mo_BadCount : PySem.W.mroIn K C_BadCount (.ref C_BadCount) = some true)
    (opq : PySem.W.nsIn K cStatics "thirdparty.any" = some none)
    (sp_BadCount : PySem.W.ks_superIn K C_BadCount C_BadCount "__init__" = some (some (.builtin "ValueError.__init__")))
    (no_BadCount_number : PySem.W.findIn K (.ref C_BadCount) "number" = some none)
    (i_BadCount : PySem.W.findIn K (.ref C_BadCount) "__init__" = some (some (.ref f_BadCount)))
    (t_BadCount : PySem.W.typeIn K (.ref f_BadCount) = some (.type "function"))
    (l_BadCount : K.lookup f_BadCount = some ⟨oc_BadCount, od_BadCount, .func (PySem.W.ksFn "__init__" "BadCount.__init__" (defArgs ((clsBody (topS 2)).getD 0 (.Pass ⟨0, 0, 0, 0⟩))) (defBody ((clsBody (topS 2)).getD 0 (.Pass ⟨0, 0, 0, 0⟩))) (defScope ((clsBody (topS 2)).getD 0 (.Pass ⟨0, 0, 0, 0⟩))) .none .none dc_BadCount pm_BadCount an_BadCount (.ref cd_BadCount) ct_BadCount cc_BadCount), sl_BadCount⟩)
    (c_BadCount : PySem.W.codeIn K (.ref cd_BadCount) "BadCount.__init__" = true)
    (d_BadCount : K.lookup cd_BadCount = some ⟨cl_BadCount, ed_BadCount, .fields vs_BadCount, cs_BadCount⟩)
    (v_BadCount : vs_BadCount[2]? = some (.str fi_BadCount tf_BadCount))
    (p_BadCount : ((l.prog.main.file : PySem.Str) == fi_BadCount) = true)
    (e_BadCount : K.lookup cc_BadCount = some ⟨cv_BadCount, ld_BadCount, .cell (some (.ref C_BadCount)), ls_BadCount⟩)
    (top : (l.prog.main.scope.names.lookup ("super" : PySem.Str)).isSome = false)
    (zb_super : PySem.W.nsIn K mainGlobals "super" = some none)
    (a_BadRow : PySem.W.nsIn K mainGlobals "BadRow" = some (some (.ref C_BadRow)))
    (x_BadRow : K.lookup C_BadRow = some (excClassObj nm_BadRow q_BadRow C_BadRow N_BadRow bs_BadRow [.ref C_FitError, .type "ValueError", .type "Exception", .type "BaseException", .type "object"] true sn_BadRow sub_BadRow ab_BadRow col_BadRow dd_BadRow m0_BadRow m1_BadRow m2_BadRow m3_BadRow m5_BadRow "ValueError.__new__"))
    (sa_BadRow : PySem.W.findIn K (.ref C_BadRow) "__setattr__" = some (some (.builtin "object.__setattr__")))
    (ga_BadRow : PySem.W.findIn K (.ref C_BadRow) "__getattribute__" = some (some (.builtin "BaseException.__getattribute__")))
    (gg_BadRow : PySem.W.findIn K (.ref C_BadRow) "__getattr__" = some none)
    (kp_BadRow : PySem.W.keepIn K (.ref C_BadRow) = true)
    (ex_BadRow : PySem.W.subIn K (.ref C_BadRow) (.type "BaseException") = some true)
    (ve_BadRow : PySem.W.subIn K (.ref C_BadRow) (.type "ValueError") = some true)
    (ty_BadRow : PySem.W.typeIn K (.ref C_BadRow) = some (.type "type"))
    (hd_BadRow : PySem.W.hasDictIn K C_BadRow = true)
    (su_BadRow : PySem.W.subIn K (.ref C_BadRow) (.ref C_BadRow) = some true)
    (mo_BadRow : PySem.W.mroIn K C_BadRow (.ref C_BadRow) = some true)
    (sp_BadRow : PySem.W.ks_superIn K C_BadRow C_BadRow "__init__" = some (some (.builtin "ValueError.__init__")))
    (no_BadRow_index : PySem.W.findIn K (.ref C_BadRow) "index" = some none)
    (i_BadRow : PySem.W.findIn K (.ref C_BadRow) "__init__" = some (some (.ref f_BadRow)))
    (t_BadRow : PySem.W.typeIn K (.ref f_BadRow) = some (.type "function"))
    (l_BadRow : K.lookup f_BadRow = some ⟨oc_BadRow, od_BadRow, .func (PySem.W.ksFn "__init__" "BadRow.__init__" (defArgs ((clsBody (topS 3)).getD 0 (.Pass ⟨0, 0, 0, 0⟩))) (defBody ((clsBody (topS 3)).getD 0 (.Pass ⟨0, 0, 0, 0⟩))) (defScope ((clsBody (topS 3)).getD 0 (.Pass ⟨0, 0, 0, 0⟩))) .none .none dc_BadRow pm_BadRow an_BadRow (.ref cd_BadRow) ct_BadRow cc_BadRow), sl_BadRow⟩)
    (c_BadRow : PySem.W.codeIn K (.ref cd_BadRow) "BadRow.__init__" = true)
    (d_BadRow : K.lookup cd_BadRow = some ⟨cl_BadRow, ed_BadRow, .fields vs_BadRow, cs_BadRow⟩)
    (v_BadRow : vs_BadRow[2]? = some (.str fi_BadRow tf_BadRow))
    (p_BadRow : ((l.prog.main.file : PySem.Str) == fi_BadRow) = true)
    (e_BadRow : K.lookup cc_BadRow = some ⟨cv_BadRow, ld_BadRow, .cell (some (.ref C_BadRow)), ls_BadRow⟩)
    (a_Rows : PySem.W.nsIn K mainGlobals "Rows" = some (some (.ref C_Rows)))
    (pg_Rows : PySem.W.plainGet K C_Rows PySem.Str.empty = true)
    (hd_Rows : PySem.W.hasDictIn K C_Rows = true)
    (po_Rows : PySem.W.plainOver K C_Rows = true)
    (sa_Rows : PySem.W.findIn K (.ref C_Rows) "__setattr__" = some (some (.builtin "object.__setattr__")))
    (no_Rows_points : PySem.W.findIn K (.ref C_Rows) "points" = some none)
    (no_Rows__rows : PySem.W.findIn K (.ref C_Rows) "_rows" = some none)
    (zb_iter : PySem.W.nsIn K mainGlobals "iter" = some none)
    (zt_NoneType_Rows : PySem.W.kitOne K (.type "NoneType") (.ref C_Rows) = some false)
    (zt_bool_Rows : PySem.W.kitOne K (.type "bool") (.ref C_Rows) = some false)
    (zt_int_Rows : PySem.W.kitOne K (.type "int") (.ref C_Rows) = some false)
    (zt_str_Rows : PySem.W.kitOne K (.type "str") (.ref C_Rows) = some false)
    (zt_tuple_Rows : PySem.W.kitOne K (.type "tuple") (.ref C_Rows) = some false)
    (zt_list_Rows : PySem.W.kitOne K (.type "list") (.ref C_Rows) = some false)
    (gk_Rows : PySem.W.findIn K (.ref C_Rows) "__class__" = some (some (.builtin "object.__class__")))
    (ob_Rows : PySem.W.mroIn K C_Rows (.type "object") = some true)
    (spc : PySem.W.specialIn K (.builtin "object.__class__") "__get__" = some (some (.builtin "getset_descriptor.__get__")))
    (tkc : PySem.W.takesIn K (.builtin "object.__class__") = some true)
    (zz_Rows_Rows : PySem.W.kitOne K (.ref C_Rows) (.ref C_Rows) = some true)
    (zb_range : PySem.W.nsIn K mainGlobals "range" = some none)
    (kp_Rows : PySem.W.keepIn K (.ref C_Rows) = true)
    (mk_Rows : PySem.W.makesIn K C_Rows = true)
    (s_BadCount_FitError : PySem.W.subIn K (.ref C_BadCount) (.ref C_FitError) = some true)
    (s_BadRow_FitError : PySem.W.subIn K (.ref C_BadRow) (.ref C_FitError) = some true)
    (x_FitError : K.lookup C_FitError = some (excClassObj nm_FitError q_FitError C_FitError N_FitError bs_FitError [.type "ValueError", .type "Exception", .type "BaseException", .type "object"] true sn_FitError sub_FitError ab_FitError col_FitError dd_FitError m0_FitError m1_FitError m2_FitError m3_FitError m5_FitError "ValueError.__new__"))
    (sa_FitError : PySem.W.findIn K (.ref C_FitError) "__setattr__" = some (some (.builtin "object.__setattr__")))
    (ga_FitError : PySem.W.findIn K (.ref C_FitError) "__getattribute__" = some (some (.builtin "BaseException.__getattribute__")))
    (gg_FitError : PySem.W.findIn K (.ref C_FitError) "__getattr__" = some none)
    (kp_FitError : PySem.W.keepIn K (.ref C_FitError) = true)
    (ex_FitError : PySem.W.subIn K (.ref C_FitError) (.type "BaseException") = some true)
    (ve_FitError : PySem.W.subIn K (.ref C_FitError) (.type "ValueError") = some true)
    (ty_FitError : PySem.W.typeIn K (.ref C_FitError) = some (.type "type"))
    (hd_FitError : PySem.W.hasDictIn K C_FitError = true)
    (su_FitError : PySem.W.subIn K (.ref C_FitError) (.ref C_FitError) = some true)
    (mo_FitError : PySem.W.mroIn K C_FitError (.ref C_FitError) = some true)
    (zb_ValueError : PySem.W.nsIn K mainGlobals "ValueError" = some none)
    (zV_BadCount : PySem.W.kitOne K (.ref C_BadCount) (.type "ValueError") = some true)
    (gk_BadCount : PySem.W.findIn K (.ref C_BadCount) "__class__" = some (some (.builtin "object.__class__")))
    (ob_BadCount : PySem.W.mroIn K C_BadCount (.type "object") = some true)
    (zV_BadRow : PySem.W.kitOne K (.ref C_BadRow) (.type "ValueError") = some true)
    (gk_BadRow : PySem.W.findIn K (.ref C_BadRow) "__class__" = some (some (.builtin "object.__class__")))
    (ob_BadRow : PySem.W.mroIn K C_BadRow (.type "object") = some true)
    (z_BadCount_BadCount : PySem.W.kitOne K (.ref C_BadCount) (.ref C_BadCount) = some true)
    (z_BadRow_BadCount : PySem.W.kitOne K (.ref C_BadRow) (.ref C_BadCount) = some false)
    (z_BadCount_BadRow : PySem.W.kitOne K (.ref C_BadCount) (.ref C_BadRow) = some false)
    (z_BadRow_BadRow : PySem.W.kitOne K (.ref C_BadRow) (.ref C_BadRow) = some true)
    (zb_tuple : PySem.W.nsIn K mainGlobals "tuple" = some none)
    (ne_Rows : PySem.W.findIn K (.ref C_Rows) "__ne__" = some (some (.builtin "object.__ne__")))
    (sf_Rows : PySem.W.selfFirst K C_Rows = true)
    (zb_min : PySem.W.nsIn K mainGlobals "min" = some none)
    (a_is_whole : PySem.W.nsIn K mainGlobals "is_whole" = some (some (.ref f_is_whole)))
    (l_is_whole : K.lookup f_is_whole = some ⟨oc_is_whole, od_is_whole, .func (PySem.W.fnOf "is_whole" "is_whole" (defArgs s_is_whole) (defBody s_is_whole) (defScope s_is_whole) .none kV_is_whole dc_is_whole pm_is_whole an_is_whole cd_is_whole ct_is_whole), sl_is_whole⟩)
    (c_is_whole : PySem.W.codeIn K cd_is_whole "is_whole" = true)
    (k_is_whole : PySem.W.keepIn K (.ref f_is_whole) = true)
    (a_joined_point : PySem.W.nsIn K mainGlobals "joined_point" = some (some (.ref f_joined_point)))
    (l_joined_point : K.lookup f_joined_point = some ⟨oc_joined_point, od_joined_point, .func (PySem.W.fnOf "joined_point" "joined_point" (defArgs s_joined_point) (defBody s_joined_point) (defScope s_joined_point) .none kV_joined_point dc_joined_point pm_joined_point an_joined_point cd_joined_point ct_joined_point), sl_joined_point⟩)
    (c_joined_point : PySem.W.codeIn K cd_joined_point "joined_point" = true)
    (k_joined_point : PySem.W.keepIn K (.ref f_joined_point) = true)
    (a_law_int : PySem.W.nsIn K mainGlobals "_law_int" = some (some (.ref f_law_int)))
    (l_law_int : K.lookup f_law_int = some ⟨oc_law_int, od_law_int, .func (PySem.W.fnOf "_law_int" "_law_int" (defArgs s_law_int) (defBody s_law_int) (defScope s_law_int) .none kV_law_int dc_law_int pm_law_int an_law_int cd_law_int ct_law_int), sl_law_int⟩)
    (c_law_int : PySem.W.codeIn K cd_law_int "_law_int" = true)
    (k_law_int : PySem.W.keepIn K (.ref f_law_int) = true)
    (a_law_state : PySem.W.nsIn K mainGlobals "_law_state" = some (some (.ref f_law_state)))
    (l_law_state : K.lookup f_law_state = some ⟨oc_law_state, od_law_state, .func (PySem.W.fnOf "_law_state" "_law_state" (defArgs s_law_state) (defBody s_law_state) (defScope s_law_state) .none kV_law_state dc_law_state pm_law_state an_law_state cd_law_state ct_law_state), sl_law_state⟩)
    (c_law_state : PySem.W.codeIn K cd_law_state "_law_state" = true)
    (k_law_state : PySem.W.keepIn K (.ref f_law_state) = true)
    (a_law_next : PySem.W.nsIn K mainGlobals "_law_next" = some (some (.ref f_law_next)))
    (l_law_next : K.lookup f_law_next = some ⟨oc_law_next, od_law_next, .func (PySem.W.fnOf "_law_next" "_law_next" (defArgs s_law_next) (defBody s_law_next) (defScope s_law_next) .none kV_law_next dc_law_next pm_law_next an_law_next cd_law_next ct_law_next), sl_law_next⟩)
    (c_law_next : PySem.W.codeIn K cd_law_next "_law_next" = true)
    (k_law_next : PySem.W.keepIn K (.ref f_law_next) = true)
    (a_law_keeps : PySem.W.nsIn K mainGlobals "_law_keeps" = some (some (.ref f_law_keeps)))
    (l_law_keeps : K.lookup f_law_keeps = some ⟨oc_law_keeps, od_law_keeps, .func (PySem.W.fnOf "_law_keeps" "_law_keeps" (defArgs s_law_keeps) (defBody s_law_keeps) (defScope s_law_keeps) .none kV_law_keeps dc_law_keeps pm_law_keeps an_law_keeps cd_law_keeps ct_law_keeps), sl_law_keeps⟩)
    (c_law_keeps : PySem.W.codeIn K cd_law_keeps "_law_keeps" = true)
    (k_law_keeps : PySem.W.keepIn K (.ref f_law_keeps) = true)
    (a_law_due : PySem.W.nsIn K mainGlobals "_law_due" = some (some (.ref f_law_due)))
    (l_law_due : K.lookup f_law_due = some ⟨oc_law_due, od_law_due, .func (PySem.W.fnOf "_law_due" "_law_due" (defArgs s_law_due) (defBody s_law_due) (defScope s_law_due) .none kV_law_due dc_law_due pm_law_due an_law_due cd_law_due ct_law_due), sl_law_due⟩)
    (c_law_due : PySem.W.codeIn K cd_law_due "_law_due" = true)
    (k_law_due : PySem.W.keepIn K (.ref f_law_due) = true)
    (a_law_joined : PySem.W.nsIn K mainGlobals "_law_joined" = some (some (.ref f_law_joined)))
    (l_law_joined : K.lookup f_law_joined = some ⟨oc_law_joined, od_law_joined, .func (PySem.W.fnOf "_law_joined" "_law_joined" (defArgs s_law_joined) (defBody s_law_joined) (defScope s_law_joined) .none kV_law_joined dc_law_joined pm_law_joined an_law_joined cd_law_joined ct_law_joined), sl_law_joined⟩)
    (c_law_joined : PySem.W.codeIn K cd_law_joined "_law_joined" = true)
    (k_law_joined : PySem.W.keepIn K (.ref f_law_joined) = true)
    (a_Rows_init : PySem.W.findIn K (.ref C_Rows) "__init__" = some (some (.ref f_Rows_init)))
    (n_Rows_init : PySem.W.isFn K (.ref f_Rows_init) = true)
    (l_Rows_init : K.lookup f_Rows_init = some ⟨oc_Rows_init, od_Rows_init, .func (PySem.W.fnOf "__init__" "Rows.__init__" (defArgs s_Rows_init) (defBody s_Rows_init) (defScope s_Rows_init) .none kV_Rows_init dc_Rows_init pm_Rows_init an_Rows_init cd_Rows_init ct_Rows_init), sl_Rows_init⟩)
    (c_Rows_init : PySem.W.codeIn K cd_Rows_init "Rows.__init__" = true)
    (k_Rows_init : PySem.W.keepIn K (.ref f_Rows_init) = true)
    (a_Rows_len : PySem.W.findIn K (.ref C_Rows) "__len__" = some (some (.ref f_Rows_len)))
    (n_Rows_len : PySem.W.isFn K (.ref f_Rows_len) = true)
    (l_Rows_len : K.lookup f_Rows_len = some ⟨oc_Rows_len, od_Rows_len, .func (PySem.W.fnOf "__len__" "Rows.__len__" (defArgs s_Rows_len) (defBody s_Rows_len) (defScope s_Rows_len) .none kV_Rows_len dc_Rows_len pm_Rows_len an_Rows_len cd_Rows_len ct_Rows_len), sl_Rows_len⟩)
    (c_Rows_len : PySem.W.codeIn K cd_Rows_len "Rows.__len__" = true)
    (k_Rows_len : PySem.W.keepIn K (.ref f_Rows_len) = true)
    (a_Rows_iter : PySem.W.findIn K (.ref C_Rows) "__iter__" = some (some (.ref f_Rows_iter)))
    (n_Rows_iter : PySem.W.isFn K (.ref f_Rows_iter) = true)
    (l_Rows_iter : K.lookup f_Rows_iter = some ⟨oc_Rows_iter, od_Rows_iter, .func (PySem.W.fnOf "__iter__" "Rows.__iter__" (defArgs s_Rows_iter) (defBody s_Rows_iter) (defScope s_Rows_iter) .none kV_Rows_iter dc_Rows_iter pm_Rows_iter an_Rows_iter cd_Rows_iter ct_Rows_iter), sl_Rows_iter⟩)
    (c_Rows_iter : PySem.W.codeIn K cd_Rows_iter "Rows.__iter__" = true)
    (k_Rows_iter : PySem.W.keepIn K (.ref f_Rows_iter) = true)
    (a_Rows_eq : PySem.W.findIn K (.ref C_Rows) "__eq__" = some (some (.ref f_Rows_eq)))
    (n_Rows_eq : PySem.W.isFn K (.ref f_Rows_eq) = true)
    (l_Rows_eq : K.lookup f_Rows_eq = some ⟨oc_Rows_eq, od_Rows_eq, .func (PySem.W.fnOf "__eq__" "Rows.__eq__" (defArgs s_Rows_eq) (defBody s_Rows_eq) (defScope s_Rows_eq) .none kV_Rows_eq dc_Rows_eq pm_Rows_eq an_Rows_eq cd_Rows_eq ct_Rows_eq), sl_Rows_eq⟩)
    (c_Rows_eq : PySem.W.codeIn K cd_Rows_eq "Rows.__eq__" = true)
    (k_Rows_eq : PySem.W.keepIn K (.ref f_Rows_eq) = true)
    (a_is_whole_list : PySem.W.nsIn K mainGlobals "is_whole_list" = some (some (.ref f_is_whole_list)))
    (l_is_whole_list : K.lookup f_is_whole_list = some ⟨oc_is_whole_list, od_is_whole_list, .func (PySem.W.fnOf "is_whole_list" "is_whole_list" (defArgs s_is_whole_list) (defBody s_is_whole_list) (defScope s_is_whole_list) .none kV_is_whole_list dc_is_whole_list pm_is_whole_list an_is_whole_list cd_is_whole_list ct_is_whole_list), sl_is_whole_list⟩)
    (c_is_whole_list : PySem.W.codeIn K cd_is_whole_list "is_whole_list" = true)
    (k_is_whole_list : PySem.W.keepIn K (.ref f_is_whole_list) = true)
    (a_law_ints : PySem.W.nsIn K mainGlobals "_law_ints" = some (some (.ref f_law_ints)))
    (l_law_ints : K.lookup f_law_ints = some ⟨oc_law_ints, od_law_ints, .func (PySem.W.fnOf "_law_ints" "_law_ints" (defArgs s_law_ints) (defBody s_law_ints) (defScope s_law_ints) .none kV_law_ints dc_law_ints pm_law_ints an_law_ints cd_law_ints ct_law_ints), sl_law_ints⟩)
    (c_law_ints : PySem.W.codeIn K cd_law_ints "_law_ints" = true)
    (k_law_ints : PySem.W.keepIn K (.ref f_law_ints) = true)
    (a_law_points : PySem.W.nsIn K mainGlobals "_law_points" = some (some (.ref f_law_points)))
    (l_law_points : K.lookup f_law_points = some ⟨oc_law_points, od_law_points, .func (PySem.W.fnOf "_law_points" "_law_points" (defArgs s_law_points) (defBody s_law_points) (defScope s_law_points) .none kV_law_points dc_law_points pm_law_points an_law_points cd_law_points ct_law_points), sl_law_points⟩)
    (c_law_points : PySem.W.codeIn K cd_law_points "_law_points" = true)
    (k_law_points : PySem.W.keepIn K (.ref f_law_points) = true)
    (a_law_system : PySem.W.nsIn K mainGlobals "_law_system" = some (some (.ref f_law_system)))
    (l_law_system : K.lookup f_law_system = some ⟨oc_law_system, od_law_system, .func (PySem.W.fnOf "_law_system" "_law_system" (defArgs s_law_system) (defBody s_law_system) (defScope s_law_system) .none kV_law_system dc_law_system pm_law_system an_law_system cd_law_system ct_law_system), sl_law_system⟩)
    (c_law_system : PySem.W.codeIn K cd_law_system "_law_system" = true)
    (k_law_system : PySem.W.keepIn K (.ref f_law_system) = true)
    (a_law_lists : PySem.W.nsIn K mainGlobals "_law_lists" = some (some (.ref f_law_lists)))
    (l_law_lists : K.lookup f_law_lists = some ⟨oc_law_lists, od_law_lists, .func (PySem.W.fnOf "_law_lists" "_law_lists" (defArgs s_law_lists) (defBody s_law_lists) (defScope s_law_lists) .none kV_law_lists dc_law_lists pm_law_lists an_law_lists cd_law_lists ct_law_lists), sl_law_lists⟩)
    (c_law_lists : PySem.W.codeIn K cd_law_lists "_law_lists" = true)
    (k_law_lists : PySem.W.keepIn K (.ref f_law_lists) = true)
    (a_law_broken : PySem.W.nsIn K mainGlobals "_law_broken" = some (some (.ref f_law_broken)))
    (l_law_broken : K.lookup f_law_broken = some ⟨oc_law_broken, od_law_broken, .func (PySem.W.fnOf "_law_broken" "_law_broken" (defArgs s_law_broken) (defBody s_law_broken) (defScope s_law_broken) .none kV_law_broken dc_law_broken pm_law_broken an_law_broken cd_law_broken ct_law_broken), sl_law_broken⟩)
    (c_law_broken : PySem.W.codeIn K cd_law_broken "_law_broken" = true)
    (k_law_broken : PySem.W.keepIn K (.ref f_law_broken) = true)
    (a_law_bad : PySem.W.nsIn K mainGlobals "_law_bad" = some (some (.ref f_law_bad)))
    (l_law_bad : K.lookup f_law_bad = some ⟨oc_law_bad, od_law_bad, .func (PySem.W.fnOf "_law_bad" "_law_bad" (defArgs s_law_bad) (defBody s_law_bad) (defScope s_law_bad) .none kV_law_bad dc_law_bad pm_law_bad an_law_bad cd_law_bad ct_law_bad), sl_law_bad⟩)
    (c_law_bad : PySem.W.codeIn K cd_law_bad "_law_bad" = true)
    (k_law_bad : PySem.W.keepIn K (.ref f_law_bad) = true)
    (a_law_alike : PySem.W.nsIn K mainGlobals "_law_alike" = some (some (.ref f_law_alike)))
    (l_law_alike : K.lookup f_law_alike = some ⟨oc_law_alike, od_law_alike, .func (PySem.W.fnOf "_law_alike" "_law_alike" (defArgs s_law_alike) (defBody s_law_alike) (defScope s_law_alike) .none kV_law_alike dc_law_alike pm_law_alike an_law_alike cd_law_alike ct_law_alike), sl_law_alike⟩)
    (c_law_alike : PySem.W.codeIn K cd_law_alike "_law_alike" = true)
    (k_law_alike : PySem.W.keepIn K (.ref f_law_alike) = true)
    (a_law_others : PySem.W.nsIn K mainGlobals "_law_others" = some (some (.ref f_law_others)))
    (l_law_others : K.lookup f_law_others = some ⟨oc_law_others, od_law_others, .func (PySem.W.fnOf "_law_others" "_law_others" (defArgs s_law_others) (defBody s_law_others) (defScope s_law_others) .none kV_law_others dc_law_others pm_law_others an_law_others cd_law_others ct_law_others), sl_law_others⟩)
    (c_law_others : PySem.W.codeIn K cd_law_others "_law_others" = true)
    (k_law_others : PySem.W.keepIn K (.ref f_law_others) = true)
    (a_law_made : PySem.W.nsIn K mainGlobals "_law_made" = some (some (.ref f_law_made)))
    (l_law_made : K.lookup f_law_made = some ⟨oc_law_made, od_law_made, .func (PySem.W.fnOf "_law_made" "_law_made" (defArgs s_law_made) (defBody s_law_made) (defScope s_law_made) .none kV_law_made dc_law_made pm_law_made an_law_made cd_law_made ct_law_made), sl_law_made⟩)
    (c_law_made : PySem.W.codeIn K cd_law_made "_law_made" = true)
    (k_law_made : PySem.W.keepIn K (.ref f_law_made) = true)
    (a_Rows_contains : PySem.W.findIn K (.ref C_Rows) "__contains__" = some (some (.ref f_Rows_contains)))
    (n_Rows_contains : PySem.W.isFn K (.ref f_Rows_contains) = true)
    (l_Rows_contains : K.lookup f_Rows_contains = some ⟨oc_Rows_contains, od_Rows_contains, .func (PySem.W.fnOf "__contains__" "Rows.__contains__" (defArgs s_Rows_contains) (defBody s_Rows_contains) (defScope s_Rows_contains) .none kV_Rows_contains dc_Rows_contains pm_Rows_contains an_Rows_contains cd_Rows_contains ct_Rows_contains), sl_Rows_contains⟩)
    (c_Rows_contains : PySem.W.codeIn K cd_Rows_contains "Rows.__contains__" = true)
    (k_Rows_contains : PySem.W.keepIn K (.ref f_Rows_contains) = true)
    (a_Rows_add : PySem.W.findIn K (.ref C_Rows) "__add__" = some (some (.ref f_Rows_add)))
    (n_Rows_add : PySem.W.isFn K (.ref f_Rows_add) = true)
    (l_Rows_add : K.lookup f_Rows_add = some ⟨oc_Rows_add, od_Rows_add, .func (PySem.W.fnOf "__add__" "Rows.__add__" (defArgs s_Rows_add) (defBody s_Rows_add) (defScope s_Rows_add) .none kV_Rows_add dc_Rows_add pm_Rows_add an_Rows_add cd_Rows_add ct_Rows_add), sl_Rows_add⟩)
    (c_Rows_add : PySem.W.codeIn K cd_Rows_add "Rows.__add__" = true)
    (k_Rows_add : PySem.W.keepIn K (.ref f_Rows_add) = true)
    (a_Rows_with_more : PySem.W.findIn K (.ref C_Rows) "with_more" = some (some (.ref f_Rows_with_more)))
    (n_Rows_with_more : PySem.W.isFn K (.ref f_Rows_with_more) = true)
    (l_Rows_with_more : K.lookup f_Rows_with_more = some ⟨oc_Rows_with_more, od_Rows_with_more, .func (PySem.W.fnOf "with_more" "Rows.with_more" (defArgs s_Rows_with_more) (defBody s_Rows_with_more) (defScope s_Rows_with_more) .none kV_Rows_with_more dc_Rows_with_more pm_Rows_with_more an_Rows_with_more cd_Rows_with_more ct_Rows_with_more), sl_Rows_with_more⟩)
    (c_Rows_with_more : PySem.W.codeIn K cd_Rows_with_more "Rows.with_more" = true)
    (k_Rows_with_more : PySem.W.keepIn K (.ref f_Rows_with_more) = true)
    (a_law_holds : PySem.W.nsIn K mainGlobals "_law_holds" = some (some (.ref f_law_holds)))
    (l_law_holds : K.lookup f_law_holds = some ⟨oc_law_holds, od_law_holds, .func (PySem.W.fnOf "_law_holds" "_law_holds" (defArgs s_law_holds) (defBody s_law_holds) (defScope s_law_holds) .none kV_law_holds dc_law_holds pm_law_holds an_law_holds cd_law_holds ct_law_holds), sl_law_holds⟩)
    (c_law_holds : PySem.W.codeIn K cd_law_holds "_law_holds" = true)
    (k_law_holds : PySem.W.keepIn K (.ref f_law_holds) = true)
    (a_law_more : PySem.W.nsIn K mainGlobals "_law_more" = some (some (.ref f_law_more)))
    (l_law_more : K.lookup f_law_more = some ⟨oc_law_more, od_law_more, .func (PySem.W.fnOf "_law_more" "_law_more" (defArgs s_law_more) (defBody s_law_more) (defScope s_law_more) .none kV_law_more dc_law_more pm_law_more an_law_more cd_law_more ct_law_more), sl_law_more⟩)
    (c_law_more : PySem.W.codeIn K cd_law_more "_law_more" = true)
    (k_law_more : PySem.W.keepIn K (.ref f_law_more) = true)
    (a_law_compares : PySem.W.nsIn K mainGlobals "_law_compares" = some (some (.ref f_law_compares)))
    (l_law_compares : K.lookup f_law_compares = some ⟨oc_law_compares, od_law_compares, .func (PySem.W.fnOf "_law_compares" "_law_compares" (defArgs s_law_compares) (defBody s_law_compares) (defScope s_law_compares) .none kV_law_compares dc_law_compares pm_law_compares an_law_compares cd_law_compares ct_law_compares), sl_law_compares⟩)
    (c_law_compares : PySem.W.codeIn K cd_law_compares "_law_compares" = true)
    (k_law_compares : PySem.W.keepIn K (.ref f_law_compares) = true)
    (a_law_sum : PySem.W.nsIn K mainGlobals "_law_sum" = some (some (.ref f_law_sum)))
    (l_law_sum : K.lookup f_law_sum = some ⟨oc_law_sum, od_law_sum, .func (PySem.W.fnOf "_law_sum" "_law_sum" (defArgs s_law_sum) (defBody s_law_sum) (defScope s_law_sum) .none kV_law_sum dc_law_sum pm_law_sum an_law_sum cd_law_sum ct_law_sum), sl_law_sum⟩)
    (c_law_sum : PySem.W.codeIn K cd_law_sum "_law_sum" = true)
    (k_law_sum : PySem.W.keepIn K (.ref f_law_sum) = true)
    (a_law_tells : PySem.W.nsIn K mainGlobals "_law_tells" = some (some (.ref f_law_tells)))
    (l_law_tells : K.lookup f_law_tells = some ⟨oc_law_tells, od_law_tells, .func (PySem.W.fnOf "_law_tells" "_law_tells" (defArgs s_law_tells) (defBody s_law_tells) (defScope s_law_tells) .none kV_law_tells dc_law_tells pm_law_tells an_law_tells cd_law_tells ct_law_tells), sl_law_tells⟩)
    (c_law_tells : PySem.W.codeIn K cd_law_tells "_law_tells" = true)
    (k_law_tells : PySem.W.keepIn K (.ref f_law_tells) = true)
    (a_law_refuses : PySem.W.nsIn K mainGlobals "_law_refuses" = some (some (.ref f_law_refuses)))
    (l_law_refuses : K.lookup f_law_refuses = some ⟨oc_law_refuses, od_law_refuses, .func (PySem.W.fnOf "_law_refuses" "_law_refuses" (defArgs s_law_refuses) (defBody s_law_refuses) (defScope s_law_refuses) .none kV_law_refuses dc_law_refuses pm_law_refuses an_law_refuses cd_law_refuses ct_law_refuses), sl_law_refuses⟩)
    (c_law_refuses : PySem.W.codeIn K cd_law_refuses "_law_refuses" = true)
    (k_law_refuses : PySem.W.keepIn K (.ref f_law_refuses) = true)
    (a_law_adds : PySem.W.nsIn K mainGlobals "_law_adds" = some (some (.ref f_law_adds)))
    (l_law_adds : K.lookup f_law_adds = some ⟨oc_law_adds, od_law_adds, .func (PySem.W.fnOf "_law_adds" "_law_adds" (defArgs s_law_adds) (defBody s_law_adds) (defScope s_law_adds) .none kV_law_adds dc_law_adds pm_law_adds an_law_adds cd_law_adds ct_law_adds), sl_law_adds⟩)
    (c_law_adds : PySem.W.codeIn K cd_law_adds "_law_adds" = true)
    (k_law_adds : PySem.W.keepIn K (.ref f_law_adds) = true)
    (a_law_copies : PySem.W.nsIn K mainGlobals "_law_copies" = some (some (.ref f_law_copies)))
    (l_law_copies : K.lookup f_law_copies = some ⟨oc_law_copies, od_law_copies, .func (PySem.W.fnOf "_law_copies" "_law_copies" (defArgs s_law_copies) (defBody s_law_copies) (defScope s_law_copies) .none kV_law_copies dc_law_copies pm_law_copies an_law_copies cd_law_copies ct_law_copies), sl_law_copies⟩)
    (c_law_copies : PySem.W.codeIn K cd_law_copies "_law_copies" = true)
    (k_law_copies : PySem.W.keepIn K (.ref f_law_copies) = true)
    (a_law : PySem.W.nsIn K mainGlobals "law" = some (some (.ref f_law)))
    (l_law : K.lookup f_law = some ⟨oc_law, od_law, .func (PySem.W.fnOf "law" "law" (defArgs s_law) (defBody s_law) (defScope s_law) .none kV_law dc_law pm_law an_law cd_law ct_law), sl_law⟩)
    (c_law : PySem.W.codeIn K cd_law "law" = true)
    (k_law : PySem.W.keepIn K (.ref f_law) = true)
    : ∃ fd : FuncData, (∀ (s : Shared) (v : Value), BindsTo s fd ⟨[v], []⟩ [("script", v)]) ∧ ∀ base : Heap, K.In base → base.Ns mainGlobals mg → FnOk l.prog w K mg base CX0 7 fa fd ["script"] (spAll K m_law 1) := by
  have e := hfa.symm.trans (PySem.W.mg_of X G a_law)
  cases e
  have F_law := fun_mk (st := s_law) l_law c_law k_law
  refine ⟨PySem.W.fnOf "law" "law" (defArgs s_law) (defBody s_law) (defScope s_law) .none kV_law dc_law pm_law an_law cd_law ct_law, fun s v => .of_eq rfl, fun base _ _ => ?_⟩
  let cls : Nat → Addr := (fun k => List.getD [C_FitError, C_BadCount, C_BadRow, C_Rows] k 0)
  have z_isinstance : mg "isinstance" = none := PySem.W.mg_none_of X G zb_isinstance
  have z_int : mg "int" = none := PySem.W.mg_none_of X G zb_int
  have z_bool : mg "bool" = none := PySem.W.mg_none_of X G zb_bool
  have h_is_whole : Fn l.prog w K cls mg base "is_whole" 1 m_is_whole 1 := ok_is_whole ⟨f_is_whole, _, fun_mk (st := s_is_whole) l_is_whole c_is_whole k_is_whole, PySem.W.mg_of X G a_is_whole⟩ z_isinstance z_int z_bool
  have h_joined_point : Fn l.prog w K cls mg base "joined_point" 1 m_joined_point 2 := ok_joined_point ⟨f_joined_point, _, fun_mk (st := s_joined_point) l_joined_point c_joined_point k_joined_point, PySem.W.mg_of X G a_joined_point⟩
  have h_law_int : Fn l.prog w K cls mg base "_law_int" 1 m_law_int 1 := ok_law_int ⟨f_law_int, _, fun_mk (st := s_law_int) l_law_int c_law_int k_law_int, PySem.W.mg_of X G a_law_int⟩ z_isinstance z_int z_bool
  have z_len : mg "len" = none := PySem.W.mg_none_of X G zb_len
  have z_abs : mg "abs" = none := PySem.W.mg_none_of X G zb_abs
  have h_law_state : Fn l.prog w K cls mg base "_law_state" 1 m_law_state 2 := ok_law_state ⟨f_law_state, _, fun_mk (st := s_law_state) l_law_state c_law_state k_law_state, PySem.W.mg_of X G a_law_state⟩ z_len z_int z_abs
  have h_law_next : Fn l.prog w K cls mg base "_law_next" 1 m_law_next 2 := ok_law_next ⟨f_law_next, _, fun_mk (st := s_law_next) l_law_next c_law_next k_law_next, PySem.W.mg_of X G a_law_next⟩ z_int
  have h_law_keeps : Fn l.prog w K cls mg base "_law_keeps" 1 m_law_keeps 3 := ok_law_keeps ⟨f_law_keeps, _, fun_mk (st := s_law_keeps) l_law_keeps c_law_keeps k_law_keeps, PySem.W.mg_of X G a_law_keeps⟩ z_len
  have z_enumerate : mg "enumerate" = none := PySem.W.mg_none_of X G zb_enumerate
  have h_law_due : Fn l.prog w K cls mg base "_law_due" 1 m_law_due 2 := ok_law_due ⟨f_law_due, _, fun_mk (st := s_law_due) l_law_due c_law_due k_law_due, PySem.W.mg_of X G a_law_due⟩ z_enumerate
  have z_list : mg "list" = none := PySem.W.mg_none_of X G zb_list
  have h_law_joined : Fn l.prog w K cls mg base "_law_joined" 1 m_law_joined 2 := ok_law_joined ⟨f_law_joined, _, fun_mk (st := s_law_joined) l_law_joined c_law_joined k_law_joined, PySem.W.mg_of X G a_law_joined⟩ z_list z_int
  have mc_MOST_POINTS : ∃ t, mg "MOST_POINTS" = some (.int 120 t) := ⟨_, PySem.W.mg_of X G kc_MOST_POINTS⟩
  have T_BadCount : GX.Er l.prog K (cls 1) ["number"] := ⟨⟨⟨nm_BadCount, q_BadCount, N_BadCount, bs_BadCount, _, sn_BadCount, sub_BadCount, ab_BadCount, col_BadCount, dd_BadCount, m0_BadCount, m1_BadCount, m2_BadCount, m3_BadCount, m5_BadCount, x_BadCount, rfl⟩, sa_BadCount, kp_BadCount, ex_BadCount, ty_BadCount, ve_BadCount, opq, sp_BadCount, mo_BadCount⟩, ga_BadCount, gg_BadCount, (by intro f hf; simp only [List.mem_cons, List.not_mem_nil, or_false] at hf; subst hf; exact no_BadCount_number), hd_BadCount, PySem.W.exm_ref ex_BadCount hd_BadCount ty_BadCount su_BadCount, ⟨f_BadCount, cc_BadCount, cd_BadCount, _, _, fi_BadCount, tf_BadCount, oc_BadCount, dc_BadCount, pm_BadCount, ct_BadCount, cl_BadCount, cv_BadCount, od_BadCount, an_BadCount, ed_BadCount, ld_BadCount, sl_BadCount, cs_BadCount, ls_BadCount, vs_BadCount, txt_BadCount, i_BadCount, t_BadCount, l_BadCount, c_BadCount, d_BadCount, v_BadCount, p_BadCount, e_BadCount⟩, top⟩
  have g_BadCount : mg "BadCount" = some (.ref (cls 1)) := PySem.W.mg_of X G a_BadCount
  have k_BadCount : PySem.W.keepIn K (.ref (cls 1)) = true := kp_BadCount
  have z_super : mg "super" = none := PySem.W.mg_none_of X G zb_super
  have T_BadRow : GX.Er l.prog K (cls 2) ["index"] := ⟨⟨⟨nm_BadRow, q_BadRow, N_BadRow, bs_BadRow, _, sn_BadRow, sub_BadRow, ab_BadRow, col_BadRow, dd_BadRow, m0_BadRow, m1_BadRow, m2_BadRow, m3_BadRow, m5_BadRow, x_BadRow, rfl⟩, sa_BadRow, kp_BadRow, ex_BadRow, ty_BadRow, ve_BadRow, opq, sp_BadRow, mo_BadRow⟩, ga_BadRow, gg_BadRow, (by intro f hf; simp only [List.mem_cons, List.not_mem_nil, or_false] at hf; subst hf; exact no_BadRow_index), hd_BadRow, PySem.W.exm_ref ex_BadRow hd_BadRow ty_BadRow su_BadRow, ⟨f_BadRow, cc_BadRow, cd_BadRow, _, _, fi_BadRow, tf_BadRow, oc_BadRow, dc_BadRow, pm_BadRow, ct_BadRow, cl_BadRow, cv_BadRow, od_BadRow, an_BadRow, ed_BadRow, ld_BadRow, sl_BadRow, cs_BadRow, ls_BadRow, vs_BadRow, txt_BadRow, i_BadRow, t_BadRow, l_BadRow, c_BadRow, d_BadRow, v_BadRow, p_BadRow, e_BadRow⟩, top⟩
  have g_BadRow : mg "BadRow" = some (.ref (cls 2)) := PySem.W.mg_of X G a_BadRow
  have k_BadRow : PySem.W.keepIn K (.ref (cls 2)) = true := kp_BadRow
  have cl_Rows : Cls K (cls 3) := ⟨pg_Rows, hd_Rows, po_Rows, sa_Rows⟩
  have na_Rows_points : NoAttr K (cls 3) "points" := no_Rows_points
  have na_Rows__rows : NoAttr K (cls 3) "_rows" := no_Rows__rows
  have F_Rows_init := fun_mk (x := "__init__") (qual := "Rows.__init__") (st := s_Rows_init) l_Rows_init c_Rows_init k_Rows_init
  have h_Rows_init : MthX l.prog w K cls mg base 3 "__init__" 1 m_Rows_init 3 := ⟨f_Rows_init, _, ["self", "points", "rows"], ok_Rows_init F_Rows_init mc_MOST_POINTS T_BadCount g_BadCount k_BadCount z_super z_enumerate T_BadRow g_BadRow k_BadRow cl_Rows na_Rows_points na_Rows__rows z_list, ⟨a_Rows_init, n_Rows_init, k_Rows_init⟩, F_Rows_init.binds (fun _ _ _ _ _ _ us hl => match us, hl with | [_, _, _], _ => rfl)⟩
  have F_Rows_len := fun_mk (x := "__len__") (qual := "Rows.__len__") (st := s_Rows_len) l_Rows_len c_Rows_len k_Rows_len
  have h_Rows_len : Mth l.prog w K cls mg base 3 "__len__" 1 m_Rows_len 1 := ⟨f_Rows_len, _, ["self"], ok_Rows_len F_Rows_len cl_Rows na_Rows__rows z_len, ⟨a_Rows_len, n_Rows_len, k_Rows_len⟩, F_Rows_len.binds (fun _ _ _ _ _ _ us hl => match us, hl with | [_], _ => rfl)⟩
  have z_iter : mg "iter" = none := PySem.W.mg_none_of X G zb_iter
  have F_Rows_iter := fun_mk (x := "__iter__") (qual := "Rows.__iter__") (st := s_Rows_iter) l_Rows_iter c_Rows_iter k_Rows_iter
  have h_Rows_iter : MthI l.prog w K cls mg base 3 "_rows" := ⟨f_Rows_iter, _, ["self"], ok_Rows_iter F_Rows_iter cl_Rows na_Rows__rows z_iter, ⟨a_Rows_iter, n_Rows_iter, k_Rows_iter⟩, F_Rows_iter.binds (fun _ _ _ _ _ _ us hl => match us, hl with | [_], _ => rfl)⟩
  have g_Rows : mg "Rows" = some (.ref (cls 3)) := PySem.W.mg_of X G a_Rows
  have it_Rows : ∀ T ∈ ["NoneType", "bool", "int", "str", "tuple", "list"], PySem.W.kitOne K (.type T) (.ref (cls 3)) = some false := (by intro T hT; simp only [List.mem_cons, List.not_mem_nil, or_false] at hT; rcases hT with rfl | rfl | rfl | rfl | rfl | rfl; exact zt_NoneType_Rows; exact zt_bool_Rows; exact zt_int_Rows; exact zt_str_Rows; exact zt_tuple_Rows; exact zt_list_Rows)
  have ic_Rows : ∀ k b, tb [none, none, none, some true] k = some b → InF K (cls k) ∧ PySem.W.kitOne K (.ref (cls k)) (.ref (cls 3)) = some b := (tb_cons tb_n (tb_cons tb_n (tb_cons tb_n (tb_cons (tb_s ⟨⟨⟨pg_Rows, hd_Rows, po_Rows, sa_Rows⟩, gk_Rows, spc, tkc, ob_Rows⟩, zz_Rows_Rows⟩) tb_nil))))
  have F_Rows_eq := fun_mk (x := "__eq__") (qual := "Rows.__eq__") (st := s_Rows_eq) l_Rows_eq c_Rows_eq k_Rows_eq
  have h_Rows_eq : Mth l.prog w K cls mg base 3 "__eq__" 1 m_Rows_eq 2 := ⟨f_Rows_eq, _, ["self", "other"], ok_Rows_eq F_Rows_eq z_isinstance g_Rows it_Rows ic_Rows cl_Rows na_Rows_points na_Rows__rows, ⟨a_Rows_eq, n_Rows_eq, k_Rows_eq⟩, F_Rows_eq.binds (fun _ _ _ _ _ _ us hl => match us, hl with | [_, _], _ => rfl)⟩
  have h_is_whole_list : Fn l.prog w K cls mg base "is_whole_list" 2 m_is_whole_list 1 := ok_is_whole_list ⟨f_is_whole_list, _, fun_mk (st := s_is_whole_list) l_is_whole_list c_is_whole_list k_is_whole_list, PySem.W.mg_of X G a_is_whole_list⟩ z_isinstance z_list h_is_whole
  have h_law_ints : Fn l.prog w K cls mg base "_law_ints" 2 m_law_ints 1 := ok_law_ints ⟨f_law_ints, _, fun_mk (st := s_law_ints) l_law_ints c_law_ints k_law_ints, PySem.W.mg_of X G a_law_ints⟩ z_isinstance z_list h_law_int z_len
  have h_law_points : Fn l.prog w K cls mg base "_law_points" 2 m_law_points 1 := ok_law_points ⟨f_law_points, _, fun_mk (st := s_law_points) l_law_points c_law_points k_law_points, PySem.W.mg_of X G a_law_points⟩ h_law_next
  have z_range : mg "range" = none := PySem.W.mg_none_of X G zb_range
  have h_law_system : Fn l.prog w K cls mg base "_law_system" 2 m_law_system 2 := ok_law_system ⟨f_law_system, _, fun_mk (st := s_law_system) l_law_system c_law_system k_law_system, PySem.W.mg_of X G a_law_system⟩ h_law_next z_range
  have h_law_lists : Fn l.prog w K cls mg base "_law_lists" 2 m_law_lists 2 := ok_law_lists ⟨f_law_lists, _, fun_mk (st := s_law_lists) l_law_lists c_law_lists k_law_lists, PySem.W.mg_of X G a_law_lists⟩ z_len z_list h_law_next
  have h_law_broken : Fn l.prog w K cls mg base "_law_broken" 2 m_law_broken 3 := ok_law_broken ⟨f_law_broken, _, fun_mk (st := s_law_broken) l_law_broken c_law_broken k_law_broken, PySem.W.mg_of X G a_law_broken⟩ z_len h_law_next
  have h_law_bad : Fn l.prog w K cls mg base "_law_bad" 2 m_law_bad 3 := ok_law_bad ⟨f_law_bad, _, fun_mk (st := s_law_bad) l_law_bad c_law_bad k_law_bad, PySem.W.mg_of X G a_law_bad⟩ z_list z_range h_law_next z_len
  have h_law_alike : Fn l.prog w K cls mg base "_law_alike" 2 m_law_alike 2 := ok_law_alike ⟨f_law_alike, _, fun_mk (st := s_law_alike) l_law_alike c_law_alike k_law_alike, PySem.W.mg_of X G a_law_alike⟩ h_law_int
  have h_law_others : Fn l.prog w K cls mg base "_law_others" 2 m_law_others 3 := ok_law_others ⟨f_law_others, _, fun_mk (st := s_law_others) l_law_others c_law_others k_law_others, PySem.W.mg_of X G a_law_others⟩ z_list z_len h_law_next z_int
  have k_Rows : PySem.W.keepIn K (.ref (cls 3)) = true := kp_Rows
  have mk_Rows_ : PySem.W.makesIn K (cls 3) = true := mk_Rows
  have g_FitError : mg "FitError" = some (.ref (cls 0)) := PySem.W.mg_of X G a_FitError
  have xm_FitError : ∀ k b, tb [none, some true, some true, none] k = some b → PySem.W.exmOne K (.ref (cls k)) (.ref (cls 0)) = some b := (tb_cons tb_n (tb_cons (tb_s (PySem.W.exm_ref ex_FitError hd_FitError ty_FitError s_BadCount_FitError)) (tb_cons (tb_s (PySem.W.exm_ref ex_FitError hd_FitError ty_FitError s_BadRow_FitError)) (tb_cons tb_n tb_nil))))
  have z_ValueError : mg "ValueError" = none := PySem.W.mg_none_of X G zb_ValueError
  have kt_VE : ∀ k b, tb [none, some true, some true, none] k = some b → PySem.W.kitOne K (.ref (cls k)) (.type "ValueError") = some b ∧ L2.ExcC K (cls k) := (tb_cons tb_n (tb_cons (tb_s ⟨zV_BadCount, ⟨ga_BadCount, gg_BadCount, ex_BadCount, hd_BadCount, gk_BadCount, spc, tkc, ob_BadCount⟩⟩) (tb_cons (tb_s ⟨zV_BadRow, ⟨ga_BadRow, gg_BadRow, ex_BadRow, hd_BadRow, gk_BadRow, spc, tkc, ob_BadRow⟩⟩) (tb_cons tb_n tb_nil))))
  have kt_BadCount : ∀ k b, tb [none, some true, some false, none] k = some b → PySem.W.kitOne K (.ref (cls k)) (.ref (cls 1)) = some b ∧ L2.ExcC K (cls k) := (tb_cons tb_n (tb_cons (tb_s ⟨z_BadCount_BadCount, ⟨ga_BadCount, gg_BadCount, ex_BadCount, hd_BadCount, gk_BadCount, spc, tkc, ob_BadCount⟩⟩) (tb_cons (tb_s ⟨z_BadRow_BadCount, ⟨ga_BadRow, gg_BadRow, ex_BadRow, hd_BadRow, gk_BadRow, spc, tkc, ob_BadRow⟩⟩) (tb_cons tb_n tb_nil))))
  have kt_BadRow : ∀ k b, tb [none, some false, some true, none] k = some b → PySem.W.kitOne K (.ref (cls k)) (.ref (cls 2)) = some b ∧ L2.ExcC K (cls k) := (tb_cons tb_n (tb_cons (tb_s ⟨z_BadCount_BadRow, ⟨ga_BadCount, gg_BadCount, ex_BadCount, hd_BadCount, gk_BadCount, spc, tkc, ob_BadCount⟩⟩) (tb_cons (tb_s ⟨z_BadRow_BadRow, ⟨ga_BadRow, gg_BadRow, ex_BadRow, hd_BadRow, gk_BadRow, spc, tkc, ob_BadRow⟩⟩) (tb_cons tb_n tb_nil))))
  have fx_number : ∀ k b, tb [none, some true, none, none] k = some b → GT.FldC K (cls k) "number" := (tb_cons tb_n (tb_cons (tb_s ⟨ga_BadCount, gg_BadCount, ex_BadCount, hd_BadCount, no_BadCount_number⟩) (tb_cons tb_n (tb_cons tb_n tb_nil))))
  have fx_index : ∀ k b, tb [none, none, some true, none] k = some b → GT.FldC K (cls k) "index" := (tb_cons tb_n (tb_cons tb_n (tb_cons (tb_s ⟨ga_BadRow, gg_BadRow, ex_BadRow, hd_BadRow, no_BadRow_index⟩) (tb_cons tb_n tb_nil))))
  have h_law_made : Fn l.prog w K cls mg base "_law_made" 3 m_law_made 2 := ok_law_made ⟨f_law_made, _, fun_mk (st := s_law_made) l_law_made c_law_made k_law_made, PySem.W.mg_of X G a_law_made⟩ z_list h_Rows_init g_Rows k_Rows mk_Rows_ g_FitError xm_FitError z_isinstance z_ValueError kt_VE g_BadCount kt_BadCount g_BadRow kt_BadRow fx_number fx_index
  have F_Rows_contains := fun_mk (x := "__contains__") (qual := "Rows.__contains__") (st := s_Rows_contains) l_Rows_contains c_Rows_contains k_Rows_contains
  have h_Rows_contains : Mth l.prog w K cls mg base 3 "__contains__" 3 m_Rows_contains 2 := ⟨f_Rows_contains, _, ["self", "numbers"], ok_Rows_contains F_Rows_contains h_is_whole_list z_len cl_Rows na_Rows_points na_Rows__rows, ⟨a_Rows_contains, n_Rows_contains, k_Rows_contains⟩, F_Rows_contains.binds (fun _ _ _ _ _ _ us hl => match us, hl with | [_, _], _ => rfl)⟩
  have F_Rows_add := fun_mk (x := "__add__") (qual := "Rows.__add__") (st := s_Rows_add) l_Rows_add c_Rows_add k_Rows_add
  have h_Rows_add : MthX l.prog w K cls mg base 3 "__add__" 3 m_Rows_add 2 := ⟨f_Rows_add, _, ["self", "other"], ok_Rows_add F_Rows_add z_isinstance g_Rows it_Rows ic_Rows cl_Rows na_Rows_points na_Rows__rows z_list h_joined_point h_Rows_init k_Rows mk_Rows_, ⟨a_Rows_add, n_Rows_add, k_Rows_add⟩, F_Rows_add.binds (fun _ _ _ _ _ _ us hl => match us, hl with | [_, _], _ => rfl)⟩
  have F_Rows_with_more := fun_mk (x := "with_more") (qual := "Rows.with_more") (st := s_Rows_with_more) l_Rows_with_more c_Rows_with_more k_Rows_with_more
  have h_Rows_with_more : MthX l.prog w K cls mg base 3 "with_more" 3 m_Rows_with_more 2 := ⟨f_Rows_with_more, _, ["self", "more"], ok_Rows_with_more F_Rows_with_more cl_Rows na_Rows__rows z_list na_Rows_points h_Rows_init g_Rows k_Rows mk_Rows_, ⟨a_Rows_with_more, n_Rows_with_more, k_Rows_with_more⟩, F_Rows_with_more.binds (fun _ _ _ _ _ _ us hl => match us, hl with | [_, _], _ => rfl)⟩
  have z_tuple : mg "tuple" = none := PySem.W.mg_none_of X G zb_tuple
  have h_law_holds : Fn l.prog w K cls mg base "_law_holds" 4 m_law_holds 5 := ok_law_holds ⟨f_law_holds, _, fun_mk (st := s_law_holds) l_law_holds c_law_holds k_law_holds, PySem.W.mg_of X G a_law_holds⟩ h_law_lists z_list h_Rows_contains h_law_keeps z_tuple
  have h_law_more : Fn l.prog w K cls mg base "_law_more" 4 m_law_more 2 := ok_law_more ⟨f_law_more, _, fun_mk (st := s_law_more) l_law_more c_law_more k_law_more, PySem.W.mg_of X G a_law_more⟩ z_list h_Rows_with_more cl_Rows g_FitError xm_FitError z_isinstance g_BadRow kt_BadRow g_BadCount kt_BadCount fx_index
  have ne_Rows_ : PySem.W.findIn K (.ref (cls 3)) "__ne__" = some (some (.builtin "object.__ne__")) := ne_Rows
  have ob_Rows_ : PySem.W.mroIn K (cls 3) (.type "object") = some true := ob_Rows
  have h_law_compares : Fn l.prog w K cls mg base "_law_compares" 4 m_law_compares 4 := ok_law_compares ⟨f_law_compares, _, fun_mk (st := s_law_compares) l_law_compares c_law_compares k_law_compares, PySem.W.mg_of X G a_law_compares⟩ h_law_others h_Rows_with_more h_Rows_init g_Rows k_Rows mk_Rows_ z_list cl_Rows h_Rows_eq ne_Rows_ ob_Rows_
  have sf_Rows_ : PySem.W.selfFirst K (cls 3) = true := sf_Rows
  have h_law_sum : Fn l.prog w K cls mg base "_law_sum" 4 m_law_sum 2 := ok_law_sum ⟨f_law_sum, _, fun_mk (st := s_law_sum) l_law_sum c_law_sum k_law_sum, PySem.W.mg_of X G a_law_sum⟩ h_Rows_add sf_Rows_ g_FitError xm_FitError z_isinstance g_BadCount kt_BadCount g_BadRow kt_BadRow fx_number
  have h_law_tells : Fn l.prog w K cls mg base "_law_tells" 5 m_law_tells 3 := ok_law_tells ⟨f_law_tells, _, fun_mk (st := s_law_tells) l_law_tells c_law_tells k_law_tells, PySem.W.mg_of X G a_law_tells⟩ z_isinstance g_Rows it_Rows ic_Rows cl_Rows na_Rows_points h_law_int h_Rows_len z_len z_range h_Rows_iter z_list z_enumerate z_tuple h_law_ints
  have h_law_refuses : Fn l.prog w K cls mg base "_law_refuses" 6 m_law_refuses 3 := ok_law_refuses ⟨f_law_refuses, _, fun_mk (st := s_law_refuses) l_law_refuses c_law_refuses k_law_refuses, PySem.W.mg_of X G a_law_refuses⟩ h_law_bad h_law_next h_law_due h_law_made h_law_alike z_list h_Rows_init g_Rows k_Rows mk_Rows_ h_law_more z_len h_law_tells h_Rows_eq
  have h_law_adds : Fn l.prog w K cls mg base "_law_adds" 6 m_law_adds 4 := ok_law_adds ⟨f_law_adds, _, fun_mk (st := s_law_adds) l_law_adds c_law_adds k_law_adds, PySem.W.mg_of X G a_law_adds⟩ z_list h_Rows_init g_Rows k_Rows mk_Rows_ h_law_joined h_law_sum h_law_alike h_law_tells h_law_holds
  have h_law_copies : Fn l.prog w K cls mg base "_law_copies" 6 m_law_copies 2 := ok_law_copies ⟨f_law_copies, _, fun_mk (st := s_law_copies) l_law_copies c_law_copies k_law_copies, PySem.W.mg_of X G a_law_copies⟩ z_list h_Rows_init g_Rows k_Rows mk_Rows_ h_Rows_with_more cl_Rows h_law_tells
  have z_min : mg "min" = none := PySem.W.mg_none_of X G zb_min
  exact (ok_law (cls := cls) F_law h_law_state h_law_points h_law_next z_min h_law_system h_Rows_init g_Rows k_Rows mk_Rows_ h_Rows_contains h_law_broken z_list h_law_tells h_law_holds h_law_compares h_law_refuses h_law_copies h_law_adds).imp fun vs H Q E z => z cls
end K01

namespace K01
open PySem L2 G
local macro_rules | `(tactic| walk_at "wps") => `(tactic| try simp only [G.w_bnd, G.w_chain, G.w_wenum, G.en_fzl, G.en_ref, G.f_insert, G.f_tuple, G.w_getF, G.w_setF, G.w_makeX, G.w_make, G.w_methX, G.w_meth, G.f_lenO, G.w_addX, G.w_fldT, G.w_callX, G.w_fld, G.w_isE, G.w_bndS, G.q_ex, G.x_ex, G.w_raise, G.w_raise0, G.y_nx, G.y_rt, G.y_bk, G.y_ct, G.y_ex, G.w_try, G.w_cl0, G.w_cl1, G.st_nx, G.st_rt, G.st_bk, G.st_ct, G.cl_nx, G.cl_rt, G.cl_bk, G.cl_ct, G.w_su0, G.w_su1, G.n_ex, G.w_ret, G.w_ok, G.w_var, G.s_z, G.s_s, G.w_c, G.w_op, G.w_un, G.w_nil, G.w_cons, G.w_cb, G.w_call, G.w_tup, G.w_alloc, G.w_lst, G.b_bl, G.w_asBl, G.w_test, G.w_yes, G.w_and, G.w_or, G.w_not, G.w_andV, G.w_orV, G.w_notV, G.w_ifx, G.w_nop, G.i_int, G.w_part, G.w_sl, G.w_next, G.w_rt, G.w_rtN, G.w_brk, G.w_cont, G.w_drop, G.q_nx, G.q_rt, G.q_bk, G.q_ct, G.w_seq, G.w_ifS, G.w_set, G.g_some, G.w_asg, G.w_setIx, G.w_aug, G.n_rt, G.n_nx, G.w_fn, G.w_for, G.w_wseq, G.k_tup, G.k_fzl, G.k_ref, G.w_wr1, G.w_wr2, G.f_add, G.f_sub, G.f_addI, G.f_mul, G.f_div, G.f_mod, G.f_pow, G.f_neg, G.f_cmp, G.f_isB, G.f_notB, G.f_isN, G.f_notN, G.n_non, G.n_int, G.n_bl, G.n_ref, G.n_tup, G.f_eq, G.f_ne, G.ty_non, G.ty_bl, G.ty_int, G.ty_str, G.ty_tup, G.ty_fzl, G.kb_ii, G.kb_ib, G.kb_bi, G.kb_bb, G.kb_ni, G.kb_si, G.kb_li, G.kb_ti, G.kb_ll, G.kb_tl, G.kb_nl, G.kb_il, G.kb_bl, G.kb_sl, G.kb_tt, G.kb_lt, G.kb_nt, G.kb_it, G.kb_bt, G.kb_st, decide_eq_true_eq, Bool.not_eq_true', decide_eq_false_iff_not, ↓reduceIte, eq_self, Bool.false_eq_true, Bool.true_eq_false, reduceCtorEq, Bool.not_true, Bool.not_false, ne_eq, not_false_eq_true, G.f_abs, G.f_int, G.f_intB, G.f_max2, G.f_min2, G.f_gcd, G.it_tupD, G.it_fzlD, G.it_refD, G.f_ix, G.f_len, G.f_list, G.f_setItem, G.f_slF, G.f_slR, G.f_isi, G.f_app, G.w_bm, G.oq_some, G.w_lc, List.map_cons, List.map_nil, List.length_cons, List.length_nil, List.cons_append, List.nil_append, Nat.zero_add, List.replicate, Nat.sub_self, Nat.reduceAdd, Nat.reduceSub, List.set_cons_zero, List.set_cons_succ, Option.some.injEq, exists_eq_left', exists_eq_left, true_and, and_true, G.at_0, G.at_1, G.at_2, G.at_3, G.at_m1, G.ix1_0, G.ix2_0, G.ix2_1, G.ix3_0, G.ix3_1, G.ix3_2, List.length_set, List.set_set])
local macro_rules | `(tactic| walk_at "wpx") => `(tactic| try simp only [G.w_bnd, G.w_chain, G.w_wenum, G.en_fzl, G.en_ref, G.f_insert, G.f_tuple, G.w_getF, G.w_setF, G.w_makeX, G.w_make, G.w_methX, G.w_meth, G.f_lenO, G.w_addX, G.w_fldT, G.w_callX, G.w_fld, G.w_isE, G.w_bndS, G.q_ex, G.x_ex, G.w_raise, G.w_raise0, G.y_nx, G.y_rt, G.y_bk, G.y_ct, G.y_ex, G.w_try, G.w_cl0, G.w_cl1, G.st_nx, G.st_rt, G.st_bk, G.st_ct, G.cl_nx, G.cl_rt, G.cl_bk, G.cl_ct, G.w_su0, G.w_su1, G.n_ex, G.w_ret, G.w_ok, G.w_var, G.s_z, G.s_s, G.w_c, G.w_op, G.w_un, G.w_nil, G.w_cons, G.w_cb, G.w_call, G.w_tup, G.w_alloc, G.w_lst, G.b_bl, G.w_asBl, G.w_test, G.w_yes, G.w_and, G.w_or, G.w_not, G.w_andV, G.w_orV, G.w_notV, G.w_ifx, G.w_nop, G.i_int, G.w_part, G.w_sl, G.w_next, G.w_rt, G.w_rtN, G.w_brk, G.w_cont, G.w_drop, G.q_nx, G.q_rt, G.q_bk, G.q_ct, G.w_seq, G.w_ifS, G.w_set, G.g_some, G.w_asg, G.w_setIx, G.w_aug, G.n_rt, G.n_nx, G.w_fn, G.w_for, G.w_wseq, G.k_tup, G.k_fzl, G.k_ref, G.w_wr1, G.w_wr2, G.f_add, G.f_sub, G.f_addI, G.f_mul, G.f_div, G.f_mod, G.f_pow, G.f_neg, G.f_cmp, G.f_isB, G.f_notB, G.f_isN, G.f_notN, G.n_non, G.n_int, G.n_bl, G.n_ref, G.n_tup, G.f_eq, G.f_ne, G.ty_non, G.ty_bl, G.ty_int, G.ty_str, G.ty_tup, G.ty_fzl, G.kb_ii, G.kb_ib, G.kb_bi, G.kb_bb, G.kb_ni, G.kb_si, G.kb_li, G.kb_ti, G.kb_ll, G.kb_tl, G.kb_nl, G.kb_il, G.kb_bl, G.kb_sl, G.kb_tt, G.kb_lt, G.kb_nt, G.kb_it, G.kb_bt, G.kb_st, decide_eq_true_eq, Bool.not_eq_true', decide_eq_false_iff_not, ↓reduceIte, eq_self, Bool.false_eq_true, Bool.true_eq_false, reduceCtorEq, Bool.not_true, Bool.not_false, ne_eq, not_false_eq_true, G.f_abs, G.f_int, G.f_intB, G.f_max2, G.f_min2, G.f_gcd, G.it_tupD, G.it_fzlD, G.it_refD, G.f_ix, G.f_len, G.f_list, G.f_setItem, G.f_slF, G.f_slR, G.f_isi, G.f_app, G.w_bm, G.oq_some, G.w_lc, List.map_cons, List.map_nil, List.length_cons, List.length_nil, List.cons_append, List.nil_append, Nat.zero_add, List.replicate, Nat.sub_self, Nat.reduceAdd, Nat.reduceSub, List.set_cons_zero, List.set_cons_succ, Option.some.injEq, exists_eq_left', exists_eq_left, true_and, and_true, G.at_0, G.at_1, G.at_2, G.at_3, G.at_m1, G.ix1_0, G.ix2_0, G.ix2_1, G.ix3_0, G.ix3_1, G.ix3_2, List.length_set, List.set_set, *])
local macro_rules | `(tactic| walk_at "wpz") => `(tactic| try simp only [G.w_bnd, G.w_chain, G.w_wenum, G.en_fzl, G.en_ref, G.f_insert, G.f_tuple, G.w_getF, G.w_setF, G.w_makeX, G.w_make, G.w_methX, G.w_meth, G.f_lenO, G.w_addX, G.w_fldT, G.w_callX, G.w_fld, G.w_isE, G.w_bndS, G.q_ex, G.x_ex, G.w_raise, G.w_raise0, G.y_nx, G.y_rt, G.y_bk, G.y_ct, G.y_ex, G.w_try, G.w_cl0, G.w_cl1, G.st_nx, G.st_rt, G.st_bk, G.st_ct, G.cl_nx, G.cl_rt, G.cl_bk, G.cl_ct, G.w_su0, G.w_su1, G.n_ex, G.w_ret, G.w_ok, G.w_var, G.s_z, G.s_s, G.w_c, G.w_op, G.w_un, G.w_nil, G.w_cons, G.w_cb, G.w_call, G.w_tup, G.w_alloc, G.w_lst, G.b_bl, G.w_asBl, G.w_test, G.w_yes, G.w_and, G.w_or, G.w_not, G.w_andV, G.w_orV, G.w_notV, G.w_ifx, G.w_nop, G.i_int, G.w_part, G.w_sl, G.w_next, G.w_rt, G.w_rtN, G.w_brk, G.w_cont, G.w_drop, G.q_rt, G.q_bk, G.q_ct, G.w_seq, G.w_ifS, G.w_set, G.g_some, G.w_asg, G.w_setIx, G.w_aug, G.n_rt, G.n_nx, G.w_fn, G.w_for, G.w_wseq, G.k_tup, G.k_fzl, G.k_ref, G.w_wr1, G.w_wr2, G.f_add, G.f_sub, G.f_addI, G.f_mul, G.f_div, G.f_mod, G.f_pow, G.f_neg, G.f_cmp, G.f_isB, G.f_notB, G.f_isN, G.f_notN, G.n_non, G.n_int, G.n_bl, G.n_ref, G.n_tup, G.f_eq, G.f_ne, G.ty_non, G.ty_bl, G.ty_int, G.ty_str, G.ty_tup, G.ty_fzl, G.kb_ii, G.kb_ib, G.kb_bi, G.kb_bb, G.kb_ni, G.kb_si, G.kb_li, G.kb_ti, G.kb_ll, G.kb_tl, G.kb_nl, G.kb_il, G.kb_bl, G.kb_sl, G.kb_tt, G.kb_lt, G.kb_nt, G.kb_it, G.kb_bt, G.kb_st, decide_eq_true_eq, Bool.not_eq_true', decide_eq_false_iff_not, ↓reduceIte, eq_self, Bool.false_eq_true, Bool.true_eq_false, reduceCtorEq, Bool.not_true, Bool.not_false, ne_eq, not_false_eq_true, G.f_abs, G.f_int, G.f_intB, G.f_max2, G.f_min2, G.f_gcd, G.it_tupD, G.it_fzlD, G.it_refD, G.f_ix, G.f_len, G.f_list, G.f_setItem, G.f_slF, G.f_slR, G.f_isi, G.f_app, G.w_bm, G.oq_some, G.w_lc, List.map_cons, List.map_nil, List.length_cons, List.length_nil, List.cons_append, List.nil_append, Nat.zero_add, List.replicate, Nat.sub_self, Nat.reduceAdd, Nat.reduceSub, List.set_cons_zero, List.set_cons_succ, Option.some.injEq, exists_eq_left', exists_eq_left, true_and, and_true, G.at_0, G.at_1, G.at_2, G.at_3, G.at_m1, G.ix1_0, G.ix2_0, G.ix2_1, G.ix3_0, G.ix3_1, G.ix3_2, List.length_set, List.set_set])
/-! == of ints' lists, of triples' lists, of texts -/
abbrev Tr := Int × Int × Int
def trD (r : Tr) : D := .tup [.int r.1, .int r.2.1, .int r.2.2]
def trP (r : Tr) : PyData := .tuple [.int r.1, .int r.2.1, .int r.2.2]
def rowsD (R : List Tr) : List D := R.map trD
theorem toPy_str {h : Store} {n : Nat} {x : PySem.Str} : toPy h n (.str x) = some (.str x) := by cases n <;> (unfold toPy; rfl)
theorem toPy_tr {h : Store} {n : Nat} {r : Tr} : toPy h (n + 5) (trD r) = some (trP r) := by
  unfold trD trP
  rw [show n + 5 = (n + 4) + 1 from rfl, toPy_tup]
  have : toPys h (n + 4) [D.int r.1, D.int r.2.1, D.int r.2.2] = some [.int r.1, .int r.2.1, .int r.2.2] := by
    rw [show n + 4 = ((n + 1) + 1 + 1) + 1 from rfl]
    unfold toPys
    rw [toPy_int]
    unfold toPys
    rw [toPy_int]
    unfold toPys
    rw [toPy_int]
    unfold toPys
    rfl
  rw [this]
  rfl
theorem toPys_rows {h : Store} : ∀ (R : List Tr) (n : Nat), R.length + 5 ≤ n → toPys h n (rowsD R) = some (R.map trP)
  | [], n, _ => by unfold rowsD; cases n <;> (rw [List.map_nil]; unfold toPys; rfl)
  | r :: R, 0, e => by simp at e
  | r :: R, n + 1, e => by
    unfold rowsD
    rw [List.map_cons]
    unfold toPys
    have ih := toPys_rows (h := h) R n (by rw [List.length_cons] at e; omega)
    unfold rowsD at ih
    obtain ⟨m, rfl⟩ : ∃ m, n = m + 5 := ⟨n - 5, by rw [List.length_cons] at e; omega⟩
    rw [toPy_tr, ih]
    rfl
theorem eqv_tr {r s : Tr} : PyData.eqv (trP r) (trP s) = decide (r = s) := by
  obtain ⟨a, b, c⟩ := r
  obtain ⟨d, e, f⟩ := s
  unfold trP PyData.eqv
  have := eqvAll_ints [a, b, c] [d, e, f]
  simp only [List.map_cons, List.map_nil] at this
  rw [this, Bool.eq_iff_iff]
  simp
theorem eqvAll_rows : ∀ (R S : List Tr), PyData.eqvAll (R.map trP) (S.map trP) = decide (R = S)
  | [], [] => rfl
  | [], _ :: _ => by simp [PyData.eqvAll]
  | _ :: _, [] => by simp [PyData.eqvAll]
  | x :: xs, y :: ys => by
    rw [List.map_cons, List.map_cons]
    unfold PyData.eqvAll
    rw [eqvAll_rows xs ys, eqv_tr, Bool.eq_iff_iff]
    simp
theorem shaped_rows (R : List Tr) : SeqAt.shaped (.list (R.map trP)) = true := by
  have h1 : ∀ R : List Tr, PyData.canLayAll0 (R.map trP) = true := by
    intro R
    induction R with
    | nil => unfold PyData.canLayAll0; rfl
    | cons z R ih =>
      rw [List.map_cons]
      unfold PyData.canLayAll0
      rw [ih]
      unfold trP PyData.canLay0 PyData.canLayAll0 PyData.canLayAll0 PyData.canLayAll0 PyData.canLayAll0 PyData.canLay0
      rfl
  have h2 : ∀ R : List Tr, PyData.depthAll (R.map trP) ≤ 1 := by
    intro R
    induction R with
    | nil => rw [List.map_nil]; unfold PyData.depthAll; decide
    | cons z R ih =>
      rw [List.map_cons]
      unfold PyData.depthAll
      have : PyData.depth (trP z) ≤ 1 := by
        unfold trP PyData.depth PyData.depthAll PyData.depthAll PyData.depthAll PyData.depthAll PyData.depth
        decide
      omega
  unfold SeqAt.shaped PyData.canLay0 PyData.depth
  rw [h1]
  have := h2 R
  rw [decide_eq_true (by omega)]
  rfl
section
variable {X : XQ} {h : Store} {Q : D → Store → Prop} {neg : Bool} {n m : Nat}
theorem toPy_rows {R : List Tr} (e : getL h n = some (rowsD R)) (hz : R.length ≤ 1000000) : toPy h deep (.ref n) = some (.list (R.map trP)) := by
  rw [deep_s, toPy_ref e, toPys_rows R _ (by omega)]
  rfl
theorem toPy_lints {l : List Int} (e : getL h n = some (l.map D.int)) (hz : l.length ≤ 1000000) : toPy h deep (.ref n) = some (.list (l.map PyData.int)) := by
  rw [deep_s, toPy_ref e, toPys_ints l _ (by omega)]
  rfl
theorem f_eq_of {x y : D} {p q : PyData} {b : Bool} (e1 : toPy h deep x = some p) (e2 : toPy h deep y = some q) (s1 : SeqAt.shaped p = true) (s2 : SeqAt.shaped q = true) (eb : PyData.eqv p q = b) : WpX X (fEq neg x y h) Q ↔ Q (.bl (if neg then !b else b)) h := by
  unfold fEq
  rw [e1, e2]
  dsimp only
  rw [if_pos ⟨s1, s2⟩, eb]
  exact w_ok
theorem feq_rows {R S : List Tr} (e : getL h n = some (rowsD R)) (e2 : getL h m = some (rowsD S)) (hz : R.length ≤ 1000000) (hy : S.length ≤ 1000000) : WpX X (fEq neg (.ref n) (.ref m) h) Q ↔ Q (.bl (if neg then !decide (R = S) else decide (R = S))) h :=
  f_eq_of (toPy_rows e hz) (toPy_rows e2 hy) (shaped_rows R) (shaped_rows S) (by unfold PyData.eqv; exact eqvAll_rows R S)
theorem feq_lints {R S : List Int} (e : getL h n = some (R.map D.int)) (e2 : getL h m = some (S.map D.int)) (hz : R.length ≤ 1000000) (hy : S.length ≤ 1000000) : WpX X (fEq neg (.ref n) (.ref m) h) Q ↔ Q (.bl (if neg then !decide (R = S) else decide (R = S))) h :=
  f_eq_of (toPy_lints e hz) (toPy_lints e2 hy) shaped_ints.2 shaped_ints.2 (by unfold PyData.eqv; exact eqvAll_ints R S)
theorem feq_tr {r s : Tr} : WpX X (fEq neg (trD r) (trD s) h) Q ↔ Q (.bl (if neg then !decide (r = s) else decide (r = s))) h := by
  have := shaped_ints (zs := [r.1, r.2.1, r.2.2])
  have t2 := shaped_ints (zs := [s.1, s.2.1, s.2.2])
  exact f_eq_of (p := trP r) (q := trP s) (by rw [show deep = 1999995 + 5 from rfl]; exact toPy_tr) (by rw [show deep = 1999995 + 5 from rfl]; exact toPy_tr) this.1 t2.1 eqv_tr
theorem feq_str {x y : PySem.Str} (hx : PyData.strOk x = true := by decide) (hy : PyData.strOk y = true := by decide) : WpX X (fEq neg (.str x) (.str y) h) Q ↔ Q (.bl (if neg then !decide (x = y) else decide (x = y))) h := by
  refine f_eq_of (p := .str x) (q := .str y) toPy_str toPy_str (by unfold SeqAt.shaped PyData.canLay0 PyData.depth; rw [hx]; decide) (by unfold SeqAt.shaped PyData.canLay0 PyData.depth; rw [hy]; decide) ?_
  unfold PyData.eqv
  rw [Bool.eq_iff_iff]
  simp
end
end K01

namespace K01
open PySem L2 G
local macro_rules | `(tactic| walk_at "wps") => `(tactic| try simp only [G.w_bnd, G.w_chain, G.w_wenum, G.en_fzl, G.en_ref, G.f_insert, G.f_tuple, G.w_getF, G.w_setF, G.w_makeX, G.w_make, G.w_methX, G.w_meth, G.f_lenO, G.w_addX, G.w_fldT, G.w_callX, G.w_fld, G.w_isE, G.w_bndS, G.q_ex, G.x_ex, G.w_raise, G.w_raise0, G.y_nx, G.y_rt, G.y_bk, G.y_ct, G.y_ex, G.w_try, G.w_cl0, G.w_cl1, G.st_nx, G.st_rt, G.st_bk, G.st_ct, G.cl_nx, G.cl_rt, G.cl_bk, G.cl_ct, G.w_su0, G.w_su1, G.n_ex, G.w_ret, G.w_ok, G.w_var, G.s_z, G.s_s, G.w_c, G.w_op, G.w_un, G.w_nil, G.w_cons, G.w_cb, G.w_call, G.w_tup, G.w_alloc, G.w_lst, G.b_bl, G.w_asBl, G.w_test, G.w_yes, G.w_and, G.w_or, G.w_not, G.w_andV, G.w_orV, G.w_notV, G.w_ifx, G.w_nop, G.i_int, G.w_part, G.w_sl, G.w_next, G.w_rt, G.w_rtN, G.w_brk, G.w_cont, G.w_drop, G.q_nx, G.q_rt, G.q_bk, G.q_ct, G.w_seq, G.w_ifS, G.w_set, G.g_some, G.w_asg, G.w_setIx, G.w_aug, G.n_rt, G.n_nx, G.w_fn, G.w_for, G.w_wseq, G.k_tup, G.k_fzl, G.k_ref, G.w_wr1, G.w_wr2, G.f_add, G.f_sub, G.f_addI, G.f_mul, G.f_div, G.f_mod, G.f_pow, G.f_neg, G.f_cmp, G.f_isB, G.f_notB, G.f_isN, G.f_notN, G.n_non, G.n_int, G.n_bl, G.n_ref, G.n_tup, G.f_eq, G.f_ne, G.ty_non, G.ty_bl, G.ty_int, G.ty_str, G.ty_tup, G.ty_fzl, G.kb_ii, G.kb_ib, G.kb_bi, G.kb_bb, G.kb_ni, G.kb_si, G.kb_li, G.kb_ti, G.kb_ll, G.kb_tl, G.kb_nl, G.kb_il, G.kb_bl, G.kb_sl, G.kb_tt, G.kb_lt, G.kb_nt, G.kb_it, G.kb_bt, G.kb_st, decide_eq_true_eq, Bool.not_eq_true', decide_eq_false_iff_not, ↓reduceIte, eq_self, Bool.false_eq_true, Bool.true_eq_false, reduceCtorEq, Bool.not_true, Bool.not_false, ne_eq, not_false_eq_true, G.f_abs, G.f_int, G.f_intB, G.f_max2, G.f_min2, G.f_gcd, G.it_tupD, G.it_fzlD, G.it_refD, G.f_ix, G.f_len, G.f_list, G.f_setItem, G.f_slF, G.f_slR, G.f_isi, G.f_app, G.w_bm, G.oq_some, G.w_lc, List.map_cons, List.map_nil, List.length_cons, List.length_nil, List.cons_append, List.nil_append, Nat.zero_add, List.replicate, Nat.sub_self, Nat.reduceAdd, Nat.reduceSub, List.set_cons_zero, List.set_cons_succ, Option.some.injEq, exists_eq_left', exists_eq_left, true_and, and_true, G.at_0, G.at_1, G.at_2, G.at_3, G.at_m1, G.ix1_0, G.ix2_0, G.ix2_1, G.ix3_0, G.ix3_1, G.ix3_2, List.length_set, List.set_set])
local macro_rules | `(tactic| walk_at "wpx") => `(tactic| try simp only [G.w_bnd, G.w_chain, G.w_wenum, G.en_fzl, G.en_ref, G.f_insert, G.f_tuple, G.w_getF, G.w_setF, G.w_makeX, G.w_make, G.w_methX, G.w_meth, G.f_lenO, G.w_addX, G.w_fldT, G.w_callX, G.w_fld, G.w_isE, G.w_bndS, G.q_ex, G.x_ex, G.w_raise, G.w_raise0, G.y_nx, G.y_rt, G.y_bk, G.y_ct, G.y_ex, G.w_try, G.w_cl0, G.w_cl1, G.st_nx, G.st_rt, G.st_bk, G.st_ct, G.cl_nx, G.cl_rt, G.cl_bk, G.cl_ct, G.w_su0, G.w_su1, G.n_ex, G.w_ret, G.w_ok, G.w_var, G.s_z, G.s_s, G.w_c, G.w_op, G.w_un, G.w_nil, G.w_cons, G.w_cb, G.w_call, G.w_tup, G.w_alloc, G.w_lst, G.b_bl, G.w_asBl, G.w_test, G.w_yes, G.w_and, G.w_or, G.w_not, G.w_andV, G.w_orV, G.w_notV, G.w_ifx, G.w_nop, G.i_int, G.w_part, G.w_sl, G.w_next, G.w_rt, G.w_rtN, G.w_brk, G.w_cont, G.w_drop, G.q_nx, G.q_rt, G.q_bk, G.q_ct, G.w_seq, G.w_ifS, G.w_set, G.g_some, G.w_asg, G.w_setIx, G.w_aug, G.n_rt, G.n_nx, G.w_fn, G.w_for, G.w_wseq, G.k_tup, G.k_fzl, G.k_ref, G.w_wr1, G.w_wr2, G.f_add, G.f_sub, G.f_addI, G.f_mul, G.f_div, G.f_mod, G.f_pow, G.f_neg, G.f_cmp, G.f_isB, G.f_notB, G.f_isN, G.f_notN, G.n_non, G.n_int, G.n_bl, G.n_ref, G.n_tup, G.f_eq, G.f_ne, G.ty_non, G.ty_bl, G.ty_int, G.ty_str, G.ty_tup, G.ty_fzl, G.kb_ii, G.kb_ib, G.kb_bi, G.kb_bb, G.kb_ni, G.kb_si, G.kb_li, G.kb_ti, G.kb_ll, G.kb_tl, G.kb_nl, G.kb_il, G.kb_bl, G.kb_sl, G.kb_tt, G.kb_lt, G.kb_nt, G.kb_it, G.kb_bt, G.kb_st, decide_eq_true_eq, Bool.not_eq_true', decide_eq_false_iff_not, ↓reduceIte, eq_self, Bool.false_eq_true, Bool.true_eq_false, reduceCtorEq, Bool.not_true, Bool.not_false, ne_eq, not_false_eq_true, G.f_abs, G.f_int, G.f_intB, G.f_max2, G.f_min2, G.f_gcd, G.it_tupD, G.it_fzlD, G.it_refD, G.f_ix, G.f_len, G.f_list, G.f_setItem, G.f_slF, G.f_slR, G.f_isi, G.f_app, G.w_bm, G.oq_some, G.w_lc, List.map_cons, List.map_nil, List.length_cons, List.length_nil, List.cons_append, List.nil_append, Nat.zero_add, List.replicate, Nat.sub_self, Nat.reduceAdd, Nat.reduceSub, List.set_cons_zero, List.set_cons_succ, Option.some.injEq, exists_eq_left', exists_eq_left, true_and, and_true, G.at_0, G.at_1, G.at_2, G.at_3, G.at_m1, G.ix1_0, G.ix2_0, G.ix2_1, G.ix3_0, G.ix3_1, G.ix3_2, List.length_set, List.set_set, *])
local macro_rules | `(tactic| walk_at "wpz") => `(tactic| try simp only [G.w_bnd, G.w_chain, G.w_wenum, G.en_fzl, G.en_ref, G.f_insert, G.f_tuple, G.w_getF, G.w_setF, G.w_makeX, G.w_make, G.w_methX, G.w_meth, G.f_lenO, G.w_addX, G.w_fldT, G.w_callX, G.w_fld, G.w_isE, G.w_bndS, G.q_ex, G.x_ex, G.w_raise, G.w_raise0, G.y_nx, G.y_rt, G.y_bk, G.y_ct, G.y_ex, G.w_try, G.w_cl0, G.w_cl1, G.st_nx, G.st_rt, G.st_bk, G.st_ct, G.cl_nx, G.cl_rt, G.cl_bk, G.cl_ct, G.w_su0, G.w_su1, G.n_ex, G.w_ret, G.w_ok, G.w_var, G.s_z, G.s_s, G.w_c, G.w_op, G.w_un, G.w_nil, G.w_cons, G.w_cb, G.w_call, G.w_tup, G.w_alloc, G.w_lst, G.b_bl, G.w_asBl, G.w_test, G.w_yes, G.w_and, G.w_or, G.w_not, G.w_andV, G.w_orV, G.w_notV, G.w_ifx, G.w_nop, G.i_int, G.w_part, G.w_sl, G.w_next, G.w_rt, G.w_rtN, G.w_brk, G.w_cont, G.w_drop, G.q_rt, G.q_bk, G.q_ct, G.w_seq, G.w_ifS, G.w_set, G.g_some, G.w_asg, G.w_setIx, G.w_aug, G.n_rt, G.n_nx, G.w_fn, G.w_for, G.w_wseq, G.k_tup, G.k_fzl, G.k_ref, G.w_wr1, G.w_wr2, G.f_add, G.f_sub, G.f_addI, G.f_mul, G.f_div, G.f_mod, G.f_pow, G.f_neg, G.f_cmp, G.f_isB, G.f_notB, G.f_isN, G.f_notN, G.n_non, G.n_int, G.n_bl, G.n_ref, G.n_tup, G.f_eq, G.f_ne, G.ty_non, G.ty_bl, G.ty_int, G.ty_str, G.ty_tup, G.ty_fzl, G.kb_ii, G.kb_ib, G.kb_bi, G.kb_bb, G.kb_ni, G.kb_si, G.kb_li, G.kb_ti, G.kb_ll, G.kb_tl, G.kb_nl, G.kb_il, G.kb_bl, G.kb_sl, G.kb_tt, G.kb_lt, G.kb_nt, G.kb_it, G.kb_bt, G.kb_st, decide_eq_true_eq, Bool.not_eq_true', decide_eq_false_iff_not, ↓reduceIte, eq_self, Bool.false_eq_true, Bool.true_eq_false, reduceCtorEq, Bool.not_true, Bool.not_false, ne_eq, not_false_eq_true, G.f_abs, G.f_int, G.f_intB, G.f_max2, G.f_min2, G.f_gcd, G.it_tupD, G.it_fzlD, G.it_refD, G.f_ix, G.f_len, G.f_list, G.f_setItem, G.f_slF, G.f_slR, G.f_isi, G.f_app, G.w_bm, G.oq_some, G.w_lc, List.map_cons, List.map_nil, List.length_cons, List.length_nil, List.cons_append, List.nil_append, Nat.zero_add, List.replicate, Nat.sub_self, Nat.reduceAdd, Nat.reduceSub, List.set_cons_zero, List.set_cons_succ, Option.some.injEq, exists_eq_left', exists_eq_left, true_and, and_true, G.at_0, G.at_1, G.at_2, G.at_3, G.at_m1, G.ix1_0, G.ix2_0, G.ix2_1, G.ix3_0, G.ix3_1, G.ix3_2, List.length_set, List.set_set])
theorem next_sp {h : Store} {st : Nat} {size : Int} (hs : StA h st) (h0 : 0 < size := by decide) (h1 : size < 2 ^ 64 := by decide) : WpX NoX (m_law_next [.ref st, .int size] h) fun d h' => ∃ v : Int, d = .int v ∧ 0 ≤ v ∧ v < size ∧ StA h' st ∧ Ch st h h' :=
  G.next_sp hs h0 h1
/-- a Rows stands at n, its list at l -/
def IsR (h : Store) (n : Nat) (p : Int) (R : List Tr) : Prop := ∃ l, h[n]? = some (.ins 3 [("points", .int p), ("_rows", .ref l)]) ∧ getL h l = some (rowsD R)
/-- a row's two points are of the p -/
def okR (p : Int) (r : Tr) : Bool := decide ((0 ≤ r.1 ∧ r.1 < p) ∧ (0 ≤ r.2.1 ∧ r.2.1 < p))
theorem rows_get {R : List Tr} {i : Nat} {d : D} (e : (rowsD R)[i]? = some d) : ∃ r, R[i]? = some r ∧ d = trD r := by
  unfold rowsD at e
  rw [List.getElem?_map] at e
  obtain ⟨r, h1, h2⟩ := Option.map_eq_some_iff.mp e
  exact ⟨r, h1, h2.symm⟩
theorem rows_len {R : List Tr} : (rowsD R).length = R.length := by unfold rowsD; rw [List.length_map]
theorem enum_len {l : List D} : (enumD l).length = l.length := by unfold enumD; rw [List.length_map, List.length_zipIdx]
theorem put0 {v : D} : putD "points" v [] = [(("points" : PySem.Str), v)] := rfl
theorem put1 {v w : D} : putD "_rows" w [(("points" : PySem.Str), v)] = [(("points" : PySem.Str), v), (("_rows" : PySem.Str), w)] := by
  unfold putD
  rw [if_neg (by decide)]
  rfl
theorem lkp {v w : D} : List.lookup ("points" : PySem.Str) [(("points" : PySem.Str), v), (("_rows" : PySem.Str), w)] = some v := rfl
theorem lkr {v w : D} : List.lookup ("_rows" : PySem.Str) [(("points" : PySem.Str), v), (("_rows" : PySem.Str), w)] = some w := by
  unfold List.lookup
  rw [show ((("_rows" : PySem.Str)) == (("points" : PySem.Str))) = false by decide]
  rfl
/-- what Rows(p, R) does: nothing is wrong; too many points; the first wrong row -/
theorem init_spec {X : XQ} {h : Store} {Q : D → Store → Prop} {n r : Nat} {p : Int} {R : List Tr} (hn : h[n]? = some (.ins 3 [])) (hr : getL h r = some (rowsD R)) (hz : R.length ≤ 100000)
    (q0 : ¬ (1 ≤ p ∧ p ≤ 120) → X 1 (some [("number", .int p)]) h)
    (q1 : 1 ≤ p ∧ p ≤ 120 → ∀ (k : Nat) (t : Tr), R[k]? = some t → okR p t = false → (∀ j t, j < k → R[j]? = some t → okR p t = true) → X 2 (some [("index", .int (k : Int))]) h)
    (q2 : 1 ≤ p ∧ p ≤ 120 → (∀ t ∈ R, okR p t = true) → Q .non (((h.set n (.ins 3 [("points", .int p)])) ++ [O.lst (rowsD R)]).set n (.ins 3 [("points", .int p), ("_rows", .ref h.length)]))) :
    WpX X (m_Rows_init [.ref n, .int p, .ref r] h) Q := by
  have hl : n < h.length := by
    obtain ⟨z, _⟩ := List.getElem?_eq_some_iff.mp hn
    exact z
  unfold m_Rows_init m_Rows_init_b
  rw [w_fn, w_seq]
  walk_at "wpz"
  by_cases c1 : 1 ≤ p
  case neg =>
    rw [if_neg c1]
    walk_at "wpz"
    exact q0 fun z => c1 z.1
  rw [if_pos c1]
  walk_at "wpz"
  by_cases c2 : p ≤ 120
  case neg =>
    rw [if_pos c2]
    exact q0 fun z => c2 z.2
  rw [if_neg (by simpa using c2), q_nx, w_seq]
  walk_at "wpz"
  rw [hr]
  walk_at "wpz"
  refine for_inv (fun k ρ h' => h' = h ∧ (∃ d3 d4, ρ = [some (.ref n), some (.int p), some (.ref r), d3, d4]) ∧ ∀ j t, j < k → R[j]? = some t → okR p t = true) ⟨rfl, ⟨none, none, rfl⟩, fun j t hj => absurd hj (by omega)⟩ ?_ ?_ ?_
  · rintro k ρ h' _ ⟨rfl, _⟩
    exact decide_eq_true hr
  · rintro k d ρ h' hd ⟨rfl, ⟨d3, d4, rfl⟩, hk⟩
    rw [enum_get] at hd
    obtain ⟨y, hy, rfl⟩ := Option.map_eq_some_iff.mp hd
    obtain ⟨t, ht, rfl⟩ := rows_get hy
    show goQ (some _) _
    rw [g_some]
    refine WpX.same (Q := fun f h1 => h1 = h' ∧ f = if okR p t = true then Fl.nx [some (.ref n), some (.int p), some (.ref r), some (.int (k : Int)), some (trD t)] else Fl.ex [some (.ref n), some (.int p), some (.ref r), some (.int (k : Int)), some (trD t)] 2 (some [("index", .int (k : Int))])) ?_ ?_
    · obtain ⟨i, j, c⟩ := t
      simp only [trD]
      walk_at "wps"
      unfold okR
      by_cases e1 : 0 ≤ i <;> by_cases e2 : i < p <;> by_cases e3 : 0 ≤ j <;> by_cases e4 : j < p <;> simp [e1, e2, e3, e4]
    · rintro f h1 ⟨rfl, rfl⟩
      by_cases e : okR p t = true
      · rw [if_pos e]
        refine ⟨rfl, ⟨_, _, rfl⟩, fun j s hj hs => ?_⟩
        by_cases z : j = k
        · subst z
          rw [ht] at hs
          cases hs
          exact e
        · exact hk j s (by omega) hs
      · rw [if_neg e]
        exact q1 ⟨c1, c2⟩ k t ht (by simpa using e) hk
  · rintro ρ h' ⟨rfl, ⟨d3, d4, rfl⟩, hk⟩
    have all : ∀ t ∈ R, okR p t = true := fun t ht => by
      obtain ⟨j, hj, e⟩ := List.getElem_of_mem ht
      exact hk j t (by rw [enum_len, rows_len]; exact hj) (by rw [← e]; exact List.getElem?_eq_getElem hj)
    have key := q2 ⟨c1, c2⟩ all
    walk_at "wps"
    rw [of_ins hn]
    walk_at "wps"
    have hne : r ≠ n := fun z => by
      subst z
      have := getL_some hr
      rw [hn] at this
      cases this
    have g1 : getL (List.set h' n (O.ins 3 [("points", .int p)])) r = some (rowsD R) := by rw [getL_ne hne]; exact hr
    have g2 : (List.set h' n (O.ins 3 [("points", .int p)]) ++ [O.lst (rowsD R)])[n]? = some (.ins 3 [("points", .int p)]) := by
      rw [List.getElem?_append_left (by rw [List.length_set]; exact hl), List.getElem?_set_self hl]
    rw [put0, g1]
    refine ⟨by omega, ?_⟩
    show oQ (ofIns 3 (D.ref n) _) _
    rw [of_ins g2]
    show _ ∧ _
    rw [put1]
    exact ⟨by simp, key⟩
/-- a Rows is made where nothing is wrong -/
theorem isR_made {h : Store} {n : Nat} {p : Int} {R : List Tr} (hl : n < h.length) : IsR (((h.set n (.ins 3 [("points", .int p)])) ++ [O.lst (rowsD R)]).set n (.ins 3 [("points", .int p), ("_rows", .ref h.length)])) n p R := by
  refine ⟨h.length, ?_, ?_⟩
  · rw [List.getElem?_set_self (by rw [List.length_append, List.length_set]; omega)]
  · rw [getL_ne (by omega)]
    have := getL_new (h := h.set n (.ins 3 [("points", .int p)])) (xs := rowsD R)
    rw [List.length_set] at this
    exact this
theorem len_spec {h : Store} {n : Nat} {p : Int} {R : List Tr} (r : IsR h n p R) : m_Rows_len [.ref n] h = .ok (.int (R.length : Int)) h := by
  obtain ⟨l, e1, e2⟩ := r
  have : WpX NoX (m_Rows_len [.ref n] h) fun d h' => d = .int (R.length : Int) ∧ h' = h := by
    unfold m_Rows_len m_Rows_len_b
    walk_at "wps"
    simp only [of_ins e1, oq_some, lkr, it_refD, e2, rows_len, and_self]
  obtain ⟨d, h', e, rfl, rfl⟩ := this.ex
  exact e
theorem eq_spec {h : Store} {n m : Nat} {p q : Int} {R S : List Tr} (r : IsR h n p R) (s : IsR h m q S) (hR : R.length ≤ 100000) (hS : S.length ≤ 100000) : WpX NoX (m_Rows_eq [.ref n, .ref m] h) fun d h' => d = .bl (decide (p = q ∧ R = S)) ∧ h' = h := by
  obtain ⟨l, e1, e2⟩ := r
  obtain ⟨l', e3, e4⟩ := s
  unfold m_Rows_eq m_Rows_eq_b
  walk_at "wps"
  rw [f_isC_ins e3]
  show oQ (some true) _
  walk_at "wps"
  simp only [of_ins e1, of_ins e3, oq_some, lkp, lkr, f_eq, b_bl, feq_rows e2 e4 (by omega) (by omega)]
  by_cases hp : p = q
  · by_cases hq : R = S <;> simp [hp, hq]
  · simp [hp]
end K01

namespace K01
open PySem L2 G
local macro_rules | `(tactic| walk_at "wps") => `(tactic| try simp only [G.w_bnd, G.w_chain, G.w_wenum, G.en_fzl, G.en_ref, G.f_insert, G.f_tuple, G.w_getF, G.w_setF, G.w_makeX, G.w_make, G.w_methX, G.w_meth, G.f_lenO, G.w_addX, G.w_fldT, G.w_callX, G.w_fld, G.w_isE, G.w_bndS, G.q_ex, G.x_ex, G.w_raise, G.w_raise0, G.y_nx, G.y_rt, G.y_bk, G.y_ct, G.y_ex, G.w_try, G.w_cl0, G.w_cl1, G.st_nx, G.st_rt, G.st_bk, G.st_ct, G.cl_nx, G.cl_rt, G.cl_bk, G.cl_ct, G.w_su0, G.w_su1, G.n_ex, G.w_ret, G.w_ok, G.w_var, G.s_z, G.s_s, G.w_c, G.w_op, G.w_un, G.w_nil, G.w_cons, G.w_cb, G.w_call, G.w_tup, G.w_alloc, G.w_lst, G.b_bl, G.w_asBl, G.w_test, G.w_yes, G.w_and, G.w_or, G.w_not, G.w_andV, G.w_orV, G.w_notV, G.w_ifx, G.w_nop, G.i_int, G.w_part, G.w_sl, G.w_next, G.w_rt, G.w_rtN, G.w_brk, G.w_cont, G.w_drop, G.q_nx, G.q_rt, G.q_bk, G.q_ct, G.w_seq, G.w_ifS, G.w_set, G.g_some, G.w_asg, G.w_setIx, G.w_aug, G.n_rt, G.n_nx, G.w_fn, G.w_for, G.w_wseq, G.k_tup, G.k_fzl, G.k_ref, G.w_wr1, G.w_wr2, G.f_add, G.f_sub, G.f_addI, G.f_mul, G.f_div, G.f_mod, G.f_pow, G.f_neg, G.f_cmp, G.f_isB, G.f_notB, G.f_isN, G.f_notN, G.n_non, G.n_int, G.n_bl, G.n_ref, G.n_tup, G.f_eq, G.f_ne, G.ty_non, G.ty_bl, G.ty_int, G.ty_str, G.ty_tup, G.ty_fzl, G.kb_ii, G.kb_ib, G.kb_bi, G.kb_bb, G.kb_ni, G.kb_si, G.kb_li, G.kb_ti, G.kb_ll, G.kb_tl, G.kb_nl, G.kb_il, G.kb_bl, G.kb_sl, G.kb_tt, G.kb_lt, G.kb_nt, G.kb_it, G.kb_bt, G.kb_st, decide_eq_true_eq, Bool.not_eq_true', decide_eq_false_iff_not, ↓reduceIte, eq_self, Bool.false_eq_true, Bool.true_eq_false, reduceCtorEq, Bool.not_true, Bool.not_false, ne_eq, not_false_eq_true, G.f_abs, G.f_int, G.f_intB, G.f_max2, G.f_min2, G.f_gcd, G.it_tupD, G.it_fzlD, G.it_refD, G.f_ix, G.f_len, G.f_list, G.f_setItem, G.f_slF, G.f_slR, G.f_isi, G.f_app, G.w_bm, G.oq_some, G.w_lc, List.map_cons, List.map_nil, List.length_cons, List.length_nil, List.cons_append, List.nil_append, Nat.zero_add, List.replicate, Nat.sub_self, Nat.reduceAdd, Nat.reduceSub, List.set_cons_zero, List.set_cons_succ, Option.some.injEq, exists_eq_left', exists_eq_left, true_and, and_true, G.at_0, G.at_1, G.at_2, G.at_3, G.at_m1, G.ix1_0, G.ix2_0, G.ix2_1, G.ix3_0, G.ix3_1, G.ix3_2, List.length_set, List.set_set])
local macro_rules | `(tactic| walk_at "wpx") => `(tactic| try simp only [G.w_bnd, G.w_chain, G.w_wenum, G.en_fzl, G.en_ref, G.f_insert, G.f_tuple, G.w_getF, G.w_setF, G.w_makeX, G.w_make, G.w_methX, G.w_meth, G.f_lenO, G.w_addX, G.w_fldT, G.w_callX, G.w_fld, G.w_isE, G.w_bndS, G.q_ex, G.x_ex, G.w_raise, G.w_raise0, G.y_nx, G.y_rt, G.y_bk, G.y_ct, G.y_ex, G.w_try, G.w_cl0, G.w_cl1, G.st_nx, G.st_rt, G.st_bk, G.st_ct, G.cl_nx, G.cl_rt, G.cl_bk, G.cl_ct, G.w_su0, G.w_su1, G.n_ex, G.w_ret, G.w_ok, G.w_var, G.s_z, G.s_s, G.w_c, G.w_op, G.w_un, G.w_nil, G.w_cons, G.w_cb, G.w_call, G.w_tup, G.w_alloc, G.w_lst, G.b_bl, G.w_asBl, G.w_test, G.w_yes, G.w_and, G.w_or, G.w_not, G.w_andV, G.w_orV, G.w_notV, G.w_ifx, G.w_nop, G.i_int, G.w_part, G.w_sl, G.w_next, G.w_rt, G.w_rtN, G.w_brk, G.w_cont, G.w_drop, G.q_nx, G.q_rt, G.q_bk, G.q_ct, G.w_seq, G.w_ifS, G.w_set, G.g_some, G.w_asg, G.w_setIx, G.w_aug, G.n_rt, G.n_nx, G.w_fn, G.w_for, G.w_wseq, G.k_tup, G.k_fzl, G.k_ref, G.w_wr1, G.w_wr2, G.f_add, G.f_sub, G.f_addI, G.f_mul, G.f_div, G.f_mod, G.f_pow, G.f_neg, G.f_cmp, G.f_isB, G.f_notB, G.f_isN, G.f_notN, G.n_non, G.n_int, G.n_bl, G.n_ref, G.n_tup, G.f_eq, G.f_ne, G.ty_non, G.ty_bl, G.ty_int, G.ty_str, G.ty_tup, G.ty_fzl, G.kb_ii, G.kb_ib, G.kb_bi, G.kb_bb, G.kb_ni, G.kb_si, G.kb_li, G.kb_ti, G.kb_ll, G.kb_tl, G.kb_nl, G.kb_il, G.kb_bl, G.kb_sl, G.kb_tt, G.kb_lt, G.kb_nt, G.kb_it, G.kb_bt, G.kb_st, decide_eq_true_eq, Bool.not_eq_true', decide_eq_false_iff_not, ↓reduceIte, eq_self, Bool.false_eq_true, Bool.true_eq_false, reduceCtorEq, Bool.not_true, Bool.not_false, ne_eq, not_false_eq_true, G.f_abs, G.f_int, G.f_intB, G.f_max2, G.f_min2, G.f_gcd, G.it_tupD, G.it_fzlD, G.it_refD, G.f_ix, G.f_len, G.f_list, G.f_setItem, G.f_slF, G.f_slR, G.f_isi, G.f_app, G.w_bm, G.oq_some, G.w_lc, List.map_cons, List.map_nil, List.length_cons, List.length_nil, List.cons_append, List.nil_append, Nat.zero_add, List.replicate, Nat.sub_self, Nat.reduceAdd, Nat.reduceSub, List.set_cons_zero, List.set_cons_succ, Option.some.injEq, exists_eq_left', exists_eq_left, true_and, and_true, G.at_0, G.at_1, G.at_2, G.at_3, G.at_m1, G.ix1_0, G.ix2_0, G.ix2_1, G.ix3_0, G.ix3_1, G.ix3_2, List.length_set, List.set_set, *])
local macro_rules | `(tactic| walk_at "wpz") => `(tactic| try simp only [G.w_bnd, G.w_chain, G.w_wenum, G.en_fzl, G.en_ref, G.f_insert, G.f_tuple, G.w_getF, G.w_setF, G.w_makeX, G.w_make, G.w_methX, G.w_meth, G.f_lenO, G.w_addX, G.w_fldT, G.w_callX, G.w_fld, G.w_isE, G.w_bndS, G.q_ex, G.x_ex, G.w_raise, G.w_raise0, G.y_nx, G.y_rt, G.y_bk, G.y_ct, G.y_ex, G.w_try, G.w_cl0, G.w_cl1, G.st_nx, G.st_rt, G.st_bk, G.st_ct, G.cl_nx, G.cl_rt, G.cl_bk, G.cl_ct, G.w_su0, G.w_su1, G.n_ex, G.w_ret, G.w_ok, G.w_var, G.s_z, G.s_s, G.w_c, G.w_op, G.w_un, G.w_nil, G.w_cons, G.w_cb, G.w_call, G.w_tup, G.w_alloc, G.w_lst, G.b_bl, G.w_asBl, G.w_test, G.w_yes, G.w_and, G.w_or, G.w_not, G.w_andV, G.w_orV, G.w_notV, G.w_ifx, G.w_nop, G.i_int, G.w_part, G.w_sl, G.w_next, G.w_rt, G.w_rtN, G.w_brk, G.w_cont, G.w_drop, G.q_rt, G.q_bk, G.q_ct, G.w_seq, G.w_ifS, G.w_set, G.g_some, G.w_asg, G.w_setIx, G.w_aug, G.n_rt, G.n_nx, G.w_fn, G.w_for, G.w_wseq, G.k_tup, G.k_fzl, G.k_ref, G.w_wr1, G.w_wr2, G.f_add, G.f_sub, G.f_addI, G.f_mul, G.f_div, G.f_mod, G.f_pow, G.f_neg, G.f_cmp, G.f_isB, G.f_notB, G.f_isN, G.f_notN, G.n_non, G.n_int, G.n_bl, G.n_ref, G.n_tup, G.f_eq, G.f_ne, G.ty_non, G.ty_bl, G.ty_int, G.ty_str, G.ty_tup, G.ty_fzl, G.kb_ii, G.kb_ib, G.kb_bi, G.kb_bb, G.kb_ni, G.kb_si, G.kb_li, G.kb_ti, G.kb_ll, G.kb_tl, G.kb_nl, G.kb_il, G.kb_bl, G.kb_sl, G.kb_tt, G.kb_lt, G.kb_nt, G.kb_it, G.kb_bt, G.kb_st, decide_eq_true_eq, Bool.not_eq_true', decide_eq_false_iff_not, ↓reduceIte, eq_self, Bool.false_eq_true, Bool.true_eq_false, reduceCtorEq, Bool.not_true, Bool.not_false, ne_eq, not_false_eq_true, G.f_abs, G.f_int, G.f_intB, G.f_max2, G.f_min2, G.f_gcd, G.it_tupD, G.it_fzlD, G.it_refD, G.f_ix, G.f_len, G.f_list, G.f_setItem, G.f_slF, G.f_slR, G.f_isi, G.f_app, G.w_bm, G.oq_some, G.w_lc, List.map_cons, List.map_nil, List.length_cons, List.length_nil, List.cons_append, List.nil_append, Nat.zero_add, List.replicate, Nat.sub_self, Nat.reduceAdd, Nat.reduceSub, List.set_cons_zero, List.set_cons_succ, Option.some.injEq, exists_eq_left', exists_eq_left, true_and, and_true, G.at_0, G.at_1, G.at_2, G.at_3, G.at_m1, G.ix1_0, G.ix2_0, G.ix2_1, G.ix3_0, G.ix3_1, G.ix3_2, List.length_set, List.set_set])
/-- a number, not True or False; what else may stand in a list of numbers -/
def isI : D → Option Bool
  | .int _ => some true
  | .bl _ => some false
  | .non => some false
  | .str _ => some false
  | _ => none
theorem whole_spec {h : Store} {d : D} {b : Bool} (e : isI d = some b) : WpX NoX (m_is_whole [d] h) fun r h' => r = .bl b ∧ h' = h := by
  unfold m_is_whole m_is_whole_b
  cases d with
  | int z => cases e; walk_at "wps"
  | bl z => cases e; walk_at "wps"
  | non => cases e; walk_at "wps"
  | str z => cases e; walk_at "wps"
  | _ => cases e
theorem lint_sp {h : Store} {d : D} {b : Bool} (e : isI d = some b) : WpX NoX (m_law_int [d] h) fun r h' => r = .bl b ∧ h' = h := whole_spec e
/-- every item is a number -/
theorem wlist_spec {h : Store} {n : Nat} {l : List D} (e : getL h n = some l) (hl : ∀ d ∈ l, (isI d).isSome = true) : WpX NoX (m_is_whole_list [.ref n] h) fun r h' => r = .bl (l.all fun d => isI d == some true) ∧ h' = h := by
  unfold m_is_whole_list m_is_whole_list_b
  have t := ty_ref e
  rw [w_fn, w_seq]
  walk_at "wpz"
  simp only [t]
  walk_at "wpz"
  rw [q_nx, w_seq]
  walk_at "wpz"
  rw [e]
  walk_at "wpz"
  refine for_inv (fun k ρ h' => h' = h ∧ (∃ d1, ρ = [some (.ref n), d1]) ∧ ∀ j d, j < k → l[j]? = some d → isI d = some true) ⟨rfl, ⟨none, rfl⟩, fun j d hj => absurd hj (by omega)⟩ ?_ ?_ ?_
  · rintro k ρ h' _ ⟨rfl, _⟩
    exact decide_eq_true e
  · rintro k d ρ h' hd ⟨rfl, ⟨d1, rfl⟩, hk⟩
    obtain ⟨b, hb⟩ := Option.isSome_iff_exists.mp (hl d (List.mem_of_getElem? hd))
    show goQ (some _) _
    rw [g_some]
    refine WpX.same (Q := fun f h1 => h1 = h' ∧ f = if b = true then Fl.nx [some (.ref n), some d] else Fl.rt (.bl false)) ?_ ?_
    · walk_at "wps"
      refine (whole_spec hb).imp ?_
      rintro _ _ ⟨rfl, rfl⟩
      walk_at "wps"
      cases b <;> simp [w_ok, w_rt, w_next, w_c]
    · rintro f h1 ⟨rfl, rfl⟩
      cases b with
      | true =>
        refine ⟨rfl, ⟨_, rfl⟩, fun j s hj hs => ?_⟩
        by_cases z : j = k
        · subst z
          rw [hd] at hs
          cases hs
          exact hb
        · exact hk j s (by omega) hs
      | false =>
        refine ⟨?_, rfl⟩
        congr 1
        symm
        rw [Bool.eq_false_iff]
        intro z
        have := List.all_eq_true.mp z d (List.mem_of_getElem? hd)
        rw [hb] at this
        simp at this
  · rintro ρ h' ⟨rfl, ⟨d1, rfl⟩, hk⟩
    walk_at "wps"
    congr 1
    symm
    rw [List.all_eq_true]
    intro d hd
    obtain ⟨j, hj, e2⟩ := List.getElem_of_mem hd
    rw [hk j d hj (by rw [← e2]; exact List.getElem?_eq_getElem hj)]
    rfl
theorem wlist_tup {h : Store} {l : List D} : WpX NoX (m_is_whole_list [.tup l] h) fun r h' => r = .bl false ∧ h' = h := by
  unfold m_is_whole_list m_is_whole_list_b
  walk_at "wps"
/-- the numbers hold the rows -/
def keepsB (p : Int) (R : List Tr) (zs : List Int) : Bool := decide ((zs.length : Int) = p) && decide (zs.getD 0 0 = 0) && R.all fun r => !decide (zs.getD r.2.1.toNat 0 - zs.getD r.1.toNat 0 < r.2.2)
theorem at_ints {zs : List Int} {i : Int} (h0 : 0 ≤ i) (h1 : i < zs.length) : atI (zs.map D.int) i = some (.int (zs.getD i.toNat 0)) := by
  unfold atI ixN
  rw [if_pos h0, if_pos (by rw [List.length_map]; exact h1)]
  show (zs.map D.int)[i.toNat]? = _
  rw [List.getElem?_map, List.getD_eq_getElem?_getD, List.getElem?_eq_getElem (by omega)]
  rfl
/-- o[numbers] in a Rows -/
theorem has_spec {h : Store} {n m : Nat} {p : Int} {R : List Tr} {zs : List Int} (r : IsR h n p R) (hp : 1 ≤ p) (hR : ∀ t ∈ R, okR p t = true) (e : getL h m = some (zs.map D.int)) :
    WpX NoX (m_Rows_contains [.ref n, .ref m] h) fun d h' => d = .bl (keepsB p R zs) ∧ h' = h := by
  obtain ⟨l, e1, e2⟩ := r
  have all1 : ((zs.map D.int).all fun d => isI d == some true) = true := by
    rw [List.all_eq_true]
    intro d hd
    obtain ⟨z, _, rfl⟩ := List.mem_map.mp hd
    rfl
  unfold m_Rows_contains m_Rows_contains_b
  rw [w_fn, w_seq]
  walk_at "wpz"
  refine (wlist_spec e (fun d hd => by obtain ⟨z, _, rfl⟩ := List.mem_map.mp hd; rfl)).imp ?_
  rintro _ _ ⟨rfl, rfl⟩
  rw [all1]
  walk_at "wpz"
  rw [q_nx, w_seq]
  walk_at "wpz"
  simp only [e, oq_some, of_ins e1, lkp, List.length_map, f_ne, b_bl]
  unfold keepsB
  by_cases c1 : (zs.length : Int) = p
  case neg =>
    rw [decide_eq_false c1]
    simp only [decide_true, decide_false, Bool.not_false, if_true, Bool.false_and]
    walk_at "wps"
  rw [decide_eq_true c1]
  simp only [decide_true, Bool.not_true, Bool.true_and]
  rw [if_neg (by simp), at_ints (by omega) (by omega)]
  simp only [oq_some, f_ne, b_bl, Int.toNat_zero]
  by_cases c2 : zs.getD 0 0 = 0
  case neg =>
    rw [decide_eq_false c2]
    simp
  rw [decide_eq_true c2]
  simp only [Bool.not_true, Bool.true_and]
  rw [if_neg (by simp), q_nx, w_seq]
  walk_at "wpz"
  simp only [of_ins e1, oq_some, lkr, k_ref, e2]
  refine for_inv (fun k ρ h' => h' = _ ∧ (∃ d2 d3 d4, ρ = [some (.ref n), some (.ref m), d2, d3, d4]) ∧ ∀ j t, j < k → R[j]? = some t → ¬ (zs.getD t.2.1.toNat 0 - zs.getD t.1.toNat 0 < t.2.2)) ⟨rfl, ⟨none, none, none, rfl⟩, fun j d hj => absurd hj (by omega)⟩ ?_ ?_ ?_
  · rintro k ρ h' _ ⟨rfl, _⟩
    exact decide_eq_true e2
  · rintro k d ρ h' hd ⟨rfl, ⟨d2, d3, d4, rfl⟩, hk⟩
    obtain ⟨t, ht, rfl⟩ := rows_get hd
    have ok := hR t (List.mem_of_getElem? ht)
    unfold okR at ok
    have ok := of_decide_eq_true ok
    obtain ⟨i, j, c⟩ := t
    show goQ (some _) _
    rw [g_some]
    walk_at "wps"
    simp only [e, oq_some, at_ints (zs := zs) ok.2.1 (by omega), at_ints (zs := zs) ok.1.1 (by omega), f_sub, f_cmp, b_bl]
    by_cases c3 : zs.getD j.toNat 0 - zs.getD i.toNat 0 < c
    · rw [if_pos (decide_eq_true c3)]
      refine ⟨?_, trivial⟩
      congr 1
      symm
      rw [Bool.eq_false_iff]
      intro z
      have := List.all_eq_true.mp z _ (List.mem_of_getElem? ht)
      simp only [c3] at this
      simp at this
    · rw [if_neg (by simpa using c3)]
      refine ⟨trivial, ⟨_, _, _, rfl⟩, fun j' s hj hs => ?_⟩
      by_cases z : j' = k
      · subst z
        rw [ht] at hs
        cases hs
        exact c3
      · exact hk j' s (by omega) hs
  · rintro ρ h' ⟨rfl, ⟨d2, d3, d4, rfl⟩, hk⟩
    walk_at "wps"
    congr 1
    symm
    rw [List.all_eq_true]
    intro t ht
    obtain ⟨j, hj, e3⟩ := List.getElem_of_mem ht
    have := hk j t (by rw [rows_len]; exact hj) (by rw [← e3]; exact List.getElem?_eq_getElem hj)
    rw [decide_eq_false this]
    rfl
end K01

namespace K01
open PySem L2 G
local macro_rules | `(tactic| walk_at "wps") => `(tactic| try simp only [G.w_bnd, G.w_chain, G.w_wenum, G.en_fzl, G.en_ref, G.f_insert, G.f_tuple, G.w_getF, G.w_setF, G.w_makeX, G.w_make, G.w_methX, G.w_meth, G.f_lenO, G.w_addX, G.w_fldT, G.w_callX, G.w_fld, G.w_isE, G.w_bndS, G.q_ex, G.x_ex, G.w_raise, G.w_raise0, G.y_nx, G.y_rt, G.y_bk, G.y_ct, G.y_ex, G.w_try, G.w_cl0, G.w_cl1, G.st_nx, G.st_rt, G.st_bk, G.st_ct, G.cl_nx, G.cl_rt, G.cl_bk, G.cl_ct, G.w_su0, G.w_su1, G.n_ex, G.w_ret, G.w_ok, G.w_var, G.s_z, G.s_s, G.w_c, G.w_op, G.w_un, G.w_nil, G.w_cons, G.w_cb, G.w_call, G.w_tup, G.w_alloc, G.w_lst, G.b_bl, G.w_asBl, G.w_test, G.w_yes, G.w_and, G.w_or, G.w_not, G.w_andV, G.w_orV, G.w_notV, G.w_ifx, G.w_nop, G.i_int, G.w_part, G.w_sl, G.w_next, G.w_rt, G.w_rtN, G.w_brk, G.w_cont, G.w_drop, G.q_nx, G.q_rt, G.q_bk, G.q_ct, G.w_seq, G.w_ifS, G.w_set, G.g_some, G.w_asg, G.w_setIx, G.w_aug, G.n_rt, G.n_nx, G.w_fn, G.w_for, G.w_wseq, G.k_tup, G.k_fzl, G.k_ref, G.w_wr1, G.w_wr2, G.f_add, G.f_sub, G.f_addI, G.f_mul, G.f_div, G.f_mod, G.f_pow, G.f_neg, G.f_cmp, G.f_isB, G.f_notB, G.f_isN, G.f_notN, G.n_non, G.n_int, G.n_bl, G.n_ref, G.n_tup, G.f_eq, G.f_ne, G.ty_non, G.ty_bl, G.ty_int, G.ty_str, G.ty_tup, G.ty_fzl, G.kb_ii, G.kb_ib, G.kb_bi, G.kb_bb, G.kb_ni, G.kb_si, G.kb_li, G.kb_ti, G.kb_ll, G.kb_tl, G.kb_nl, G.kb_il, G.kb_bl, G.kb_sl, G.kb_tt, G.kb_lt, G.kb_nt, G.kb_it, G.kb_bt, G.kb_st, decide_eq_true_eq, Bool.not_eq_true', decide_eq_false_iff_not, ↓reduceIte, eq_self, Bool.false_eq_true, Bool.true_eq_false, reduceCtorEq, Bool.not_true, Bool.not_false, ne_eq, not_false_eq_true, G.f_abs, G.f_int, G.f_intB, G.f_max2, G.f_min2, G.f_gcd, G.it_tupD, G.it_fzlD, G.it_refD, G.f_ix, G.f_len, G.f_list, G.f_setItem, G.f_slF, G.f_slR, G.f_isi, G.f_app, G.w_bm, G.oq_some, G.w_lc, List.map_cons, List.map_nil, List.length_cons, List.length_nil, List.cons_append, List.nil_append, Nat.zero_add, List.replicate, Nat.sub_self, Nat.reduceAdd, Nat.reduceSub, List.set_cons_zero, List.set_cons_succ, Option.some.injEq, exists_eq_left', exists_eq_left, true_and, and_true, G.at_0, G.at_1, G.at_2, G.at_3, G.at_m1, G.ix1_0, G.ix2_0, G.ix2_1, G.ix3_0, G.ix3_1, G.ix3_2, List.length_set, List.set_set])
local macro_rules | `(tactic| walk_at "wpx") => `(tactic| try simp only [G.w_bnd, G.w_chain, G.w_wenum, G.en_fzl, G.en_ref, G.f_insert, G.f_tuple, G.w_getF, G.w_setF, G.w_makeX, G.w_make, G.w_methX, G.w_meth, G.f_lenO, G.w_addX, G.w_fldT, G.w_callX, G.w_fld, G.w_isE, G.w_bndS, G.q_ex, G.x_ex, G.w_raise, G.w_raise0, G.y_nx, G.y_rt, G.y_bk, G.y_ct, G.y_ex, G.w_try, G.w_cl0, G.w_cl1, G.st_nx, G.st_rt, G.st_bk, G.st_ct, G.cl_nx, G.cl_rt, G.cl_bk, G.cl_ct, G.w_su0, G.w_su1, G.n_ex, G.w_ret, G.w_ok, G.w_var, G.s_z, G.s_s, G.w_c, G.w_op, G.w_un, G.w_nil, G.w_cons, G.w_cb, G.w_call, G.w_tup, G.w_alloc, G.w_lst, G.b_bl, G.w_asBl, G.w_test, G.w_yes, G.w_and, G.w_or, G.w_not, G.w_andV, G.w_orV, G.w_notV, G.w_ifx, G.w_nop, G.i_int, G.w_part, G.w_sl, G.w_next, G.w_rt, G.w_rtN, G.w_brk, G.w_cont, G.w_drop, G.q_nx, G.q_rt, G.q_bk, G.q_ct, G.w_seq, G.w_ifS, G.w_set, G.g_some, G.w_asg, G.w_setIx, G.w_aug, G.n_rt, G.n_nx, G.w_fn, G.w_for, G.w_wseq, G.k_tup, G.k_fzl, G.k_ref, G.w_wr1, G.w_wr2, G.f_add, G.f_sub, G.f_addI, G.f_mul, G.f_div, G.f_mod, G.f_pow, G.f_neg, G.f_cmp, G.f_isB, G.f_notB, G.f_isN, G.f_notN, G.n_non, G.n_int, G.n_bl, G.n_ref, G.n_tup, G.f_eq, G.f_ne, G.ty_non, G.ty_bl, G.ty_int, G.ty_str, G.ty_tup, G.ty_fzl, G.kb_ii, G.kb_ib, G.kb_bi, G.kb_bb, G.kb_ni, G.kb_si, G.kb_li, G.kb_ti, G.kb_ll, G.kb_tl, G.kb_nl, G.kb_il, G.kb_bl, G.kb_sl, G.kb_tt, G.kb_lt, G.kb_nt, G.kb_it, G.kb_bt, G.kb_st, decide_eq_true_eq, Bool.not_eq_true', decide_eq_false_iff_not, ↓reduceIte, eq_self, Bool.false_eq_true, Bool.true_eq_false, reduceCtorEq, Bool.not_true, Bool.not_false, ne_eq, not_false_eq_true, G.f_abs, G.f_int, G.f_intB, G.f_max2, G.f_min2, G.f_gcd, G.it_tupD, G.it_fzlD, G.it_refD, G.f_ix, G.f_len, G.f_list, G.f_setItem, G.f_slF, G.f_slR, G.f_isi, G.f_app, G.w_bm, G.oq_some, G.w_lc, List.map_cons, List.map_nil, List.length_cons, List.length_nil, List.cons_append, List.nil_append, Nat.zero_add, List.replicate, Nat.sub_self, Nat.reduceAdd, Nat.reduceSub, List.set_cons_zero, List.set_cons_succ, Option.some.injEq, exists_eq_left', exists_eq_left, true_and, and_true, G.at_0, G.at_1, G.at_2, G.at_3, G.at_m1, G.ix1_0, G.ix2_0, G.ix2_1, G.ix3_0, G.ix3_1, G.ix3_2, List.length_set, List.set_set, *])
local macro_rules | `(tactic| walk_at "wpz") => `(tactic| try simp only [G.w_bnd, G.w_chain, G.w_wenum, G.en_fzl, G.en_ref, G.f_insert, G.f_tuple, G.w_getF, G.w_setF, G.w_makeX, G.w_make, G.w_methX, G.w_meth, G.f_lenO, G.w_addX, G.w_fldT, G.w_callX, G.w_fld, G.w_isE, G.w_bndS, G.q_ex, G.x_ex, G.w_raise, G.w_raise0, G.y_nx, G.y_rt, G.y_bk, G.y_ct, G.y_ex, G.w_try, G.w_cl0, G.w_cl1, G.st_nx, G.st_rt, G.st_bk, G.st_ct, G.cl_nx, G.cl_rt, G.cl_bk, G.cl_ct, G.w_su0, G.w_su1, G.n_ex, G.w_ret, G.w_ok, G.w_var, G.s_z, G.s_s, G.w_c, G.w_op, G.w_un, G.w_nil, G.w_cons, G.w_cb, G.w_call, G.w_tup, G.w_alloc, G.w_lst, G.b_bl, G.w_asBl, G.w_test, G.w_yes, G.w_and, G.w_or, G.w_not, G.w_andV, G.w_orV, G.w_notV, G.w_ifx, G.w_nop, G.i_int, G.w_part, G.w_sl, G.w_next, G.w_rt, G.w_rtN, G.w_brk, G.w_cont, G.w_drop, G.q_rt, G.q_bk, G.q_ct, G.w_seq, G.w_ifS, G.w_set, G.g_some, G.w_asg, G.w_setIx, G.w_aug, G.n_rt, G.n_nx, G.w_fn, G.w_for, G.w_wseq, G.k_tup, G.k_fzl, G.k_ref, G.w_wr1, G.w_wr2, G.f_add, G.f_sub, G.f_addI, G.f_mul, G.f_div, G.f_mod, G.f_pow, G.f_neg, G.f_cmp, G.f_isB, G.f_notB, G.f_isN, G.f_notN, G.n_non, G.n_int, G.n_bl, G.n_ref, G.n_tup, G.f_eq, G.f_ne, G.ty_non, G.ty_bl, G.ty_int, G.ty_str, G.ty_tup, G.ty_fzl, G.kb_ii, G.kb_ib, G.kb_bi, G.kb_bb, G.kb_ni, G.kb_si, G.kb_li, G.kb_ti, G.kb_ll, G.kb_tl, G.kb_nl, G.kb_il, G.kb_bl, G.kb_sl, G.kb_tt, G.kb_lt, G.kb_nt, G.kb_it, G.kb_bt, G.kb_st, decide_eq_true_eq, Bool.not_eq_true', decide_eq_false_iff_not, ↓reduceIte, eq_self, Bool.false_eq_true, Bool.true_eq_false, reduceCtorEq, Bool.not_true, Bool.not_false, ne_eq, not_false_eq_true, G.f_abs, G.f_int, G.f_intB, G.f_max2, G.f_min2, G.f_gcd, G.it_tupD, G.it_fzlD, G.it_refD, G.f_ix, G.f_len, G.f_list, G.f_setItem, G.f_slF, G.f_slR, G.f_isi, G.f_app, G.w_bm, G.oq_some, G.w_lc, List.map_cons, List.map_nil, List.length_cons, List.length_nil, List.cons_append, List.nil_append, Nat.zero_add, List.replicate, Nat.sub_self, Nat.reduceAdd, Nat.reduceSub, List.set_cons_zero, List.set_cons_succ, Option.some.injEq, exists_eq_left', exists_eq_left, true_and, and_true, G.at_0, G.at_1, G.at_2, G.at_3, G.at_m1, G.ix1_0, G.ix2_0, G.ix2_1, G.ix3_0, G.ix3_1, G.ix3_2, List.length_set, List.set_set])
theorem has_tup {h : Store} {n : Nat} {l : List D} : WpX NoX (m_Rows_contains [.ref n, .tup l] h) fun d h' => d = .bl false ∧ h' = h := by
  unfold m_Rows_contains m_Rows_contains_b
  walk_at "wps"
  refine wlist_tup.imp ?_
  rintro _ _ ⟨rfl, rfl⟩
  walk_at "wps"
theorem has_bad {h : Store} {n m : Nat} {l : List D} (e : getL h m = some l) (hl : ∀ d ∈ l, (isI d).isSome = true) (hb : ∃ d ∈ l, isI d = some false) : WpX NoX (m_Rows_contains [.ref n, .ref m] h) fun d h' => d = .bl false ∧ h' = h := by
  have nall : (l.all fun d => isI d == some true) = false := by
    rw [Bool.eq_false_iff]
    intro z
    obtain ⟨d, hd, e2⟩ := hb
    have := List.all_eq_true.mp z d hd
    rw [e2] at this
    simp at this
  unfold m_Rows_contains m_Rows_contains_b
  rw [w_fn, w_seq]
  walk_at "wpz"
  refine (wlist_spec e hl).imp ?_
  rintro _ _ ⟨rfl, rfl⟩
  rw [nall]
  walk_at "wps"
/-- only new things -/
def Ap (h h' : Store) : Prop := ∃ l, h' = h ++ l
theorem Ap.refl (h : Store) : Ap h h := ⟨[], (List.append_nil h).symm⟩
theorem Ap.app {h l : Store} : Ap h (h ++ l) := ⟨l, rfl⟩
theorem Ap.trans {h h1 h2 : Store} (a : Ap h h1) (b : Ap h1 h2) : Ap h h2 := by
  obtain ⟨l, rfl⟩ := a
  obtain ⟨m, rfl⟩ := b
  exact ⟨l ++ m, List.append_assoc ..⟩
theorem Ap.set {h h1 : Store} {n : Nat} {o : O} (a : Ap h h1) (hn : h.length ≤ n) : Ap h (h1.set n o) := by
  obtain ⟨l, rfl⟩ := a
  exact ⟨l.set (n - h.length) o, by rw [List.set_append_right _ _ hn]⟩
theorem Ap.len {h h' : Store} (a : Ap h h') : h.length ≤ h'.length := by
  obtain ⟨l, rfl⟩ := a
  rw [List.length_append]
  omega
theorem Ap.get {h h' : Store} {n : Nat} {o : O} (a : Ap h h') (e : h[n]? = some o) : h'[n]? = some o := by
  obtain ⟨l, rfl⟩ := a
  obtain ⟨z, _⟩ := List.getElem?_eq_some_iff.mp e
  rw [List.getElem?_append_left z]
  exact e
theorem Ap.getL {h h' : Store} {n : Nat} {l : List D} (a : Ap h h') (e : G.getL h n = some l) : G.getL h' n = some l := by
  obtain ⟨m, rfl⟩ := a
  rw [getL_old (getL_lt e)]
  exact e
theorem IsR.ap {h h' : Store} {n : Nat} {p : Int} {R : List Tr} (r : IsR h n p R) (a : Ap h h') : IsR h' n p R := by
  obtain ⟨l, e1, e2⟩ := r
  exact ⟨l, a.get e1, a.getL e2⟩
theorem new_at {h : Store} {o : O} : (h ++ [o])[h.length]? = some o := by
  rw [List.getElem?_append_right (Nat.le_refl _), Nat.sub_self]
  rfl
/-- Rows(p, R) where nothing is wrong -/
theorem made_spec {h : Store} {r : Nat} {p : Int} {R : List Tr} (hr : getL h r = some (rowsD R)) (hz : R.length ≤ 100000) (hp : 1 ≤ p ∧ p ≤ 120) (hR : ∀ t ∈ R, okR p t = true) :
    WpX NoX (m_Rows_init [.ref h.length, .int p, .ref r] (h ++ [.ins 3 []])) fun d h' => d = .non ∧ IsR h' h.length p R ∧ Ap h h' := by
  refine init_spec (R := R) new_at (Ap.app.getL hr) hz (fun z => (z hp).elim) (fun _ k t ht hb _ => ?_) (fun _ _ => ⟨rfl, isR_made (by simp), ?_⟩)
  · rw [hR t (List.mem_of_getElem? ht)] at hb
    cases hb
  · exact (Ap.trans (Ap.set Ap.app (Nat.le_refl _)) Ap.app).set (Nat.le_refl _)
theorem f_addL {X : XQ} {h : Store} {Q : D → Store → Prop} {a b : Nat} {xs ys : List D} (e1 : getL h a = some xs) (e2 : getL h b = some ys) (hz : xs.length + ys.length ≤ 1000000) : WpX X (fAdd (.ref a) (.ref b) h) Q ↔ Q (.ref h.length) (h ++ [.lst (xs ++ ys)]) := by
  unfold fAdd
  dsimp only
  rw [e1, e2]
  dsimp only
  rw [if_pos (by rw [sizeLine_eq]; omega)]
  exact w_alloc
theorem rows_app {R S : List Tr} : rowsD R ++ rowsD S = rowsD (R ++ S) := by unfold rowsD; rw [List.map_append]
/-- o.with_more(S) -/
theorem more_spec {X : XQ} {h : Store} {Q : D → Store → Prop} {n m : Nat} {p : Int} {R S : List Tr} (r : IsR h n p R) (hp : 1 ≤ p ∧ p ≤ 120) (hR : ∀ t ∈ R, okR p t = true) (e : getL h m = some (rowsD S)) (hz : R.length + S.length ≤ 90000)
    (q1 : ∀ (k : Nat) (t : Tr) h', S[k]? = some t → okR p t = false → (∀ j t, j < k → S[j]? = some t → okR p t = true) → Ap h h' → X 2 (some [("index", .int ((R.length + k : Nat) : Int))]) h')
    (q2 : (∀ t ∈ S, okR p t = true) → ∀ h' n', IsR h' n' p (R ++ S) → Ap h h' → h.length ≤ n' → Q (.ref n') h') : WpX X (m_Rows_with_more [.ref n, .ref m] h) Q := by
  obtain ⟨l, e1, e2⟩ := r
  unfold m_Rows_with_more m_Rows_with_more_b
  walk_at "wps"
  simp only [of_ins e1, oq_some, lkp, lkr, e]
  walk_at "wps"
  have a1 : Ap h (h ++ [O.lst (rowsD S)]) := Ap.app
  rw [f_addL (a1.getL e2) getL_new (by rw [rows_len, rows_len]; omega), rows_app]
  have a2 : Ap h (h ++ [O.lst (rowsD S)] ++ [O.lst (rowsD (R ++ S))]) := a1.trans Ap.app
  have g2 : getL (h ++ [O.lst (rowsD S)] ++ [O.lst (rowsD (R ++ S))]) (h ++ [O.lst (rowsD S)]).length = some (rowsD (R ++ S)) := getL_new
  generalize hk : h ++ [O.lst (rowsD S)] ++ [O.lst (rowsD (R ++ S))] = h2 at a2 g2 ⊢
  generalize (h ++ [O.lst (rowsD S)]).length = r2 at g2 ⊢
  refine init_spec (R := R ++ S) new_at (Ap.app.getL g2) (by rw [List.length_append]; omega) (fun z => (z hp).elim) (fun _ k t ht hb hj => ?_) (fun _ hall => ⟨rfl, ?_⟩)
  · show X 2 _ _
    by_cases hk2 : k < R.length
    · rw [List.getElem?_append_left hk2] at ht
      rw [hR t (List.mem_of_getElem? ht)] at hb
      cases hb
    · rw [List.getElem?_append_right (by omega)] at ht
      have := q1 (k - R.length) t (h2 ++ [.ins 3 []]) ht hb (fun j s hjk hs => hj (R.length + j) s (by omega) (by rw [List.getElem?_append_right (by omega)]; rw [show R.length + j - R.length = j by omega]; exact hs)) (a2.trans Ap.app)
      rw [show R.length + (k - R.length) = k by omega] at this
      exact this
  · exact q2 (fun t ht => hall t (List.mem_append_right _ ht)) _ _ (isR_made (by simp)) (a2.trans ((Ap.trans (Ap.set Ap.app (Nat.le_refl _)) Ap.app).set (Nat.le_refl _))) a2.len
end K01

namespace K01
open PySem L2 G
local macro_rules | `(tactic| walk_at "wps") => `(tactic| try simp only [G.w_bnd, G.w_chain, G.w_wenum, G.en_fzl, G.en_ref, G.f_insert, G.f_tuple, G.w_getF, G.w_setF, G.w_makeX, G.w_make, G.w_methX, G.w_meth, G.f_lenO, G.w_addX, G.w_fldT, G.w_callX, G.w_fld, G.w_isE, G.w_bndS, G.q_ex, G.x_ex, G.w_raise, G.w_raise0, G.y_nx, G.y_rt, G.y_bk, G.y_ct, G.y_ex, G.w_try, G.w_cl0, G.w_cl1, G.st_nx, G.st_rt, G.st_bk, G.st_ct, G.cl_nx, G.cl_rt, G.cl_bk, G.cl_ct, G.w_su0, G.w_su1, G.n_ex, G.w_ret, G.w_ok, G.w_var, G.s_z, G.s_s, G.w_c, G.w_op, G.w_un, G.w_nil, G.w_cons, G.w_cb, G.w_call, G.w_tup, G.w_alloc, G.w_lst, G.b_bl, G.w_asBl, G.w_test, G.w_yes, G.w_and, G.w_or, G.w_not, G.w_andV, G.w_orV, G.w_notV, G.w_ifx, G.w_nop, G.i_int, G.w_part, G.w_sl, G.w_next, G.w_rt, G.w_rtN, G.w_brk, G.w_cont, G.w_drop, G.q_nx, G.q_rt, G.q_bk, G.q_ct, G.w_seq, G.w_ifS, G.w_set, G.g_some, G.w_asg, G.w_setIx, G.w_aug, G.n_rt, G.n_nx, G.w_fn, G.w_for, G.w_wseq, G.k_tup, G.k_fzl, G.k_ref, G.w_wr1, G.w_wr2, G.f_add, G.f_sub, G.f_addI, G.f_mul, G.f_div, G.f_mod, G.f_pow, G.f_neg, G.f_cmp, G.f_isB, G.f_notB, G.f_isN, G.f_notN, G.n_non, G.n_int, G.n_bl, G.n_ref, G.n_tup, G.f_eq, G.f_ne, G.ty_non, G.ty_bl, G.ty_int, G.ty_str, G.ty_tup, G.ty_fzl, G.kb_ii, G.kb_ib, G.kb_bi, G.kb_bb, G.kb_ni, G.kb_si, G.kb_li, G.kb_ti, G.kb_ll, G.kb_tl, G.kb_nl, G.kb_il, G.kb_bl, G.kb_sl, G.kb_tt, G.kb_lt, G.kb_nt, G.kb_it, G.kb_bt, G.kb_st, decide_eq_true_eq, Bool.not_eq_true', decide_eq_false_iff_not, ↓reduceIte, eq_self, Bool.false_eq_true, Bool.true_eq_false, reduceCtorEq, Bool.not_true, Bool.not_false, ne_eq, not_false_eq_true, G.f_abs, G.f_int, G.f_intB, G.f_max2, G.f_min2, G.f_gcd, G.it_tupD, G.it_fzlD, G.it_refD, G.f_ix, G.f_len, G.f_list, G.f_setItem, G.f_slF, G.f_slR, G.f_isi, G.f_app, G.w_bm, G.oq_some, G.w_lc, List.map_cons, List.map_nil, List.length_cons, List.length_nil, List.cons_append, List.nil_append, Nat.zero_add, List.replicate, Nat.sub_self, Nat.reduceAdd, Nat.reduceSub, List.set_cons_zero, List.set_cons_succ, Option.some.injEq, exists_eq_left', exists_eq_left, true_and, and_true, G.at_0, G.at_1, G.at_2, G.at_3, G.at_m1, G.ix1_0, G.ix2_0, G.ix2_1, G.ix3_0, G.ix3_1, G.ix3_2, List.length_set, List.set_set])
local macro_rules | `(tactic| walk_at "wpx") => `(tactic| try simp only [G.w_bnd, G.w_chain, G.w_wenum, G.en_fzl, G.en_ref, G.f_insert, G.f_tuple, G.w_getF, G.w_setF, G.w_makeX, G.w_make, G.w_methX, G.w_meth, G.f_lenO, G.w_addX, G.w_fldT, G.w_callX, G.w_fld, G.w_isE, G.w_bndS, G.q_ex, G.x_ex, G.w_raise, G.w_raise0, G.y_nx, G.y_rt, G.y_bk, G.y_ct, G.y_ex, G.w_try, G.w_cl0, G.w_cl1, G.st_nx, G.st_rt, G.st_bk, G.st_ct, G.cl_nx, G.cl_rt, G.cl_bk, G.cl_ct, G.w_su0, G.w_su1, G.n_ex, G.w_ret, G.w_ok, G.w_var, G.s_z, G.s_s, G.w_c, G.w_op, G.w_un, G.w_nil, G.w_cons, G.w_cb, G.w_call, G.w_tup, G.w_alloc, G.w_lst, G.b_bl, G.w_asBl, G.w_test, G.w_yes, G.w_and, G.w_or, G.w_not, G.w_andV, G.w_orV, G.w_notV, G.w_ifx, G.w_nop, G.i_int, G.w_part, G.w_sl, G.w_next, G.w_rt, G.w_rtN, G.w_brk, G.w_cont, G.w_drop, G.q_nx, G.q_rt, G.q_bk, G.q_ct, G.w_seq, G.w_ifS, G.w_set, G.g_some, G.w_asg, G.w_setIx, G.w_aug, G.n_rt, G.n_nx, G.w_fn, G.w_for, G.w_wseq, G.k_tup, G.k_fzl, G.k_ref, G.w_wr1, G.w_wr2, G.f_add, G.f_sub, G.f_addI, G.f_mul, G.f_div, G.f_mod, G.f_pow, G.f_neg, G.f_cmp, G.f_isB, G.f_notB, G.f_isN, G.f_notN, G.n_non, G.n_int, G.n_bl, G.n_ref, G.n_tup, G.f_eq, G.f_ne, G.ty_non, G.ty_bl, G.ty_int, G.ty_str, G.ty_tup, G.ty_fzl, G.kb_ii, G.kb_ib, G.kb_bi, G.kb_bb, G.kb_ni, G.kb_si, G.kb_li, G.kb_ti, G.kb_ll, G.kb_tl, G.kb_nl, G.kb_il, G.kb_bl, G.kb_sl, G.kb_tt, G.kb_lt, G.kb_nt, G.kb_it, G.kb_bt, G.kb_st, decide_eq_true_eq, Bool.not_eq_true', decide_eq_false_iff_not, ↓reduceIte, eq_self, Bool.false_eq_true, Bool.true_eq_false, reduceCtorEq, Bool.not_true, Bool.not_false, ne_eq, not_false_eq_true, G.f_abs, G.f_int, G.f_intB, G.f_max2, G.f_min2, G.f_gcd, G.it_tupD, G.it_fzlD, G.it_refD, G.f_ix, G.f_len, G.f_list, G.f_setItem, G.f_slF, G.f_slR, G.f_isi, G.f_app, G.w_bm, G.oq_some, G.w_lc, List.map_cons, List.map_nil, List.length_cons, List.length_nil, List.cons_append, List.nil_append, Nat.zero_add, List.replicate, Nat.sub_self, Nat.reduceAdd, Nat.reduceSub, List.set_cons_zero, List.set_cons_succ, Option.some.injEq, exists_eq_left', exists_eq_left, true_and, and_true, G.at_0, G.at_1, G.at_2, G.at_3, G.at_m1, G.ix1_0, G.ix2_0, G.ix2_1, G.ix3_0, G.ix3_1, G.ix3_2, List.length_set, List.set_set, *])
local macro_rules | `(tactic| walk_at "wpz") => `(tactic| try simp only [G.w_bnd, G.w_chain, G.w_wenum, G.en_fzl, G.en_ref, G.f_insert, G.f_tuple, G.w_getF, G.w_setF, G.w_makeX, G.w_make, G.w_methX, G.w_meth, G.f_lenO, G.w_addX, G.w_fldT, G.w_callX, G.w_fld, G.w_isE, G.w_bndS, G.q_ex, G.x_ex, G.w_raise, G.w_raise0, G.y_nx, G.y_rt, G.y_bk, G.y_ct, G.y_ex, G.w_try, G.w_cl0, G.w_cl1, G.st_nx, G.st_rt, G.st_bk, G.st_ct, G.cl_nx, G.cl_rt, G.cl_bk, G.cl_ct, G.w_su0, G.w_su1, G.n_ex, G.w_ret, G.w_ok, G.w_var, G.s_z, G.s_s, G.w_c, G.w_op, G.w_un, G.w_nil, G.w_cons, G.w_cb, G.w_call, G.w_tup, G.w_alloc, G.w_lst, G.b_bl, G.w_asBl, G.w_test, G.w_yes, G.w_and, G.w_or, G.w_not, G.w_andV, G.w_orV, G.w_notV, G.w_ifx, G.w_nop, G.i_int, G.w_part, G.w_sl, G.w_next, G.w_rt, G.w_rtN, G.w_brk, G.w_cont, G.w_drop, G.q_rt, G.q_bk, G.q_ct, G.w_seq, G.w_ifS, G.w_set, G.g_some, G.w_asg, G.w_setIx, G.w_aug, G.n_rt, G.n_nx, G.w_fn, G.w_for, G.w_wseq, G.k_tup, G.k_fzl, G.k_ref, G.w_wr1, G.w_wr2, G.f_add, G.f_sub, G.f_addI, G.f_mul, G.f_div, G.f_mod, G.f_pow, G.f_neg, G.f_cmp, G.f_isB, G.f_notB, G.f_isN, G.f_notN, G.n_non, G.n_int, G.n_bl, G.n_ref, G.n_tup, G.f_eq, G.f_ne, G.ty_non, G.ty_bl, G.ty_int, G.ty_str, G.ty_tup, G.ty_fzl, G.kb_ii, G.kb_ib, G.kb_bi, G.kb_bb, G.kb_ni, G.kb_si, G.kb_li, G.kb_ti, G.kb_ll, G.kb_tl, G.kb_nl, G.kb_il, G.kb_bl, G.kb_sl, G.kb_tt, G.kb_lt, G.kb_nt, G.kb_it, G.kb_bt, G.kb_st, decide_eq_true_eq, Bool.not_eq_true', decide_eq_false_iff_not, ↓reduceIte, eq_self, Bool.false_eq_true, Bool.true_eq_false, reduceCtorEq, Bool.not_true, Bool.not_false, ne_eq, not_false_eq_true, G.f_abs, G.f_int, G.f_intB, G.f_max2, G.f_min2, G.f_gcd, G.it_tupD, G.it_fzlD, G.it_refD, G.f_ix, G.f_len, G.f_list, G.f_setItem, G.f_slF, G.f_slR, G.f_isi, G.f_app, G.w_bm, G.oq_some, G.w_lc, List.map_cons, List.map_nil, List.length_cons, List.length_nil, List.cons_append, List.nil_append, Nat.zero_add, List.replicate, Nat.sub_self, Nat.reduceAdd, Nat.reduceSub, List.set_cons_zero, List.set_cons_succ, Option.some.injEq, exists_eq_left', exists_eq_left, true_and, and_true, G.at_0, G.at_1, G.at_2, G.at_3, G.at_m1, G.ix1_0, G.ix2_0, G.ix2_1, G.ix3_0, G.ix3_1, G.ix3_2, List.length_set, List.set_set])
def jp (mv i : Int) : Int := if i = 0 then 0 else i + mv
def mvR (mv : Int) (t : Tr) : Tr := (jp mv t.1, jp mv t.2.1, t.2.2)
theorem jp_spec {h : Store} {i mv : Int} : WpX NoX (m_joined_point [.int i, .int mv] h) fun d h' => d = .int (jp mv i) ∧ h' = h := by
  unfold m_joined_point m_joined_point_b jp
  walk_at "wps"
  split <;> simp
/-- a list of rows grows at its end -/
theorem app_rows {h : Store} {n : Nat} {R : List Tr} {t : Tr} : h.set n (.lst (rowsD R ++ [trD t])) = h.set n (.lst (rowsD (R ++ [t]))) := by unfold rowsD; rw [List.map_append]; rfl
theorem add_spec {X : XQ} {h : Store} {Q : D → Store → Prop} {n m : Nat} {p q : Int} {R S : List Tr} (r : IsR h n p R) (s : IsR h m q S) (hp : 1 ≤ p ∧ p ≤ 120) (hq : 1 ≤ q ∧ q ≤ 120) (hR : ∀ t ∈ R, okR p t = true) (hS : ∀ t ∈ S, okR q t = true) (hz : R.length + S.length ≤ 90000)
    (q1 : ¬ p + q - 1 ≤ 120 → ∀ h', Ap h h' → X 1 (some [("number", .int (p + q - 1))]) h')
    (q2 : p + q - 1 ≤ 120 → ∀ h' n', IsR h' n' (p + q - 1) (R ++ S.map (mvR (p - 1))) → Ap h h' → h.length ≤ n' → Q (.ref n') h') : WpX X (m_Rows_add [.ref n, .ref m] h) Q := by
  obtain ⟨l, e1, e2⟩ := r
  obtain ⟨l', e3, e4⟩ := s
  unfold m_Rows_add m_Rows_add_b
  rw [w_fn, w_seq]
  walk_at "wpz"
  rw [f_isC_ins e3]
  show oQ (some true) _
  walk_at "wpz"
  rw [q_nx, w_seq]
  walk_at "wpz"
  simp only [of_ins e1, oq_some, lkp, f_sub]
  rw [q_nx, w_seq]
  walk_at "wpz"
  simp only [of_ins e1, oq_some, lkr, it_refD, e2]
  rw [q_nx, w_seq]
  walk_at "wpz"
  have a1 : Ap h (h ++ [O.lst (rowsD R)]) := Ap.app
  simp only [of_ins (a1.get e3), oq_some, lkr, k_ref, a1.getL e4]
  refine for_inv (fun k ρ h' => (∃ d4 d5 d6, ρ = [some (.ref n), some (.ref m), some (.int (p - 1)), some (.ref h.length), d4, d5, d6]) ∧ Ap h h' ∧ getL h' h.length = some (rowsD (R ++ (S.take k).map (mvR (p - 1))))) ⟨⟨none, none, none, rfl⟩, a1, ?_⟩ ?_ ?_ ?_
  · rw [List.take_zero, List.map_nil, List.append_nil]
    exact getL_new
  · rintro k ρ h' _ ⟨_, a, _⟩
    exact decide_eq_true (a.getL e4)
  · rintro k d ρ h' hd ⟨⟨d4, d5, d6, rfl⟩, a, g⟩
    obtain ⟨t, ht, rfl⟩ := rows_get hd
    obtain ⟨i, j, c⟩ := t
    show goQ (some _) _
    rw [g_some]
    walk_at "wps"
    rw [g]
    walk_at "wps"
    refine jp_spec.imp ?_
    rintro _ _ ⟨rfl, rfl⟩
    walk_at "wps"
    refine jp_spec.imp ?_
    rintro _ _ ⟨rfl, rfl⟩
    walk_at "wps"
    rw [g]
    walk_at "wps"
    have tk : R ++ List.map (mvR (p - 1)) (List.take (k + 1) S) = (R ++ List.map (mvR (p - 1)) (List.take k S)) ++ [mvR (p - 1) (i, j, c)] := by
      rw [List.take_succ, ht, List.map_append, List.append_assoc]
      rfl
    have hlen : (R ++ List.map (mvR (p - 1)) (List.take k S)).length ≤ 90000 := by
      rw [List.length_append, List.length_map, List.length_take]
      omega
    have er : rowsD (R ++ List.map (mvR (p - 1)) (List.take k S)) ++ [D.tup [D.int (jp (p - 1) i), D.int (jp (p - 1) j), D.int c]] = rowsD (R ++ List.map (mvR (p - 1)) (List.take (k + 1) S)) := by
      rw [tk, ← rows_app (S := [mvR (p - 1) (i, j, c)])]
      rfl
    rw [er]
    refine ⟨line_small (by omega), by rw [rows_len, sizeLine_eq]; omega, ⟨_, _, _, rfl⟩, a.set (Nat.le_refl _), getL_set g⟩
  · rintro ρ h' ⟨⟨d4, d5, d6, rfl⟩, a, g⟩
    walk_at "wps"
    simp only [of_ins (a.get e1), of_ins (a.get e3), oq_some, lkp, f_add, f_sub]
    rw [rows_len, List.take_length] at g
    refine init_spec (R := R ++ S.map (mvR (p - 1))) new_at (Ap.app.getL g) (by rw [List.length_append, List.length_map]; omega) (fun z => ?_) (fun hpq k t ht hb _ => ?_) (fun hpq hall => ⟨rfl, ?_⟩)
    · exact q1 (fun y => z ⟨by omega, y⟩) _ (a.trans Ap.app)
    · exfalso
      have ok : okR (p + q - 1) t = true := by
        rcases List.mem_append.mp (List.mem_of_getElem? ht) with hm | hm
        · have := of_decide_eq_true (hR t hm)
          exact decide_eq_true (by omega)
        · obtain ⟨s, hs, rfl⟩ := List.mem_map.mp hm
          have := of_decide_eq_true (hS s hs)
          unfold mvR jp okR
          refine decide_eq_true ⟨?_, ?_⟩
          · dsimp only; split <;> omega
          · dsimp only; split <;> omega
      rw [ok] at hb
      cases hb
    · exact q2 hpq.2 _ _ (isR_made (by simp)) (a.trans ((Ap.trans (Ap.set Ap.app (Nat.le_refl _)) Ap.app).set (Nat.le_refl _))) a.len
end K01

namespace K01
open PySem L2 G
local macro_rules | `(tactic| walk_at "wps") => `(tactic| try simp only [G.w_bnd, G.w_chain, G.w_wenum, G.en_fzl, G.en_ref, G.f_insert, G.f_tuple, G.w_getF, G.w_setF, G.w_makeX, G.w_make, G.w_methX, G.w_meth, G.f_lenO, G.w_addX, G.w_fldT, G.w_callX, G.w_fld, G.w_isE, G.w_bndS, G.q_ex, G.x_ex, G.w_raise, G.w_raise0, G.y_nx, G.y_rt, G.y_bk, G.y_ct, G.y_ex, G.w_try, G.w_cl0, G.w_cl1, G.st_nx, G.st_rt, G.st_bk, G.st_ct, G.cl_nx, G.cl_rt, G.cl_bk, G.cl_ct, G.w_su0, G.w_su1, G.n_ex, G.w_ret, G.w_ok, G.w_var, G.s_z, G.s_s, G.w_c, G.w_op, G.w_un, G.w_nil, G.w_cons, G.w_cb, G.w_call, G.w_tup, G.w_alloc, G.w_lst, G.b_bl, G.w_asBl, G.w_test, G.w_yes, G.w_and, G.w_or, G.w_not, G.w_andV, G.w_orV, G.w_notV, G.w_ifx, G.w_nop, G.i_int, G.w_part, G.w_sl, G.w_next, G.w_rt, G.w_rtN, G.w_brk, G.w_cont, G.w_drop, G.q_nx, G.q_rt, G.q_bk, G.q_ct, G.w_seq, G.w_ifS, G.w_set, G.g_some, G.w_asg, G.w_setIx, G.w_aug, G.n_rt, G.n_nx, G.w_fn, G.w_for, G.w_wseq, G.k_tup, G.k_fzl, G.k_ref, G.w_wr1, G.w_wr2, G.f_add, G.f_sub, G.f_addI, G.f_mul, G.f_div, G.f_mod, G.f_pow, G.f_neg, G.f_cmp, G.f_isB, G.f_notB, G.f_isN, G.f_notN, G.n_non, G.n_int, G.n_bl, G.n_ref, G.n_tup, G.f_eq, G.f_ne, G.ty_non, G.ty_bl, G.ty_int, G.ty_str, G.ty_tup, G.ty_fzl, G.kb_ii, G.kb_ib, G.kb_bi, G.kb_bb, G.kb_ni, G.kb_si, G.kb_li, G.kb_ti, G.kb_ll, G.kb_tl, G.kb_nl, G.kb_il, G.kb_bl, G.kb_sl, G.kb_tt, G.kb_lt, G.kb_nt, G.kb_it, G.kb_bt, G.kb_st, decide_eq_true_eq, Bool.not_eq_true', decide_eq_false_iff_not, ↓reduceIte, eq_self, Bool.false_eq_true, Bool.true_eq_false, reduceCtorEq, Bool.not_true, Bool.not_false, ne_eq, not_false_eq_true, G.f_abs, G.f_int, G.f_intB, G.f_max2, G.f_min2, G.f_gcd, G.it_tupD, G.it_fzlD, G.it_refD, G.f_ix, G.f_len, G.f_list, G.f_setItem, G.f_slF, G.f_slR, G.f_isi, G.f_app, G.w_bm, G.oq_some, G.w_lc, List.map_cons, List.map_nil, List.length_cons, List.length_nil, List.cons_append, List.nil_append, Nat.zero_add, List.replicate, Nat.sub_self, Nat.reduceAdd, Nat.reduceSub, List.set_cons_zero, List.set_cons_succ, Option.some.injEq, exists_eq_left', exists_eq_left, true_and, and_true, G.at_0, G.at_1, G.at_2, G.at_3, G.at_m1, G.ix1_0, G.ix2_0, G.ix2_1, G.ix3_0, G.ix3_1, G.ix3_2, List.length_set, List.set_set])
local macro_rules | `(tactic| walk_at "wpx") => `(tactic| try simp only [G.w_bnd, G.w_chain, G.w_wenum, G.en_fzl, G.en_ref, G.f_insert, G.f_tuple, G.w_getF, G.w_setF, G.w_makeX, G.w_make, G.w_methX, G.w_meth, G.f_lenO, G.w_addX, G.w_fldT, G.w_callX, G.w_fld, G.w_isE, G.w_bndS, G.q_ex, G.x_ex, G.w_raise, G.w_raise0, G.y_nx, G.y_rt, G.y_bk, G.y_ct, G.y_ex, G.w_try, G.w_cl0, G.w_cl1, G.st_nx, G.st_rt, G.st_bk, G.st_ct, G.cl_nx, G.cl_rt, G.cl_bk, G.cl_ct, G.w_su0, G.w_su1, G.n_ex, G.w_ret, G.w_ok, G.w_var, G.s_z, G.s_s, G.w_c, G.w_op, G.w_un, G.w_nil, G.w_cons, G.w_cb, G.w_call, G.w_tup, G.w_alloc, G.w_lst, G.b_bl, G.w_asBl, G.w_test, G.w_yes, G.w_and, G.w_or, G.w_not, G.w_andV, G.w_orV, G.w_notV, G.w_ifx, G.w_nop, G.i_int, G.w_part, G.w_sl, G.w_next, G.w_rt, G.w_rtN, G.w_brk, G.w_cont, G.w_drop, G.q_nx, G.q_rt, G.q_bk, G.q_ct, G.w_seq, G.w_ifS, G.w_set, G.g_some, G.w_asg, G.w_setIx, G.w_aug, G.n_rt, G.n_nx, G.w_fn, G.w_for, G.w_wseq, G.k_tup, G.k_fzl, G.k_ref, G.w_wr1, G.w_wr2, G.f_add, G.f_sub, G.f_addI, G.f_mul, G.f_div, G.f_mod, G.f_pow, G.f_neg, G.f_cmp, G.f_isB, G.f_notB, G.f_isN, G.f_notN, G.n_non, G.n_int, G.n_bl, G.n_ref, G.n_tup, G.f_eq, G.f_ne, G.ty_non, G.ty_bl, G.ty_int, G.ty_str, G.ty_tup, G.ty_fzl, G.kb_ii, G.kb_ib, G.kb_bi, G.kb_bb, G.kb_ni, G.kb_si, G.kb_li, G.kb_ti, G.kb_ll, G.kb_tl, G.kb_nl, G.kb_il, G.kb_bl, G.kb_sl, G.kb_tt, G.kb_lt, G.kb_nt, G.kb_it, G.kb_bt, G.kb_st, decide_eq_true_eq, Bool.not_eq_true', decide_eq_false_iff_not, ↓reduceIte, eq_self, Bool.false_eq_true, Bool.true_eq_false, reduceCtorEq, Bool.not_true, Bool.not_false, ne_eq, not_false_eq_true, G.f_abs, G.f_int, G.f_intB, G.f_max2, G.f_min2, G.f_gcd, G.it_tupD, G.it_fzlD, G.it_refD, G.f_ix, G.f_len, G.f_list, G.f_setItem, G.f_slF, G.f_slR, G.f_isi, G.f_app, G.w_bm, G.oq_some, G.w_lc, List.map_cons, List.map_nil, List.length_cons, List.length_nil, List.cons_append, List.nil_append, Nat.zero_add, List.replicate, Nat.sub_self, Nat.reduceAdd, Nat.reduceSub, List.set_cons_zero, List.set_cons_succ, Option.some.injEq, exists_eq_left', exists_eq_left, true_and, and_true, G.at_0, G.at_1, G.at_2, G.at_3, G.at_m1, G.ix1_0, G.ix2_0, G.ix2_1, G.ix3_0, G.ix3_1, G.ix3_2, List.length_set, List.set_set, *])
local macro_rules | `(tactic| walk_at "wpz") => `(tactic| try simp only [G.w_bnd, G.w_chain, G.w_wenum, G.en_fzl, G.en_ref, G.f_insert, G.f_tuple, G.w_getF, G.w_setF, G.w_makeX, G.w_make, G.w_methX, G.w_meth, G.f_lenO, G.w_addX, G.w_fldT, G.w_callX, G.w_fld, G.w_isE, G.w_bndS, G.q_ex, G.x_ex, G.w_raise, G.w_raise0, G.y_nx, G.y_rt, G.y_bk, G.y_ct, G.y_ex, G.w_try, G.w_cl0, G.w_cl1, G.st_nx, G.st_rt, G.st_bk, G.st_ct, G.cl_nx, G.cl_rt, G.cl_bk, G.cl_ct, G.w_su0, G.w_su1, G.n_ex, G.w_ret, G.w_ok, G.w_var, G.s_z, G.s_s, G.w_c, G.w_op, G.w_un, G.w_nil, G.w_cons, G.w_cb, G.w_call, G.w_tup, G.w_alloc, G.w_lst, G.b_bl, G.w_asBl, G.w_test, G.w_yes, G.w_and, G.w_or, G.w_not, G.w_andV, G.w_orV, G.w_notV, G.w_ifx, G.w_nop, G.i_int, G.w_part, G.w_sl, G.w_next, G.w_rt, G.w_rtN, G.w_brk, G.w_cont, G.w_drop, G.q_rt, G.q_bk, G.q_ct, G.w_seq, G.w_ifS, G.w_set, G.g_some, G.w_asg, G.w_setIx, G.w_aug, G.n_rt, G.n_nx, G.w_fn, G.w_for, G.w_wseq, G.k_tup, G.k_fzl, G.k_ref, G.w_wr1, G.w_wr2, G.f_add, G.f_sub, G.f_addI, G.f_mul, G.f_div, G.f_mod, G.f_pow, G.f_neg, G.f_cmp, G.f_isB, G.f_notB, G.f_isN, G.f_notN, G.n_non, G.n_int, G.n_bl, G.n_ref, G.n_tup, G.f_eq, G.f_ne, G.ty_non, G.ty_bl, G.ty_int, G.ty_str, G.ty_tup, G.ty_fzl, G.kb_ii, G.kb_ib, G.kb_bi, G.kb_bb, G.kb_ni, G.kb_si, G.kb_li, G.kb_ti, G.kb_ll, G.kb_tl, G.kb_nl, G.kb_il, G.kb_bl, G.kb_sl, G.kb_tt, G.kb_lt, G.kb_nt, G.kb_it, G.kb_bt, G.kb_st, decide_eq_true_eq, Bool.not_eq_true', decide_eq_false_iff_not, ↓reduceIte, eq_self, Bool.false_eq_true, Bool.true_eq_false, reduceCtorEq, Bool.not_true, Bool.not_false, ne_eq, not_false_eq_true, G.f_abs, G.f_int, G.f_intB, G.f_max2, G.f_min2, G.f_gcd, G.it_tupD, G.it_fzlD, G.it_refD, G.f_ix, G.f_len, G.f_list, G.f_setItem, G.f_slF, G.f_slR, G.f_isi, G.f_app, G.w_bm, G.oq_some, G.w_lc, List.map_cons, List.map_nil, List.length_cons, List.length_nil, List.cons_append, List.nil_append, Nat.zero_add, List.replicate, Nat.sub_self, Nat.reduceAdd, Nat.reduceSub, List.set_cons_zero, List.set_cons_succ, Option.some.injEq, exists_eq_left', exists_eq_left, true_and, and_true, G.at_0, G.at_1, G.at_2, G.at_3, G.at_m1, G.ix1_0, G.ix2_0, G.ix2_1, G.ix3_0, G.ix3_1, G.ix3_2, List.length_set, List.set_set])
theorem ixtr0 {X : XQ} {h : Store} {Q : D → Store → Prop} {t : Tr} : WpX X (fIx (trD t) (.int 0) h) Q ↔ Q (.int t.1) h := by unfold trD; walk_at "wps"
theorem ixtr1 {X : XQ} {h : Store} {Q : D → Store → Prop} {t : Tr} : WpX X (fIx (trD t) (.int 1) h) Q ↔ Q (.int t.2.1) h := by unfold trD; walk_at "wps"
theorem ixtr2 {X : XQ} {h : Store} {Q : D → Store → Prop} {t : Tr} : WpX X (fIx (trD t) (.int 2) h) Q ↔ Q (.int t.2.2) h := by unfold trD; walk_at "wps"
theorem keeps_spec {h : Store} {r m : Nat} {p : Int} {R : List Tr} {zs : List Int} (hr : getL h r = some (rowsD R)) (hp : 1 ≤ p) (hR : ∀ t ∈ R, okR p t = true) (hz : R.length ≤ 100000) (e : getL h m = some (zs.map D.int)) :
    WpX NoX (m_law_keeps [.int p, .ref r, .ref m] h) fun d h' => d = .bl (keepsB p R zs) ∧ Ap h h' := by
  unfold m_law_keeps m_law_keeps_b
  rw [w_fn, w_seq]
  walk_at "wpz"
  simp only [e, oq_some, List.length_map, f_ne, b_bl]
  unfold keepsB
  by_cases c1 : (zs.length : Int) = p
  case neg =>
    rw [decide_eq_false c1]
    rw [if_pos (by simp [*])]
    walk_at "wps"
    exact ⟨rfl, Ap.refl _⟩
  rw [decide_eq_true c1]
  simp only [Bool.not_true, Bool.true_and]
  rw [if_neg (by simp [c1]), at_ints (by omega) (by omega)]
  simp only [oq_some, f_ne, b_bl, Int.toNat_zero]
  by_cases c2 : zs.getD 0 0 = 0
  case neg =>
    rw [decide_eq_false c2]
    rw [if_pos (by simp [*])]
    walk_at "wps"
    exact ⟨rfl, Ap.refl _⟩
  rw [decide_eq_true c2]
  simp only [Bool.not_true, Bool.true_and]
  rw [if_neg (by simp [c2]), q_nx]
  walk_at "wps"
  simp only [hr, k_ref, oq_some]
  refine ⟨by rw [rows_len]; omega, ?_⟩
  refine lc_inv (fun k acc h' => h' = h ∧ (acc = [] ↔ ∀ j t, j < k → R[j]? = some t → ¬ (zs.getD t.2.1.toNat 0 - zs.getD t.1.toNat 0 < t.2.2))) ⟨rfl, ⟨fun _ j t hj => absurd hj (by omega), fun _ => rfl⟩⟩ ?_ ?_ ?_
  · rintro k acc h' _ ⟨rfl, _⟩
    exact decide_eq_true hr
  · rintro k d acc h' hd ⟨rfl, hk⟩
    obtain ⟨t, ht, rfl⟩ := rows_get hd
    have ok := of_decide_eq_true (hR t (List.mem_of_getElem? ht))
    obtain ⟨i, j, c⟩ := t
    simp only at ok
    show goQ (some _) _
    unfold wipeD wipeD
    rw [g_some]
    simp only [trD]
    walk_at "wps"
    have a0 : ∀ a b d : D, atI [a, b, d] 0 = some a := fun _ _ _ => rfl
    have a1 : ∀ a b d : D, atI [a, b, d] 1 = some b := fun _ _ _ => rfl
    have a2 : ∀ a b d : D, atI [a, b, d] 2 = some d := fun _ _ _ => rfl
    simp only [it_tup, oq_some, a0, a1, a2, f_ix, k_ref, it_refD, e, at_ints (zs := zs) ok.2.1 (by omega), at_ints (zs := zs) ok.1.1 (by omega), f_sub, f_cmp, b_bl]
    by_cases c3 : zs.getD j.toNat 0 - zs.getD i.toNat 0 < c
    · rw [if_pos (decide_eq_true c3)]
      refine ⟨trivial, ⟨fun z => absurd z (by simp), fun H => absurd c3 (H k _ (by omega) ht)⟩⟩
    · rw [if_neg (fun z => c3 (of_decide_eq_true z))]
      refine ⟨trivial, hk.trans ⟨fun H a t ha e' => ?_, fun H a t ha e' => H a t (by omega) e'⟩⟩
      rcases Nat.lt_succ_iff_lt_or_eq.mp ha with y | rfl
      · exact H a t y e'
      · rw [ht] at e'
        obtain rfl := Option.some.inj e'
        exact c3
  · rintro acc h' ⟨rfl, hk⟩
    walk_at "wps"
    rw [getL_new, oq_some]
    refine ⟨?_, Ap.app⟩
    congr 1
    rw [Bool.eq_iff_iff]
    rw [decide_eq_true_iff, List.all_eq_true]
    rw [rows_len] at hk
    have : ((acc.length : Int) = 0) ↔ acc = [] := by
      cases acc <;> simp <;> omega
    rw [this, hk]
    constructor
    · intro H t ht
      obtain ⟨j, hj⟩ := List.getElem?_of_mem ht
      have := H j t (by have := (List.getElem?_eq_some_iff.mp hj).1; exact this) hj
      simp only [Bool.not_eq_true', decide_eq_false_iff_not]
      exact this
    · intro H j t _ ht
      have := H t (List.mem_of_getElem? ht)
      simp only [Bool.not_eq_true', decide_eq_false_iff_not] at this
      exact this
end K01

namespace K01
open PySem L2 G
local macro_rules | `(tactic| walk_at "wps") => `(tactic| try simp only [G.w_bnd, G.w_chain, G.w_wenum, G.en_fzl, G.en_ref, G.f_insert, G.f_tuple, G.w_getF, G.w_setF, G.w_makeX, G.w_make, G.w_methX, G.w_meth, G.f_lenO, G.w_addX, G.w_fldT, G.w_callX, G.w_fld, G.w_isE, G.w_bndS, G.q_ex, G.x_ex, G.w_raise, G.w_raise0, G.y_nx, G.y_rt, G.y_bk, G.y_ct, G.y_ex, G.w_try, G.w_cl0, G.w_cl1, G.st_nx, G.st_rt, G.st_bk, G.st_ct, G.cl_nx, G.cl_rt, G.cl_bk, G.cl_ct, G.w_su0, G.w_su1, G.n_ex, G.w_ret, G.w_ok, G.w_var, G.s_z, G.s_s, G.w_c, G.w_op, G.w_un, G.w_nil, G.w_cons, G.w_cb, G.w_call, G.w_tup, G.w_alloc, G.w_lst, G.b_bl, G.w_asBl, G.w_test, G.w_yes, G.w_and, G.w_or, G.w_not, G.w_andV, G.w_orV, G.w_notV, G.w_ifx, G.w_nop, G.i_int, G.w_part, G.w_sl, G.w_next, G.w_rt, G.w_rtN, G.w_brk, G.w_cont, G.w_drop, G.q_nx, G.q_rt, G.q_bk, G.q_ct, G.w_seq, G.w_ifS, G.w_set, G.g_some, G.w_asg, G.w_setIx, G.w_aug, G.n_rt, G.n_nx, G.w_fn, G.w_for, G.w_wseq, G.k_tup, G.k_fzl, G.k_ref, G.w_wr1, G.w_wr2, G.f_add, G.f_sub, G.f_addI, G.f_mul, G.f_div, G.f_mod, G.f_pow, G.f_neg, G.f_cmp, G.f_isB, G.f_notB, G.f_isN, G.f_notN, G.n_non, G.n_int, G.n_bl, G.n_ref, G.n_tup, G.f_eq, G.f_ne, G.ty_non, G.ty_bl, G.ty_int, G.ty_str, G.ty_tup, G.ty_fzl, G.kb_ii, G.kb_ib, G.kb_bi, G.kb_bb, G.kb_ni, G.kb_si, G.kb_li, G.kb_ti, G.kb_ll, G.kb_tl, G.kb_nl, G.kb_il, G.kb_bl, G.kb_sl, G.kb_tt, G.kb_lt, G.kb_nt, G.kb_it, G.kb_bt, G.kb_st, decide_eq_true_eq, Bool.not_eq_true', decide_eq_false_iff_not, ↓reduceIte, eq_self, Bool.false_eq_true, Bool.true_eq_false, reduceCtorEq, Bool.not_true, Bool.not_false, ne_eq, not_false_eq_true, G.f_abs, G.f_int, G.f_intB, G.f_max2, G.f_min2, G.f_gcd, G.it_tupD, G.it_fzlD, G.it_refD, G.f_ix, G.f_len, G.f_list, G.f_setItem, G.f_slF, G.f_slR, G.f_isi, G.f_app, G.w_bm, G.oq_some, G.w_lc, List.map_cons, List.map_nil, List.length_cons, List.length_nil, List.cons_append, List.nil_append, Nat.zero_add, List.replicate, Nat.sub_self, Nat.reduceAdd, Nat.reduceSub, List.set_cons_zero, List.set_cons_succ, Option.some.injEq, exists_eq_left', exists_eq_left, true_and, and_true, G.at_0, G.at_1, G.at_2, G.at_3, G.at_m1, G.ix1_0, G.ix2_0, G.ix2_1, G.ix3_0, G.ix3_1, G.ix3_2, List.length_set, List.set_set])
local macro_rules | `(tactic| walk_at "wpx") => `(tactic| try simp only [G.w_bnd, G.w_chain, G.w_wenum, G.en_fzl, G.en_ref, G.f_insert, G.f_tuple, G.w_getF, G.w_setF, G.w_makeX, G.w_make, G.w_methX, G.w_meth, G.f_lenO, G.w_addX, G.w_fldT, G.w_callX, G.w_fld, G.w_isE, G.w_bndS, G.q_ex, G.x_ex, G.w_raise, G.w_raise0, G.y_nx, G.y_rt, G.y_bk, G.y_ct, G.y_ex, G.w_try, G.w_cl0, G.w_cl1, G.st_nx, G.st_rt, G.st_bk, G.st_ct, G.cl_nx, G.cl_rt, G.cl_bk, G.cl_ct, G.w_su0, G.w_su1, G.n_ex, G.w_ret, G.w_ok, G.w_var, G.s_z, G.s_s, G.w_c, G.w_op, G.w_un, G.w_nil, G.w_cons, G.w_cb, G.w_call, G.w_tup, G.w_alloc, G.w_lst, G.b_bl, G.w_asBl, G.w_test, G.w_yes, G.w_and, G.w_or, G.w_not, G.w_andV, G.w_orV, G.w_notV, G.w_ifx, G.w_nop, G.i_int, G.w_part, G.w_sl, G.w_next, G.w_rt, G.w_rtN, G.w_brk, G.w_cont, G.w_drop, G.q_nx, G.q_rt, G.q_bk, G.q_ct, G.w_seq, G.w_ifS, G.w_set, G.g_some, G.w_asg, G.w_setIx, G.w_aug, G.n_rt, G.n_nx, G.w_fn, G.w_for, G.w_wseq, G.k_tup, G.k_fzl, G.k_ref, G.w_wr1, G.w_wr2, G.f_add, G.f_sub, G.f_addI, G.f_mul, G.f_div, G.f_mod, G.f_pow, G.f_neg, G.f_cmp, G.f_isB, G.f_notB, G.f_isN, G.f_notN, G.n_non, G.n_int, G.n_bl, G.n_ref, G.n_tup, G.f_eq, G.f_ne, G.ty_non, G.ty_bl, G.ty_int, G.ty_str, G.ty_tup, G.ty_fzl, G.kb_ii, G.kb_ib, G.kb_bi, G.kb_bb, G.kb_ni, G.kb_si, G.kb_li, G.kb_ti, G.kb_ll, G.kb_tl, G.kb_nl, G.kb_il, G.kb_bl, G.kb_sl, G.kb_tt, G.kb_lt, G.kb_nt, G.kb_it, G.kb_bt, G.kb_st, decide_eq_true_eq, Bool.not_eq_true', decide_eq_false_iff_not, ↓reduceIte, eq_self, Bool.false_eq_true, Bool.true_eq_false, reduceCtorEq, Bool.not_true, Bool.not_false, ne_eq, not_false_eq_true, G.f_abs, G.f_int, G.f_intB, G.f_max2, G.f_min2, G.f_gcd, G.it_tupD, G.it_fzlD, G.it_refD, G.f_ix, G.f_len, G.f_list, G.f_setItem, G.f_slF, G.f_slR, G.f_isi, G.f_app, G.w_bm, G.oq_some, G.w_lc, List.map_cons, List.map_nil, List.length_cons, List.length_nil, List.cons_append, List.nil_append, Nat.zero_add, List.replicate, Nat.sub_self, Nat.reduceAdd, Nat.reduceSub, List.set_cons_zero, List.set_cons_succ, Option.some.injEq, exists_eq_left', exists_eq_left, true_and, and_true, G.at_0, G.at_1, G.at_2, G.at_3, G.at_m1, G.ix1_0, G.ix2_0, G.ix2_1, G.ix3_0, G.ix3_1, G.ix3_2, List.length_set, List.set_set, *])
local macro_rules | `(tactic| walk_at "wpz") => `(tactic| try simp only [G.w_bnd, G.w_chain, G.w_wenum, G.en_fzl, G.en_ref, G.f_insert, G.f_tuple, G.w_getF, G.w_setF, G.w_makeX, G.w_make, G.w_methX, G.w_meth, G.f_lenO, G.w_addX, G.w_fldT, G.w_callX, G.w_fld, G.w_isE, G.w_bndS, G.q_ex, G.x_ex, G.w_raise, G.w_raise0, G.y_nx, G.y_rt, G.y_bk, G.y_ct, G.y_ex, G.w_try, G.w_cl0, G.w_cl1, G.st_nx, G.st_rt, G.st_bk, G.st_ct, G.cl_nx, G.cl_rt, G.cl_bk, G.cl_ct, G.w_su0, G.w_su1, G.n_ex, G.w_ret, G.w_ok, G.w_var, G.s_z, G.s_s, G.w_c, G.w_op, G.w_un, G.w_nil, G.w_cons, G.w_cb, G.w_call, G.w_tup, G.w_alloc, G.w_lst, G.b_bl, G.w_asBl, G.w_test, G.w_yes, G.w_and, G.w_or, G.w_not, G.w_andV, G.w_orV, G.w_notV, G.w_ifx, G.w_nop, G.i_int, G.w_part, G.w_sl, G.w_next, G.w_rt, G.w_rtN, G.w_brk, G.w_cont, G.w_drop, G.q_rt, G.q_bk, G.q_ct, G.w_seq, G.w_ifS, G.w_set, G.g_some, G.w_asg, G.w_setIx, G.w_aug, G.n_rt, G.n_nx, G.w_fn, G.w_for, G.w_wseq, G.k_tup, G.k_fzl, G.k_ref, G.w_wr1, G.w_wr2, G.f_add, G.f_sub, G.f_addI, G.f_mul, G.f_div, G.f_mod, G.f_pow, G.f_neg, G.f_cmp, G.f_isB, G.f_notB, G.f_isN, G.f_notN, G.n_non, G.n_int, G.n_bl, G.n_ref, G.n_tup, G.f_eq, G.f_ne, G.ty_non, G.ty_bl, G.ty_int, G.ty_str, G.ty_tup, G.ty_fzl, G.kb_ii, G.kb_ib, G.kb_bi, G.kb_bb, G.kb_ni, G.kb_si, G.kb_li, G.kb_ti, G.kb_ll, G.kb_tl, G.kb_nl, G.kb_il, G.kb_bl, G.kb_sl, G.kb_tt, G.kb_lt, G.kb_nt, G.kb_it, G.kb_bt, G.kb_st, decide_eq_true_eq, Bool.not_eq_true', decide_eq_false_iff_not, ↓reduceIte, eq_self, Bool.false_eq_true, Bool.true_eq_false, reduceCtorEq, Bool.not_true, Bool.not_false, ne_eq, not_false_eq_true, G.f_abs, G.f_int, G.f_intB, G.f_max2, G.f_min2, G.f_gcd, G.it_tupD, G.it_fzlD, G.it_refD, G.f_ix, G.f_len, G.f_list, G.f_setItem, G.f_slF, G.f_slR, G.f_isi, G.f_app, G.w_bm, G.oq_some, G.w_lc, List.map_cons, List.map_nil, List.length_cons, List.length_nil, List.cons_append, List.nil_append, Nat.zero_add, List.replicate, Nat.sub_self, Nat.reduceAdd, Nat.reduceSub, List.set_cons_zero, List.set_cons_succ, Option.some.injEq, exists_eq_left', exists_eq_left, true_and, and_true, G.at_0, G.at_1, G.at_2, G.at_3, G.at_m1, G.ix1_0, G.ix2_0, G.ix2_1, G.ix3_0, G.ix3_1, G.ix3_2, List.length_set, List.set_set])
theorem enum_at {l : List D} {k : Nat} {d : D} (hd : (enumD l)[k]? = some d) : ∃ y, l[k]? = some y ∧ d = .tup [.int (k : Int), y] := by
  rw [enum_get] at hd
  obtain ⟨y, hy, rfl⟩ := Option.map_eq_some_iff.mp hd
  exact ⟨y, hy, rfl⟩
theorem lints_sp {h : Store} {n : Nat} {zs : List Int} (e : getL h n = some (zs.map D.int)) (hz : zs.length ≤ 1000000) : WpX NoX (m_law_ints [.ref n] h) fun d h' => d = .bl true ∧ h' = h ++ [.lst []] := G.lints_spec e hz
theorem at_nat {l : List D} {k : Nat} {d : D} (e : l[k]? = some d) : atI l (k : Int) = some d := atI_nat e
theorem tells_spec {h0 : Store} {n m : Nat} {p : Int} {R : List Tr} (r : IsR h0 n p R) (e : getL h0 m = some (rowsD R)) (hz : R.length ≤ 100000) :
    WpX NoX (m_law_tells [.ref n, .int p, .ref m] h0) fun d h' => d = .bl true ∧ Ap h0 h' := by
  have r0 := r
  obtain ⟨l, e1, e2⟩ := r
  have r : IsR h0 n p R := ⟨l, e1, e2⟩
  unfold m_law_tells m_law_tells_b
  rw [w_fn, w_seq]
  walk_at "wpz"
  rw [f_isC_ins e1]
  show oQ (some true) _
  walk_at "wpz"
  simp only [of_ins e1, oq_some, lkp]
  refine (lint_sp (d := .int p) rfl).imp ?_
  rintro _ h ⟨rfl, e0⟩
  obtain rfl : h0 = h := e0.symm
  walk_at "wpz"
  rw [q_nx, w_seq]
  walk_at "wpz"
  simp only [of_ins e1, oq_some, lkp, f_ne, b_bl]
  rw [if_neg (by simp), f_insC e1, f_lenO]
  refine WpX.of (len_spec r) ?_
  refine ⟨by omega, ?_⟩
  walk_at "wpz"
  simp only [e, oq_some, rows_len, f_ne, b_bl]
  rw [if_neg (by simp), q_nx, w_seq]
  walk_at "wpz"
  refine ⟨2, rfl, by decide, by decide, ?_⟩
  refine for_inv (fun k ρ h1 => (∃ d3 d4 d5 d6, ρ = [some (.ref n), some (.int p), some (.ref m), d3, d4, d5, d6]) ∧ Ap h0 h1) ⟨⟨none, none, none, none, rfl⟩, Ap.refl _⟩ ?_ ?_ ?_
  · rintro k ρ h' _ _
    rfl
  · rintro k d ρ h' hd ⟨⟨d3, d4, d5, d6, rfl⟩, a⟩
    show goQ (some _) _
    rw [g_some, w_seq]
    walk_at "wpz"
    have r' := r.ap a
    have e1' := a.get e1
    have e2' := a.getL e2
    have e' := a.getL e
    rw [f_listG e1' lkr e2' (len_spec r') (by omega) e2' (by rw [rows_len, sizeLine_eq]; omega), q_nx, w_seq]
    have a1 : Ap h0 (h' ++ [O.lst (rowsD R)]) := a.trans Ap.app
    walk_at "wpz"
    simp only [getL_new, a1.getL e, oq_some, f_ne, b_bl]
    rw [if_neg (by simp), q_nx]
    walk_at "wpz"
    have g0 : getL (h' ++ [O.lst (rowsD R)]) h'.length = some (rowsD R) := getL_new
    simp only [en_ref, g0, oq_some]
    refine for_inv (fun k ρ h1 => (∃ d3 d5 d6, ρ = [some (.ref n), some (.int p), some (.ref m), d3, some (.ref h'.length), d5, d6]) ∧ Ap (h' ++ [O.lst (rowsD R)]) h1) ⟨⟨_, _, _, rfl⟩, Ap.refl _⟩ ?_ ?_ ?_
    · rintro k ρ h1 _ ⟨_, b⟩
      exact decide_eq_true (b.getL g0)
    · rintro k d ρ h1 hd ⟨⟨d3, d5, d6, rfl⟩, b⟩
      obtain ⟨y, hy, rfl⟩ := enum_at hd
      obtain ⟨t, ht, rfl⟩ := rows_get hy
      show goQ (some _) _
      rw [g_some]
      obtain ⟨i, j, c⟩ := t
      unfold trD at hy ⊢
      walk_at "wps"
      have g1 := (a1.trans b).getL e
      refine (lints_sp (zs := [i, j, c]) getL_new (by simp)).imp ?_
      rintro _ _ ⟨rfl, rfl⟩
      have b2 : Ap (h' ++ [O.lst (rowsD R)]) (h1 ++ [O.lst [D.int i, D.int j, D.int c]] ++ [O.lst []]) := (b.trans Ap.app).trans Ap.app
      simp only [List.map_cons, List.map_nil, b_bl]
      rw [if_neg (by simp), (a1.trans b2).getL e, oq_some, at_nat hy, oq_some]
      rw [show D.tup [D.int i, D.int j, D.int c] = trD (i, j, c) from rfl]
      show WpX _ (fEq true (trD (i, j, c)) (trD (i, j, c)) _) _
      rw [feq_tr, b_bl, if_neg (by simp)]
      exact ⟨⟨_, _, _, rfl⟩, b2⟩
    · rintro ρ h1 ⟨⟨d3, d5, d6, rfl⟩, b⟩
      refine ⟨⟨d3, _, d5, d6, rfl⟩, a1.trans b⟩
  · rintro ρ h1 ⟨⟨d3, d4, d5, d6, rfl⟩, a⟩
    walk_at "wps"
    exact a
end K01

namespace K01
open PySem L2 G
local macro_rules | `(tactic| walk_at "wps") => `(tactic| try simp only [G.w_bnd, G.w_chain, G.w_wenum, G.en_fzl, G.en_ref, G.f_insert, G.f_tuple, G.w_getF, G.w_setF, G.w_makeX, G.w_make, G.w_methX, G.w_meth, G.f_lenO, G.w_addX, G.w_fldT, G.w_callX, G.w_fld, G.w_isE, G.w_bndS, G.q_ex, G.x_ex, G.w_raise, G.w_raise0, G.y_nx, G.y_rt, G.y_bk, G.y_ct, G.y_ex, G.w_try, G.w_cl0, G.w_cl1, G.st_nx, G.st_rt, G.st_bk, G.st_ct, G.cl_nx, G.cl_rt, G.cl_bk, G.cl_ct, G.w_su0, G.w_su1, G.n_ex, G.w_ret, G.w_ok, G.w_var, G.s_z, G.s_s, G.w_c, G.w_op, G.w_un, G.w_nil, G.w_cons, G.w_cb, G.w_call, G.w_tup, G.w_alloc, G.w_lst, G.b_bl, G.w_asBl, G.w_test, G.w_yes, G.w_and, G.w_or, G.w_not, G.w_andV, G.w_orV, G.w_notV, G.w_ifx, G.w_nop, G.i_int, G.w_part, G.w_sl, G.w_next, G.w_rt, G.w_rtN, G.w_brk, G.w_cont, G.w_drop, G.q_nx, G.q_rt, G.q_bk, G.q_ct, G.w_seq, G.w_ifS, G.w_set, G.g_some, G.w_asg, G.w_setIx, G.w_aug, G.n_rt, G.n_nx, G.w_fn, G.w_for, G.w_wseq, G.k_tup, G.k_fzl, G.k_ref, G.w_wr1, G.w_wr2, G.f_add, G.f_sub, G.f_addI, G.f_mul, G.f_div, G.f_mod, G.f_pow, G.f_neg, G.f_cmp, G.f_isB, G.f_notB, G.f_isN, G.f_notN, G.n_non, G.n_int, G.n_bl, G.n_ref, G.n_tup, G.f_eq, G.f_ne, G.ty_non, G.ty_bl, G.ty_int, G.ty_str, G.ty_tup, G.ty_fzl, G.kb_ii, G.kb_ib, G.kb_bi, G.kb_bb, G.kb_ni, G.kb_si, G.kb_li, G.kb_ti, G.kb_ll, G.kb_tl, G.kb_nl, G.kb_il, G.kb_bl, G.kb_sl, G.kb_tt, G.kb_lt, G.kb_nt, G.kb_it, G.kb_bt, G.kb_st, decide_eq_true_eq, Bool.not_eq_true', decide_eq_false_iff_not, ↓reduceIte, eq_self, Bool.false_eq_true, Bool.true_eq_false, reduceCtorEq, Bool.not_true, Bool.not_false, ne_eq, not_false_eq_true, G.f_abs, G.f_int, G.f_intB, G.f_max2, G.f_min2, G.f_gcd, G.it_tupD, G.it_fzlD, G.it_refD, G.f_ix, G.f_len, G.f_list, G.f_setItem, G.f_slF, G.f_slR, G.f_isi, G.f_app, G.w_bm, G.oq_some, G.w_lc, List.map_cons, List.map_nil, List.length_cons, List.length_nil, List.cons_append, List.nil_append, Nat.zero_add, List.replicate, Nat.sub_self, Nat.reduceAdd, Nat.reduceSub, List.set_cons_zero, List.set_cons_succ, Option.some.injEq, exists_eq_left', exists_eq_left, true_and, and_true, G.at_0, G.at_1, G.at_2, G.at_3, G.at_m1, G.ix1_0, G.ix2_0, G.ix2_1, G.ix3_0, G.ix3_1, G.ix3_2, List.length_set, List.set_set])
local macro_rules | `(tactic| walk_at "wpx") => `(tactic| try simp only [G.w_bnd, G.w_chain, G.w_wenum, G.en_fzl, G.en_ref, G.f_insert, G.f_tuple, G.w_getF, G.w_setF, G.w_makeX, G.w_make, G.w_methX, G.w_meth, G.f_lenO, G.w_addX, G.w_fldT, G.w_callX, G.w_fld, G.w_isE, G.w_bndS, G.q_ex, G.x_ex, G.w_raise, G.w_raise0, G.y_nx, G.y_rt, G.y_bk, G.y_ct, G.y_ex, G.w_try, G.w_cl0, G.w_cl1, G.st_nx, G.st_rt, G.st_bk, G.st_ct, G.cl_nx, G.cl_rt, G.cl_bk, G.cl_ct, G.w_su0, G.w_su1, G.n_ex, G.w_ret, G.w_ok, G.w_var, G.s_z, G.s_s, G.w_c, G.w_op, G.w_un, G.w_nil, G.w_cons, G.w_cb, G.w_call, G.w_tup, G.w_alloc, G.w_lst, G.b_bl, G.w_asBl, G.w_test, G.w_yes, G.w_and, G.w_or, G.w_not, G.w_andV, G.w_orV, G.w_notV, G.w_ifx, G.w_nop, G.i_int, G.w_part, G.w_sl, G.w_next, G.w_rt, G.w_rtN, G.w_brk, G.w_cont, G.w_drop, G.q_nx, G.q_rt, G.q_bk, G.q_ct, G.w_seq, G.w_ifS, G.w_set, G.g_some, G.w_asg, G.w_setIx, G.w_aug, G.n_rt, G.n_nx, G.w_fn, G.w_for, G.w_wseq, G.k_tup, G.k_fzl, G.k_ref, G.w_wr1, G.w_wr2, G.f_add, G.f_sub, G.f_addI, G.f_mul, G.f_div, G.f_mod, G.f_pow, G.f_neg, G.f_cmp, G.f_isB, G.f_notB, G.f_isN, G.f_notN, G.n_non, G.n_int, G.n_bl, G.n_ref, G.n_tup, G.f_eq, G.f_ne, G.ty_non, G.ty_bl, G.ty_int, G.ty_str, G.ty_tup, G.ty_fzl, G.kb_ii, G.kb_ib, G.kb_bi, G.kb_bb, G.kb_ni, G.kb_si, G.kb_li, G.kb_ti, G.kb_ll, G.kb_tl, G.kb_nl, G.kb_il, G.kb_bl, G.kb_sl, G.kb_tt, G.kb_lt, G.kb_nt, G.kb_it, G.kb_bt, G.kb_st, decide_eq_true_eq, Bool.not_eq_true', decide_eq_false_iff_not, ↓reduceIte, eq_self, Bool.false_eq_true, Bool.true_eq_false, reduceCtorEq, Bool.not_true, Bool.not_false, ne_eq, not_false_eq_true, G.f_abs, G.f_int, G.f_intB, G.f_max2, G.f_min2, G.f_gcd, G.it_tupD, G.it_fzlD, G.it_refD, G.f_ix, G.f_len, G.f_list, G.f_setItem, G.f_slF, G.f_slR, G.f_isi, G.f_app, G.w_bm, G.oq_some, G.w_lc, List.map_cons, List.map_nil, List.length_cons, List.length_nil, List.cons_append, List.nil_append, Nat.zero_add, List.replicate, Nat.sub_self, Nat.reduceAdd, Nat.reduceSub, List.set_cons_zero, List.set_cons_succ, Option.some.injEq, exists_eq_left', exists_eq_left, true_and, and_true, G.at_0, G.at_1, G.at_2, G.at_3, G.at_m1, G.ix1_0, G.ix2_0, G.ix2_1, G.ix3_0, G.ix3_1, G.ix3_2, List.length_set, List.set_set, *])
local macro_rules | `(tactic| walk_at "wpz") => `(tactic| try simp only [G.w_bnd, G.w_chain, G.w_wenum, G.en_fzl, G.en_ref, G.f_insert, G.f_tuple, G.w_getF, G.w_setF, G.w_makeX, G.w_make, G.w_methX, G.w_meth, G.f_lenO, G.w_addX, G.w_fldT, G.w_callX, G.w_fld, G.w_isE, G.w_bndS, G.q_ex, G.x_ex, G.w_raise, G.w_raise0, G.y_nx, G.y_rt, G.y_bk, G.y_ct, G.y_ex, G.w_try, G.w_cl0, G.w_cl1, G.st_nx, G.st_rt, G.st_bk, G.st_ct, G.cl_nx, G.cl_rt, G.cl_bk, G.cl_ct, G.w_su0, G.w_su1, G.n_ex, G.w_ret, G.w_ok, G.w_var, G.s_z, G.s_s, G.w_c, G.w_op, G.w_un, G.w_nil, G.w_cons, G.w_cb, G.w_call, G.w_tup, G.w_alloc, G.w_lst, G.b_bl, G.w_asBl, G.w_test, G.w_yes, G.w_and, G.w_or, G.w_not, G.w_andV, G.w_orV, G.w_notV, G.w_ifx, G.w_nop, G.i_int, G.w_part, G.w_sl, G.w_next, G.w_rt, G.w_rtN, G.w_brk, G.w_cont, G.w_drop, G.q_rt, G.q_bk, G.q_ct, G.w_seq, G.w_ifS, G.w_set, G.g_some, G.w_asg, G.w_setIx, G.w_aug, G.n_rt, G.n_nx, G.w_fn, G.w_for, G.w_wseq, G.k_tup, G.k_fzl, G.k_ref, G.w_wr1, G.w_wr2, G.f_add, G.f_sub, G.f_addI, G.f_mul, G.f_div, G.f_mod, G.f_pow, G.f_neg, G.f_cmp, G.f_isB, G.f_notB, G.f_isN, G.f_notN, G.n_non, G.n_int, G.n_bl, G.n_ref, G.n_tup, G.f_eq, G.f_ne, G.ty_non, G.ty_bl, G.ty_int, G.ty_str, G.ty_tup, G.ty_fzl, G.kb_ii, G.kb_ib, G.kb_bi, G.kb_bb, G.kb_ni, G.kb_si, G.kb_li, G.kb_ti, G.kb_ll, G.kb_tl, G.kb_nl, G.kb_il, G.kb_bl, G.kb_sl, G.kb_tt, G.kb_lt, G.kb_nt, G.kb_it, G.kb_bt, G.kb_st, decide_eq_true_eq, Bool.not_eq_true', decide_eq_false_iff_not, ↓reduceIte, eq_self, Bool.false_eq_true, Bool.true_eq_false, reduceCtorEq, Bool.not_true, Bool.not_false, ne_eq, not_false_eq_true, G.f_abs, G.f_int, G.f_intB, G.f_max2, G.f_min2, G.f_gcd, G.it_tupD, G.it_fzlD, G.it_refD, G.f_ix, G.f_len, G.f_list, G.f_setItem, G.f_slF, G.f_slR, G.f_isi, G.f_app, G.w_bm, G.oq_some, G.w_lc, List.map_cons, List.map_nil, List.length_cons, List.length_nil, List.cons_append, List.nil_append, Nat.zero_add, List.replicate, Nat.sub_self, Nat.reduceAdd, Nat.reduceSub, List.set_cons_zero, List.set_cons_succ, Option.some.injEq, exists_eq_left', exists_eq_left, true_and, and_true, G.at_0, G.at_1, G.at_2, G.at_3, G.at_m1, G.ix1_0, G.ix2_0, G.ix2_1, G.ix3_0, G.ix3_1, G.ix3_2, List.length_set, List.set_set])
/-- the state still stands, all else is as it was -/
structure Fm (st : Nat) (h h' : Store) : Prop where
  sa : StA h' st
  ch : Ch st h h'
theorem Fm.refl {st : Nat} {h : Store} (s : StA h st) : Fm st h h := ⟨s, Ch.refl _ _⟩
theorem Fm.trans {st : Nat} {h h1 h2 : Store} (a : Fm st h h1) (b : Fm st h1 h2) : Fm st h h2 := ⟨b.sa, a.ch.trans b.ch⟩
theorem Fm.len {st : Nat} {h h' : Store} (a : Fm st h h') : h.length ≤ h'.length := a.ch.1
theorem Fm.ap {st : Nat} {h h1 h2 : Store} (a : Fm st h h1) (b : Ap h1 h2) : Fm st h h2 := by
  obtain ⟨l, rfl⟩ := b
  exact ⟨a.sa.app, a.ch.trans Ch.app⟩
theorem Fm.set {st : Nat} {h h1 : Store} {n : Nat} {o : O} (a : Fm st h h1) (hn : h.length ≤ n) (hs : n ≠ st) : Fm st h (h1.set n o) := by
  refine ⟨?_, ⟨by rw [List.length_set]; exact a.ch.1, fun m hm hms => ?_⟩⟩
  · obtain ⟨c, k, f, e⟩ := a.sa
    exact ⟨c, k, f, by rw [getL_ne (Ne.symm hs)]; exact e⟩
  · rw [List.getElem?_set_ne (by omega)]
    exact a.ch.2 m hm hms
theorem sa_lt {st : Nat} {h : Store} (s : StA h st) : st < h.length := by
  obtain ⟨c, k, f, e⟩ := s
  exact getL_lt e
theorem Fm.lt {st : Nat} {h h' : Store} (a : Fm st h h') : st < h'.length := sa_lt a.sa
theorem rows_ne {st l : Nat} {h : Store} {R : List Tr} (s : StA h st) (e : getL h l = some (rowsD R)) : l ≠ st := by
  rintro rfl
  obtain ⟨c, k, f, e2⟩ := s
  rw [e] at e2
  cases R with
  | nil => cases e2
  | cons t R => cases e2
theorem Fm.rows {st l : Nat} {h h' : Store} {R : List Tr} (a : Fm st h h') (s : StA h st) (e : getL h l = some (rowsD R)) : getL h' l = some (rowsD R) := a.ch.getL e (rows_ne s e)
theorem Fm.getL {st l : Nat} {h h' : Store} {xs : List D} (a : Fm st h h') (hn : l ≠ st) (e : G.getL h l = some xs) : G.getL h' l = some xs := a.ch.getL e hn
theorem IsR.fm {st n : Nat} {h h' : Store} {p : Int} {R : List Tr} (r : IsR h n p R) (s : StA h st) (a : Fm st h h') : IsR h' n p R := by
  obtain ⟨l, e1, e2⟩ := r
  refine ⟨l, ?_, a.rows s e2⟩
  have : n ≠ st := by
    rintro rfl
    obtain ⟨c, k, f, e3⟩ := s
    have := getL_some e3
    rw [e1] at this
    cases this
  obtain ⟨z, _⟩ := List.getElem?_eq_some_iff.mp e1
  rw [a.ch.2 n z this]
  exact e1
theorem next_fm {h : Store} {st : Nat} {size : Int} (hs : StA h st) (h0 : 0 < size := by decide) (h1 : size < 2 ^ 64 := by decide) : WpX NoX (m_law_next [.ref st, .int size] h) fun d h' => ∃ v : Int, d = .int v ∧ 0 ≤ v ∧ v < size ∧ Fm st h h' :=
  (next_sp hs h0 h1).imp fun d h' ⟨v, e, a, b, s, c⟩ => ⟨v, e, a, b, s, c⟩
theorem at_mem {l : List D} {w : Int} (h0 : 0 ≤ w) (h1 : w < (l.length : Int)) : ∃ d, atI l w = some d ∧ d ∈ l := by
  obtain ⟨k, rfl⟩ : ∃ k : Nat, w = (k : Int) := ⟨w.toNat, by omega⟩
  have : k < l.length := by omega
  exact ⟨l[k], at_nat (List.getElem?_eq_getElem this), List.getElem_mem _⟩
theorem points_spec {h : Store} {st : Nat} (hs : StA h st) : WpX NoX (m_law_points [.ref st] h) fun d h' => ∃ v : Int, d = .int v ∧ 1 ≤ v ∧ v ≤ 120 ∧ Fm st h h' := by
  unfold m_law_points m_law_points_b
  rw [w_fn, w_seq]
  walk_at "wpz"
  refine (next_fm hs).imp ?_
  rintro _ h1 ⟨v, rfl, v0, v1, f1⟩
  rw [q_nx, w_seq]
  walk_at "wpz"
  by_cases c1 : v = 1
  · rw [if_pos (by simp [c1])]
    walk_at "wpz"
    have f2 : Fm st h (h1 ++ [O.lst [D.int 1, D.int 2, D.int 3, D.int 119, D.int 120]]) := f1.ap Ap.app
    refine ⟨line_small (by decide), ?_⟩
    refine (next_fm (size := 5) f2.sa).imp ?_
    rintro _ h2 ⟨w, rfl, w0, w1, f3⟩
    have g := f3.getL (l := h1.length) (by have := f1.lt; omega) getL_new
    obtain ⟨d, e, hd⟩ := at_mem (l := [D.int 1, D.int 2, D.int 3, D.int 119, D.int 120]) w0 w1
    simp only [f_ix, it_refD, g, oq_some, e]
    have f4 := f2.trans f3
    simp only [List.mem_cons, List.not_mem_nil, or_false] at hd
    rcases hd with rfl | rfl | rfl | rfl | rfl <;> exact ⟨_, rfl, by decide, by decide, f4⟩
  · rw [if_neg (by simp [c1]), q_nx, w_seq]
    walk_at "wpz"
    by_cases c2 : v = 2
    · rw [if_pos (by simp [c2])]
      walk_at "wpz"
      refine (next_fm (size := 120) f1.sa).imp ?_
      rintro _ h2 ⟨w, rfl, w0, w1, f3⟩
      walk_at "wpz"
      exact ⟨_, rfl, by omega, by omega, f1.trans f3⟩
    · rw [if_neg (by simp [c2]), q_nx]
      walk_at "wpz"
      refine (next_fm (size := 6) f1.sa).imp ?_
      rintro _ h2 ⟨w, rfl, w0, w1, f3⟩
      walk_at "wpz"
      exact ⟨_, rfl, by omega, by omega, f1.trans f3⟩
end K01

namespace K01
open PySem L2 G
local macro_rules | `(tactic| walk_at "wps") => `(tactic| try simp only [G.w_bnd, G.w_chain, G.w_wenum, G.en_fzl, G.en_ref, G.f_insert, G.f_tuple, G.w_getF, G.w_setF, G.w_makeX, G.w_make, G.w_methX, G.w_meth, G.f_lenO, G.w_addX, G.w_fldT, G.w_callX, G.w_fld, G.w_isE, G.w_bndS, G.q_ex, G.x_ex, G.w_raise, G.w_raise0, G.y_nx, G.y_rt, G.y_bk, G.y_ct, G.y_ex, G.w_try, G.w_cl0, G.w_cl1, G.st_nx, G.st_rt, G.st_bk, G.st_ct, G.cl_nx, G.cl_rt, G.cl_bk, G.cl_ct, G.w_su0, G.w_su1, G.n_ex, G.w_ret, G.w_ok, G.w_var, G.s_z, G.s_s, G.w_c, G.w_op, G.w_un, G.w_nil, G.w_cons, G.w_cb, G.w_call, G.w_tup, G.w_alloc, G.w_lst, G.b_bl, G.w_asBl, G.w_test, G.w_yes, G.w_and, G.w_or, G.w_not, G.w_andV, G.w_orV, G.w_notV, G.w_ifx, G.w_nop, G.i_int, G.w_part, G.w_sl, G.w_next, G.w_rt, G.w_rtN, G.w_brk, G.w_cont, G.w_drop, G.q_nx, G.q_rt, G.q_bk, G.q_ct, G.w_seq, G.w_ifS, G.w_set, G.g_some, G.w_asg, G.w_setIx, G.w_aug, G.n_rt, G.n_nx, G.w_fn, G.w_for, G.w_wseq, G.k_tup, G.k_fzl, G.k_ref, G.w_wr1, G.w_wr2, G.f_add, G.f_sub, G.f_addI, G.f_mul, G.f_div, G.f_mod, G.f_pow, G.f_neg, G.f_cmp, G.f_isB, G.f_notB, G.f_isN, G.f_notN, G.n_non, G.n_int, G.n_bl, G.n_ref, G.n_tup, G.f_eq, G.f_ne, G.ty_non, G.ty_bl, G.ty_int, G.ty_str, G.ty_tup, G.ty_fzl, G.kb_ii, G.kb_ib, G.kb_bi, G.kb_bb, G.kb_ni, G.kb_si, G.kb_li, G.kb_ti, G.kb_ll, G.kb_tl, G.kb_nl, G.kb_il, G.kb_bl, G.kb_sl, G.kb_tt, G.kb_lt, G.kb_nt, G.kb_it, G.kb_bt, G.kb_st, decide_eq_true_eq, Bool.not_eq_true', decide_eq_false_iff_not, ↓reduceIte, eq_self, Bool.false_eq_true, Bool.true_eq_false, reduceCtorEq, Bool.not_true, Bool.not_false, ne_eq, not_false_eq_true, G.f_abs, G.f_int, G.f_intB, G.f_max2, G.f_min2, G.f_gcd, G.it_tupD, G.it_fzlD, G.it_refD, G.f_ix, G.f_len, G.f_list, G.f_setItem, G.f_slF, G.f_slR, G.f_isi, G.f_app, G.w_bm, G.oq_some, G.w_lc, List.map_cons, List.map_nil, List.length_cons, List.length_nil, List.cons_append, List.nil_append, Nat.zero_add, List.replicate, Nat.sub_self, Nat.reduceAdd, Nat.reduceSub, List.set_cons_zero, List.set_cons_succ, Option.some.injEq, exists_eq_left', exists_eq_left, true_and, and_true, G.at_0, G.at_1, G.at_2, G.at_3, G.at_m1, G.ix1_0, G.ix2_0, G.ix2_1, G.ix3_0, G.ix3_1, G.ix3_2, List.length_set, List.set_set])
local macro_rules | `(tactic| walk_at "wpx") => `(tactic| try simp only [G.w_bnd, G.w_chain, G.w_wenum, G.en_fzl, G.en_ref, G.f_insert, G.f_tuple, G.w_getF, G.w_setF, G.w_makeX, G.w_make, G.w_methX, G.w_meth, G.f_lenO, G.w_addX, G.w_fldT, G.w_callX, G.w_fld, G.w_isE, G.w_bndS, G.q_ex, G.x_ex, G.w_raise, G.w_raise0, G.y_nx, G.y_rt, G.y_bk, G.y_ct, G.y_ex, G.w_try, G.w_cl0, G.w_cl1, G.st_nx, G.st_rt, G.st_bk, G.st_ct, G.cl_nx, G.cl_rt, G.cl_bk, G.cl_ct, G.w_su0, G.w_su1, G.n_ex, G.w_ret, G.w_ok, G.w_var, G.s_z, G.s_s, G.w_c, G.w_op, G.w_un, G.w_nil, G.w_cons, G.w_cb, G.w_call, G.w_tup, G.w_alloc, G.w_lst, G.b_bl, G.w_asBl, G.w_test, G.w_yes, G.w_and, G.w_or, G.w_not, G.w_andV, G.w_orV, G.w_notV, G.w_ifx, G.w_nop, G.i_int, G.w_part, G.w_sl, G.w_next, G.w_rt, G.w_rtN, G.w_brk, G.w_cont, G.w_drop, G.q_nx, G.q_rt, G.q_bk, G.q_ct, G.w_seq, G.w_ifS, G.w_set, G.g_some, G.w_asg, G.w_setIx, G.w_aug, G.n_rt, G.n_nx, G.w_fn, G.w_for, G.w_wseq, G.k_tup, G.k_fzl, G.k_ref, G.w_wr1, G.w_wr2, G.f_add, G.f_sub, G.f_addI, G.f_mul, G.f_div, G.f_mod, G.f_pow, G.f_neg, G.f_cmp, G.f_isB, G.f_notB, G.f_isN, G.f_notN, G.n_non, G.n_int, G.n_bl, G.n_ref, G.n_tup, G.f_eq, G.f_ne, G.ty_non, G.ty_bl, G.ty_int, G.ty_str, G.ty_tup, G.ty_fzl, G.kb_ii, G.kb_ib, G.kb_bi, G.kb_bb, G.kb_ni, G.kb_si, G.kb_li, G.kb_ti, G.kb_ll, G.kb_tl, G.kb_nl, G.kb_il, G.kb_bl, G.kb_sl, G.kb_tt, G.kb_lt, G.kb_nt, G.kb_it, G.kb_bt, G.kb_st, decide_eq_true_eq, Bool.not_eq_true', decide_eq_false_iff_not, ↓reduceIte, eq_self, Bool.false_eq_true, Bool.true_eq_false, reduceCtorEq, Bool.not_true, Bool.not_false, ne_eq, not_false_eq_true, G.f_abs, G.f_int, G.f_intB, G.f_max2, G.f_min2, G.f_gcd, G.it_tupD, G.it_fzlD, G.it_refD, G.f_ix, G.f_len, G.f_list, G.f_setItem, G.f_slF, G.f_slR, G.f_isi, G.f_app, G.w_bm, G.oq_some, G.w_lc, List.map_cons, List.map_nil, List.length_cons, List.length_nil, List.cons_append, List.nil_append, Nat.zero_add, List.replicate, Nat.sub_self, Nat.reduceAdd, Nat.reduceSub, List.set_cons_zero, List.set_cons_succ, Option.some.injEq, exists_eq_left', exists_eq_left, true_and, and_true, G.at_0, G.at_1, G.at_2, G.at_3, G.at_m1, G.ix1_0, G.ix2_0, G.ix2_1, G.ix3_0, G.ix3_1, G.ix3_2, List.length_set, List.set_set, *])
local macro_rules | `(tactic| walk_at "wpz") => `(tactic| try simp only [G.w_bnd, G.w_chain, G.w_wenum, G.en_fzl, G.en_ref, G.f_insert, G.f_tuple, G.w_getF, G.w_setF, G.w_makeX, G.w_make, G.w_methX, G.w_meth, G.f_lenO, G.w_addX, G.w_fldT, G.w_callX, G.w_fld, G.w_isE, G.w_bndS, G.q_ex, G.x_ex, G.w_raise, G.w_raise0, G.y_nx, G.y_rt, G.y_bk, G.y_ct, G.y_ex, G.w_try, G.w_cl0, G.w_cl1, G.st_nx, G.st_rt, G.st_bk, G.st_ct, G.cl_nx, G.cl_rt, G.cl_bk, G.cl_ct, G.w_su0, G.w_su1, G.n_ex, G.w_ret, G.w_ok, G.w_var, G.s_z, G.s_s, G.w_c, G.w_op, G.w_un, G.w_nil, G.w_cons, G.w_cb, G.w_call, G.w_tup, G.w_alloc, G.w_lst, G.b_bl, G.w_asBl, G.w_test, G.w_yes, G.w_and, G.w_or, G.w_not, G.w_andV, G.w_orV, G.w_notV, G.w_ifx, G.w_nop, G.i_int, G.w_part, G.w_sl, G.w_next, G.w_rt, G.w_rtN, G.w_brk, G.w_cont, G.w_drop, G.q_rt, G.q_bk, G.q_ct, G.w_seq, G.w_ifS, G.w_set, G.g_some, G.w_asg, G.w_setIx, G.w_aug, G.n_rt, G.n_nx, G.w_fn, G.w_for, G.w_wseq, G.k_tup, G.k_fzl, G.k_ref, G.w_wr1, G.w_wr2, G.f_add, G.f_sub, G.f_addI, G.f_mul, G.f_div, G.f_mod, G.f_pow, G.f_neg, G.f_cmp, G.f_isB, G.f_notB, G.f_isN, G.f_notN, G.n_non, G.n_int, G.n_bl, G.n_ref, G.n_tup, G.f_eq, G.f_ne, G.ty_non, G.ty_bl, G.ty_int, G.ty_str, G.ty_tup, G.ty_fzl, G.kb_ii, G.kb_ib, G.kb_bi, G.kb_bb, G.kb_ni, G.kb_si, G.kb_li, G.kb_ti, G.kb_ll, G.kb_tl, G.kb_nl, G.kb_il, G.kb_bl, G.kb_sl, G.kb_tt, G.kb_lt, G.kb_nt, G.kb_it, G.kb_bt, G.kb_st, decide_eq_true_eq, Bool.not_eq_true', decide_eq_false_iff_not, ↓reduceIte, eq_self, Bool.false_eq_true, Bool.true_eq_false, reduceCtorEq, Bool.not_true, Bool.not_false, ne_eq, not_false_eq_true, G.f_abs, G.f_int, G.f_intB, G.f_max2, G.f_min2, G.f_gcd, G.it_tupD, G.it_fzlD, G.it_refD, G.f_ix, G.f_len, G.f_list, G.f_setItem, G.f_slF, G.f_slR, G.f_isi, G.f_app, G.w_bm, G.oq_some, G.w_lc, List.map_cons, List.map_nil, List.length_cons, List.length_nil, List.cons_append, List.nil_append, Nat.zero_add, List.replicate, Nat.sub_self, Nat.reduceAdd, Nat.reduceSub, List.set_cons_zero, List.set_cons_succ, Option.some.injEq, exists_eq_left', exists_eq_left, true_and, and_true, G.at_0, G.at_1, G.at_2, G.at_3, G.at_m1, G.ix1_0, G.ix2_0, G.ix2_1, G.ix3_0, G.ix3_1, G.ix3_2, List.length_set, List.set_set])
/-- a system stands at n: the points, the rows, the numbers -/
structure Sys (h : Store) (n l1 l2 : Nat) (p : Int) (R : List Tr) (zs : List Int) : Prop where
  g0 : getL h n = some [.int p, .ref l1, .ref l2]
  g1 : getL h l1 = some (rowsD R)
  g2 : getL h l2 = some (zs.map D.int)
  p1 : 1 ≤ p ∧ p ≤ 120
  z1 : (zs.length : Int) = p
  r1 : R.length ≤ 209
  rk : ∀ t ∈ R, okR p t = true
theorem system_spec {h : Store} {st : Nat} {p : Int} (hs : StA h st) (hp : 1 ≤ p ∧ p ≤ 120) : WpX NoX (m_law_system [.ref st, .int p] h) fun d h' => ∃ n l1 l2 R zs, d = .ref n ∧ Sys h' n l1 l2 p R zs ∧ h.length ≤ n ∧ h.length ≤ l1 ∧ h.length ≤ l2 ∧ Fm st h h' := by
  unfold m_law_system m_law_system_b
  rw [w_fn, w_seq]
  walk_at "wpz"
  refine (next_fm (size := 10) hs).imp ?_
  rintro _ h1 ⟨m0, rfl, m1, m2, f1⟩
  rw [q_nx, w_seq]
  walk_at "wpz"
  refine (next_fm (size := 16) f1.sa).imp ?_
  rintro _ h2 ⟨k0, rfl, k1, k2, f2⟩
  replace f2 := f1.trans f2
  rw [q_nx, w_seq]
  refine WpX.same (Q := fun f h3 => h3 = h2 ∧ ∃ m, f = .nx [some (.ref st), some (.int p), some (.int m), some (.int k0), none, none, none, none, none, none] ∧ 0 ≤ m ∧ m ≤ 209) ?_ ?_
  · walk_at "wps"
    split
    · exact ⟨_, rfl, by decide, by decide⟩
    · exact ⟨_, rfl, by omega, by omega⟩
  rintro _ _ ⟨rfl, m, rfl, m3, m4⟩
  rw [q_nx, w_seq]
  refine WpX.same (Q := fun f h3 => Fm st h h3 ∧ ∃ m, f = .nx [some (.ref st), some (.int p), some (.int m), some (.int k0), none, none, none, none, none, none] ∧ 0 ≤ m ∧ m ≤ 209) ?_ ?_
  · walk_at "wpz"
    split
    · walk_at "wps"
      refine (next_fm (size := 200) f2.sa).imp ?_
      rintro _ h4 ⟨w, rfl, w0, w1, f3⟩
      walk_at "wps"
      exact ⟨f2.trans f3, _, rfl, by omega, by omega⟩
    · exact ⟨f2, _, rfl, m3, m4⟩
  rintro _ h3 ⟨f3, m, rfl, m3, m4⟩
  rw [q_nx, w_seq]
  walk_at "wpz"
  refine ⟨line_small (by decide), ?_⟩
  have f4 : Fm st h (h3 ++ [O.lst [D.int 5, D.int 41, D.int 999999997]]) := f3.ap Ap.app
  refine (next_fm (size := 3) f4.sa).imp ?_
  rintro _ h4 ⟨w, rfl, w0, w1, f5⟩
  have g := f5.getL (l := h3.length) (by have := f3.lt; omega) getL_new
  obtain ⟨d, e, hd⟩ := at_mem (l := [D.int 5, D.int 41, D.int 999999997]) w0 w1
  simp only [f_ix, it_refD, g, oq_some, e]
  replace f5 := f4.trans f5
  obtain ⟨s, rfl, s0, s1⟩ : ∃ s : Int, d = .int s ∧ 0 < s ∧ s < 2 ^ 64 := by
    simp only [List.mem_cons, List.not_mem_nil, or_false] at hd
    rcases hd with rfl | rfl | rfl <;> exact ⟨_, rfl, by decide, by decide⟩
  rw [q_nx, w_seq]
  walk_at "wpz"
  refine ⟨line_small (by decide), p - 1, rfl, by omega, by omega, by rw [rng_len]; omega, ?_⟩
  have f6 : Fm st h (h4 ++ [O.lst [D.int 0]]) := f5.ap Ap.app
  have n4 : h4.length ≠ st := by have := f5.lt; omega
  refine lc_inv (fun k acc h' => (∃ zs : List Int, acc = zs.map D.int ∧ zs.length = k) ∧ Fm st h h' ∧ getL h' h4.length = some [D.int 0]) ⟨⟨[], rfl, rfl⟩, f6, getL_new⟩ ?_ ?_ ?_
  · rintro k acc h' _ _
    rfl
  · rintro k d acc h' hd' ⟨⟨zs, rfl, hz⟩, f7, g7⟩
    obtain ⟨_, rfl⟩ := rng_get hd'
    show goQ (some _) _
    unfold wipeD wipeD
    rw [g_some]
    walk_at "wps"
    refine (next_fm f7.sa s0 s1).imp ?_
    rintro _ h5 ⟨w, rfl, _, _, f8⟩
    walk_at "wps"
    refine ⟨by decide, ⟨zs ++ [w - s.fdiv 2], by rw [List.map_append]; rfl, by rw [List.length_append, hz]; rfl⟩, f7.trans f8, f8.getL n4 g7⟩
  rintro _ h5 ⟨⟨zs, rfl, hz⟩, f7, g7⟩
  rw [rng_len] at hz
  have b5 : h.length ≤ h5.length := f7.len
  rw [f_addL (xs := [D.int 0]) (ys := zs.map D.int) (Ap.app.getL g7) getL_new (by simp only [List.length_map, List.length_cons, List.length_nil]; omega)]
  generalize hzs : (0 : Int) :: zs = ns
  have hns : (ns.length : Int) = p := by rw [← hzs, List.length_cons, hz]; omega
  have e5 : [D.int 0] ++ zs.map D.int = ns.map D.int := by rw [← hzs]; rfl
  rw [e5]
  have f8 : Fm st h (h5 ++ [O.lst (zs.map D.int)] ++ [O.lst (ns.map D.int)]) := (f7.ap Ap.app).ap Ap.app
  generalize hL : (h5 ++ [O.lst (zs.map D.int)]).length = L at f8 ⊢
  have gL : getL (h5 ++ [O.lst (zs.map D.int)] ++ [O.lst (ns.map D.int)]) L = some (ns.map D.int) := by rw [← hL]; exact getL_new
  have bL : h.length ≤ L := by rw [← hL, List.length_append]; omega
  have nL : L ≠ st := by rw [← hL, List.length_append]; have := f7.lt; omega
  generalize h5 ++ [O.lst (zs.map D.int)] ++ [O.lst (ns.map D.int)] = h6 at f8 gL ⊢
  rw [q_nx, w_seq]
  walk_at "wpz"
  refine ⟨line_small (by decide), ?_⟩
  have f9 : Fm st h (h6 ++ [O.lst []]) := f8.ap Ap.app
  have g9 : getL (h6 ++ [O.lst []]) L = some (ns.map D.int) := Ap.app.getL gL
  have n6 : h6.length ≠ st := by have := f8.lt; omega
  have L6 : L ≠ h6.length := by have := getL_lt gL; omega
  rw [q_nx, w_seq]
  walk_at "wpz"
  refine ⟨m, rfl, by omega, by omega, ?_⟩
  refine for_inv (fun k ρ h' => (∃ d7 d8 d9, ρ = [some (.ref st), some (.int p), some (.int m), some (.int k0), some (.int s), some (.ref L), some (.ref h6.length), d7, d8, d9]) ∧ Fm st h h' ∧ getL h' L = some (ns.map D.int) ∧ ∃ R, getL h' h6.length = some (rowsD R) ∧ R.length = k ∧ ∀ t ∈ R, okR p t = true) ⟨⟨none, none, none, rfl⟩, f9, g9, [], getL_new, rfl, fun _ z => by cases z⟩ ?_ ?_ ?_
  · rintro k ρ h' _ _
    rfl
  · rintro k d ρ h' hd' ⟨⟨d7, d8, d9, rfl⟩, f10, g10, R, gR, hR, okk⟩
    obtain ⟨hk, rfl⟩ := rng_get hd'
    show goQ (some _) _
    rw [g_some, w_seq]
    walk_at "wpz"
    refine (next_fm f10.sa (by omega) (by omega)).imp ?_
    rintro _ h7 ⟨i, rfl, i0, i1, f11⟩
    rw [q_nx, w_seq]
    walk_at "wpz"
    refine (next_fm f11.sa (by omega) (by omega)).imp ?_
    rintro _ h8 ⟨j, rfl, j0, j1, f12⟩
    replace f12 := f11.trans f12
    rw [q_nx]
    have g12 := f12.getL nL g10
    walk_at "wpz"
    simp only [f_ix, it_refD, g12, f12.getL n6 gR, oq_some, at_ints (zs := ns) i0 (by omega), at_ints (zs := ns) j0 (by omega), f_sub]
    refine (next_fm (size := 3) f12.sa).imp ?_
    rintro _ h9 ⟨c, rfl, c0, c1, f13⟩
    replace f13 := f12.trans f13
    have gR13 := f13.getL n6 gR
    have gL13 := f13.getL nL g10
    walk_at "wpz"
    simp only [gR13, oq_some]
    have tk := rows_app (R := R) (S := [(i, j, ns.getD j.toNat 0 - ns.getD i.toNat 0 - c)])
    refine ⟨line_small (by decide), by rw [rows_len, sizeLine_eq]; omega, ⟨_, _, _, rfl⟩, (f10.trans f13).set (by have := f8.len; omega) n6, by rw [getL_ne L6]; exact gL13, R ++ [(i, j, ns.getD j.toNat 0 - ns.getD i.toNat 0 - c)], ?_, by rw [List.length_append, hR]; rfl, fun t ht => ?_⟩
    · rw [← tk]
      exact getL_set gR13
    · rcases List.mem_append.mp ht with z | z
      · exact okk t z
      · cases List.mem_singleton.mp z
        exact decide_eq_true ⟨⟨i0, i1⟩, j0, j1⟩
  · rintro ρ h' ⟨⟨d7, d8, d9, rfl⟩, f10, g10, R, gR, hR, okk⟩
    rw [rng_len] at hR
    walk_at "wps"
    have b6 := f8.len
    have b10 := f10.len
    exact ⟨line_small (by decide), h'.length, h6.length, L, R, ns, rfl, ⟨getL_new, Ap.app.getL gR, Ap.app.getL g10, hp, hns, by omega, okk⟩, b10, b6, bL, f10.ap Ap.app⟩
end K01

namespace K01
open PySem L2 G
local macro_rules | `(tactic| walk_at "wps") => `(tactic| try simp only [G.w_bnd, G.w_chain, G.w_wenum, G.en_fzl, G.en_ref, G.f_insert, G.f_tuple, G.w_getF, G.w_setF, G.w_makeX, G.w_make, G.w_methX, G.w_meth, G.f_lenO, G.w_addX, G.w_fldT, G.w_callX, G.w_fld, G.w_isE, G.w_bndS, G.q_ex, G.x_ex, G.w_raise, G.w_raise0, G.y_nx, G.y_rt, G.y_bk, G.y_ct, G.y_ex, G.w_try, G.w_cl0, G.w_cl1, G.st_nx, G.st_rt, G.st_bk, G.st_ct, G.cl_nx, G.cl_rt, G.cl_bk, G.cl_ct, G.w_su0, G.w_su1, G.n_ex, G.w_ret, G.w_ok, G.w_var, G.s_z, G.s_s, G.w_c, G.w_op, G.w_un, G.w_nil, G.w_cons, G.w_cb, G.w_call, G.w_tup, G.w_alloc, G.w_lst, G.b_bl, G.w_asBl, G.w_test, G.w_yes, G.w_and, G.w_or, G.w_not, G.w_andV, G.w_orV, G.w_notV, G.w_ifx, G.w_nop, G.i_int, G.w_part, G.w_sl, G.w_next, G.w_rt, G.w_rtN, G.w_brk, G.w_cont, G.w_drop, G.q_nx, G.q_rt, G.q_bk, G.q_ct, G.w_seq, G.w_ifS, G.w_set, G.g_some, G.w_asg, G.w_setIx, G.w_aug, G.n_rt, G.n_nx, G.w_fn, G.w_for, G.w_wseq, G.k_tup, G.k_fzl, G.k_ref, G.w_wr1, G.w_wr2, G.f_add, G.f_sub, G.f_addI, G.f_mul, G.f_div, G.f_mod, G.f_pow, G.f_neg, G.f_cmp, G.f_isB, G.f_notB, G.f_isN, G.f_notN, G.n_non, G.n_int, G.n_bl, G.n_ref, G.n_tup, G.f_eq, G.f_ne, G.ty_non, G.ty_bl, G.ty_int, G.ty_str, G.ty_tup, G.ty_fzl, G.kb_ii, G.kb_ib, G.kb_bi, G.kb_bb, G.kb_ni, G.kb_si, G.kb_li, G.kb_ti, G.kb_ll, G.kb_tl, G.kb_nl, G.kb_il, G.kb_bl, G.kb_sl, G.kb_tt, G.kb_lt, G.kb_nt, G.kb_it, G.kb_bt, G.kb_st, decide_eq_true_eq, Bool.not_eq_true', decide_eq_false_iff_not, ↓reduceIte, eq_self, Bool.false_eq_true, Bool.true_eq_false, reduceCtorEq, Bool.not_true, Bool.not_false, ne_eq, not_false_eq_true, G.f_abs, G.f_int, G.f_intB, G.f_max2, G.f_min2, G.f_gcd, G.it_tupD, G.it_fzlD, G.it_refD, G.f_ix, G.f_len, G.f_list, G.f_setItem, G.f_slF, G.f_slR, G.f_isi, G.f_app, G.w_bm, G.oq_some, G.w_lc, List.map_cons, List.map_nil, List.length_cons, List.length_nil, List.cons_append, List.nil_append, Nat.zero_add, List.replicate, Nat.sub_self, Nat.reduceAdd, Nat.reduceSub, List.set_cons_zero, List.set_cons_succ, Option.some.injEq, exists_eq_left', exists_eq_left, true_and, and_true, G.at_0, G.at_1, G.at_2, G.at_3, G.at_m1, G.ix1_0, G.ix2_0, G.ix2_1, G.ix3_0, G.ix3_1, G.ix3_2, List.length_set, List.set_set])
local macro_rules | `(tactic| walk_at "wpx") => `(tactic| try simp only [G.w_bnd, G.w_chain, G.w_wenum, G.en_fzl, G.en_ref, G.f_insert, G.f_tuple, G.w_getF, G.w_setF, G.w_makeX, G.w_make, G.w_methX, G.w_meth, G.f_lenO, G.w_addX, G.w_fldT, G.w_callX, G.w_fld, G.w_isE, G.w_bndS, G.q_ex, G.x_ex, G.w_raise, G.w_raise0, G.y_nx, G.y_rt, G.y_bk, G.y_ct, G.y_ex, G.w_try, G.w_cl0, G.w_cl1, G.st_nx, G.st_rt, G.st_bk, G.st_ct, G.cl_nx, G.cl_rt, G.cl_bk, G.cl_ct, G.w_su0, G.w_su1, G.n_ex, G.w_ret, G.w_ok, G.w_var, G.s_z, G.s_s, G.w_c, G.w_op, G.w_un, G.w_nil, G.w_cons, G.w_cb, G.w_call, G.w_tup, G.w_alloc, G.w_lst, G.b_bl, G.w_asBl, G.w_test, G.w_yes, G.w_and, G.w_or, G.w_not, G.w_andV, G.w_orV, G.w_notV, G.w_ifx, G.w_nop, G.i_int, G.w_part, G.w_sl, G.w_next, G.w_rt, G.w_rtN, G.w_brk, G.w_cont, G.w_drop, G.q_nx, G.q_rt, G.q_bk, G.q_ct, G.w_seq, G.w_ifS, G.w_set, G.g_some, G.w_asg, G.w_setIx, G.w_aug, G.n_rt, G.n_nx, G.w_fn, G.w_for, G.w_wseq, G.k_tup, G.k_fzl, G.k_ref, G.w_wr1, G.w_wr2, G.f_add, G.f_sub, G.f_addI, G.f_mul, G.f_div, G.f_mod, G.f_pow, G.f_neg, G.f_cmp, G.f_isB, G.f_notB, G.f_isN, G.f_notN, G.n_non, G.n_int, G.n_bl, G.n_ref, G.n_tup, G.f_eq, G.f_ne, G.ty_non, G.ty_bl, G.ty_int, G.ty_str, G.ty_tup, G.ty_fzl, G.kb_ii, G.kb_ib, G.kb_bi, G.kb_bb, G.kb_ni, G.kb_si, G.kb_li, G.kb_ti, G.kb_ll, G.kb_tl, G.kb_nl, G.kb_il, G.kb_bl, G.kb_sl, G.kb_tt, G.kb_lt, G.kb_nt, G.kb_it, G.kb_bt, G.kb_st, decide_eq_true_eq, Bool.not_eq_true', decide_eq_false_iff_not, ↓reduceIte, eq_self, Bool.false_eq_true, Bool.true_eq_false, reduceCtorEq, Bool.not_true, Bool.not_false, ne_eq, not_false_eq_true, G.f_abs, G.f_int, G.f_intB, G.f_max2, G.f_min2, G.f_gcd, G.it_tupD, G.it_fzlD, G.it_refD, G.f_ix, G.f_len, G.f_list, G.f_setItem, G.f_slF, G.f_slR, G.f_isi, G.f_app, G.w_bm, G.oq_some, G.w_lc, List.map_cons, List.map_nil, List.length_cons, List.length_nil, List.cons_append, List.nil_append, Nat.zero_add, List.replicate, Nat.sub_self, Nat.reduceAdd, Nat.reduceSub, List.set_cons_zero, List.set_cons_succ, Option.some.injEq, exists_eq_left', exists_eq_left, true_and, and_true, G.at_0, G.at_1, G.at_2, G.at_3, G.at_m1, G.ix1_0, G.ix2_0, G.ix2_1, G.ix3_0, G.ix3_1, G.ix3_2, List.length_set, List.set_set, *])
local macro_rules | `(tactic| walk_at "wpz") => `(tactic| try simp only [G.w_bnd, G.w_chain, G.w_wenum, G.en_fzl, G.en_ref, G.f_insert, G.f_tuple, G.w_getF, G.w_setF, G.w_makeX, G.w_make, G.w_methX, G.w_meth, G.f_lenO, G.w_addX, G.w_fldT, G.w_callX, G.w_fld, G.w_isE, G.w_bndS, G.q_ex, G.x_ex, G.w_raise, G.w_raise0, G.y_nx, G.y_rt, G.y_bk, G.y_ct, G.y_ex, G.w_try, G.w_cl0, G.w_cl1, G.st_nx, G.st_rt, G.st_bk, G.st_ct, G.cl_nx, G.cl_rt, G.cl_bk, G.cl_ct, G.w_su0, G.w_su1, G.n_ex, G.w_ret, G.w_ok, G.w_var, G.s_z, G.s_s, G.w_c, G.w_op, G.w_un, G.w_nil, G.w_cons, G.w_cb, G.w_call, G.w_tup, G.w_alloc, G.w_lst, G.b_bl, G.w_asBl, G.w_test, G.w_yes, G.w_and, G.w_or, G.w_not, G.w_andV, G.w_orV, G.w_notV, G.w_ifx, G.w_nop, G.i_int, G.w_part, G.w_sl, G.w_next, G.w_rt, G.w_rtN, G.w_brk, G.w_cont, G.w_drop, G.q_rt, G.q_bk, G.q_ct, G.w_seq, G.w_ifS, G.w_set, G.g_some, G.w_asg, G.w_setIx, G.w_aug, G.n_rt, G.n_nx, G.w_fn, G.w_for, G.w_wseq, G.k_tup, G.k_fzl, G.k_ref, G.w_wr1, G.w_wr2, G.f_add, G.f_sub, G.f_addI, G.f_mul, G.f_div, G.f_mod, G.f_pow, G.f_neg, G.f_cmp, G.f_isB, G.f_notB, G.f_isN, G.f_notN, G.n_non, G.n_int, G.n_bl, G.n_ref, G.n_tup, G.f_eq, G.f_ne, G.ty_non, G.ty_bl, G.ty_int, G.ty_str, G.ty_tup, G.ty_fzl, G.kb_ii, G.kb_ib, G.kb_bi, G.kb_bb, G.kb_ni, G.kb_si, G.kb_li, G.kb_ti, G.kb_ll, G.kb_tl, G.kb_nl, G.kb_il, G.kb_bl, G.kb_sl, G.kb_tt, G.kb_lt, G.kb_nt, G.kb_it, G.kb_bt, G.kb_st, decide_eq_true_eq, Bool.not_eq_true', decide_eq_false_iff_not, ↓reduceIte, eq_self, Bool.false_eq_true, Bool.true_eq_false, reduceCtorEq, Bool.not_true, Bool.not_false, ne_eq, not_false_eq_true, G.f_abs, G.f_int, G.f_intB, G.f_max2, G.f_min2, G.f_gcd, G.it_tupD, G.it_fzlD, G.it_refD, G.f_ix, G.f_len, G.f_list, G.f_setItem, G.f_slF, G.f_slR, G.f_isi, G.f_app, G.w_bm, G.oq_some, G.w_lc, List.map_cons, List.map_nil, List.length_cons, List.length_nil, List.cons_append, List.nil_append, Nat.zero_add, List.replicate, Nat.sub_self, Nat.reduceAdd, Nat.reduceSub, List.set_cons_zero, List.set_cons_succ, Option.some.injEq, exists_eq_left', exists_eq_left, true_and, and_true, G.at_0, G.at_1, G.at_2, G.at_3, G.at_m1, G.ix1_0, G.ix2_0, G.ix2_1, G.ix3_0, G.ix3_1, G.ix3_2, List.length_set, List.set_set])
/-- a list of ints, not the state and not N -/
def IL (st N : Nat) (h : Store) (d : D) : Prop := ∃ (l : Nat) (ws : List Int), d = .ref l ∧ l ≠ st ∧ l ≠ N ∧ getL h l = some (ws.map D.int) ∧ ws.length ≤ 400
theorem IL.keep {st N : Nat} {h h' : Store} {d : D} (i : IL st N h d) (k : ∀ l xs, l ≠ st → l ≠ N → getL h l = some xs → getL h' l = some xs) : IL st N h' d := by
  obtain ⟨l, ws, a, b, c, e, f⟩ := i
  exact ⟨l, ws, a, b, c, k _ _ b c e, f⟩
theorem cut_ints {zs : List Int} {a b : Option Int} : ∃ ws : List Int, cutD (zs.map D.int) a b = ws.map D.int ∧ ws.length ≤ zs.length := by
  unfold cutD
  rw [← List.map_drop, ← List.map_take]
  refine ⟨_, rfl, ?_⟩
  rw [List.length_take, List.length_drop]
  omega
theorem lists_spec {h : Store} {st l : Nat} {zs : List Int} (hs : StA h st) (g : getL h l = some (zs.map D.int)) (hl : l ≠ st) (hz : 1 ≤ zs.length ∧ zs.length ≤ 300) : WpX NoX (m_law_lists [.ref st, .ref l] h) fun d h' => ∃ N ls, d = .ref N ∧ getL h' N = some ls ∧ (∀ d ∈ ls, IL st N h' d) ∧ ls.length ≤ 8 ∧ Fm st h h' := by
  have f0 := Fm.refl hs
  unfold m_law_lists m_law_lists_b
  rw [w_fn, w_seq]
  walk_at "wpz"
  simp only [g, oq_some, List.length_map]
  rw [q_nx, w_seq]
  walk_at "wpz"
  simp only [g, oq_some]
  have a1 : Ap h (h ++ [O.lst (zs.map D.int)]) := Ap.app
  have g1 : getL (h ++ [O.lst (zs.map D.int)]) h.length = some (zs.map D.int) := getL_new
  have b1 : (h ++ [O.lst (zs.map D.int)]).length = h.length + 1 := by simp
  generalize h ++ [O.lst (zs.map D.int)] = h1 at a1 g1 b1 ⊢
  simp only [a1.getL g, oq_some]
  refine ⟨by rw [List.length_map]; omega, ?_⟩
  refine lc_inv (fun k acc h' => h' = h1 ∧ ∃ ws : List Int, acc = ws.map D.int ∧ ws.length = k) ⟨rfl, [], rfl, rfl⟩ ?_ ?_ ?_
  · rintro k acc _ _ ⟨rfl, _⟩
    exact decide_eq_true (a1.getL g)
  · rintro k d acc _ hd ⟨rfl, ws, rfl, hk⟩
    obtain ⟨z, _, rfl⟩ := ints_at hd
    show goQ (some _) _
    unfold wipeD wipeD
    rw [g_some]
    walk_at "wps"
    exact ⟨ws ++ [z + 1], by rw [List.map_append]; rfl, by rw [List.length_append, hk]; rfl⟩
  rintro _ h1 ⟨e0, ws, rfl, hw⟩
  subst e0
  rw [List.length_map] at hw
  have a2 : Ap h1 (h1 ++ [O.lst (ws.map D.int)]) := Ap.app
  have g2 : getL (h1 ++ [O.lst (ws.map D.int)]) h1.length = some (ws.map D.int) := getL_new
  have b2 : (h1 ++ [O.lst (ws.map D.int)]).length = h.length + 2 := by simp [b1]
  rw [b1] at g2
  generalize h1 ++ [O.lst (ws.map D.int)] = h2 at a2 g2 b2 ⊢
  replace g1 := a2.getL g1
  replace a2 := a1.trans a2
  simp only [a2.getL g, oq_some]
  obtain ⟨vs, e3, hv⟩ := cut_ints (zs := zs) (a := none) (b := some ((zs.length : Int) - 1))
  rw [e3]
  have a3 : Ap h2 (h2 ++ [O.lst (vs.map D.int)]) := Ap.app
  have g3 : getL (h2 ++ [O.lst (vs.map D.int)]) h2.length = some (vs.map D.int) := getL_new
  have b3 : (h2 ++ [O.lst (vs.map D.int)]).length = h.length + 3 := by simp [b2]
  rw [b2] at g3
  generalize h2 ++ [O.lst (vs.map D.int)] = h3 at a3 g3 b3 ⊢
  replace g1 := a3.getL g1
  replace g2 := a3.getL g2
  replace a3 := a2.trans a3
  simp only [a3.getL g, oq_some, at_ints (zs := zs) (i := (zs.length : Int) - 1) (by omega) (by omega)]
  refine ⟨line_small (by decide), ?_⟩
  generalize zs.getD ((zs.length : Int) - 1).toNat 0 = y
  have a4 : Ap h3 (h3 ++ [O.lst [D.int y]]) := Ap.app
  have g4 : getL (h3 ++ [O.lst [D.int y]]) h3.length = some [D.int y] := getL_new
  have b4 : (h3 ++ [O.lst [D.int y]]).length = h.length + 4 := by simp [b3]
  generalize h3 ++ [O.lst [D.int y]] = h4 at a4 g4 b4 ⊢
  replace g1 := a4.getL g1
  replace g2 := a4.getL g2
  replace g3 := a4.getL g3
  replace a4 := a3.trans a4
  rw [f_addL (a4.getL g) g4 (by simp only [List.length_map, List.length_cons, List.length_nil]; omega)]
  refine ⟨line_small (by decide), ?_⟩
  have e5 : zs.map D.int ++ [D.int y] = (zs ++ [y]).map D.int := by rw [List.map_append]; rfl
  rw [e5, b1, b2, b4]
  have a5 : Ap h4 (h4 ++ [O.lst ((zs ++ [y]).map D.int)]) := Ap.app
  have g5 : getL (h4 ++ [O.lst ((zs ++ [y]).map D.int)]) h4.length = some ((zs ++ [y]).map D.int) := getL_new
  have b5 : (h4 ++ [O.lst ((zs ++ [y]).map D.int)]).length = h.length + 5 := by simp [b4]
  rw [b4] at g5
  rw [b5]
  generalize h4 ++ [O.lst ((zs ++ [y]).map D.int)] = h5 at a5 g5 b5 ⊢
  replace g1 := a5.getL g1
  replace g2 := a5.getL g2
  replace g3 := a5.getL g3
  replace a5 := a4.trans a5
  have lt := sa_lt hs
  generalize hN : h.length + 5 = N at b5 ⊢
  have f6 : Fm st h (h5 ++ [O.lst [D.ref h.length, D.ref (h.length + 1), D.ref (h.length + 2), D.ref (h.length + 4)]]) := f0.ap (a5.trans Ap.app)
  have g6 : getL (h5 ++ [O.lst [D.ref h.length, D.ref (h.length + 1), D.ref (h.length + 2), D.ref (h.length + 4)]]) N = some [D.ref h.length, D.ref (h.length + 1), D.ref (h.length + 2), D.ref (h.length + 4)] := by rw [← b5]; exact getL_new
  have i6 : ∀ d ∈ [D.ref h.length, D.ref (h.length + 1), D.ref (h.length + 2), D.ref (h.length + 4)], IL st N (h5 ++ [O.lst [D.ref h.length, D.ref (h.length + 1), D.ref (h.length + 2), D.ref (h.length + 4)]]) d := by
    intro d hd
    simp only [List.mem_cons, List.not_mem_nil, or_false] at hd
    rcases hd with rfl | rfl | rfl | rfl
    · exact ⟨_, zs, rfl, by omega, by omega, Ap.app.getL g1, by omega⟩
    · exact ⟨_, ws, rfl, by omega, by omega, Ap.app.getL g2, by omega⟩
    · exact ⟨_, vs, rfl, by omega, by omega, Ap.app.getL g3, by omega⟩
    · exact ⟨_, _, rfl, by omega, by omega, Ap.app.getL g5, by rw [List.length_append, List.length_cons, List.length_nil]; omega⟩
  generalize h5 ++ [O.lst [D.ref h.length, D.ref (h.length + 1), D.ref (h.length + 2), D.ref (h.length + 4)]] = h6 at f6 g6 i6 ⊢
  clear b5
  generalize hls : [D.ref h.length, D.ref (h.length + 1), D.ref (h.length + 2), D.ref (h.length + 4)] = ls at g6 i6
  have q6 : ls.length = 4 := by rw [← hls]; rfl
  rw [q_nx, w_seq]
  walk_at "wpz"
  refine ⟨line_small (by decide), ?_⟩
  rw [getL_new, oq_some]
  have gl6 : getL h6 l = some (zs.map D.int) := f6.getL hl g
  have N6 := getL_lt g6
  have nN : N ≠ st := by omega
  have lN : l ≠ N := by have := getL_lt g; omega
  refine for_inv (fun k ρ h' => (∃ d4 d5 d6 d7, ρ = [some (.ref st), some (.ref l), some (.int ((zs.length : Int) - 1)), some (.ref N), d4, d5, d6, d7]) ∧ Fm st h h' ∧ getL h' h6.length = some [D.int (0 - 1), D.int 1, D.int (0 - 2)] ∧ ∃ ls, getL h' N = some ls ∧ ls.length = 4 + k ∧ ∀ d ∈ ls, IL st N h' d) ?_ ?_ ?_ ?_
  · exact ⟨⟨none, none, none, none, rfl⟩, f6.ap Ap.app, getL_new, ls, Ap.app.getL g6, q6, fun d hd => (i6 d hd).keep fun _ _ _ _ e => Ap.app.getL e⟩
  · rintro k ρ h' _ ⟨_, _, e, _⟩
    exact decide_eq_true e
  · rintro k d ρ h' hd ⟨⟨d4, d5, d6, d7, rfl⟩, f7, g7, ls, gN, hk, il⟩
    obtain ⟨c, rfl⟩ : ∃ c : Int, d = .int c := by
      have := List.mem_of_getElem? hd
      simp only [List.mem_cons, List.not_mem_nil, or_false] at this
      rcases this with rfl | rfl | rfl <;> exact ⟨_, rfl⟩
    have k3 : k < 3 := by
      obtain ⟨z, _⟩ := List.getElem?_eq_some_iff.mp hd
      exact z
    show goQ (some _) _
    rw [g_some, w_seq]
    have gl7 := f7.getL hl g
    walk_at "wpz"
    rw [gl7, oq_some]
    have a8 : Ap h' (h' ++ [O.lst (zs.map D.int)]) := Ap.app
    have g8 : getL (h' ++ [O.lst (zs.map D.int)]) h'.length = some (zs.map D.int) := getL_new
    have b8 : (h' ++ [O.lst (zs.map D.int)]).length = h'.length + 1 := by simp
    generalize h' ++ [O.lst (zs.map D.int)] = h8 at a8 g8 b8 ⊢
    rw [q_nx, w_seq]
    walk_at "wpz"
    simp only [a8.getL gl7, oq_some, List.length_map]
    have f8 := f7.ap a8
    refine (next_fm f8.sa (by omega) (by omega)).imp ?_
    rintro _ h9 ⟨w, rfl, w0, w1, f9⟩
    have hF : h'.length ≠ st := by have := f7.lt; omega
    have hFN : h'.length ≠ N := by have := getL_lt gN; omega
    have hF6 : h'.length ≠ h6.length := by have := getL_lt g7; omega
    have N6' : N ≠ h6.length := by omega
    have s6 : h6.length ≠ st := by have := f6.len; omega
    have g9 := f9.getL hF g8
    have gN9 := f9.getL nN (a8.getL gN)
    have g79 := f9.getL s6 (a8.getL g7)
    have f9' := f8.trans f9
    rw [q_nx, w_seq]
    walk_at "wpz"
    obtain ⟨j, hj⟩ : ∃ j : Nat, w = (j : Int) := ⟨w.toNat, by omega⟩
    subst hj
    simp only [g9, oq_some, at_ints (zs := zs) w0 (by omega), f_add, f_setItem, List.length_map, ixN]
    rw [if_pos w0, if_pos w1, oq_some, Int.toNat_natCast]
    have em : (zs.map D.int).set j (D.int (zs.getD j 0 + c)) = (zs.set j (zs.getD j 0 + c)).map D.int := by rw [List.map_set]
    rw [em]
    have lenS : (zs.set j (zs.getD j 0 + c)).length = zs.length := List.length_set
    generalize zs.set j (zs.getD j 0 + c) = us at lenS ⊢
    have gF : getL (h9.set h'.length (O.lst (us.map D.int))) h'.length = some (us.map D.int) := getL_set g9
    have hb : h.length ≤ h'.length := f7.len
    have f10 : Fm st h (h9.set h'.length (O.lst (us.map D.int))) := f9'.set hb hF
    have gN10 : getL (h9.set h'.length (O.lst (us.map D.int))) N = some ls := by rw [getL_ne (Ne.symm hFN)]; exact gN9
    have g710 : getL (h9.set h'.length (O.lst (us.map D.int))) h6.length = some [D.int (0 - 1), D.int 1, D.int (0 - 2)] := by rw [getL_ne (Ne.symm hF6)]; exact g79
    have il10 : ∀ d ∈ ls, IL st N (h9.set h'.length (O.lst (us.map D.int))) d := fun d hd => (il d hd).keep fun m xs hm _ e => by
      have := getL_lt e
      rw [getL_ne (by omega)]
      exact f9.getL hm (a8.getL e)
    generalize h9.set h'.length (O.lst (us.map D.int)) = h10 at gF f10 gN10 g710 il10 ⊢
    rw [q_nx]
    walk_at "wps"
    rw [gN10, oq_some]
    refine ⟨by rw [sizeLine_eq]; omega, ⟨_, _, _, _, rfl⟩, f10.set (by omega) nN, by rw [getL_ne (Ne.symm N6')]; exact g710, ls ++ [D.ref h'.length], getL_set gN10, by rw [List.length_append, hk]; rfl, fun d hd => ?_⟩
    have kk : IL st N h10 d → IL st N (h10.set N (O.lst (ls ++ [D.ref h'.length]))) d := fun i => i.keep fun m xs _ hm e => by rw [getL_ne hm]; exact e
    rcases List.mem_append.mp hd with z | z
    · exact kk (il10 d z)
    · cases List.mem_singleton.mp z
      exact kk ⟨_, us, rfl, hF, hFN, gF, by omega⟩
  · rintro ρ h7 ⟨⟨d4, d5, d6, d7, rfl⟩, f7, g7, ls, gN, hk, il⟩
    have gl7 := f7.getL hl g
    have hk : ls.length = 7 := hk
    rw [q_nx, w_seq]
    walk_at "wpz"
    simp only [gN, gl7, oq_some]
    refine ⟨by rw [List.length_map]; omega, ?_⟩
    refine lc_inv (fun k acc h' => h' = h7 ∧ ∃ ws : List Int, acc = ws.map D.int ∧ ws.length = k) ⟨rfl, [], rfl, rfl⟩ ?_ ?_ ?_
    · rintro k acc _ _ ⟨rfl, _⟩
      exact decide_eq_true gl7
    · rintro k d acc _ hd ⟨rfl, ws, rfl, hk⟩
      show goQ (some _) _
      unfold wipeD wipeD
      rw [g_some]
      walk_at "wps"
      exact ⟨ws ++ [0], by rw [List.map_append]; rfl, by rw [List.length_append, hk]; rfl⟩
    rintro _ h8 ⟨e0, ws, rfl, hw⟩
    subst e0
    rw [List.length_map] at hw
    have gN8 : getL (h8 ++ [O.lst (ws.map D.int)]) N = some ls := Ap.app.getL gN
    rw [gN8, oq_some]
    refine ⟨by rw [sizeLine_eq]; omega, ?_⟩
    rw [q_nx]
    walk_at "wps"
    have hF : h8.length ≠ st := by have := f7.lt; omega
    have hFN : h8.length ≠ N := by have := getL_lt gN; omega
    refine ⟨N, ls ++ [D.ref h8.length], rfl, getL_set gN8, fun d hd => ?_, by rw [List.length_append, hk]; exact Nat.le_refl _, (f7.ap Ap.app).set (by omega) nN⟩
    have kk : IL st N (h8 ++ [O.lst (ws.map D.int)]) d → IL st N ((h8 ++ [O.lst (ws.map D.int)]).set N (O.lst (ls ++ [D.ref h8.length]))) d := fun i => i.keep fun m xs _ hm e => by rw [getL_ne hm]; exact e
    rcases List.mem_append.mp hd with z | z
    · exact kk ((il d z).keep fun _ _ _ _ e => Ap.app.getL e)
    · cases List.mem_singleton.mp z
      exact kk ⟨_, ws, rfl, hF, hFN, getL_new, by omega⟩
end K01

namespace K01
open PySem L2 G
local macro_rules | `(tactic| walk_at "wps") => `(tactic| try simp only [G.w_bnd, G.w_chain, G.w_wenum, G.en_fzl, G.en_ref, G.f_insert, G.f_tuple, G.w_getF, G.w_setF, G.w_makeX, G.w_make, G.w_methX, G.w_meth, G.f_lenO, G.w_addX, G.w_fldT, G.w_callX, G.w_fld, G.w_isE, G.w_bndS, G.q_ex, G.x_ex, G.w_raise, G.w_raise0, G.y_nx, G.y_rt, G.y_bk, G.y_ct, G.y_ex, G.w_try, G.w_cl0, G.w_cl1, G.st_nx, G.st_rt, G.st_bk, G.st_ct, G.cl_nx, G.cl_rt, G.cl_bk, G.cl_ct, G.w_su0, G.w_su1, G.n_ex, G.w_ret, G.w_ok, G.w_var, G.s_z, G.s_s, G.w_c, G.w_op, G.w_un, G.w_nil, G.w_cons, G.w_cb, G.w_call, G.w_tup, G.w_alloc, G.w_lst, G.b_bl, G.w_asBl, G.w_test, G.w_yes, G.w_and, G.w_or, G.w_not, G.w_andV, G.w_orV, G.w_notV, G.w_ifx, G.w_nop, G.i_int, G.w_part, G.w_sl, G.w_next, G.w_rt, G.w_rtN, G.w_brk, G.w_cont, G.w_drop, G.q_nx, G.q_rt, G.q_bk, G.q_ct, G.w_seq, G.w_ifS, G.w_set, G.g_some, G.w_asg, G.w_setIx, G.w_aug, G.n_rt, G.n_nx, G.w_fn, G.w_for, G.w_wseq, G.k_tup, G.k_fzl, G.k_ref, G.w_wr1, G.w_wr2, G.f_add, G.f_sub, G.f_addI, G.f_mul, G.f_div, G.f_mod, G.f_pow, G.f_neg, G.f_cmp, G.f_isB, G.f_notB, G.f_isN, G.f_notN, G.n_non, G.n_int, G.n_bl, G.n_ref, G.n_tup, G.f_eq, G.f_ne, G.ty_non, G.ty_bl, G.ty_int, G.ty_str, G.ty_tup, G.ty_fzl, G.kb_ii, G.kb_ib, G.kb_bi, G.kb_bb, G.kb_ni, G.kb_si, G.kb_li, G.kb_ti, G.kb_ll, G.kb_tl, G.kb_nl, G.kb_il, G.kb_bl, G.kb_sl, G.kb_tt, G.kb_lt, G.kb_nt, G.kb_it, G.kb_bt, G.kb_st, decide_eq_true_eq, Bool.not_eq_true', decide_eq_false_iff_not, ↓reduceIte, eq_self, Bool.false_eq_true, Bool.true_eq_false, reduceCtorEq, Bool.not_true, Bool.not_false, ne_eq, not_false_eq_true, G.f_abs, G.f_int, G.f_intB, G.f_max2, G.f_min2, G.f_gcd, G.it_tupD, G.it_fzlD, G.it_refD, G.f_ix, G.f_len, G.f_list, G.f_setItem, G.f_slF, G.f_slR, G.f_isi, G.f_app, G.w_bm, G.oq_some, G.w_lc, List.map_cons, List.map_nil, List.length_cons, List.length_nil, List.cons_append, List.nil_append, Nat.zero_add, List.replicate, Nat.sub_self, Nat.reduceAdd, Nat.reduceSub, List.set_cons_zero, List.set_cons_succ, Option.some.injEq, exists_eq_left', exists_eq_left, true_and, and_true, G.at_0, G.at_1, G.at_2, G.at_3, G.at_m1, G.ix1_0, G.ix2_0, G.ix2_1, G.ix3_0, G.ix3_1, G.ix3_2, List.length_set, List.set_set])
local macro_rules | `(tactic| walk_at "wpx") => `(tactic| try simp only [G.w_bnd, G.w_chain, G.w_wenum, G.en_fzl, G.en_ref, G.f_insert, G.f_tuple, G.w_getF, G.w_setF, G.w_makeX, G.w_make, G.w_methX, G.w_meth, G.f_lenO, G.w_addX, G.w_fldT, G.w_callX, G.w_fld, G.w_isE, G.w_bndS, G.q_ex, G.x_ex, G.w_raise, G.w_raise0, G.y_nx, G.y_rt, G.y_bk, G.y_ct, G.y_ex, G.w_try, G.w_cl0, G.w_cl1, G.st_nx, G.st_rt, G.st_bk, G.st_ct, G.cl_nx, G.cl_rt, G.cl_bk, G.cl_ct, G.w_su0, G.w_su1, G.n_ex, G.w_ret, G.w_ok, G.w_var, G.s_z, G.s_s, G.w_c, G.w_op, G.w_un, G.w_nil, G.w_cons, G.w_cb, G.w_call, G.w_tup, G.w_alloc, G.w_lst, G.b_bl, G.w_asBl, G.w_test, G.w_yes, G.w_and, G.w_or, G.w_not, G.w_andV, G.w_orV, G.w_notV, G.w_ifx, G.w_nop, G.i_int, G.w_part, G.w_sl, G.w_next, G.w_rt, G.w_rtN, G.w_brk, G.w_cont, G.w_drop, G.q_nx, G.q_rt, G.q_bk, G.q_ct, G.w_seq, G.w_ifS, G.w_set, G.g_some, G.w_asg, G.w_setIx, G.w_aug, G.n_rt, G.n_nx, G.w_fn, G.w_for, G.w_wseq, G.k_tup, G.k_fzl, G.k_ref, G.w_wr1, G.w_wr2, G.f_add, G.f_sub, G.f_addI, G.f_mul, G.f_div, G.f_mod, G.f_pow, G.f_neg, G.f_cmp, G.f_isB, G.f_notB, G.f_isN, G.f_notN, G.n_non, G.n_int, G.n_bl, G.n_ref, G.n_tup, G.f_eq, G.f_ne, G.ty_non, G.ty_bl, G.ty_int, G.ty_str, G.ty_tup, G.ty_fzl, G.kb_ii, G.kb_ib, G.kb_bi, G.kb_bb, G.kb_ni, G.kb_si, G.kb_li, G.kb_ti, G.kb_ll, G.kb_tl, G.kb_nl, G.kb_il, G.kb_bl, G.kb_sl, G.kb_tt, G.kb_lt, G.kb_nt, G.kb_it, G.kb_bt, G.kb_st, decide_eq_true_eq, Bool.not_eq_true', decide_eq_false_iff_not, ↓reduceIte, eq_self, Bool.false_eq_true, Bool.true_eq_false, reduceCtorEq, Bool.not_true, Bool.not_false, ne_eq, not_false_eq_true, G.f_abs, G.f_int, G.f_intB, G.f_max2, G.f_min2, G.f_gcd, G.it_tupD, G.it_fzlD, G.it_refD, G.f_ix, G.f_len, G.f_list, G.f_setItem, G.f_slF, G.f_slR, G.f_isi, G.f_app, G.w_bm, G.oq_some, G.w_lc, List.map_cons, List.map_nil, List.length_cons, List.length_nil, List.cons_append, List.nil_append, Nat.zero_add, List.replicate, Nat.sub_self, Nat.reduceAdd, Nat.reduceSub, List.set_cons_zero, List.set_cons_succ, Option.some.injEq, exists_eq_left', exists_eq_left, true_and, and_true, G.at_0, G.at_1, G.at_2, G.at_3, G.at_m1, G.ix1_0, G.ix2_0, G.ix2_1, G.ix3_0, G.ix3_1, G.ix3_2, List.length_set, List.set_set, *])
local macro_rules | `(tactic| walk_at "wpz") => `(tactic| try simp only [G.w_bnd, G.w_chain, G.w_wenum, G.en_fzl, G.en_ref, G.f_insert, G.f_tuple, G.w_getF, G.w_setF, G.w_makeX, G.w_make, G.w_methX, G.w_meth, G.f_lenO, G.w_addX, G.w_fldT, G.w_callX, G.w_fld, G.w_isE, G.w_bndS, G.q_ex, G.x_ex, G.w_raise, G.w_raise0, G.y_nx, G.y_rt, G.y_bk, G.y_ct, G.y_ex, G.w_try, G.w_cl0, G.w_cl1, G.st_nx, G.st_rt, G.st_bk, G.st_ct, G.cl_nx, G.cl_rt, G.cl_bk, G.cl_ct, G.w_su0, G.w_su1, G.n_ex, G.w_ret, G.w_ok, G.w_var, G.s_z, G.s_s, G.w_c, G.w_op, G.w_un, G.w_nil, G.w_cons, G.w_cb, G.w_call, G.w_tup, G.w_alloc, G.w_lst, G.b_bl, G.w_asBl, G.w_test, G.w_yes, G.w_and, G.w_or, G.w_not, G.w_andV, G.w_orV, G.w_notV, G.w_ifx, G.w_nop, G.i_int, G.w_part, G.w_sl, G.w_next, G.w_rt, G.w_rtN, G.w_brk, G.w_cont, G.w_drop, G.q_rt, G.q_bk, G.q_ct, G.w_seq, G.w_ifS, G.w_set, G.g_some, G.w_asg, G.w_setIx, G.w_aug, G.n_rt, G.n_nx, G.w_fn, G.w_for, G.w_wseq, G.k_tup, G.k_fzl, G.k_ref, G.w_wr1, G.w_wr2, G.f_add, G.f_sub, G.f_addI, G.f_mul, G.f_div, G.f_mod, G.f_pow, G.f_neg, G.f_cmp, G.f_isB, G.f_notB, G.f_isN, G.f_notN, G.n_non, G.n_int, G.n_bl, G.n_ref, G.n_tup, G.f_eq, G.f_ne, G.ty_non, G.ty_bl, G.ty_int, G.ty_str, G.ty_tup, G.ty_fzl, G.kb_ii, G.kb_ib, G.kb_bi, G.kb_bb, G.kb_ni, G.kb_si, G.kb_li, G.kb_ti, G.kb_ll, G.kb_tl, G.kb_nl, G.kb_il, G.kb_bl, G.kb_sl, G.kb_tt, G.kb_lt, G.kb_nt, G.kb_it, G.kb_bt, G.kb_st, decide_eq_true_eq, Bool.not_eq_true', decide_eq_false_iff_not, ↓reduceIte, eq_self, Bool.false_eq_true, Bool.true_eq_false, reduceCtorEq, Bool.not_true, Bool.not_false, ne_eq, not_false_eq_true, G.f_abs, G.f_int, G.f_intB, G.f_max2, G.f_min2, G.f_gcd, G.it_tupD, G.it_fzlD, G.it_refD, G.f_ix, G.f_len, G.f_list, G.f_setItem, G.f_slF, G.f_slR, G.f_isi, G.f_app, G.w_bm, G.oq_some, G.w_lc, List.map_cons, List.map_nil, List.length_cons, List.length_nil, List.cons_append, List.nil_append, Nat.zero_add, List.replicate, Nat.sub_self, Nat.reduceAdd, Nat.reduceSub, List.set_cons_zero, List.set_cons_succ, Option.some.injEq, exists_eq_left', exists_eq_left, true_and, and_true, G.at_0, G.at_1, G.at_2, G.at_3, G.at_m1, G.ix1_0, G.ix2_0, G.ix2_1, G.ix3_0, G.ix3_1, G.ix3_2, List.length_set, List.set_set])
theorem toPy_bl {h : Store} {n : Nat} {b : Bool} : toPy h n (.bl b) = some (.bool b) := by cases n <;> (unfold toPy; rfl)
theorem feq_bl {X : XQ} {h : Store} {neg a b : Bool} {Q : D → Store → Prop} : WpX X (fEq neg (.bl a) (.bl b) h) Q ↔ Q (.bl (if neg then !decide (a = b) else decide (a = b))) h :=
  f_eq_of toPy_bl toPy_bl rfl rfl (by cases a <;> cases b <;> rfl)
theorem IsR.ins {h : Store} {n : Nat} {p : Int} {R : List Tr} (r : IsR h n p R) : ∃ fs, h[n]? = some (.ins 3 fs) := by
  obtain ⟨l, e, _⟩ := r
  exact ⟨_, e⟩
theorem holds_spec {h : Store} {st n m l : Nat} {p : Int} {R : List Tr} {zs : List Int} (hs : StA h st) (r : IsR h n p R) (e : getL h m = some (rowsD R)) (hR0 : R.length ≤ 100000) (hp : 1 ≤ p) (hR : ∀ t ∈ R, okR p t = true) (g : getL h l = some (zs.map D.int)) (hl : l ≠ st) (hz : 1 ≤ zs.length ∧ zs.length ≤ 300) :
    WpX NoX (m_law_holds [.ref st, .ref n, .int p, .ref m, .ref l] h) fun d h' => d = .bl true ∧ Fm st h h' := by
  unfold m_law_holds m_law_holds_b
  rw [w_fn, w_seq]
  walk_at "wpz"
  refine (lists_spec hs g hl hz).imp ?_
  rintro _ h1 ⟨N, ls, rfl, gN, il, hlen, f1⟩
  simp only [k_ref, gN, oq_some]
  refine for_inv (fun k ρ h' => (∃ d5 d6, ρ = [some (.ref st), some (.ref n), some (.int p), some (.ref m), some (.ref l), d5, d6]) ∧ Ap h1 h') ⟨⟨none, none, rfl⟩, Ap.refl _⟩ ?_ ?_ ?_
  · rintro k ρ h' _ ⟨_, a⟩
    exact decide_eq_true (a.getL gN)
  · rintro k d ρ h' hd ⟨⟨d5, d6, rfl⟩, a⟩
    obtain ⟨x, ws, rfl, _, _, gx, hw⟩ := il d (List.mem_of_getElem? hd)
    have gx' := a.getL gx
    have r' := (r.fm hs f1).ap a
    have e' := a.getL (f1.rows hs e)
    show goQ (some _) _
    rw [g_some, w_seq]
    walk_at "wpz"
    rw [gx', oq_some, q_nx]
    have a2 : Ap h' (h' ++ [O.lst (ws.map D.int)]) := Ap.app
    have g2 : getL (h' ++ [O.lst (ws.map D.int)]) h'.length = some (ws.map D.int) := getL_new
    generalize h' ++ [O.lst (ws.map D.int)] = h2 at a2 g2 ⊢
    walk_at "wpz"
    have r2 := r'.ap a2
    obtain ⟨fs, e3⟩ := r2.ins
    rw [f_inO e3]
    refine (has_spec r2 hp hR g2).imp ?_
    rintro _ h3 ⟨rfl, rfl⟩
    rw [b_bl]
    refine (keeps_spec (a2.getL e') hp hR hR0 (a2.getL gx')).imp ?_
    rintro _ h4 ⟨rfl, a4⟩
    rw [feq_bl, b_bl, if_neg (by simp)]
    rw [feq_lints (a4.getL g2) (a4.getL (a2.getL gx')) (by omega) (by omega), b_bl, if_neg (by simp)]
    exact ⟨⟨_, _, rfl⟩, a.trans (a2.trans a4)⟩
  · rintro ρ h2 ⟨⟨d5, d6, rfl⟩, a⟩
    have f2 := f1.ap a
    have r2 := r.fm hs f2
    obtain ⟨fs, e3⟩ := r2.ins
    rw [q_nx]
    walk_at "wpz"
    have g2 := f2.getL hl g
    rw [g2, oq_some, f_inO e3]
    refine has_tup.imp ?_
    rintro _ h3 ⟨rfl, rfl⟩
    simp only [b_bl]
    rw [if_pos (by simp)]
    refine ⟨line_small (by decide), ?_⟩
    have a3 : Ap h3 (h3 ++ [O.lst [D.bl false]]) := Ap.app
    have g3 : getL (h3 ++ [O.lst [D.bl false]]) h3.length = some [D.bl false] := getL_new
    generalize h3 ++ [O.lst [D.bl false]] = h4 at a3 g3 ⊢
    rw [a3.getL g2, oq_some]
    obtain ⟨ws, ec, hw⟩ := cut_ints (zs := zs) (a := some 1) (b := none)
    rw [ec]
    have a4 : Ap h4 (h4 ++ [O.lst (ws.map D.int)]) := Ap.app
    rw [f_addL (a4.getL g3) getL_new (by simp only [List.length_map, List.length_cons, List.length_nil]; omega)]
    have a5 : Ap (h4 ++ [O.lst (ws.map D.int)]) (h4 ++ [O.lst (ws.map D.int)] ++ [O.lst ([D.bl false] ++ ws.map D.int)]) := Ap.app
    have g5 : getL (h4 ++ [O.lst (ws.map D.int)] ++ [O.lst ([D.bl false] ++ ws.map D.int)]) (h4 ++ [O.lst (ws.map D.int)]).length = some ([D.bl false] ++ ws.map D.int) := getL_new
    have a6 := (a3.trans a4).trans a5
    generalize h4 ++ [O.lst (ws.map D.int)] ++ [O.lst ([D.bl false] ++ ws.map D.int)] = h5 at g5 a6 ⊢
    generalize (h4 ++ [O.lst (ws.map D.int)]).length = M at g5 ⊢
    rw [f_inO (a6.get e3)]
    refine (has_bad g5 (fun d hd => ?_) ⟨D.bl false, List.mem_append_left _ (List.mem_singleton.mpr rfl), rfl⟩).imp ?_
    · rcases List.mem_append.mp hd with z | z
      · cases List.mem_singleton.mp z
        rfl
      · obtain ⟨y, _, rfl⟩ := List.mem_map.mp z
        rfl
    · rintro _ h6 ⟨rfl, rfl⟩
      exact ⟨rfl, f2.ap a6⟩
end K01

namespace K01
open PySem L2 G
local macro_rules | `(tactic| walk_at "wps") => `(tactic| try simp only [G.w_bnd, G.w_chain, G.w_wenum, G.en_fzl, G.en_ref, G.f_insert, G.f_tuple, G.w_getF, G.w_setF, G.w_makeX, G.w_make, G.w_methX, G.w_meth, G.f_lenO, G.w_addX, G.w_fldT, G.w_callX, G.w_fld, G.w_isE, G.w_bndS, G.q_ex, G.x_ex, G.w_raise, G.w_raise0, G.y_nx, G.y_rt, G.y_bk, G.y_ct, G.y_ex, G.w_try, G.w_cl0, G.w_cl1, G.st_nx, G.st_rt, G.st_bk, G.st_ct, G.cl_nx, G.cl_rt, G.cl_bk, G.cl_ct, G.w_su0, G.w_su1, G.n_ex, G.w_ret, G.w_ok, G.w_var, G.s_z, G.s_s, G.w_c, G.w_op, G.w_un, G.w_nil, G.w_cons, G.w_cb, G.w_call, G.w_tup, G.w_alloc, G.w_lst, G.b_bl, G.w_asBl, G.w_test, G.w_yes, G.w_and, G.w_or, G.w_not, G.w_andV, G.w_orV, G.w_notV, G.w_ifx, G.w_nop, G.i_int, G.w_part, G.w_sl, G.w_next, G.w_rt, G.w_rtN, G.w_brk, G.w_cont, G.w_drop, G.q_nx, G.q_rt, G.q_bk, G.q_ct, G.w_seq, G.w_ifS, G.w_set, G.g_some, G.w_asg, G.w_setIx, G.w_aug, G.n_rt, G.n_nx, G.w_fn, G.w_for, G.w_wseq, G.k_tup, G.k_fzl, G.k_ref, G.w_wr1, G.w_wr2, G.f_add, G.f_sub, G.f_addI, G.f_mul, G.f_div, G.f_mod, G.f_pow, G.f_neg, G.f_cmp, G.f_isB, G.f_notB, G.f_isN, G.f_notN, G.n_non, G.n_int, G.n_bl, G.n_ref, G.n_tup, G.f_eq, G.f_ne, G.ty_non, G.ty_bl, G.ty_int, G.ty_str, G.ty_tup, G.ty_fzl, G.kb_ii, G.kb_ib, G.kb_bi, G.kb_bb, G.kb_ni, G.kb_si, G.kb_li, G.kb_ti, G.kb_ll, G.kb_tl, G.kb_nl, G.kb_il, G.kb_bl, G.kb_sl, G.kb_tt, G.kb_lt, G.kb_nt, G.kb_it, G.kb_bt, G.kb_st, decide_eq_true_eq, Bool.not_eq_true', decide_eq_false_iff_not, ↓reduceIte, eq_self, Bool.false_eq_true, Bool.true_eq_false, reduceCtorEq, Bool.not_true, Bool.not_false, ne_eq, not_false_eq_true, G.f_abs, G.f_int, G.f_intB, G.f_max2, G.f_min2, G.f_gcd, G.it_tupD, G.it_fzlD, G.it_refD, G.f_ix, G.f_len, G.f_list, G.f_setItem, G.f_slF, G.f_slR, G.f_isi, G.f_app, G.w_bm, G.oq_some, G.w_lc, List.map_cons, List.map_nil, List.length_cons, List.length_nil, List.cons_append, List.nil_append, Nat.zero_add, List.replicate, Nat.sub_self, Nat.reduceAdd, Nat.reduceSub, List.set_cons_zero, List.set_cons_succ, Option.some.injEq, exists_eq_left', exists_eq_left, true_and, and_true, G.at_0, G.at_1, G.at_2, G.at_3, G.at_m1, G.ix1_0, G.ix2_0, G.ix2_1, G.ix3_0, G.ix3_1, G.ix3_2, List.length_set, List.set_set])
local macro_rules | `(tactic| walk_at "wpx") => `(tactic| try simp only [G.w_bnd, G.w_chain, G.w_wenum, G.en_fzl, G.en_ref, G.f_insert, G.f_tuple, G.w_getF, G.w_setF, G.w_makeX, G.w_make, G.w_methX, G.w_meth, G.f_lenO, G.w_addX, G.w_fldT, G.w_callX, G.w_fld, G.w_isE, G.w_bndS, G.q_ex, G.x_ex, G.w_raise, G.w_raise0, G.y_nx, G.y_rt, G.y_bk, G.y_ct, G.y_ex, G.w_try, G.w_cl0, G.w_cl1, G.st_nx, G.st_rt, G.st_bk, G.st_ct, G.cl_nx, G.cl_rt, G.cl_bk, G.cl_ct, G.w_su0, G.w_su1, G.n_ex, G.w_ret, G.w_ok, G.w_var, G.s_z, G.s_s, G.w_c, G.w_op, G.w_un, G.w_nil, G.w_cons, G.w_cb, G.w_call, G.w_tup, G.w_alloc, G.w_lst, G.b_bl, G.w_asBl, G.w_test, G.w_yes, G.w_and, G.w_or, G.w_not, G.w_andV, G.w_orV, G.w_notV, G.w_ifx, G.w_nop, G.i_int, G.w_part, G.w_sl, G.w_next, G.w_rt, G.w_rtN, G.w_brk, G.w_cont, G.w_drop, G.q_nx, G.q_rt, G.q_bk, G.q_ct, G.w_seq, G.w_ifS, G.w_set, G.g_some, G.w_asg, G.w_setIx, G.w_aug, G.n_rt, G.n_nx, G.w_fn, G.w_for, G.w_wseq, G.k_tup, G.k_fzl, G.k_ref, G.w_wr1, G.w_wr2, G.f_add, G.f_sub, G.f_addI, G.f_mul, G.f_div, G.f_mod, G.f_pow, G.f_neg, G.f_cmp, G.f_isB, G.f_notB, G.f_isN, G.f_notN, G.n_non, G.n_int, G.n_bl, G.n_ref, G.n_tup, G.f_eq, G.f_ne, G.ty_non, G.ty_bl, G.ty_int, G.ty_str, G.ty_tup, G.ty_fzl, G.kb_ii, G.kb_ib, G.kb_bi, G.kb_bb, G.kb_ni, G.kb_si, G.kb_li, G.kb_ti, G.kb_ll, G.kb_tl, G.kb_nl, G.kb_il, G.kb_bl, G.kb_sl, G.kb_tt, G.kb_lt, G.kb_nt, G.kb_it, G.kb_bt, G.kb_st, decide_eq_true_eq, Bool.not_eq_true', decide_eq_false_iff_not, ↓reduceIte, eq_self, Bool.false_eq_true, Bool.true_eq_false, reduceCtorEq, Bool.not_true, Bool.not_false, ne_eq, not_false_eq_true, G.f_abs, G.f_int, G.f_intB, G.f_max2, G.f_min2, G.f_gcd, G.it_tupD, G.it_fzlD, G.it_refD, G.f_ix, G.f_len, G.f_list, G.f_setItem, G.f_slF, G.f_slR, G.f_isi, G.f_app, G.w_bm, G.oq_some, G.w_lc, List.map_cons, List.map_nil, List.length_cons, List.length_nil, List.cons_append, List.nil_append, Nat.zero_add, List.replicate, Nat.sub_self, Nat.reduceAdd, Nat.reduceSub, List.set_cons_zero, List.set_cons_succ, Option.some.injEq, exists_eq_left', exists_eq_left, true_and, and_true, G.at_0, G.at_1, G.at_2, G.at_3, G.at_m1, G.ix1_0, G.ix2_0, G.ix2_1, G.ix3_0, G.ix3_1, G.ix3_2, List.length_set, List.set_set, *])
local macro_rules | `(tactic| walk_at "wpz") => `(tactic| try simp only [G.w_bnd, G.w_chain, G.w_wenum, G.en_fzl, G.en_ref, G.f_insert, G.f_tuple, G.w_getF, G.w_setF, G.w_makeX, G.w_make, G.w_methX, G.w_meth, G.f_lenO, G.w_addX, G.w_fldT, G.w_callX, G.w_fld, G.w_isE, G.w_bndS, G.q_ex, G.x_ex, G.w_raise, G.w_raise0, G.y_nx, G.y_rt, G.y_bk, G.y_ct, G.y_ex, G.w_try, G.w_cl0, G.w_cl1, G.st_nx, G.st_rt, G.st_bk, G.st_ct, G.cl_nx, G.cl_rt, G.cl_bk, G.cl_ct, G.w_su0, G.w_su1, G.n_ex, G.w_ret, G.w_ok, G.w_var, G.s_z, G.s_s, G.w_c, G.w_op, G.w_un, G.w_nil, G.w_cons, G.w_cb, G.w_call, G.w_tup, G.w_alloc, G.w_lst, G.b_bl, G.w_asBl, G.w_test, G.w_yes, G.w_and, G.w_or, G.w_not, G.w_andV, G.w_orV, G.w_notV, G.w_ifx, G.w_nop, G.i_int, G.w_part, G.w_sl, G.w_next, G.w_rt, G.w_rtN, G.w_brk, G.w_cont, G.w_drop, G.q_rt, G.q_bk, G.q_ct, G.w_seq, G.w_ifS, G.w_set, G.g_some, G.w_asg, G.w_setIx, G.w_aug, G.n_rt, G.n_nx, G.w_fn, G.w_for, G.w_wseq, G.k_tup, G.k_fzl, G.k_ref, G.w_wr1, G.w_wr2, G.f_add, G.f_sub, G.f_addI, G.f_mul, G.f_div, G.f_mod, G.f_pow, G.f_neg, G.f_cmp, G.f_isB, G.f_notB, G.f_isN, G.f_notN, G.n_non, G.n_int, G.n_bl, G.n_ref, G.n_tup, G.f_eq, G.f_ne, G.ty_non, G.ty_bl, G.ty_int, G.ty_str, G.ty_tup, G.ty_fzl, G.kb_ii, G.kb_ib, G.kb_bi, G.kb_bb, G.kb_ni, G.kb_si, G.kb_li, G.kb_ti, G.kb_ll, G.kb_tl, G.kb_nl, G.kb_il, G.kb_bl, G.kb_sl, G.kb_tt, G.kb_lt, G.kb_nt, G.kb_it, G.kb_bt, G.kb_st, decide_eq_true_eq, Bool.not_eq_true', decide_eq_false_iff_not, ↓reduceIte, eq_self, Bool.false_eq_true, Bool.true_eq_false, reduceCtorEq, Bool.not_true, Bool.not_false, ne_eq, not_false_eq_true, G.f_abs, G.f_int, G.f_intB, G.f_max2, G.f_min2, G.f_gcd, G.it_tupD, G.it_fzlD, G.it_refD, G.f_ix, G.f_len, G.f_list, G.f_setItem, G.f_slF, G.f_slR, G.f_isi, G.f_app, G.w_bm, G.oq_some, G.w_lc, List.map_cons, List.map_nil, List.length_cons, List.length_nil, List.cons_append, List.nil_append, Nat.zero_add, List.replicate, Nat.sub_self, Nat.reduceAdd, Nat.reduceSub, List.set_cons_zero, List.set_cons_succ, Option.some.injEq, exists_eq_left', exists_eq_left, true_and, and_true, G.at_0, G.at_1, G.at_2, G.at_3, G.at_m1, G.ix1_0, G.ix2_0, G.ix2_1, G.ix3_0, G.ix3_1, G.ix3_2, List.length_set, List.set_set])
theorem cut_rows {R : List Tr} {a b : Option Int} : ∃ S : List Tr, cutD (rowsD R) a b = rowsD S ∧ (∀ t ∈ S, t ∈ R) ∧ S.length ≤ R.length := by
  unfold cutD rowsD
  rw [← List.map_drop, ← List.map_take]
  refine ⟨_, rfl, fun t ht => List.mem_of_mem_drop (List.mem_of_mem_take ht), ?_⟩
  rw [List.length_take, List.length_drop]
  omega
/-- what is wrong with Rows(p, R): the points, the first wrong row, nothing -/
inductive Due (p : Int) (R : List Tr) : PySem.Str → Int → Prop
  | cnt : ¬ (1 ≤ p ∧ p ≤ 120) → Due p R "count" p
  | row (k : Nat) (t : Tr) : 1 ≤ p ∧ p ≤ 120 → R[k]? = some t → okR p t = false → (∀ j t, j < k → R[j]? = some t → okR p t = true) → Due p R "row" (k : Int)
  | ok : 1 ≤ p ∧ p ≤ 120 → (∀ t ∈ R, okR p t = true) → Due p R "let" 0
theorem Due.uniq {p : Int} {R : List Tr} {s s' : PySem.Str} {v v' : Int} (a : Due p R s v) (b : Due p R s' v') : s = s' ∧ v = v' := by
  cases a with
  | cnt n =>
    cases b with
    | cnt _ => exact ⟨rfl, rfl⟩
    | row _ _ y => exact (n y).elim
    | ok y => exact (n y).elim
  | row k t y e f g =>
    cases b with
    | cnt n => exact (n y).elim
    | row k' t' y' e' f' g' =>
      refine ⟨rfl, ?_⟩
      rcases Nat.lt_trichotomy k k' with z | z | z
      · rw [g' k t z e] at f; cases f
      · rw [z]
      · rw [g k' t' z e'] at f'; cases f'
    | ok _ all => rw [all t (List.mem_of_getElem? e)] at f; cases f
  | ok y all =>
    cases b with
    | cnt n => exact (n y).elim
    | row k' t' y' e' f' g' => rw [all t' (List.mem_of_getElem? e')] at f'; cases f'
    | ok _ _ => exact ⟨rfl, rfl⟩
theorem due_spec {h : Store} {p : Int} {m : Nat} {R : List Tr} (e : getL h m = some (rowsD R)) : WpX NoX (m_law_due [.int p, .ref m] h) fun d h' => (∃ s v, d = .tup [.str s, .int v] ∧ Due p R s v) ∧ h' = h := by
  unfold m_law_due m_law_due_b
  rw [w_fn, w_seq]
  walk_at "wpz"
  by_cases c1 : 1 ≤ p
  case neg =>
    rw [if_neg c1]
    exact ⟨line_small (by decide), _, _, rfl, .cnt fun z => c1 z.1⟩
  rw [if_pos c1]
  by_cases c2 : p ≤ 120
  case neg =>
    rw [if_pos c2]
    exact ⟨line_small (by decide), _, _, rfl, .cnt fun z => c2 z.2⟩
  rw [if_neg (by simpa using c2), q_nx, w_seq]
  walk_at "wpz"
  simp only [en_ref, e, oq_some]
  refine for_inv (fun k ρ h' => h' = h ∧ (∃ d3 d4, ρ = [some (.int p), some (.ref m), d3, d4]) ∧ ∀ j t, j < k → R[j]? = some t → okR p t = true) ⟨rfl, ⟨none, none, rfl⟩, fun j t hj => absurd hj (by omega)⟩ ?_ ?_ ?_
  · rintro k ρ h' _ ⟨rfl, _⟩
    exact decide_eq_true e
  · rintro k d ρ h' hd ⟨rfl, ⟨d3, d4, rfl⟩, hk⟩
    obtain ⟨y, hy, rfl⟩ := enum_at hd
    obtain ⟨t, ht, rfl⟩ := rows_get hy
    show goQ (some _) _
    rw [g_some]
    refine WpX.same (Q := fun f h1 => h1 = h' ∧ f = if okR p t = true then Fl.nx [some (.int p), some (.ref m), some (.int (k : Int)), some (trD t)] else Fl.rt (.tup [.str "row", .int (k : Int)])) ?_ ?_
    · obtain ⟨i, j, c⟩ := t
      simp only [trD]
      walk_at "wps"
      have z2 := line_small (n := 2) (by decide)
      unfold okR
      by_cases e1 : 0 ≤ i <;> by_cases e2 : i < p <;> by_cases e3 : 0 ≤ j <;> by_cases e4 : j < p <;> simp [e1, e2, e3, e4, z2]
    · rintro f h1 ⟨rfl, rfl⟩
      by_cases e : okR p t = true
      · rw [if_pos e]
        refine ⟨rfl, ⟨_, _, rfl⟩, fun j s hj hs => ?_⟩
        by_cases z : j = k
        · subst z
          rw [ht] at hs
          cases hs
          exact e
        · exact hk j s (by omega) hs
      · rw [if_neg e]
        exact ⟨⟨_, _, rfl, .row k t ⟨c1, c2⟩ ht (by simpa using e) hk⟩, rfl⟩
  · rintro ρ h' ⟨rfl, ⟨d3, d4, rfl⟩, hk⟩
    have all : ∀ t ∈ R, okR p t = true := fun t ht => by
      obtain ⟨j, hj, e⟩ := List.getElem_of_mem ht
      exact hk j t (by rw [enum_len, rows_len]; exact hj) (by rw [← e]; exact List.getElem?_eq_getElem hj)
    walk_at "wps"
    exact ⟨line_small (by decide), _, _, rfl, .ok ⟨c1, c2⟩ all⟩
end K01

namespace K01
open PySem L2 G
local macro_rules | `(tactic| walk_at "wps") => `(tactic| try simp only [G.w_bnd, G.w_chain, G.w_wenum, G.en_fzl, G.en_ref, G.f_insert, G.f_tuple, G.w_getF, G.w_setF, G.w_makeX, G.w_make, G.w_methX, G.w_meth, G.f_lenO, G.w_addX, G.w_fldT, G.w_callX, G.w_fld, G.w_isE, G.w_bndS, G.q_ex, G.x_ex, G.w_raise, G.w_raise0, G.y_nx, G.y_rt, G.y_bk, G.y_ct, G.y_ex, G.w_try, G.w_cl0, G.w_cl1, G.st_nx, G.st_rt, G.st_bk, G.st_ct, G.cl_nx, G.cl_rt, G.cl_bk, G.cl_ct, G.w_su0, G.w_su1, G.n_ex, G.w_ret, G.w_ok, G.w_var, G.s_z, G.s_s, G.w_c, G.w_op, G.w_un, G.w_nil, G.w_cons, G.w_cb, G.w_call, G.w_tup, G.w_alloc, G.w_lst, G.b_bl, G.w_asBl, G.w_test, G.w_yes, G.w_and, G.w_or, G.w_not, G.w_andV, G.w_orV, G.w_notV, G.w_ifx, G.w_nop, G.i_int, G.w_part, G.w_sl, G.w_next, G.w_rt, G.w_rtN, G.w_brk, G.w_cont, G.w_drop, G.q_nx, G.q_rt, G.q_bk, G.q_ct, G.w_seq, G.w_ifS, G.w_set, G.g_some, G.w_asg, G.w_setIx, G.w_aug, G.n_rt, G.n_nx, G.w_fn, G.w_for, G.w_wseq, G.k_tup, G.k_fzl, G.k_ref, G.w_wr1, G.w_wr2, G.f_add, G.f_sub, G.f_addI, G.f_mul, G.f_div, G.f_mod, G.f_pow, G.f_neg, G.f_cmp, G.f_isB, G.f_notB, G.f_isN, G.f_notN, G.n_non, G.n_int, G.n_bl, G.n_ref, G.n_tup, G.f_eq, G.f_ne, G.ty_non, G.ty_bl, G.ty_int, G.ty_str, G.ty_tup, G.ty_fzl, G.kb_ii, G.kb_ib, G.kb_bi, G.kb_bb, G.kb_ni, G.kb_si, G.kb_li, G.kb_ti, G.kb_ll, G.kb_tl, G.kb_nl, G.kb_il, G.kb_bl, G.kb_sl, G.kb_tt, G.kb_lt, G.kb_nt, G.kb_it, G.kb_bt, G.kb_st, decide_eq_true_eq, Bool.not_eq_true', decide_eq_false_iff_not, ↓reduceIte, eq_self, Bool.false_eq_true, Bool.true_eq_false, reduceCtorEq, Bool.not_true, Bool.not_false, ne_eq, not_false_eq_true, G.f_abs, G.f_int, G.f_intB, G.f_max2, G.f_min2, G.f_gcd, G.it_tupD, G.it_fzlD, G.it_refD, G.f_ix, G.f_len, G.f_list, G.f_setItem, G.f_slF, G.f_slR, G.f_isi, G.f_app, G.w_bm, G.oq_some, G.w_lc, List.map_cons, List.map_nil, List.length_cons, List.length_nil, List.cons_append, List.nil_append, Nat.zero_add, List.replicate, Nat.sub_self, Nat.reduceAdd, Nat.reduceSub, List.set_cons_zero, List.set_cons_succ, Option.some.injEq, exists_eq_left', exists_eq_left, true_and, and_true, G.at_0, G.at_1, G.at_2, G.at_3, G.at_m1, G.ix1_0, G.ix2_0, G.ix2_1, G.ix3_0, G.ix3_1, G.ix3_2, List.length_set, List.set_set])
local macro_rules | `(tactic| walk_at "wpx") => `(tactic| try simp only [G.w_bnd, G.w_chain, G.w_wenum, G.en_fzl, G.en_ref, G.f_insert, G.f_tuple, G.w_getF, G.w_setF, G.w_makeX, G.w_make, G.w_methX, G.w_meth, G.f_lenO, G.w_addX, G.w_fldT, G.w_callX, G.w_fld, G.w_isE, G.w_bndS, G.q_ex, G.x_ex, G.w_raise, G.w_raise0, G.y_nx, G.y_rt, G.y_bk, G.y_ct, G.y_ex, G.w_try, G.w_cl0, G.w_cl1, G.st_nx, G.st_rt, G.st_bk, G.st_ct, G.cl_nx, G.cl_rt, G.cl_bk, G.cl_ct, G.w_su0, G.w_su1, G.n_ex, G.w_ret, G.w_ok, G.w_var, G.s_z, G.s_s, G.w_c, G.w_op, G.w_un, G.w_nil, G.w_cons, G.w_cb, G.w_call, G.w_tup, G.w_alloc, G.w_lst, G.b_bl, G.w_asBl, G.w_test, G.w_yes, G.w_and, G.w_or, G.w_not, G.w_andV, G.w_orV, G.w_notV, G.w_ifx, G.w_nop, G.i_int, G.w_part, G.w_sl, G.w_next, G.w_rt, G.w_rtN, G.w_brk, G.w_cont, G.w_drop, G.q_nx, G.q_rt, G.q_bk, G.q_ct, G.w_seq, G.w_ifS, G.w_set, G.g_some, G.w_asg, G.w_setIx, G.w_aug, G.n_rt, G.n_nx, G.w_fn, G.w_for, G.w_wseq, G.k_tup, G.k_fzl, G.k_ref, G.w_wr1, G.w_wr2, G.f_add, G.f_sub, G.f_addI, G.f_mul, G.f_div, G.f_mod, G.f_pow, G.f_neg, G.f_cmp, G.f_isB, G.f_notB, G.f_isN, G.f_notN, G.n_non, G.n_int, G.n_bl, G.n_ref, G.n_tup, G.f_eq, G.f_ne, G.ty_non, G.ty_bl, G.ty_int, G.ty_str, G.ty_tup, G.ty_fzl, G.kb_ii, G.kb_ib, G.kb_bi, G.kb_bb, G.kb_ni, G.kb_si, G.kb_li, G.kb_ti, G.kb_ll, G.kb_tl, G.kb_nl, G.kb_il, G.kb_bl, G.kb_sl, G.kb_tt, G.kb_lt, G.kb_nt, G.kb_it, G.kb_bt, G.kb_st, decide_eq_true_eq, Bool.not_eq_true', decide_eq_false_iff_not, ↓reduceIte, eq_self, Bool.false_eq_true, Bool.true_eq_false, reduceCtorEq, Bool.not_true, Bool.not_false, ne_eq, not_false_eq_true, G.f_abs, G.f_int, G.f_intB, G.f_max2, G.f_min2, G.f_gcd, G.it_tupD, G.it_fzlD, G.it_refD, G.f_ix, G.f_len, G.f_list, G.f_setItem, G.f_slF, G.f_slR, G.f_isi, G.f_app, G.w_bm, G.oq_some, G.w_lc, List.map_cons, List.map_nil, List.length_cons, List.length_nil, List.cons_append, List.nil_append, Nat.zero_add, List.replicate, Nat.sub_self, Nat.reduceAdd, Nat.reduceSub, List.set_cons_zero, List.set_cons_succ, Option.some.injEq, exists_eq_left', exists_eq_left, true_and, and_true, G.at_0, G.at_1, G.at_2, G.at_3, G.at_m1, G.ix1_0, G.ix2_0, G.ix2_1, G.ix3_0, G.ix3_1, G.ix3_2, List.length_set, List.set_set, *])
local macro_rules | `(tactic| walk_at "wpz") => `(tactic| try simp only [G.w_bnd, G.w_chain, G.w_wenum, G.en_fzl, G.en_ref, G.f_insert, G.f_tuple, G.w_getF, G.w_setF, G.w_makeX, G.w_make, G.w_methX, G.w_meth, G.f_lenO, G.w_addX, G.w_fldT, G.w_callX, G.w_fld, G.w_isE, G.w_bndS, G.q_ex, G.x_ex, G.w_raise, G.w_raise0, G.y_nx, G.y_rt, G.y_bk, G.y_ct, G.y_ex, G.w_try, G.w_cl0, G.w_cl1, G.st_nx, G.st_rt, G.st_bk, G.st_ct, G.cl_nx, G.cl_rt, G.cl_bk, G.cl_ct, G.w_su0, G.w_su1, G.n_ex, G.w_ret, G.w_ok, G.w_var, G.s_z, G.s_s, G.w_c, G.w_op, G.w_un, G.w_nil, G.w_cons, G.w_cb, G.w_call, G.w_tup, G.w_alloc, G.w_lst, G.b_bl, G.w_asBl, G.w_test, G.w_yes, G.w_and, G.w_or, G.w_not, G.w_andV, G.w_orV, G.w_notV, G.w_ifx, G.w_nop, G.i_int, G.w_part, G.w_sl, G.w_next, G.w_rt, G.w_rtN, G.w_brk, G.w_cont, G.w_drop, G.q_rt, G.q_bk, G.q_ct, G.w_seq, G.w_ifS, G.w_set, G.g_some, G.w_asg, G.w_setIx, G.w_aug, G.n_rt, G.n_nx, G.w_fn, G.w_for, G.w_wseq, G.k_tup, G.k_fzl, G.k_ref, G.w_wr1, G.w_wr2, G.f_add, G.f_sub, G.f_addI, G.f_mul, G.f_div, G.f_mod, G.f_pow, G.f_neg, G.f_cmp, G.f_isB, G.f_notB, G.f_isN, G.f_notN, G.n_non, G.n_int, G.n_bl, G.n_ref, G.n_tup, G.f_eq, G.f_ne, G.ty_non, G.ty_bl, G.ty_int, G.ty_str, G.ty_tup, G.ty_fzl, G.kb_ii, G.kb_ib, G.kb_bi, G.kb_bb, G.kb_ni, G.kb_si, G.kb_li, G.kb_ti, G.kb_ll, G.kb_tl, G.kb_nl, G.kb_il, G.kb_bl, G.kb_sl, G.kb_tt, G.kb_lt, G.kb_nt, G.kb_it, G.kb_bt, G.kb_st, decide_eq_true_eq, Bool.not_eq_true', decide_eq_false_iff_not, ↓reduceIte, eq_self, Bool.false_eq_true, Bool.true_eq_false, reduceCtorEq, Bool.not_true, Bool.not_false, ne_eq, not_false_eq_true, G.f_abs, G.f_int, G.f_intB, G.f_max2, G.f_min2, G.f_gcd, G.it_tupD, G.it_fzlD, G.it_refD, G.f_ix, G.f_len, G.f_list, G.f_setItem, G.f_slF, G.f_slR, G.f_isi, G.f_app, G.w_bm, G.oq_some, G.w_lc, List.map_cons, List.map_nil, List.length_cons, List.length_nil, List.cons_append, List.nil_append, Nat.zero_add, List.replicate, Nat.sub_self, Nat.reduceAdd, Nat.reduceSub, List.set_cons_zero, List.set_cons_succ, Option.some.injEq, exists_eq_left', exists_eq_left, true_and, and_true, G.at_0, G.at_1, G.at_2, G.at_3, G.at_m1, G.ix1_0, G.ix2_0, G.ix2_1, G.ix3_0, G.ix3_1, G.ix3_2, List.length_set, List.set_set])
theorem f_ixtr {X : XQ} {h : Store} {Q : D → Store → Prop} {t : Tr} {i : Int} : WpX X (fIx (trD t) (.int i) h) Q ↔ oQ (atI [D.int t.1, D.int t.2.1, D.int t.2.2] i) fun d => Q d h := by
  unfold trD
  walk_at "wps"
theorem bad_spec {h : Store} {st m : Nat} {p : Int} {R : List Tr} (hs : StA h st) (e : getL h m = some (rowsD R)) (hz : R.length ≤ 100000) (hp : 1 ≤ p ∧ p ≤ 120) :
    WpX NoX (m_law_bad [.ref st, .int p, .ref m] h) fun d h' => ∃ n S, d = .ref n ∧ getL h' n = some (rowsD S) ∧ S.length ≤ R.length + 3 ∧ h.length ≤ n ∧ Fm st h h' := by
  have lt := sa_lt hs
  have f0 := Fm.refl hs
  unfold m_law_bad m_law_bad_b
  rw [w_fn, w_seq]
  walk_at "wpz"
  rw [e, oq_some]
  have f1 : Fm st h (h ++ [O.lst (rowsD R)]) := f0.ap Ap.app
  have g1 : getL (h ++ [O.lst (rowsD R)]) h.length = some (rowsD R) := getL_new
  generalize h ++ [O.lst (rowsD R)] = h1 at f1 g1 ⊢
  rw [q_nx, w_seq]
  walk_at "wpz"
  refine (next_fm (size := 3) f1.sa).imp ?_
  rintro _ h2 ⟨w, rfl, w0, w1, f2⟩
  have nF : h.length ≠ st := by omega
  have g2 := f2.getL nF g1
  replace f2 := f1.trans f2
  refine ⟨w, rfl, by omega, by omega, ?_⟩
  refine for_inv (fun k ρ h' => (∃ d4 d5 d6 d7 d8, ρ = [some (.ref st), some (.int p), some (.ref m), some (.ref h.length), d4, d5, d6, d7, d8]) ∧ Fm st h h' ∧ ∃ S, getL h' h.length = some (rowsD S) ∧ S.length = R.length + k) ⟨⟨none, none, none, none, none, rfl⟩, f2, R, g2, rfl⟩ ?_ ?_ ?_
  · rintro k ρ h' _ _
    rfl
  · rintro k d ρ h3 hd ⟨⟨d4, d5, d6, d7, d8, rfl⟩, f3, S, gS, hS⟩
    obtain ⟨hk, rfl⟩ := rng_get hd
    show goQ (some _) _
    rw [g_some, w_seq]
    walk_at "wpz"
    simp only [f3.rows hs e, oq_some, rows_len]
    refine (next_fm f3.sa (by omega) (by omega)).imp ?_
    rintro _ h4 ⟨pl, rfl, pl0, pl1, f4⟩
    have g4 := f4.getL nF gS
    replace f4 := f3.trans f4
    rw [q_nx, w_seq]
    walk_at "wpz"
    refine (next_fm (size := 200) f4.sa).imp ?_
    rintro _ h5 ⟨far, rfl, _, _, f5⟩
    have g5 := f5.getL nF g4
    replace f5 := f4.trans f5
    rw [f_add, q_nx, w_seq]
    walk_at "wpz"
    refine ⟨line_small (by decide), ?_⟩
    have f6 := f5.ap (Ap.app (l := [O.lst [D.int (0 - 1), D.int p, D.int (p + (1 + far)), D.int (0 - (1 + far))]]))
    have g6 := (Ap.app (l := [O.lst [D.int (0 - 1), D.int p, D.int (p + (1 + far)), D.int (0 - (1 + far))]])).getL g5
    have q6 : getL (h5 ++ [O.lst [D.int (0 - 1), D.int p, D.int (p + (1 + far)), D.int (0 - (1 + far))]]) h5.length = _ := getL_new
    have n5 : h5.length ≠ st := by have := f5.lt; omega
    generalize h5 ++ [O.lst [D.int (0 - 1), D.int p, D.int (p + (1 + far)), D.int (0 - (1 + far))]] = h6 at f6 g6 q6 ⊢
    refine (next_fm (size := 4) f6.sa).imp ?_
    rintro _ h7 ⟨w', rfl, w0', w1', f7⟩
    have q7 := f7.getL n5 q6
    have g7 := f7.getL nF g6
    replace f7 := f6.trans f7
    obtain ⟨d, ed, hd⟩ := at_mem (l := [D.int (0 - 1), D.int p, D.int (p + (1 + far)), D.int (0 - (1 + far))]) w0' w1'
    simp only [f_ix, it_refD, q7, oq_some, ed]
    obtain ⟨x, rfl⟩ : ∃ x : Int, d = .int x := by
      simp only [List.mem_cons, List.not_mem_nil, or_false] at hd
      rcases hd with rfl | rfl | rfl | rfl <;> exact ⟨_, rfl⟩
    rw [q_nx, w_seq]
    walk_at "wpz"
    refine (next_fm f7.sa (by omega) (by omega)).imp ?_
    rintro _ h8 ⟨u, rfl, _, _, f8⟩
    have g8 := f8.getL nF g7
    replace f8 := f7.trans f8
    walk_at "wpz"
    refine (next_fm (size := 9) f8.sa).imp ?_
    rintro _ h9 ⟨v, rfl, _, _, f9⟩
    have g9 := f9.getL nF g8
    replace f9 := f8.trans f9
    walk_at "wpz"
    refine ⟨line_small (by decide), ?_⟩
    rw [q_nx, w_seq]
    refine WpX.same (Q := fun f h' => (∃ t, f = .nx [some (.ref st), some (.int p), some (.ref m), some (.ref h.length), some (.int (0 + (k : Int))), some (.int pl), some (.int (1 + far)), some (.int x), some (trD t)]) ∧ Fm st h9 h') ?_ ?_
    · walk_at "wpz"
      refine (next_fm (size := 2) f9.sa).imp ?_
      rintro _ h10 ⟨b, rfl, _, _, f10⟩
      walk_at "wps"
      split
      · exact ⟨line_small (by decide), ⟨(x, u, v - 4), rfl⟩, f10⟩
      · exact ⟨⟨(u, x, v - 4), rfl⟩, f10⟩
    rintro _ h10 ⟨⟨t, rfl⟩, f10⟩
    have g10 := f10.getL nF g9
    replace f10 := f9.trans f10
    rw [q_nx]
    walk_at "wps"
    simp only [g10, oq_some, rows_len]
    refine ⟨⟨by rw [sizeLine_eq]; omega, pl0, by omega⟩, ⟨_, _, _, _, _, rfl⟩, f10.set (Nat.le_refl _) nF, S.take pl.toNat ++ [t] ++ S.drop pl.toNat, ?_, ?_⟩
    · rw [← rows_app, ← rows_app, getL_set g10]
      unfold rowsD
      rw [List.map_take, List.map_drop]
      rfl
    · simp only [List.length_append, List.length_take, List.length_drop, List.length_cons, List.length_nil]
      omega
  · rintro ρ h3 ⟨⟨d4, d5, d6, d7, d8, rfl⟩, f3, S, gS, hS⟩
    rw [rng_len] at hS
    walk_at "wps"
    exact ⟨_, S, rfl, gS, by omega, Nat.le_refl _, f3⟩
end K01

namespace K01
open PySem L2 G
local macro_rules | `(tactic| walk_at "wps") => `(tactic| try simp only [G.w_bnd, G.w_chain, G.w_wenum, G.en_fzl, G.en_ref, G.f_insert, G.f_tuple, G.w_getF, G.w_setF, G.w_makeX, G.w_make, G.w_methX, G.w_meth, G.f_lenO, G.w_addX, G.w_fldT, G.w_callX, G.w_fld, G.w_isE, G.w_bndS, G.q_ex, G.x_ex, G.w_raise, G.w_raise0, G.y_nx, G.y_rt, G.y_bk, G.y_ct, G.y_ex, G.w_try, G.w_cl0, G.w_cl1, G.st_nx, G.st_rt, G.st_bk, G.st_ct, G.cl_nx, G.cl_rt, G.cl_bk, G.cl_ct, G.w_su0, G.w_su1, G.n_ex, G.w_ret, G.w_ok, G.w_var, G.s_z, G.s_s, G.w_c, G.w_op, G.w_un, G.w_nil, G.w_cons, G.w_cb, G.w_call, G.w_tup, G.w_alloc, G.w_lst, G.b_bl, G.w_asBl, G.w_test, G.w_yes, G.w_and, G.w_or, G.w_not, G.w_andV, G.w_orV, G.w_notV, G.w_ifx, G.w_nop, G.i_int, G.w_part, G.w_sl, G.w_next, G.w_rt, G.w_rtN, G.w_brk, G.w_cont, G.w_drop, G.q_nx, G.q_rt, G.q_bk, G.q_ct, G.w_seq, G.w_ifS, G.w_set, G.g_some, G.w_asg, G.w_setIx, G.w_aug, G.n_rt, G.n_nx, G.w_fn, G.w_for, G.w_wseq, G.k_tup, G.k_fzl, G.k_ref, G.w_wr1, G.w_wr2, G.f_add, G.f_sub, G.f_addI, G.f_mul, G.f_div, G.f_mod, G.f_pow, G.f_neg, G.f_cmp, G.f_isB, G.f_notB, G.f_isN, G.f_notN, G.n_non, G.n_int, G.n_bl, G.n_ref, G.n_tup, G.f_eq, G.f_ne, G.ty_non, G.ty_bl, G.ty_int, G.ty_str, G.ty_tup, G.ty_fzl, G.kb_ii, G.kb_ib, G.kb_bi, G.kb_bb, G.kb_ni, G.kb_si, G.kb_li, G.kb_ti, G.kb_ll, G.kb_tl, G.kb_nl, G.kb_il, G.kb_bl, G.kb_sl, G.kb_tt, G.kb_lt, G.kb_nt, G.kb_it, G.kb_bt, G.kb_st, decide_eq_true_eq, Bool.not_eq_true', decide_eq_false_iff_not, ↓reduceIte, eq_self, Bool.false_eq_true, Bool.true_eq_false, reduceCtorEq, Bool.not_true, Bool.not_false, ne_eq, not_false_eq_true, G.f_abs, G.f_int, G.f_intB, G.f_max2, G.f_min2, G.f_gcd, G.it_tupD, G.it_fzlD, G.it_refD, G.f_ix, G.f_len, G.f_list, G.f_setItem, G.f_slF, G.f_slR, G.f_isi, G.f_app, G.w_bm, G.oq_some, G.w_lc, List.map_cons, List.map_nil, List.length_cons, List.length_nil, List.cons_append, List.nil_append, Nat.zero_add, List.replicate, Nat.sub_self, Nat.reduceAdd, Nat.reduceSub, List.set_cons_zero, List.set_cons_succ, Option.some.injEq, exists_eq_left', exists_eq_left, true_and, and_true, G.at_0, G.at_1, G.at_2, G.at_3, G.at_m1, G.ix1_0, G.ix2_0, G.ix2_1, G.ix3_0, G.ix3_1, G.ix3_2, List.length_set, List.set_set])
local macro_rules | `(tactic| walk_at "wpx") => `(tactic| try simp only [G.w_bnd, G.w_chain, G.w_wenum, G.en_fzl, G.en_ref, G.f_insert, G.f_tuple, G.w_getF, G.w_setF, G.w_makeX, G.w_make, G.w_methX, G.w_meth, G.f_lenO, G.w_addX, G.w_fldT, G.w_callX, G.w_fld, G.w_isE, G.w_bndS, G.q_ex, G.x_ex, G.w_raise, G.w_raise0, G.y_nx, G.y_rt, G.y_bk, G.y_ct, G.y_ex, G.w_try, G.w_cl0, G.w_cl1, G.st_nx, G.st_rt, G.st_bk, G.st_ct, G.cl_nx, G.cl_rt, G.cl_bk, G.cl_ct, G.w_su0, G.w_su1, G.n_ex, G.w_ret, G.w_ok, G.w_var, G.s_z, G.s_s, G.w_c, G.w_op, G.w_un, G.w_nil, G.w_cons, G.w_cb, G.w_call, G.w_tup, G.w_alloc, G.w_lst, G.b_bl, G.w_asBl, G.w_test, G.w_yes, G.w_and, G.w_or, G.w_not, G.w_andV, G.w_orV, G.w_notV, G.w_ifx, G.w_nop, G.i_int, G.w_part, G.w_sl, G.w_next, G.w_rt, G.w_rtN, G.w_brk, G.w_cont, G.w_drop, G.q_nx, G.q_rt, G.q_bk, G.q_ct, G.w_seq, G.w_ifS, G.w_set, G.g_some, G.w_asg, G.w_setIx, G.w_aug, G.n_rt, G.n_nx, G.w_fn, G.w_for, G.w_wseq, G.k_tup, G.k_fzl, G.k_ref, G.w_wr1, G.w_wr2, G.f_add, G.f_sub, G.f_addI, G.f_mul, G.f_div, G.f_mod, G.f_pow, G.f_neg, G.f_cmp, G.f_isB, G.f_notB, G.f_isN, G.f_notN, G.n_non, G.n_int, G.n_bl, G.n_ref, G.n_tup, G.f_eq, G.f_ne, G.ty_non, G.ty_bl, G.ty_int, G.ty_str, G.ty_tup, G.ty_fzl, G.kb_ii, G.kb_ib, G.kb_bi, G.kb_bb, G.kb_ni, G.kb_si, G.kb_li, G.kb_ti, G.kb_ll, G.kb_tl, G.kb_nl, G.kb_il, G.kb_bl, G.kb_sl, G.kb_tt, G.kb_lt, G.kb_nt, G.kb_it, G.kb_bt, G.kb_st, decide_eq_true_eq, Bool.not_eq_true', decide_eq_false_iff_not, ↓reduceIte, eq_self, Bool.false_eq_true, Bool.true_eq_false, reduceCtorEq, Bool.not_true, Bool.not_false, ne_eq, not_false_eq_true, G.f_abs, G.f_int, G.f_intB, G.f_max2, G.f_min2, G.f_gcd, G.it_tupD, G.it_fzlD, G.it_refD, G.f_ix, G.f_len, G.f_list, G.f_setItem, G.f_slF, G.f_slR, G.f_isi, G.f_app, G.w_bm, G.oq_some, G.w_lc, List.map_cons, List.map_nil, List.length_cons, List.length_nil, List.cons_append, List.nil_append, Nat.zero_add, List.replicate, Nat.sub_self, Nat.reduceAdd, Nat.reduceSub, List.set_cons_zero, List.set_cons_succ, Option.some.injEq, exists_eq_left', exists_eq_left, true_and, and_true, G.at_0, G.at_1, G.at_2, G.at_3, G.at_m1, G.ix1_0, G.ix2_0, G.ix2_1, G.ix3_0, G.ix3_1, G.ix3_2, List.length_set, List.set_set, *])
local macro_rules | `(tactic| walk_at "wpz") => `(tactic| try simp only [G.w_bnd, G.w_chain, G.w_wenum, G.en_fzl, G.en_ref, G.f_insert, G.f_tuple, G.w_getF, G.w_setF, G.w_makeX, G.w_make, G.w_methX, G.w_meth, G.f_lenO, G.w_addX, G.w_fldT, G.w_callX, G.w_fld, G.w_isE, G.w_bndS, G.q_ex, G.x_ex, G.w_raise, G.w_raise0, G.y_nx, G.y_rt, G.y_bk, G.y_ct, G.y_ex, G.w_try, G.w_cl0, G.w_cl1, G.st_nx, G.st_rt, G.st_bk, G.st_ct, G.cl_nx, G.cl_rt, G.cl_bk, G.cl_ct, G.w_su0, G.w_su1, G.n_ex, G.w_ret, G.w_ok, G.w_var, G.s_z, G.s_s, G.w_c, G.w_op, G.w_un, G.w_nil, G.w_cons, G.w_cb, G.w_call, G.w_tup, G.w_alloc, G.w_lst, G.b_bl, G.w_asBl, G.w_test, G.w_yes, G.w_and, G.w_or, G.w_not, G.w_andV, G.w_orV, G.w_notV, G.w_ifx, G.w_nop, G.i_int, G.w_part, G.w_sl, G.w_next, G.w_rt, G.w_rtN, G.w_brk, G.w_cont, G.w_drop, G.q_rt, G.q_bk, G.q_ct, G.w_seq, G.w_ifS, G.w_set, G.g_some, G.w_asg, G.w_setIx, G.w_aug, G.n_rt, G.n_nx, G.w_fn, G.w_for, G.w_wseq, G.k_tup, G.k_fzl, G.k_ref, G.w_wr1, G.w_wr2, G.f_add, G.f_sub, G.f_addI, G.f_mul, G.f_div, G.f_mod, G.f_pow, G.f_neg, G.f_cmp, G.f_isB, G.f_notB, G.f_isN, G.f_notN, G.n_non, G.n_int, G.n_bl, G.n_ref, G.n_tup, G.f_eq, G.f_ne, G.ty_non, G.ty_bl, G.ty_int, G.ty_str, G.ty_tup, G.ty_fzl, G.kb_ii, G.kb_ib, G.kb_bi, G.kb_bb, G.kb_ni, G.kb_si, G.kb_li, G.kb_ti, G.kb_ll, G.kb_tl, G.kb_nl, G.kb_il, G.kb_bl, G.kb_sl, G.kb_tt, G.kb_lt, G.kb_nt, G.kb_it, G.kb_bt, G.kb_st, decide_eq_true_eq, Bool.not_eq_true', decide_eq_false_iff_not, ↓reduceIte, eq_self, Bool.false_eq_true, Bool.true_eq_false, reduceCtorEq, Bool.not_true, Bool.not_false, ne_eq, not_false_eq_true, G.f_abs, G.f_int, G.f_intB, G.f_max2, G.f_min2, G.f_gcd, G.it_tupD, G.it_fzlD, G.it_refD, G.f_ix, G.f_len, G.f_list, G.f_setItem, G.f_slF, G.f_slR, G.f_isi, G.f_app, G.w_bm, G.oq_some, G.w_lc, List.map_cons, List.map_nil, List.length_cons, List.length_nil, List.cons_append, List.nil_append, Nat.zero_add, List.replicate, Nat.sub_self, Nat.reduceAdd, Nat.reduceSub, List.set_cons_zero, List.set_cons_succ, Option.some.injEq, exists_eq_left', exists_eq_left, true_and, and_true, G.at_0, G.at_1, G.at_2, G.at_3, G.at_m1, G.ix1_0, G.ix2_0, G.ix2_1, G.ix3_0, G.ix3_1, G.ix3_2, List.length_set, List.set_set])
theorem at_rows {R : List Tr} {i : Int} (h0 : 0 ≤ i) (h1 : i < R.length) : ∃ t ∈ R, atI (rowsD R) i = some (trD t) := by
  obtain ⟨d, e, _⟩ := at_mem (l := rowsD R) h0 (by rw [rows_len]; exact h1)
  obtain ⟨k, rfl⟩ : ∃ k : Nat, i = (k : Int) := ⟨i.toNat, by omega⟩
  have hk : k < R.length := by omega
  exact ⟨R[k], List.getElem_mem _, at_nat (by unfold rowsD; rw [List.getElem?_map, List.getElem?_eq_getElem hk]; rfl)⟩
theorem it_trD {h : Store} {t : Tr} : items h (trD t) = some [D.int t.1, D.int t.2.1, D.int t.2.2] := rfl
theorem broken_spec {h : Store} {st m l : Nat} {p : Int} {R : List Tr} {zs : List Int} (hs : StA h st) (e : getL h m = some (rowsD R)) (hz : R.length ≤ 100000) (g : getL h l = some (zs.map D.int)) (hl : l ≠ st) (z1 : (zs.length : Int) = p) (hR : ∀ t ∈ R, okR p t = true) :
    WpX NoX (m_law_broken [.ref st, .ref m, .ref l] h) fun d h' => ∃ n S, d = .ref n ∧ getL h' n = some (rowsD S) ∧ S.length ≤ 2 * R.length + 3 ∧ (∀ t ∈ S, okR p t = true) ∧ h.length ≤ n ∧ Fm st h h' := by
  have lt := sa_lt hs
  have f0 := Fm.refl hs
  unfold m_law_broken m_law_broken_b
  rw [w_fn, w_seq]
  walk_at "wpz"
  refine ⟨line_small (by decide), ?_⟩
  have f1 : Fm st h (h ++ [O.lst (rowsD [])]) := f0.ap Ap.app
  rw [show h ++ [O.lst []] = h ++ [O.lst (rowsD [])] from rfl]
  rw [feq_rows (f1.rows hs e) getL_new (by omega) (by decide), b_bl]
  generalize h ++ [O.lst (rowsD [])] = h1 at f1 ⊢
  by_cases c : R = []
  · subst c
    rw [if_pos (by simp)]
    walk_at "wps"
    exact ⟨line_small (by decide), _, [], rfl, getL_new, by decide, fun _ z => (by cases z), f1.len, f1.ap Ap.app⟩
  rw [if_neg (by simp [c]), q_nx, w_seq]
  have hlen : 0 < R.length := List.length_pos_iff.mpr c
  walk_at "wpz"
  simp only [f1.rows hs e, oq_some, rows_len]
  refine (next_fm f1.sa (by omega) (by omega)).imp ?_
  rintro _ h2 ⟨w, rfl, w0, w1, f2⟩
  replace f2 := f1.trans f2
  have e2 := f2.rows hs e
  have g2 := f2.getL hl g
  obtain ⟨t, ht, et⟩ := at_rows (R := R) w0 w1
  have ok := of_decide_eq_true (hR t ht)
  rw [q_nx, w_seq]
  walk_at "wpz"
  simp only [e2, oq_some, et]
  rw [q_nx]
  walk_at "wpz"
  obtain ⟨S1, c1, m1, n1⟩ := cut_rows (R := R) (a := none) (b := some w)
  obtain ⟨S2, c2, m2, n2⟩ := cut_rows (R := R) (a := some (w + 1)) (b := none)
  simp only [e2, oq_some, c1, it_trD, at_0, at_1, at_2]
  have f3 := f2.ap (Ap.app (l := [O.lst (rowsD S1)]))
  have q3 : getL (h2 ++ [O.lst (rowsD S1)]) h2.length = _ := getL_new
  have b3 := f2.len
  generalize h2.length = A at q3 b3 ⊢
  generalize h2 ++ [O.lst (rowsD S1)] = h3 at f3 q3 ⊢
  simp only [f_ix, it_refD, f3.getL hl g, oq_some, at_ints (zs := zs) ok.1.1 (by omega), at_ints (zs := zs) ok.2.1 (by omega), f_sub, f_add]
  refine ⟨line_small (by decide), line_small (by decide), ?_⟩
  generalize zs.getD t.2.1.toNat 0 - zs.getD t.1.toNat 0 + 1 = v
  show WpX _ (fAdd (.ref A) (.ref h3.length) (h3 ++ [O.lst (rowsD [(t.1, t.2.1, v)])])) _
  have f4 := f3.ap (Ap.app (l := [O.lst (rowsD [(t.1, t.2.1, v)])]))
  rw [f_addL (Ap.app.getL q3) getL_new (by rw [rows_len, rows_len, List.length_cons, List.length_nil]; omega), rows_app]
  have f5 := f4.ap (Ap.app (l := [O.lst (rowsD (S1 ++ [(t.1, t.2.1, v)]))]))
  have q5 : getL (h3 ++ [O.lst (rowsD [(t.1, t.2.1, v)])] ++ [O.lst (rowsD (S1 ++ [(t.1, t.2.1, v)]))]) (h3 ++ [O.lst (rowsD [(t.1, t.2.1, v)])]).length = _ := getL_new
  have b5 := f4.len
  generalize (h3 ++ [O.lst (rowsD [(t.1, t.2.1, v)])]).length = B at q5 b5 ⊢
  generalize h3 ++ [O.lst (rowsD [(t.1, t.2.1, v)])] ++ [O.lst (rowsD (S1 ++ [(t.1, t.2.1, v)]))] = h5 at f5 q5 ⊢
  simp only [f5.rows hs e, oq_some, c2]
  have f6 := f5.ap (Ap.app (l := [O.lst (rowsD S2)]))
  have b6 := f6.len
  rw [f_addL (Ap.app.getL q5) getL_new (by rw [rows_len, rows_len, List.length_append, List.length_cons, List.length_nil]; omega), rows_app]
  refine ⟨_, _, rfl, getL_new, ?_, fun x hx => ?_, b6, f6.ap Ap.app⟩
  · simp only [List.length_append, List.length_cons, List.length_nil]
    omega
  · rcases List.mem_append.mp hx with hx | hx
    · rcases List.mem_append.mp hx with hx | hx
      · exact hR x (m1 x hx)
      · cases List.mem_singleton.mp hx
        exact decide_eq_true ok
    · exact hR x (m2 x hx)
end K01

namespace K01
open PySem L2 G
local macro_rules | `(tactic| walk_at "wps") => `(tactic| try simp only [G.w_bnd, G.w_chain, G.w_wenum, G.en_fzl, G.en_ref, G.f_insert, G.f_tuple, G.w_getF, G.w_setF, G.w_makeX, G.w_make, G.w_methX, G.w_meth, G.f_lenO, G.w_addX, G.w_fldT, G.w_callX, G.w_fld, G.w_isE, G.w_bndS, G.q_ex, G.x_ex, G.w_raise, G.w_raise0, G.y_nx, G.y_rt, G.y_bk, G.y_ct, G.y_ex, G.w_try, G.w_cl0, G.w_cl1, G.st_nx, G.st_rt, G.st_bk, G.st_ct, G.cl_nx, G.cl_rt, G.cl_bk, G.cl_ct, G.w_su0, G.w_su1, G.n_ex, G.w_ret, G.w_ok, G.w_var, G.s_z, G.s_s, G.w_c, G.w_op, G.w_un, G.w_nil, G.w_cons, G.w_cb, G.w_call, G.w_tup, G.w_alloc, G.w_lst, G.b_bl, G.w_asBl, G.w_test, G.w_yes, G.w_and, G.w_or, G.w_not, G.w_andV, G.w_orV, G.w_notV, G.w_ifx, G.w_nop, G.i_int, G.w_part, G.w_sl, G.w_next, G.w_rt, G.w_rtN, G.w_brk, G.w_cont, G.w_drop, G.q_nx, G.q_rt, G.q_bk, G.q_ct, G.w_seq, G.w_ifS, G.w_set, G.g_some, G.w_asg, G.w_setIx, G.w_aug, G.n_rt, G.n_nx, G.w_fn, G.w_for, G.w_wseq, G.k_tup, G.k_fzl, G.k_ref, G.w_wr1, G.w_wr2, G.f_add, G.f_sub, G.f_addI, G.f_mul, G.f_div, G.f_mod, G.f_pow, G.f_neg, G.f_cmp, G.f_isB, G.f_notB, G.f_isN, G.f_notN, G.n_non, G.n_int, G.n_bl, G.n_ref, G.n_tup, G.f_eq, G.f_ne, G.ty_non, G.ty_bl, G.ty_int, G.ty_str, G.ty_tup, G.ty_fzl, G.kb_ii, G.kb_ib, G.kb_bi, G.kb_bb, G.kb_ni, G.kb_si, G.kb_li, G.kb_ti, G.kb_ll, G.kb_tl, G.kb_nl, G.kb_il, G.kb_bl, G.kb_sl, G.kb_tt, G.kb_lt, G.kb_nt, G.kb_it, G.kb_bt, G.kb_st, decide_eq_true_eq, Bool.not_eq_true', decide_eq_false_iff_not, ↓reduceIte, eq_self, Bool.false_eq_true, Bool.true_eq_false, reduceCtorEq, Bool.not_true, Bool.not_false, ne_eq, not_false_eq_true, G.f_abs, G.f_int, G.f_intB, G.f_max2, G.f_min2, G.f_gcd, G.it_tupD, G.it_fzlD, G.it_refD, G.f_ix, G.f_len, G.f_list, G.f_setItem, G.f_slF, G.f_slR, G.f_isi, G.f_app, G.w_bm, G.oq_some, G.w_lc, List.map_cons, List.map_nil, List.length_cons, List.length_nil, List.cons_append, List.nil_append, Nat.zero_add, List.replicate, Nat.sub_self, Nat.reduceAdd, Nat.reduceSub, List.set_cons_zero, List.set_cons_succ, Option.some.injEq, exists_eq_left', exists_eq_left, true_and, and_true, G.at_0, G.at_1, G.at_2, G.at_3, G.at_m1, G.ix1_0, G.ix2_0, G.ix2_1, G.ix3_0, G.ix3_1, G.ix3_2, List.length_set, List.set_set])
local macro_rules | `(tactic| walk_at "wpx") => `(tactic| try simp only [G.w_bnd, G.w_chain, G.w_wenum, G.en_fzl, G.en_ref, G.f_insert, G.f_tuple, G.w_getF, G.w_setF, G.w_makeX, G.w_make, G.w_methX, G.w_meth, G.f_lenO, G.w_addX, G.w_fldT, G.w_callX, G.w_fld, G.w_isE, G.w_bndS, G.q_ex, G.x_ex, G.w_raise, G.w_raise0, G.y_nx, G.y_rt, G.y_bk, G.y_ct, G.y_ex, G.w_try, G.w_cl0, G.w_cl1, G.st_nx, G.st_rt, G.st_bk, G.st_ct, G.cl_nx, G.cl_rt, G.cl_bk, G.cl_ct, G.w_su0, G.w_su1, G.n_ex, G.w_ret, G.w_ok, G.w_var, G.s_z, G.s_s, G.w_c, G.w_op, G.w_un, G.w_nil, G.w_cons, G.w_cb, G.w_call, G.w_tup, G.w_alloc, G.w_lst, G.b_bl, G.w_asBl, G.w_test, G.w_yes, G.w_and, G.w_or, G.w_not, G.w_andV, G.w_orV, G.w_notV, G.w_ifx, G.w_nop, G.i_int, G.w_part, G.w_sl, G.w_next, G.w_rt, G.w_rtN, G.w_brk, G.w_cont, G.w_drop, G.q_nx, G.q_rt, G.q_bk, G.q_ct, G.w_seq, G.w_ifS, G.w_set, G.g_some, G.w_asg, G.w_setIx, G.w_aug, G.n_rt, G.n_nx, G.w_fn, G.w_for, G.w_wseq, G.k_tup, G.k_fzl, G.k_ref, G.w_wr1, G.w_wr2, G.f_add, G.f_sub, G.f_addI, G.f_mul, G.f_div, G.f_mod, G.f_pow, G.f_neg, G.f_cmp, G.f_isB, G.f_notB, G.f_isN, G.f_notN, G.n_non, G.n_int, G.n_bl, G.n_ref, G.n_tup, G.f_eq, G.f_ne, G.ty_non, G.ty_bl, G.ty_int, G.ty_str, G.ty_tup, G.ty_fzl, G.kb_ii, G.kb_ib, G.kb_bi, G.kb_bb, G.kb_ni, G.kb_si, G.kb_li, G.kb_ti, G.kb_ll, G.kb_tl, G.kb_nl, G.kb_il, G.kb_bl, G.kb_sl, G.kb_tt, G.kb_lt, G.kb_nt, G.kb_it, G.kb_bt, G.kb_st, decide_eq_true_eq, Bool.not_eq_true', decide_eq_false_iff_not, ↓reduceIte, eq_self, Bool.false_eq_true, Bool.true_eq_false, reduceCtorEq, Bool.not_true, Bool.not_false, ne_eq, not_false_eq_true, G.f_abs, G.f_int, G.f_intB, G.f_max2, G.f_min2, G.f_gcd, G.it_tupD, G.it_fzlD, G.it_refD, G.f_ix, G.f_len, G.f_list, G.f_setItem, G.f_slF, G.f_slR, G.f_isi, G.f_app, G.w_bm, G.oq_some, G.w_lc, List.map_cons, List.map_nil, List.length_cons, List.length_nil, List.cons_append, List.nil_append, Nat.zero_add, List.replicate, Nat.sub_self, Nat.reduceAdd, Nat.reduceSub, List.set_cons_zero, List.set_cons_succ, Option.some.injEq, exists_eq_left', exists_eq_left, true_and, and_true, G.at_0, G.at_1, G.at_2, G.at_3, G.at_m1, G.ix1_0, G.ix2_0, G.ix2_1, G.ix3_0, G.ix3_1, G.ix3_2, List.length_set, List.set_set, *])
local macro_rules | `(tactic| walk_at "wpz") => `(tactic| try simp only [G.w_bnd, G.w_chain, G.w_wenum, G.en_fzl, G.en_ref, G.f_insert, G.f_tuple, G.w_getF, G.w_setF, G.w_makeX, G.w_make, G.w_methX, G.w_meth, G.f_lenO, G.w_addX, G.w_fldT, G.w_callX, G.w_fld, G.w_isE, G.w_bndS, G.q_ex, G.x_ex, G.w_raise, G.w_raise0, G.y_nx, G.y_rt, G.y_bk, G.y_ct, G.y_ex, G.w_try, G.w_cl0, G.w_cl1, G.st_nx, G.st_rt, G.st_bk, G.st_ct, G.cl_nx, G.cl_rt, G.cl_bk, G.cl_ct, G.w_su0, G.w_su1, G.n_ex, G.w_ret, G.w_ok, G.w_var, G.s_z, G.s_s, G.w_c, G.w_op, G.w_un, G.w_nil, G.w_cons, G.w_cb, G.w_call, G.w_tup, G.w_alloc, G.w_lst, G.b_bl, G.w_asBl, G.w_test, G.w_yes, G.w_and, G.w_or, G.w_not, G.w_andV, G.w_orV, G.w_notV, G.w_ifx, G.w_nop, G.i_int, G.w_part, G.w_sl, G.w_next, G.w_rt, G.w_rtN, G.w_brk, G.w_cont, G.w_drop, G.q_rt, G.q_bk, G.q_ct, G.w_seq, G.w_ifS, G.w_set, G.g_some, G.w_asg, G.w_setIx, G.w_aug, G.n_rt, G.n_nx, G.w_fn, G.w_for, G.w_wseq, G.k_tup, G.k_fzl, G.k_ref, G.w_wr1, G.w_wr2, G.f_add, G.f_sub, G.f_addI, G.f_mul, G.f_div, G.f_mod, G.f_pow, G.f_neg, G.f_cmp, G.f_isB, G.f_notB, G.f_isN, G.f_notN, G.n_non, G.n_int, G.n_bl, G.n_ref, G.n_tup, G.f_eq, G.f_ne, G.ty_non, G.ty_bl, G.ty_int, G.ty_str, G.ty_tup, G.ty_fzl, G.kb_ii, G.kb_ib, G.kb_bi, G.kb_bb, G.kb_ni, G.kb_si, G.kb_li, G.kb_ti, G.kb_ll, G.kb_tl, G.kb_nl, G.kb_il, G.kb_bl, G.kb_sl, G.kb_tt, G.kb_lt, G.kb_nt, G.kb_it, G.kb_bt, G.kb_st, decide_eq_true_eq, Bool.not_eq_true', decide_eq_false_iff_not, ↓reduceIte, eq_self, Bool.false_eq_true, Bool.true_eq_false, reduceCtorEq, Bool.not_true, Bool.not_false, ne_eq, not_false_eq_true, G.f_abs, G.f_int, G.f_intB, G.f_max2, G.f_min2, G.f_gcd, G.it_tupD, G.it_fzlD, G.it_refD, G.f_ix, G.f_len, G.f_list, G.f_setItem, G.f_slF, G.f_slR, G.f_isi, G.f_app, G.w_bm, G.oq_some, G.w_lc, List.map_cons, List.map_nil, List.length_cons, List.length_nil, List.cons_append, List.nil_append, Nat.zero_add, List.replicate, Nat.sub_self, Nat.reduceAdd, Nat.reduceSub, List.set_cons_zero, List.set_cons_succ, Option.some.injEq, exists_eq_left', exists_eq_left, true_and, and_true, G.at_0, G.at_1, G.at_2, G.at_3, G.at_m1, G.ix1_0, G.ix2_0, G.ix2_1, G.ix3_0, G.ix3_1, G.ix3_2, List.length_set, List.set_set])
theorem tb0 {a b c d : Option Bool} : tb [a, b, c, d] 0 = a := rfl
theorem tb1 {a b c d : Option Bool} : tb [a, b, c, d] 1 = b := rfl
theorem tb2 {a b c d : Option Bool} : tb [a, b, c, d] 2 = c := rfl
theorem tb3 {a b c d : Option Bool} : tb [a, b, c, d] 3 = d := rfl
theorem lkn {v : D} : List.lookup ("number" : PySem.Str) [(("number" : PySem.Str), v)] = some v := rfl
theorem lki {v : D} : List.lookup ("index" : PySem.Str) [(("index" : PySem.Str), v)] = some v := rfl
theorem flat_int {v : Int} : (flatD (.int v)).isSome = true := rfl
theorem lmade_spec {h : Store} {p : Int} {m : Nat} {R : List Tr} (e : getL h m = some (rowsD R)) (hz : R.length ≤ 100000) : WpX NoX (m_law_made [.int p, .ref m] h) fun d h' => ∃ s v, d = .tup [.str s, .int v] ∧ Due p R s v ∧ Ap h h' := by
  unfold m_law_made m_law_made_b
  rw [w_fn, w_seq]
  walk_at "wpz"
  rw [e, oq_some]
  have a1 : Ap h (h ++ [O.lst (rowsD R)]) := Ap.app
  have g1 : getL (h ++ [O.lst (rowsD R)]) h.length = some (rowsD R) := getL_new
  generalize h ++ [O.lst (rowsD R)] = h1 at a1 g1 ⊢
  rw [q_nx, w_seq, w_try]
  walk_at "wpz"
  refine init_spec (R := R) new_at (Ap.app.getL g1) hz (fun z => ?_) (fun hp k t ht hb hk => ?_) (fun hp hall => ?_)
  · walk_at "wpz"
    simp only [tb1, oq_some, ↓reduceIte]
    walk_at "wpz"
    refine ⟨by decide, ?_⟩
    rw [feq_rows (Ap.app.getL g1) (Ap.app.getL (a1.getL e)) (by omega) (by omega), b_bl, if_neg (by simp), q_nx]
    walk_at "wps"
    simp only [lkn, lki, flat_int]
    walk_at "wps"
    exact ⟨flat_int, line_small (by decide), _, _, rfl, .cnt z, a1.trans Ap.app⟩
  · walk_at "wpz"
    simp only [tb2, oq_some, ↓reduceIte]
    walk_at "wpz"
    refine ⟨by decide, ?_⟩
    rw [feq_rows (Ap.app.getL g1) (Ap.app.getL (a1.getL e)) (by omega) (by omega), b_bl, if_neg (by simp), q_nx]
    walk_at "wps"
    simp only [lkn, lki, flat_int]
    walk_at "wps"
    exact ⟨flat_int, line_small (by decide), _, _, rfl, .row k t hp ht hb hk, a1.trans Ap.app⟩
  · refine ⟨rfl, ?_⟩
    rw [q_nx]
    walk_at "wps"
    exact ⟨line_small (by decide), _, _, rfl, .ok hp hall, a1.trans ((Ap.trans (Ap.set Ap.app (Nat.le_refl _)) Ap.app).set (Nat.le_refl _))⟩
/-- with_more in a try -/
theorem lmore_spec {h : Store} {p : Int} {n m : Nat} {R S : List Tr} (r : IsR h n p R) (hp : 1 ≤ p ∧ p ≤ 120) (hR : ∀ t ∈ R, okR p t = true) (e : getL h m = some (rowsD S)) (hz : R.length + S.length ≤ 90000) :
    WpX NoX (m_law_more [.ref n, .ref m] h) fun d h' => ∃ k, d = .ref k ∧ h.length ≤ k ∧ Ap h h' ∧ ((∃ v : Nat, Due p S "row" (v : Int) ∧ getL h' k = some [.str "row", .int ((R.length + v : Nat) : Int)]) ∨ (Due p S "let" 0 ∧ ∃ n', getL h' k = some [.str "let", .ref n'] ∧ IsR h' n' p (R ++ S))) := by
  unfold m_law_more m_law_more_b
  rw [w_fn, w_seq]
  walk_at "wpz"
  rw [e, oq_some]
  have a1 : Ap h (h ++ [O.lst (rowsD S)]) := Ap.app
  have g1 : getL (h ++ [O.lst (rowsD S)]) h.length = some (rowsD S) := getL_new
  generalize h ++ [O.lst (rowsD S)] = h1 at a1 g1 ⊢
  have r1 := r.ap a1
  have r1' := r1
  obtain ⟨l, e1, e2⟩ := r1
  rw [q_nx, w_seq, w_try]
  walk_at "wpz"
  simp only [of_ins e1, oq_some]
  refine ⟨by unfold List.lookup; rw [show (("with_more" : PySem.Str) == ("points" : PySem.Str)) = false by decide]; unfold List.lookup; rw [show (("with_more" : PySem.Str) == ("_rows" : PySem.Str)) = false by decide]; rfl, ?_⟩
  refine more_spec r1' hp hR g1 hz (fun k t h2 ht hb hk a2 => ?_) (fun hall h2 n' r2 a2 b2 => ?_)
  · walk_at "wpz"
    simp only [tb2, oq_some, ↓reduceIte]
    walk_at "wpz"
    refine ⟨by decide, ?_⟩
    rw [feq_rows (a2.getL g1) (a2.getL (a1.getL e)) (by omega) (by omega), b_bl, if_pos (by simp), lki, oq_some]
    exact ⟨flat_int, line_small (by decide), _, rfl, (a1.trans a2).len, (a1.trans a2).trans Ap.app, .inl ⟨k, .row k t hp ht hb hk, getL_new⟩⟩
  · walk_at "wpz"
    exact ⟨line_small (by decide), _, rfl, (a1.trans a2).len, (a1.trans a2).trans Ap.app, .inr ⟨.ok hp hall, n', getL_new, r2.ap Ap.app⟩⟩
end K01

namespace K01
open PySem L2 G
local macro_rules | `(tactic| walk_at "wps") => `(tactic| try simp only [G.w_bnd, G.w_chain, G.w_wenum, G.en_fzl, G.en_ref, G.f_insert, G.f_tuple, G.w_getF, G.w_setF, G.w_makeX, G.w_make, G.w_methX, G.w_meth, G.f_lenO, G.w_addX, G.w_fldT, G.w_callX, G.w_fld, G.w_isE, G.w_bndS, G.q_ex, G.x_ex, G.w_raise, G.w_raise0, G.y_nx, G.y_rt, G.y_bk, G.y_ct, G.y_ex, G.w_try, G.w_cl0, G.w_cl1, G.st_nx, G.st_rt, G.st_bk, G.st_ct, G.cl_nx, G.cl_rt, G.cl_bk, G.cl_ct, G.w_su0, G.w_su1, G.n_ex, G.w_ret, G.w_ok, G.w_var, G.s_z, G.s_s, G.w_c, G.w_op, G.w_un, G.w_nil, G.w_cons, G.w_cb, G.w_call, G.w_tup, G.w_alloc, G.w_lst, G.b_bl, G.w_asBl, G.w_test, G.w_yes, G.w_and, G.w_or, G.w_not, G.w_andV, G.w_orV, G.w_notV, G.w_ifx, G.w_nop, G.i_int, G.w_part, G.w_sl, G.w_next, G.w_rt, G.w_rtN, G.w_brk, G.w_cont, G.w_drop, G.q_nx, G.q_rt, G.q_bk, G.q_ct, G.w_seq, G.w_ifS, G.w_set, G.g_some, G.w_asg, G.w_setIx, G.w_aug, G.n_rt, G.n_nx, G.w_fn, G.w_for, G.w_wseq, G.k_tup, G.k_fzl, G.k_ref, G.w_wr1, G.w_wr2, G.f_add, G.f_sub, G.f_addI, G.f_mul, G.f_div, G.f_mod, G.f_pow, G.f_neg, G.f_cmp, G.f_isB, G.f_notB, G.f_isN, G.f_notN, G.n_non, G.n_int, G.n_bl, G.n_ref, G.n_tup, G.f_eq, G.f_ne, G.ty_non, G.ty_bl, G.ty_int, G.ty_str, G.ty_tup, G.ty_fzl, G.kb_ii, G.kb_ib, G.kb_bi, G.kb_bb, G.kb_ni, G.kb_si, G.kb_li, G.kb_ti, G.kb_ll, G.kb_tl, G.kb_nl, G.kb_il, G.kb_bl, G.kb_sl, G.kb_tt, G.kb_lt, G.kb_nt, G.kb_it, G.kb_bt, G.kb_st, decide_eq_true_eq, Bool.not_eq_true', decide_eq_false_iff_not, ↓reduceIte, eq_self, Bool.false_eq_true, Bool.true_eq_false, reduceCtorEq, Bool.not_true, Bool.not_false, ne_eq, not_false_eq_true, G.f_abs, G.f_int, G.f_intB, G.f_max2, G.f_min2, G.f_gcd, G.it_tupD, G.it_fzlD, G.it_refD, G.f_ix, G.f_len, G.f_list, G.f_setItem, G.f_slF, G.f_slR, G.f_isi, G.f_app, G.w_bm, G.oq_some, G.w_lc, List.map_cons, List.map_nil, List.length_cons, List.length_nil, List.cons_append, List.nil_append, Nat.zero_add, List.replicate, Nat.sub_self, Nat.reduceAdd, Nat.reduceSub, List.set_cons_zero, List.set_cons_succ, Option.some.injEq, exists_eq_left', exists_eq_left, true_and, and_true, G.at_0, G.at_1, G.at_2, G.at_3, G.at_m1, G.ix1_0, G.ix2_0, G.ix2_1, G.ix3_0, G.ix3_1, G.ix3_2, List.length_set, List.set_set])
local macro_rules | `(tactic| walk_at "wpx") => `(tactic| try simp only [G.w_bnd, G.w_chain, G.w_wenum, G.en_fzl, G.en_ref, G.f_insert, G.f_tuple, G.w_getF, G.w_setF, G.w_makeX, G.w_make, G.w_methX, G.w_meth, G.f_lenO, G.w_addX, G.w_fldT, G.w_callX, G.w_fld, G.w_isE, G.w_bndS, G.q_ex, G.x_ex, G.w_raise, G.w_raise0, G.y_nx, G.y_rt, G.y_bk, G.y_ct, G.y_ex, G.w_try, G.w_cl0, G.w_cl1, G.st_nx, G.st_rt, G.st_bk, G.st_ct, G.cl_nx, G.cl_rt, G.cl_bk, G.cl_ct, G.w_su0, G.w_su1, G.n_ex, G.w_ret, G.w_ok, G.w_var, G.s_z, G.s_s, G.w_c, G.w_op, G.w_un, G.w_nil, G.w_cons, G.w_cb, G.w_call, G.w_tup, G.w_alloc, G.w_lst, G.b_bl, G.w_asBl, G.w_test, G.w_yes, G.w_and, G.w_or, G.w_not, G.w_andV, G.w_orV, G.w_notV, G.w_ifx, G.w_nop, G.i_int, G.w_part, G.w_sl, G.w_next, G.w_rt, G.w_rtN, G.w_brk, G.w_cont, G.w_drop, G.q_nx, G.q_rt, G.q_bk, G.q_ct, G.w_seq, G.w_ifS, G.w_set, G.g_some, G.w_asg, G.w_setIx, G.w_aug, G.n_rt, G.n_nx, G.w_fn, G.w_for, G.w_wseq, G.k_tup, G.k_fzl, G.k_ref, G.w_wr1, G.w_wr2, G.f_add, G.f_sub, G.f_addI, G.f_mul, G.f_div, G.f_mod, G.f_pow, G.f_neg, G.f_cmp, G.f_isB, G.f_notB, G.f_isN, G.f_notN, G.n_non, G.n_int, G.n_bl, G.n_ref, G.n_tup, G.f_eq, G.f_ne, G.ty_non, G.ty_bl, G.ty_int, G.ty_str, G.ty_tup, G.ty_fzl, G.kb_ii, G.kb_ib, G.kb_bi, G.kb_bb, G.kb_ni, G.kb_si, G.kb_li, G.kb_ti, G.kb_ll, G.kb_tl, G.kb_nl, G.kb_il, G.kb_bl, G.kb_sl, G.kb_tt, G.kb_lt, G.kb_nt, G.kb_it, G.kb_bt, G.kb_st, decide_eq_true_eq, Bool.not_eq_true', decide_eq_false_iff_not, ↓reduceIte, eq_self, Bool.false_eq_true, Bool.true_eq_false, reduceCtorEq, Bool.not_true, Bool.not_false, ne_eq, not_false_eq_true, G.f_abs, G.f_int, G.f_intB, G.f_max2, G.f_min2, G.f_gcd, G.it_tupD, G.it_fzlD, G.it_refD, G.f_ix, G.f_len, G.f_list, G.f_setItem, G.f_slF, G.f_slR, G.f_isi, G.f_app, G.w_bm, G.oq_some, G.w_lc, List.map_cons, List.map_nil, List.length_cons, List.length_nil, List.cons_append, List.nil_append, Nat.zero_add, List.replicate, Nat.sub_self, Nat.reduceAdd, Nat.reduceSub, List.set_cons_zero, List.set_cons_succ, Option.some.injEq, exists_eq_left', exists_eq_left, true_and, and_true, G.at_0, G.at_1, G.at_2, G.at_3, G.at_m1, G.ix1_0, G.ix2_0, G.ix2_1, G.ix3_0, G.ix3_1, G.ix3_2, List.length_set, List.set_set, *])
local macro_rules | `(tactic| walk_at "wpz") => `(tactic| try simp only [G.w_bnd, G.w_chain, G.w_wenum, G.en_fzl, G.en_ref, G.f_insert, G.f_tuple, G.w_getF, G.w_setF, G.w_makeX, G.w_make, G.w_methX, G.w_meth, G.f_lenO, G.w_addX, G.w_fldT, G.w_callX, G.w_fld, G.w_isE, G.w_bndS, G.q_ex, G.x_ex, G.w_raise, G.w_raise0, G.y_nx, G.y_rt, G.y_bk, G.y_ct, G.y_ex, G.w_try, G.w_cl0, G.w_cl1, G.st_nx, G.st_rt, G.st_bk, G.st_ct, G.cl_nx, G.cl_rt, G.cl_bk, G.cl_ct, G.w_su0, G.w_su1, G.n_ex, G.w_ret, G.w_ok, G.w_var, G.s_z, G.s_s, G.w_c, G.w_op, G.w_un, G.w_nil, G.w_cons, G.w_cb, G.w_call, G.w_tup, G.w_alloc, G.w_lst, G.b_bl, G.w_asBl, G.w_test, G.w_yes, G.w_and, G.w_or, G.w_not, G.w_andV, G.w_orV, G.w_notV, G.w_ifx, G.w_nop, G.i_int, G.w_part, G.w_sl, G.w_next, G.w_rt, G.w_rtN, G.w_brk, G.w_cont, G.w_drop, G.q_rt, G.q_bk, G.q_ct, G.w_seq, G.w_ifS, G.w_set, G.g_some, G.w_asg, G.w_setIx, G.w_aug, G.n_rt, G.n_nx, G.w_fn, G.w_for, G.w_wseq, G.k_tup, G.k_fzl, G.k_ref, G.w_wr1, G.w_wr2, G.f_add, G.f_sub, G.f_addI, G.f_mul, G.f_div, G.f_mod, G.f_pow, G.f_neg, G.f_cmp, G.f_isB, G.f_notB, G.f_isN, G.f_notN, G.n_non, G.n_int, G.n_bl, G.n_ref, G.n_tup, G.f_eq, G.f_ne, G.ty_non, G.ty_bl, G.ty_int, G.ty_str, G.ty_tup, G.ty_fzl, G.kb_ii, G.kb_ib, G.kb_bi, G.kb_bb, G.kb_ni, G.kb_si, G.kb_li, G.kb_ti, G.kb_ll, G.kb_tl, G.kb_nl, G.kb_il, G.kb_bl, G.kb_sl, G.kb_tt, G.kb_lt, G.kb_nt, G.kb_it, G.kb_bt, G.kb_st, decide_eq_true_eq, Bool.not_eq_true', decide_eq_false_iff_not, ↓reduceIte, eq_self, Bool.false_eq_true, Bool.true_eq_false, reduceCtorEq, Bool.not_true, Bool.not_false, ne_eq, not_false_eq_true, G.f_abs, G.f_int, G.f_intB, G.f_max2, G.f_min2, G.f_gcd, G.it_tupD, G.it_fzlD, G.it_refD, G.f_ix, G.f_len, G.f_list, G.f_setItem, G.f_slF, G.f_slR, G.f_isi, G.f_app, G.w_bm, G.oq_some, G.w_lc, List.map_cons, List.map_nil, List.length_cons, List.length_nil, List.cons_append, List.nil_append, Nat.zero_add, List.replicate, Nat.sub_self, Nat.reduceAdd, Nat.reduceSub, List.set_cons_zero, List.set_cons_succ, Option.some.injEq, exists_eq_left', exists_eq_left, true_and, and_true, G.at_0, G.at_1, G.at_2, G.at_3, G.at_m1, G.ix1_0, G.ix2_0, G.ix2_1, G.ix3_0, G.ix3_1, G.ix3_2, List.length_set, List.set_set])
theorem alike_ok {h : Store} {a b : D} {s : PySem.Str} {v : Int} (ea : items h a = some [.str s, .int v]) (eb : items h b = some [.str s, .int v]) (hs : PyData.strOk s = true := by decide +kernel) : WpX NoX (m_law_alike [a, b] h) fun d h' => d = .bl true ∧ h' = h := by
  unfold m_law_alike m_law_alike_b
  walk_at "wps"
  simp only [ea, eb, oq_some, at_0, at_1, f_ix]
  rw [feq_str hs hs, b_bl, if_pos (by simp)]
  simp only [ea, eb, oq_some, at_0, at_1]
  refine (lint_sp (d := .int v) rfl).imp ?_
  rintro _ _ ⟨rfl, rfl⟩
  simp only [eb, ea, oq_some, at_0, at_1, b_bl, if_true, f_eq, decide_true]
  simp
theorem Due.str {p : Int} {R : List Tr} {s : PySem.Str} {v : Int} (d : Due p R s v) : PyData.strOk s = true := by cases d <;> decide +kernel
theorem due_row {p : Int} {R : List Tr} {v : Int} (d : Due p R "row" v) : ∃ k : Nat, v = (k : Int) := by
  generalize hs : ("row" : PySem.Str) = s at d
  cases d with
  | cnt _ => exact absurd hs (by decide)
  | row k => exact ⟨k, rfl⟩
  | ok _ => exact absurd hs (by decide)
theorem due_let {p : Int} {R : List Tr} {v : Int} (d : Due p R "let" v) : ∀ t ∈ R, okR p t = true := by
  generalize hs : ("let" : PySem.Str) = s at d
  cases d with
  | cnt _ => exact absurd hs (by decide)
  | row k => exact absurd hs (by decide)
  | ok _ z => exact z
/-- what refuses' loop asks of a pair -/
def PairOk (h : Store) (d : D) : Prop := ∃ (q : Int) (m : Nat) (S : List Tr), d = .tup [.int q, .ref m] ∧ getL h m = some (rowsD S) ∧ S.length ≤ 1000
theorem PairOk.ap {h h' : Store} {d : D} (p : PairOk h d) (a : Ap h h') : PairOk h' d := by
  obtain ⟨q, m, S, e, g, z⟩ := p
  exact ⟨q, m, S, e, a.getL g, z⟩
theorem refuses_spec {h : Store} {st m : Nat} {p : Int} {R : List Tr} (hs : StA h st) (e : getL h m = some (rowsD R)) (hz : R.length ≤ 300) (hp : 1 ≤ p ∧ p ≤ 120) (hR : ∀ t ∈ R, okR p t = true) :
    WpX NoX (m_law_refuses [.ref st, .int p, .ref m] h) fun d h' => d = .bl true ∧ Fm st h h' := by
  unfold m_law_refuses m_law_refuses_b
  rw [w_fn, w_seq]
  walk_at "wpz"
  refine (bad_spec hs e (by omega) hp).imp ?_
  rintro _ h1 ⟨nb, S, rfl, gS, hS, bn, f1⟩
  rw [q_nx, w_seq]
  walk_at "wpz"
  refine (next_fm (size := 201) f1.sa).imp ?_
  rintro _ h2 ⟨x, rfl, _, _, f2⟩
  have nst : nb ≠ st := by have := sa_lt hs; omega
  have gS2 := f2.getL nst gS
  replace f2 := f1.trans f2
  walk_at "wpz"
  refine ⟨line_small (by decide), ?_⟩
  have f3 := f2.ap (Ap.app (l := [O.lst [D.int 0, D.int 121, D.int (0 - 1), D.int (122 + x)]]))
  have gS3 := (Ap.app (l := [O.lst [D.int 0, D.int 121, D.int (0 - 1), D.int (122 + x)]])).getL gS2
  have q3 : getL (h2 ++ [O.lst [D.int 0, D.int 121, D.int (0 - 1), D.int (122 + x)]]) h2.length = _ := getL_new
  have n2 : h2.length ≠ st := by have := f2.lt; omega
  generalize h2 ++ [O.lst [D.int 0, D.int 121, D.int (0 - 1), D.int (122 + x)]] = h3 at f3 gS3 q3 ⊢
  refine (next_fm (size := 4) f3.sa).imp ?_
  rintro _ h4 ⟨w, rfl, w0, w1, f4⟩
  have q4 := f4.getL n2 q3
  have gS4 := f4.getL nst gS3
  replace f4 := f3.trans f4
  obtain ⟨d, ed, hd⟩ := at_mem (l := [D.int 0, D.int 121, D.int (0 - 1), D.int (122 + x)]) w0 w1
  simp only [f_ix, it_refD, q4, oq_some, ed]
  obtain ⟨y, rfl⟩ : ∃ y : Int, d = .int y := by
    simp only [List.mem_cons, List.not_mem_nil, or_false] at hd
    rcases hd with rfl | rfl | rfl | rfl <;> exact ⟨_, rfl⟩
  have e4 := f4.rows hs e
  rw [q_nx, w_seq]
  walk_at "wpz"
  have z2 : 2 ≤ sizeLine := line_small (by decide)
  have z7 : 7 ≤ sizeLine := line_small (by decide)
  have z0 : 0 ≤ sizeLine := line_small (by decide)
  simp only [z2, z7, z0, true_and]
  have f5 := f4.ap (Ap.app (l := [O.lst (rowsD [])]))
  have e5 := f5.rows hs e
  have gS5 := (Ap.app (l := [O.lst (rowsD [])])).getL gS4
  have k5 : getL (h4 ++ [O.lst (rowsD [])]) h4.length = some (rowsD []) := getL_new
  rw [show h4 ++ [O.lst []] = h4 ++ [O.lst (rowsD [])] from rfl]
  generalize h4.length = L5 at k5 ⊢
  generalize h4 ++ [O.lst (rowsD [])] = h5 at f5 e5 gS5 k5 ⊢
  rw [show h5 ++ [O.lst []] = h5 ++ [O.lst (rowsD [])] from rfl]
  have f6 := f5.ap (Ap.app (l := [O.lst (rowsD [])]))
  have e6 := f6.rows hs e
  have gS6 := (Ap.app (l := [O.lst (rowsD [])])).getL gS5
  have k6 := (Ap.app (l := [O.lst (rowsD [])])).getL k5
  have j6 : getL (h5 ++ [O.lst (rowsD [])]) h5.length = some (rowsD []) := getL_new
  generalize h5.length = L6 at j6 ⊢
  generalize h5 ++ [O.lst (rowsD [])] = h6 at f6 e6 gS6 k6 j6 ⊢
  have all : ∀ d ∈ [D.tup [D.int p, D.ref nb], D.tup [D.int y, D.ref nb], D.tup [D.int y, D.ref m], D.tup [D.int 120, D.ref m], D.tup [D.int 1, D.ref L5], D.tup [D.int 0, D.ref L6], D.tup [D.int p, D.ref m]], PairOk h6 d := by
    intro d hd
    simp only [List.mem_cons, List.not_mem_nil, or_false] at hd
    rcases hd with rfl | rfl | rfl | rfl | rfl | rfl | rfl
    · exact ⟨_, _, S, rfl, gS6, by omega⟩
    · exact ⟨_, _, S, rfl, gS6, by omega⟩
    · exact ⟨_, _, R, rfl, e6, by omega⟩
    · exact ⟨_, _, R, rfl, e6, by omega⟩
    · exact ⟨_, _, [], rfl, k6, by simp⟩
    · exact ⟨_, _, [], rfl, j6, by simp⟩
    · exact ⟨_, _, R, rfl, e6, by omega⟩
  generalize [D.tup [D.int p, D.ref nb], D.tup [D.int y, D.ref nb], D.tup [D.int y, D.ref m], D.tup [D.int 120, D.ref m], D.tup [D.int 1, D.ref L5], D.tup [D.int 0, D.ref L6], D.tup [D.int p, D.ref m]] = ps at all ⊢
  have f7 := f6.ap (Ap.app (l := [O.lst ps]))
  have g7 : getL (h6 ++ [O.lst ps]) h6.length = some ps := getL_new
  have all7 : ∀ d ∈ ps, PairOk (h6 ++ [O.lst ps]) d := fun d hd => (all d hd).ap Ap.app
  have gS7 := (Ap.app (l := [O.lst ps])).getL gS6
  generalize h6.length = L7 at g7 ⊢
  generalize h6 ++ [O.lst ps] = h7 at f7 g7 all7 gS7 ⊢
  simp only [g7, oq_some]
  refine for_inv (fun k ρ h' => (∃ d5 d6, ρ = [some (.ref st), some (.int p), some (.ref m), some (.ref nb), some (.int y), d5, d6, none, none, none]) ∧ Ap h7 h') ⟨⟨none, none, rfl⟩, Ap.refl _⟩ ?_ ?_ ?_
  · rintro k ρ h' _ ⟨_, a⟩
    exact decide_eq_true (a.getL g7)
  · rintro k d ρ h' hd ⟨⟨d5, d6, rfl⟩, a⟩
    obtain ⟨q, i, T, rfl, gT, zT⟩ := (all7 d (List.mem_of_getElem? hd)).ap a
    show goQ (some _) _
    rw [g_some]
    walk_at "wpz"
    refine (lmade_spec gT (by omega)).imp ?_
    rintro _ h8 ⟨s, v, rfl, du, a8⟩
    refine (due_spec (a8.getL gT)).imp ?_
    rintro _ h9 ⟨⟨s', v', rfl, du'⟩, rfl⟩
    obtain ⟨rfl, rfl⟩ := du.uniq du'
    refine (alike_ok (s := s) (v := v) rfl rfl du.str).imp ?_
    rintro _ _ ⟨rfl, rfl⟩
    walk_at "wps"
    exact ⟨⟨_, _, rfl⟩, a.trans a8⟩
  · rintro ρ h8 ⟨⟨d5, d6, rfl⟩, a⟩
    have f8 := f7.ap a
    have e8 := f8.rows hs e
    have gS8 := a.getL gS7
    rw [q_nx, w_seq]
    walk_at "wpz"
    simp only [e8, oq_some]
    have a9 : Ap h8 (h8 ++ [O.lst (rowsD R)]) := Ap.app
    have g9 : getL (h8 ++ [O.lst (rowsD R)]) h8.length = some (rowsD R) := getL_new
    generalize h8 ++ [O.lst (rowsD R)] = h9 at a9 g9 ⊢
    generalize h8.length = r9 at g9 ⊢
    refine (made_spec g9 (by omega) hp hR).imp ?_
    rintro _ h10 ⟨rfl, r10, a10⟩
    refine ⟨rfl, ?_⟩
    generalize h9.length = M at r10 ⊢
    replace a10 := a9.trans a10
    have e10 := a10.getL e8
    have gS10 := a10.getL gS8
    have f10 := f8.ap a10
    rw [q_nx, w_seq]
    walk_at "wpz"
    refine (lmore_spec r10 hp hR gS10 (by omega)).imp ?_
    rintro _ h11 ⟨k, rfl, hk, a11, cs⟩
    rw [q_nx, w_seq]
    walk_at "wpz"
    have gS11 := a11.getL gS10
    have e11 := a11.getL e10
    have r11 := r10.ap a11
    have f11 := f10.ap a11
    refine (due_spec gS11).imp ?_
    rintro _ h12 ⟨⟨s', v', rfl, du'⟩, rfl⟩
    rw [q_nx, w_seq]
    walk_at "wpz"
    rw [feq_str du'.str (by decide +kernel), b_bl]
    rcases cs with ⟨v, du, gk⟩ | ⟨du, n', gk, r'⟩
    · obtain ⟨rfl, rfl⟩ := du.uniq du'
      rw [if_pos (by simp)]
      walk_at "wpz"
      simp only [e11, oq_some, rows_len]
      refine ⟨line_small (by decide), ?_⟩
      refine (alike_ok (s := "row") (v := ((R.length + v : Nat) : Int)) (by exact gk) (by rw [it_tupD]; simp) ).imp ?_
      rintro _ h13 ⟨rfl, rfl⟩
      walk_at "wpz"
      refine (tells_spec r11 e11 (by omega)).imp ?_
      rintro _ h14 ⟨rfl, a14⟩
      walk_at "wpz"
      exact f11.ap a14
    · obtain ⟨rfl, rfl⟩ := du.uniq du'
      rw [if_neg (by decide), q_nx, w_seq]
      walk_at "wpz"
      simp only [gk, oq_some, at_0, at_1]
      rw [feq_str (by decide +kernel) (by decide +kernel), b_bl, if_neg (by decide)]
      simp only [f_ix, it_refD, gk, oq_some, at_1]
      rw [f_addL e11 gS11 (by rw [rows_len, rows_len]; omega), rows_app]
      have a13 : Ap h12 (h12 ++ [O.lst (rowsD (R ++ S))]) := Ap.app
      have g13 : getL (h12 ++ [O.lst (rowsD (R ++ S))]) h12.length = some (rowsD (R ++ S)) := getL_new
      generalize h12 ++ [O.lst (rowsD (R ++ S))] = h13 at a13 g13 ⊢
      generalize h12.length = A13 at g13 ⊢
      refine (tells_spec (r'.ap a13) g13 (by rw [List.length_append]; omega)).imp ?_
      rintro _ h14 ⟨rfl, a14⟩
      replace a14 := a13.trans a14
      rw [b_bl, if_neg (by simp), q_nx]
      walk_at "wpz"
      simp only [a14.getL gk, oq_some, at_1]
      rw [f_addL (a14.getL e11) (a14.getL gS11) (by rw [rows_len, rows_len]; omega), rows_app]
      have a15 : Ap h14 (h14 ++ [O.lst (rowsD (R ++ S))]) := Ap.app
      have g15 : getL (h14 ++ [O.lst (rowsD (R ++ S))]) h14.length = some (rowsD (R ++ S)) := getL_new
      generalize h14 ++ [O.lst (rowsD (R ++ S))] = h15 at a15 g15 ⊢
      generalize h14.length = A15 at g15 ⊢
      have all : ∀ t ∈ R ++ S, okR p t = true := fun t ht => (List.mem_append.mp ht).elim (hR t) (due_let du t)
      refine (made_spec g15 (by rw [List.length_append]; omega) hp all).imp ?_
      rintro _ h16 ⟨rfl, r16, a16⟩
      refine ⟨rfl, ?_⟩
      replace a16 := (a14.trans a15).trans a16
      obtain ⟨fs, i1⟩ := (r'.ap a16).ins
      obtain ⟨gs, i2⟩ := r16.ins
      rw [f_eqO i1 i2]
      refine (eq_spec (r'.ap a16) r16 (by rw [List.length_append]; omega) (by rw [List.length_append]; omega)).imp ?_
      rintro _ h17 ⟨rfl, rfl⟩
      rw [b_bl, if_pos (by simp)]
      refine (tells_spec (r11.ap a16) (a16.getL e11) (by omega)).imp ?_
      rintro _ h18 ⟨rfl, a18⟩
      walk_at "wps"
      exact f11.ap (a16.trans a18)
end K01

namespace K01
open PySem L2 G
local macro_rules | `(tactic| walk_at "wps") => `(tactic| try simp only [G.w_bnd, G.w_chain, G.w_wenum, G.en_fzl, G.en_ref, G.f_insert, G.f_tuple, G.w_getF, G.w_setF, G.w_makeX, G.w_make, G.w_methX, G.w_meth, G.f_lenO, G.w_addX, G.w_fldT, G.w_callX, G.w_fld, G.w_isE, G.w_bndS, G.q_ex, G.x_ex, G.w_raise, G.w_raise0, G.y_nx, G.y_rt, G.y_bk, G.y_ct, G.y_ex, G.w_try, G.w_cl0, G.w_cl1, G.st_nx, G.st_rt, G.st_bk, G.st_ct, G.cl_nx, G.cl_rt, G.cl_bk, G.cl_ct, G.w_su0, G.w_su1, G.n_ex, G.w_ret, G.w_ok, G.w_var, G.s_z, G.s_s, G.w_c, G.w_op, G.w_un, G.w_nil, G.w_cons, G.w_cb, G.w_call, G.w_tup, G.w_alloc, G.w_lst, G.b_bl, G.w_asBl, G.w_test, G.w_yes, G.w_and, G.w_or, G.w_not, G.w_andV, G.w_orV, G.w_notV, G.w_ifx, G.w_nop, G.i_int, G.w_part, G.w_sl, G.w_next, G.w_rt, G.w_rtN, G.w_brk, G.w_cont, G.w_drop, G.q_nx, G.q_rt, G.q_bk, G.q_ct, G.w_seq, G.w_ifS, G.w_set, G.g_some, G.w_asg, G.w_setIx, G.w_aug, G.n_rt, G.n_nx, G.w_fn, G.w_for, G.w_wseq, G.k_tup, G.k_fzl, G.k_ref, G.w_wr1, G.w_wr2, G.f_add, G.f_sub, G.f_addI, G.f_mul, G.f_div, G.f_mod, G.f_pow, G.f_neg, G.f_cmp, G.f_isB, G.f_notB, G.f_isN, G.f_notN, G.n_non, G.n_int, G.n_bl, G.n_ref, G.n_tup, G.f_eq, G.f_ne, G.ty_non, G.ty_bl, G.ty_int, G.ty_str, G.ty_tup, G.ty_fzl, G.kb_ii, G.kb_ib, G.kb_bi, G.kb_bb, G.kb_ni, G.kb_si, G.kb_li, G.kb_ti, G.kb_ll, G.kb_tl, G.kb_nl, G.kb_il, G.kb_bl, G.kb_sl, G.kb_tt, G.kb_lt, G.kb_nt, G.kb_it, G.kb_bt, G.kb_st, decide_eq_true_eq, Bool.not_eq_true', decide_eq_false_iff_not, ↓reduceIte, eq_self, Bool.false_eq_true, Bool.true_eq_false, reduceCtorEq, Bool.not_true, Bool.not_false, ne_eq, not_false_eq_true, G.f_abs, G.f_int, G.f_intB, G.f_max2, G.f_min2, G.f_gcd, G.it_tupD, G.it_fzlD, G.it_refD, G.f_ix, G.f_len, G.f_list, G.f_setItem, G.f_slF, G.f_slR, G.f_isi, G.f_app, G.w_bm, G.oq_some, G.w_lc, List.map_cons, List.map_nil, List.length_cons, List.length_nil, List.cons_append, List.nil_append, Nat.zero_add, List.replicate, Nat.sub_self, Nat.reduceAdd, Nat.reduceSub, List.set_cons_zero, List.set_cons_succ, Option.some.injEq, exists_eq_left', exists_eq_left, true_and, and_true, G.at_0, G.at_1, G.at_2, G.at_3, G.at_m1, G.ix1_0, G.ix2_0, G.ix2_1, G.ix3_0, G.ix3_1, G.ix3_2, List.length_set, List.set_set])
local macro_rules | `(tactic| walk_at "wpx") => `(tactic| try simp only [G.w_bnd, G.w_chain, G.w_wenum, G.en_fzl, G.en_ref, G.f_insert, G.f_tuple, G.w_getF, G.w_setF, G.w_makeX, G.w_make, G.w_methX, G.w_meth, G.f_lenO, G.w_addX, G.w_fldT, G.w_callX, G.w_fld, G.w_isE, G.w_bndS, G.q_ex, G.x_ex, G.w_raise, G.w_raise0, G.y_nx, G.y_rt, G.y_bk, G.y_ct, G.y_ex, G.w_try, G.w_cl0, G.w_cl1, G.st_nx, G.st_rt, G.st_bk, G.st_ct, G.cl_nx, G.cl_rt, G.cl_bk, G.cl_ct, G.w_su0, G.w_su1, G.n_ex, G.w_ret, G.w_ok, G.w_var, G.s_z, G.s_s, G.w_c, G.w_op, G.w_un, G.w_nil, G.w_cons, G.w_cb, G.w_call, G.w_tup, G.w_alloc, G.w_lst, G.b_bl, G.w_asBl, G.w_test, G.w_yes, G.w_and, G.w_or, G.w_not, G.w_andV, G.w_orV, G.w_notV, G.w_ifx, G.w_nop, G.i_int, G.w_part, G.w_sl, G.w_next, G.w_rt, G.w_rtN, G.w_brk, G.w_cont, G.w_drop, G.q_nx, G.q_rt, G.q_bk, G.q_ct, G.w_seq, G.w_ifS, G.w_set, G.g_some, G.w_asg, G.w_setIx, G.w_aug, G.n_rt, G.n_nx, G.w_fn, G.w_for, G.w_wseq, G.k_tup, G.k_fzl, G.k_ref, G.w_wr1, G.w_wr2, G.f_add, G.f_sub, G.f_addI, G.f_mul, G.f_div, G.f_mod, G.f_pow, G.f_neg, G.f_cmp, G.f_isB, G.f_notB, G.f_isN, G.f_notN, G.n_non, G.n_int, G.n_bl, G.n_ref, G.n_tup, G.f_eq, G.f_ne, G.ty_non, G.ty_bl, G.ty_int, G.ty_str, G.ty_tup, G.ty_fzl, G.kb_ii, G.kb_ib, G.kb_bi, G.kb_bb, G.kb_ni, G.kb_si, G.kb_li, G.kb_ti, G.kb_ll, G.kb_tl, G.kb_nl, G.kb_il, G.kb_bl, G.kb_sl, G.kb_tt, G.kb_lt, G.kb_nt, G.kb_it, G.kb_bt, G.kb_st, decide_eq_true_eq, Bool.not_eq_true', decide_eq_false_iff_not, ↓reduceIte, eq_self, Bool.false_eq_true, Bool.true_eq_false, reduceCtorEq, Bool.not_true, Bool.not_false, ne_eq, not_false_eq_true, G.f_abs, G.f_int, G.f_intB, G.f_max2, G.f_min2, G.f_gcd, G.it_tupD, G.it_fzlD, G.it_refD, G.f_ix, G.f_len, G.f_list, G.f_setItem, G.f_slF, G.f_slR, G.f_isi, G.f_app, G.w_bm, G.oq_some, G.w_lc, List.map_cons, List.map_nil, List.length_cons, List.length_nil, List.cons_append, List.nil_append, Nat.zero_add, List.replicate, Nat.sub_self, Nat.reduceAdd, Nat.reduceSub, List.set_cons_zero, List.set_cons_succ, Option.some.injEq, exists_eq_left', exists_eq_left, true_and, and_true, G.at_0, G.at_1, G.at_2, G.at_3, G.at_m1, G.ix1_0, G.ix2_0, G.ix2_1, G.ix3_0, G.ix3_1, G.ix3_2, List.length_set, List.set_set, *])
local macro_rules | `(tactic| walk_at "wpz") => `(tactic| try simp only [G.w_bnd, G.w_chain, G.w_wenum, G.en_fzl, G.en_ref, G.f_insert, G.f_tuple, G.w_getF, G.w_setF, G.w_makeX, G.w_make, G.w_methX, G.w_meth, G.f_lenO, G.w_addX, G.w_fldT, G.w_callX, G.w_fld, G.w_isE, G.w_bndS, G.q_ex, G.x_ex, G.w_raise, G.w_raise0, G.y_nx, G.y_rt, G.y_bk, G.y_ct, G.y_ex, G.w_try, G.w_cl0, G.w_cl1, G.st_nx, G.st_rt, G.st_bk, G.st_ct, G.cl_nx, G.cl_rt, G.cl_bk, G.cl_ct, G.w_su0, G.w_su1, G.n_ex, G.w_ret, G.w_ok, G.w_var, G.s_z, G.s_s, G.w_c, G.w_op, G.w_un, G.w_nil, G.w_cons, G.w_cb, G.w_call, G.w_tup, G.w_alloc, G.w_lst, G.b_bl, G.w_asBl, G.w_test, G.w_yes, G.w_and, G.w_or, G.w_not, G.w_andV, G.w_orV, G.w_notV, G.w_ifx, G.w_nop, G.i_int, G.w_part, G.w_sl, G.w_next, G.w_rt, G.w_rtN, G.w_brk, G.w_cont, G.w_drop, G.q_rt, G.q_bk, G.q_ct, G.w_seq, G.w_ifS, G.w_set, G.g_some, G.w_asg, G.w_setIx, G.w_aug, G.n_rt, G.n_nx, G.w_fn, G.w_for, G.w_wseq, G.k_tup, G.k_fzl, G.k_ref, G.w_wr1, G.w_wr2, G.f_add, G.f_sub, G.f_addI, G.f_mul, G.f_div, G.f_mod, G.f_pow, G.f_neg, G.f_cmp, G.f_isB, G.f_notB, G.f_isN, G.f_notN, G.n_non, G.n_int, G.n_bl, G.n_ref, G.n_tup, G.f_eq, G.f_ne, G.ty_non, G.ty_bl, G.ty_int, G.ty_str, G.ty_tup, G.ty_fzl, G.kb_ii, G.kb_ib, G.kb_bi, G.kb_bb, G.kb_ni, G.kb_si, G.kb_li, G.kb_ti, G.kb_ll, G.kb_tl, G.kb_nl, G.kb_il, G.kb_bl, G.kb_sl, G.kb_tt, G.kb_lt, G.kb_nt, G.kb_it, G.kb_bt, G.kb_st, decide_eq_true_eq, Bool.not_eq_true', decide_eq_false_iff_not, ↓reduceIte, eq_self, Bool.false_eq_true, Bool.true_eq_false, reduceCtorEq, Bool.not_true, Bool.not_false, ne_eq, not_false_eq_true, G.f_abs, G.f_int, G.f_intB, G.f_max2, G.f_min2, G.f_gcd, G.it_tupD, G.it_fzlD, G.it_refD, G.f_ix, G.f_len, G.f_list, G.f_setItem, G.f_slF, G.f_slR, G.f_isi, G.f_app, G.w_bm, G.oq_some, G.w_lc, List.map_cons, List.map_nil, List.length_cons, List.length_nil, List.cons_append, List.nil_append, Nat.zero_add, List.replicate, Nat.sub_self, Nat.reduceAdd, Nat.reduceSub, List.set_cons_zero, List.set_cons_succ, Option.some.injEq, exists_eq_left', exists_eq_left, true_and, and_true, G.at_0, G.at_1, G.at_2, G.at_3, G.at_m1, G.ix1_0, G.ix2_0, G.ix2_1, G.ix3_0, G.ix3_1, G.ix3_2, List.length_set, List.set_set])
/-- a pair [points, rows] of _law_others -/
def PR (st N : Nat) (h : Store) (d : D) : Prop := ∃ (n : Nat) (q : Int) (m : Nat) (S : List Tr), d = .ref n ∧ n ≠ st ∧ n ≠ N ∧ m ≠ st ∧ m ≠ N ∧ getL h n = some [.int q, .ref m] ∧ getL h m = some (rowsD S) ∧ (1 ≤ q ∧ q ≤ 120) ∧ (∀ t ∈ S, okR q t = true) ∧ S.length ≤ 2000
theorem PR.keep {st N : Nat} {h h' : Store} {d : D} (i : PR st N h d) (k : ∀ l xs, l ≠ st → l ≠ N → getL h l = some xs → getL h' l = some xs) : PR st N h' d := by
  obtain ⟨n, q, m, S, a, b, c, e, f, g, i, j⟩ := i
  exact ⟨n, q, m, S, a, b, c, e, f, k _ _ b c g, k _ _ e f i, j⟩
structure Oth (st N : Nat) (h0 h : Store) (L : Nat) : Prop where
  lo : h0.length ≤ N
  ns : N ≠ st
  fm : Fm st h0 h
  is : ∃ ls, getL h N = some ls ∧ ls.length ≤ L ∧ ∀ d ∈ ls, PR st N h d
theorem Oth.ap {st N : Nat} {h0 h h' : Store} {L : Nat} (o : Oth st N h0 h L) (a : Ap h h') : Oth st N h0 h' L := by
  obtain ⟨ls, e, z, p⟩ := o.is
  exact ⟨o.lo, o.ns, o.fm.ap a, ls, a.getL e, z, fun d hd => (p d hd).keep fun _ _ _ _ g => a.getL g⟩
theorem Oth.mv {st N : Nat} {h0 h h' : Store} {L : Nat} (o : Oth st N h0 h L) (a : Fm st h h') : Oth st N h0 h' L := by
  obtain ⟨ls, e, z, p⟩ := o.is
  exact ⟨o.lo, o.ns, o.fm.trans a, ls, a.getL o.ns e, z, fun d hd => (p d hd).keep fun _ _ x _ g => a.getL x g⟩
theorem Oth.keep {st N : Nat} {h0 h h' : Store} {L : Nat} (o : Oth st N h0 h L) (a : Fm st h0 h') (k : ∀ l xs, l ≠ st → getL h l = some xs → getL h' l = some xs) : Oth st N h0 h' L := by
  obtain ⟨ls, e, z, p⟩ := o.is
  exact ⟨o.lo, o.ns, a, ls, k _ _ o.ns e, z, fun d hd => (p d hd).keep fun _ _ x _ g => k _ _ x g⟩
theorem set_rows {R : List Tr} {j : Nat} {t : Tr} : (rowsD R).set j (trD t) = rowsD (R.set j t) := by unfold rowsD; rw [List.map_set]
theorem mem_set {R : List Tr} {j : Nat} {t : Tr} {P : Tr → Prop} (hR : ∀ t ∈ R, P t) (ht : P t) : ∀ x ∈ R.set j t, P x := fun x hx => by
  rcases List.mem_or_eq_of_mem_set hx with z | rfl
  · exact hR x z
  · exact ht
theorem ix_ok {n : Nat} {i : Int} (h0 : 0 ≤ i) (h1 : i < n) : ixN n i = some i.toNat := by
  unfold ixN
  rw [if_pos h0, if_pos h1]
theorem Oth.push {st N A : Nat} {h0 h : Store} {L : Nat} {q : Int} {S : List Tr} {Q : Store → Prop} (o : Oth st N h0 h L) (gA : getL h A = some (rowsD S)) (as : A ≠ st) (an : A ≠ N) (hq : 1 ≤ q ∧ q ≤ 120) (hS : ∀ t ∈ S, okR q t = true) (hz : S.length ≤ 2000) (hL : L ≤ 900)
    (k : ∀ h', Oth st N h0 h' (L + 1) → Q h') : oQ (getL (h ++ [.lst [.int q, .ref A]]) N) fun xs => xs.length < sizeLine ∧ Q ((h ++ [O.lst [D.int q, D.ref A]]).set N (O.lst (xs ++ [D.ref h.length]))) := by
  obtain ⟨ls, e, z, p⟩ := o.is
  rw [(Ap.app).getL e, oq_some]
  refine ⟨by rw [sizeLine_eq]; omega, ?_⟩
  have b := getL_lt e
  have c := o.fm.lt
  have lo := o.lo
  have f2 := (o.fm.ap (Ap.app (l := [O.lst [.int q, .ref A]])))
  have kp : ∀ l xs, l ≠ st → l ≠ N → getL h l = some xs → getL ((h ++ [O.lst [.int q, .ref A]]).set N (O.lst (ls ++ [.ref h.length]))) l = some xs := fun l xs _ hn g => by
    rw [getL_ne hn]
    exact Ap.app.getL g
  refine k _ ⟨o.lo, o.ns, f2.set o.lo o.ns, ls ++ [.ref h.length], getL_set (Ap.app.getL e), by rw [List.length_append]; simpa using z, fun d hd => ?_⟩
  rcases List.mem_append.mp hd with y | y
  · exact (p d y).keep kp
  · cases List.mem_singleton.mp y
    refine ⟨_, q, A, S, rfl, by omega, by omega, as, an, ?_, kp _ _ as an gA, hq, hS, hz⟩
    rw [getL_ne (by omega)]
    exact getL_new
theorem Oth.lt {st N : Nat} {h0 h : Store} {L : Nat} (o : Oth st N h0 h L) : N < h.length ∧ st < h.length := by
  obtain ⟨ls, e, _⟩ := o.is
  exact ⟨getL_lt e, o.fm.lt⟩
theorem cat2 {X : XQ} {h : Store} {m : Nat} {R S1 S2 : List Tr} {w : Int} {Q : D → Store → Prop} (e : getL h m = some (rowsD R)) (c1 : cutD (rowsD R) none (some w) = rowsD S1) (c2 : cutD (rowsD R) (some (w + 1)) none = rowsD S2) (n : S1.length + S2.length ≤ 100000)
    (k : ∀ h' A, Ap h h' → getL h' A = some (rowsD (S1 ++ S2)) → h.length ≤ A → A < h'.length → Q (.ref A) h') :
    oQ (getL h m) fun l => oQ (getL (h ++ [O.lst (cutD l none (some w))]) m) fun l_1 => WpX X (fAdd (.ref h.length) (.ref (h ++ [O.lst (cutD l none (some w))]).length) (h ++ [O.lst (cutD l none (some w))] ++ [O.lst (cutD l_1 (some (w + 1)) none)])) Q := by
  rw [e, oq_some, c1, Ap.app.getL e, oq_some, c2, f_addL (Ap.app.getL getL_new) getL_new (by rw [rows_len, rows_len]; omega), rows_app]
  exact k _ _ ((Ap.app.trans Ap.app).trans Ap.app) getL_new (by simp only [List.length_append]; omega) (by simp)
theorem cat3 {X : XQ} {h : Store} {m : Nat} {R S1 S2 : List Tr} {w : Int} {t : Tr} {Q : D → Store → Prop} (e : getL h m = some (rowsD R)) (c1 : cutD (rowsD R) none (some w) = rowsD S1) (c2 : cutD (rowsD R) (some (w + 1)) none = rowsD S2) (n : S1.length + S2.length ≤ 100000)
    (k : ∀ h' A, Ap h h' → getL h' A = some (rowsD (S1 ++ [t] ++ S2)) → h.length ≤ A → A < h'.length → Q (.ref A) h') :
    oQ (getL h m) fun l => WpX X (fAdd (.ref h.length) (.ref (h ++ [O.lst (cutD l none (some w))]).length) (h ++ [O.lst (cutD l none (some w))] ++ [O.lst [trD t]])) fun x h1 => oQ (getL h1 m) fun l_1 => WpX X (fAdd x (.ref h1.length) (h1 ++ [O.lst (cutD l_1 (some (w + 1)) none)])) Q := by
  rw [e, oq_some, c1, show [trD t] = rowsD [t] from rfl, f_addL (Ap.app.getL getL_new) getL_new (by rw [rows_len, rows_len, List.length_cons, List.length_nil]; omega), rows_app]
  rw [(((Ap.app (l := [O.lst (rowsD S1)])).trans (Ap.app (l := [O.lst (rowsD [t])]))).trans Ap.app).getL e, oq_some, c2]
  rw [f_addL (Ap.app.getL getL_new) getL_new (by simp only [rows_len, List.length_append, List.length_cons, List.length_nil]; omega), rows_app]
  exact k _ _ (((Ap.app.trans Ap.app).trans (Ap.app.trans Ap.app)).trans Ap.app) getL_new (by simp only [List.length_append]; omega) (by simp)
theorem mid3 {R S1 S2 : List Tr} {t : Tr} {p : Int} (hR : ∀ t ∈ R, okR p t = true) (m1 : ∀ t ∈ S1, t ∈ R) (m2 : ∀ t ∈ S2, t ∈ R) (ht : okR p t = true) : ∀ x ∈ S1 ++ [t] ++ S2, okR p x = true := fun x hx => by
  rcases List.mem_append.mp hx with hx | hx
  · rcases List.mem_append.mp hx with hx | hx
    · exact hR x (m1 x hx)
    · cases List.mem_singleton.mp hx
      exact ht
  · exact hR x (m2 x hx)
theorem others_spec {h : Store} {st m : Nat} {p : Int} {R : List Tr} (hs : StA h st) (e : getL h m = some (rowsD R)) (hz : R.length ≤ 700) (hp : 1 ≤ p ∧ p ≤ 120) (hR : ∀ t ∈ R, okR p t = true) :
    WpX NoX (m_law_others [.ref st, .int p, .ref m] h) fun d h' => ∃ N, d = .ref N ∧ Oth st N h h' 8 := by
  have f0 := Fm.refl hs
  have mst := rows_ne hs e
  have lst := sa_lt hs
  have lm := getL_lt e
  unfold m_law_others m_law_others_b
  rw [w_fn, w_seq]
  walk_at "wpz"
  simp only [e, oq_some]
  have hp0 : ¬ p = 0 := by omega
  have z2 : 2 ≤ sizeLine := line_small (by decide)
  have z1 : 1 ≤ sizeLine := line_small (by decide)
  have z3 : 3 ≤ sizeLine := line_small (by decide)
  have z0 : 0 ≤ sizeLine := line_small (by decide)
  simp only [z2, z1, z3, z0, true_and]
  have a1 : Ap h (h ++ [O.lst (rowsD R)]) := Ap.app
  have g1 : getL (h ++ [O.lst (rowsD R)]) h.length = some (rowsD R) := getL_new
  have b1 : (h ++ [O.lst (rowsD R)]).length = h.length + 1 := by simp
  generalize h ++ [O.lst (rowsD R)] = h1 at a1 g1 b1 ⊢
  have a2 : Ap h1 (h1 ++ [O.lst [D.int p, D.ref h.length]]) := Ap.app
  have g2 : getL (h1 ++ [O.lst [D.int p, D.ref h.length]]) h1.length = some [D.int p, D.ref h.length] := getL_new
  have b2 : (h1 ++ [O.lst [D.int p, D.ref h.length]]).length = h.length + 2 := by simp [b1]
  rw [b1] at g2 ⊢
  generalize h1 ++ [O.lst [D.int p, D.ref h.length]] = h2 at a2 g2 b2 ⊢
  replace g1 := a2.getL g1
  replace a2 := a1.trans a2
  rw [show [D.tup [D.int 0, D.int 0, D.int 0]] = rowsD [(0, 0, 0)] from rfl]
  have a3 : Ap h2 (h2 ++ [O.lst (rowsD [(0, 0, 0)])]) := Ap.app
  have g3 : getL (h2 ++ [O.lst (rowsD [(0, 0, 0)])]) h2.length = some (rowsD [(0, 0, 0)]) := getL_new
  have b3 : (h2 ++ [O.lst (rowsD [(0, 0, 0)])]).length = h.length + 3 := by simp [b2]
  generalize h2 ++ [O.lst (rowsD [(0, 0, 0)])] = h3 at a3 g3 b3 ⊢
  replace g1 := a3.getL g1
  replace g2 := a3.getL g2
  replace a3 := a2.trans a3
  rw [f_addL (a3.getL e) g3 (by rw [rows_len, rows_len, List.length_cons, List.length_nil]; omega), rows_app]
  have a4 : Ap h3 (h3 ++ [O.lst (rowsD (R ++ [(0, 0, 0)]))]) := Ap.app
  have g4 : getL (h3 ++ [O.lst (rowsD (R ++ [(0, 0, 0)]))]) h3.length = some (rowsD (R ++ [(0, 0, 0)])) := getL_new
  have b4 : (h3 ++ [O.lst (rowsD (R ++ [(0, 0, 0)]))]).length = h.length + 4 := by simp [b3]
  rw [b3] at g4 ⊢
  generalize h3 ++ [O.lst (rowsD (R ++ [(0, 0, 0)]))] = h4 at a4 g4 b4 ⊢
  replace g1 := a4.getL g1
  replace g2 := a4.getL g2
  replace a4 := a3.trans a4
  have a5 : Ap h4 (h4 ++ [O.lst [D.int p, D.ref (h.length + 3)]]) := Ap.app
  have g5 : getL (h4 ++ [O.lst [D.int p, D.ref (h.length + 3)]]) h4.length = some [D.int p, D.ref (h.length + 3)] := getL_new
  have b5 : (h4 ++ [O.lst [D.int p, D.ref (h.length + 3)]]).length = h.length + 5 := by simp [b4]
  rw [b4] at g5 ⊢
  generalize h4 ++ [O.lst [D.int p, D.ref (h.length + 3)]] = h5 at a5 g5 b5 ⊢
  replace g1 := a5.getL g1
  replace g2 := a5.getL g2
  replace g4 := a5.getL g4
  replace a5 := a4.trans a5
  have ok0 : ∀ t ∈ R ++ [(0, 0, 0)], okR p t = true := fun t ht => by
    rcases List.mem_append.mp ht with z | z
    · exact hR t z
    · cases List.mem_singleton.mp z
      exact decide_eq_true ⟨⟨by decide, by show (0 : Int) < p; omega⟩, by decide, by show (0 : Int) < p; omega⟩
  have o6 : Oth st (h.length + 5) h (h5 ++ [O.lst [D.ref (h.length + 1), D.ref (h.length + 4)]]) 2 := by
    refine ⟨by omega, by omega, f0.ap (a5.trans Ap.app), _, by rw [← b5]; exact getL_new, Nat.le_refl _, fun d hd => ?_⟩
    simp only [List.mem_cons, List.not_mem_nil, or_false] at hd
    rcases hd with rfl | rfl
    · exact ⟨_, p, h.length, R, rfl, by omega, by omega, by omega, by omega, Ap.app.getL g2, Ap.app.getL g1, hp, hR, by omega⟩
    · exact ⟨_, p, h.length + 3, _, rfl, by omega, by omega, by omega, by omega, Ap.app.getL g5, Ap.app.getL g4, hp, ok0, by rw [List.length_append, List.length_cons, List.length_nil]; omega⟩
  rw [b5]
  generalize h5 ++ [O.lst [D.ref (h.length + 1), D.ref (h.length + 4)]] = h6 at o6 ⊢
  generalize hN : h.length + 5 = N at o6 ⊢
  clear g1 g2 g3 g4 g5 b1 b2 b3 b4 b5 a1 a2 a3 a4 a5
  rw [q_nx, w_seq]
  refine WpX.same (Q := fun f h' => f = .nx [some (.ref st), some (.int p), some (.ref m), some (.ref N), none, none, none, none] ∧ ∃ L, L ≤ 3 ∧ Oth st N h h' L) ?_ ?_
  · walk_at "wpz"
    by_cases c1 : p < 120
    · rw [if_pos (by simpa using c1)]
      walk_at "wpz"
      obtain ⟨ls, gN, _⟩ := o6.is
      simp only [z2, z1, z3, z0, true_and, gN, oq_some, o6.fm.rows hs e]
      have o7 := o6.ap (Ap.app (l := [O.lst (rowsD R)]))
      refine o7.push (Q := fun h' => ∃ L, L ≤ 3 ∧ Oth st N h h' L) (q := p + 1) (S := R) getL_new (by have := o6.lt; omega) (by have := o6.lt; omega) ⟨by omega, by omega⟩ (fun t ht => ?_) (by omega) (by omega) fun h' o => ⟨3, by decide, o⟩
      have := of_decide_eq_true (hR t ht)
      exact decide_eq_true (by omega)
    · rw [if_neg (by simpa using c1)]
      exact ⟨2, by decide, o6⟩
  rintro _ h7 ⟨rfl, L, hL, o7⟩
  rw [q_nx, w_seq]
  walk_at "wpz"
  simp only [z2, z1, z3, z0, true_and]
  rw [show h7 ++ [O.lst []] = h7 ++ [O.lst (rowsD [])] from rfl]
  have o8 := o7.ap (Ap.app (l := [O.lst (rowsD [])]))
  rw [feq_rows (o8.fm.rows hs e) getL_new (by omega) (by decide), b_bl]
  generalize h7 ++ [O.lst (rowsD [])] = h8 at o8 ⊢
  clear o7 o6
  by_cases c : R = []
  · rw [if_neg (by simp [c]), q_nx]
    walk_at "wps"
    exact ⟨_, rfl, o8.lo, o8.ns, o8.fm, by obtain ⟨ls, e, z, p⟩ := o8.is; exact ⟨ls, e, by omega, p⟩⟩
  rw [if_pos (by simp [c])]
  have hlen : 0 < R.length := List.length_pos_iff.mpr c
  simp only [o8.fm.rows hs e, oq_some, rows_len]
  refine (next_fm o8.fm.sa (by omega) (by omega)).imp ?_
  rintro _ h9 ⟨w, rfl, w0, w1, f9⟩
  have o9 := o8.mv f9
  clear o8 f9
  obtain ⟨t, ht, et⟩ := at_rows (R := R) w0 w1
  have ok := of_decide_eq_true (hR t ht)
  rw [q_nx, w_seq]
  walk_at "wpz"
  simp only [o9.fm.rows hs e, oq_some, et]
  rw [q_nx, w_seq]
  obtain ⟨S1, c1, m1, n1⟩ := cut_rows (R := R) (a := none) (b := some w)
  obtain ⟨S2, c2, m2, n2⟩ := cut_rows (R := R) (a := some (w + 1)) (b := none)
  walk_at "wpz"
  have gN : ∃ ls, getL h9 N = some ls := ⟨_, o9.is.choose_spec.1⟩
  obtain ⟨ls, gN⟩ := gN
  rw [gN, oq_some]
  clear gN ls
  refine cat2 (o9.fm.rows hs e) c1 c2 (by omega) fun h10 A a10 gA lA uA => ?_
  have o10 := o9.ap a10
  have lt9 := o9.lt
  refine ⟨z2, ?_⟩
  refine o10.push gA (by omega) (by omega) hp (fun t ht => (List.mem_append.mp ht).elim (fun z => hR t (m1 t z)) (fun z => hR t (m2 t z))) (by rw [List.length_append]; omega) (by omega) fun h11 o11 => ?_
  clear o9 o10 lt9 a10 gA lA uA
  rw [q_nx, w_seq]
  walk_at "wpz"
  simp only [it_trD, oq_some, at_0, at_1, at_2, f_add, z1, z2, z3, true_and]
  have gN : ∃ ls, getL h11 N = some ls := ⟨_, o11.is.choose_spec.1⟩
  obtain ⟨ls, gN⟩ := gN
  rw [gN, oq_some]
  clear gN ls
  refine cat3 (t := (t.1, t.2.1, t.2.2 + 1)) (o11.fm.rows hs e) c1 c2 (by omega) fun h12 A a12 gA lA uA => ?_
  have o12 := o11.ap a12
  have lt11 := o11.lt
  refine o12.push gA (by omega) (by omega) hp (fun x hx => ?_) (by simp only [List.length_append, List.length_cons, List.length_nil]; omega) (by omega) fun h13 o13 => ?_
  · exact mid3 (t := (t.1, t.2.1, t.2.2 + 1)) hR m1 m2 (decide_eq_true ok) x hx
  clear o11 o12 lt11 a12 gA lA uA
  rw [q_nx, w_seq]
  walk_at "wpz"
  simp only [it_trD, oq_some, at_0, at_1, at_2, f_add, f_int, f_mod, z1, z2, z3, true_and, ne_eq, hp0, not_false_eq_true]
  have gN : ∃ ls, getL h13 N = some ls := ⟨_, o13.is.choose_spec.1⟩
  obtain ⟨ls, gN⟩ := gN
  rw [gN, oq_some]
  clear gN ls
  refine cat3 (t := ((t.1 + 1).fmod p, t.2.1, t.2.2)) (o13.fm.rows hs e) c1 c2 (by omega) fun h14 A a14 gA lA uA => ?_
  have o14 := o13.ap a14
  have lt13 := o13.lt
  refine o14.push gA (by omega) (by omega) hp (fun x hx => ?_) (by simp only [List.length_append, List.length_cons, List.length_nil]; omega) (by omega) fun h15 o15 => ?_
  · exact mid3 (t := ((t.1 + 1).fmod p, t.2.1, t.2.2)) hR m1 m2 (decide_eq_true ⟨fmod_bd (by omega), ok.2⟩) x hx
  clear o13 o14 lt13 a14 gA lA uA
  rw [q_nx, w_seq]
  walk_at "wpz"
  simp only [it_trD, oq_some, at_0, at_1, at_2, f_add, f_int, f_mod, z1, z2, z3, true_and, ne_eq, hp0, not_false_eq_true]
  have gN : ∃ ls, getL h15 N = some ls := ⟨_, o15.is.choose_spec.1⟩
  obtain ⟨ls, gN⟩ := gN
  rw [gN, oq_some]
  clear gN ls
  refine cat3 (t := (t.1, (t.2.1 + 1).fmod p, t.2.2)) (o15.fm.rows hs e) c1 c2 (by omega) fun h16 A a16 gA lA uA => ?_
  have o16 := o15.ap a16
  have lt15 := o15.lt
  refine o16.push gA (by omega) (by omega) hp (fun x hx => ?_) (by simp only [List.length_append, List.length_cons, List.length_nil]; omega) (by omega) fun h17 o17 => ?_
  · exact mid3 (t := (t.1, (t.2.1 + 1).fmod p, t.2.2)) hR m1 m2 (decide_eq_true ⟨ok.1, fmod_bd (by omega)⟩) x hx
  clear o15 o16 lt15 a16 gA lA uA
  rw [q_nx, w_seq]
  walk_at "wpz"
  rw [o17.fm.rows hs e, oq_some]
  have lt17 := o17.lt
  have k18 : ∀ l xs, l ≠ st → getL h17 l = some xs → getL (h17 ++ [O.lst (rowsD R)]) l = some xs ∧ l ≠ h17.length := fun l xs _ g => ⟨Ap.app.getL g, by have := getL_lt g; omega⟩
  have f18 := o17.fm.ap (Ap.app (l := [O.lst (rowsD R)]))
  have g18 : getL (h17 ++ [O.lst (rowsD R)]) h17.length = some (rowsD R) := getL_new
  have F1 : h17.length ≠ st := by omega
  have F2 : h17.length ≠ N := by omega
  have F3 : h.length ≤ h17.length := o17.fm.len
  generalize h17 ++ [O.lst (rowsD R)] = h18 at f18 k18 g18 ⊢
  generalize h17.length = F at k18 g18 F1 F2 F3 ⊢
  clear lt17
  rw [q_nx, w_seq]
  walk_at "wpz"
  simp only [f18.rows hs e, oq_some, rows_len]
  refine (next_fm f18.sa (by omega) (by omega)).imp ?_
  rintro _ h19 ⟨y, rfl, y0, y1, f19⟩
  have g19 := f19.getL F1 g18
  have k19 : ∀ l xs, l ≠ st → getL h17 l = some xs → getL h19 l = some xs ∧ l ≠ F := fun l xs x g => ⟨f19.getL x (k18 l xs x g).1, (k18 l xs x g).2⟩
  replace f19 := f18.trans f19
  obtain ⟨s, hss, es⟩ := at_rows (R := R) y0 y1
  clear f18 k18 g18
  rw [q_nx, w_seq]
  walk_at "wpz"
  simp only [f19.rows hs e, oq_some, es, g19, rows_len, ix_ok w0 w1]
  rw [set_rows]
  have g20 : getL (h19.set F (O.lst (rowsD (R.set w.toNat s)))) F = some (rowsD (R.set w.toNat s)) := getL_set g19
  have f20 := f19.set (o := O.lst (rowsD (R.set w.toNat s))) F3 F1
  have k20 : ∀ l xs, l ≠ st → getL h17 l = some xs → getL (h19.set F (O.lst (rowsD (R.set w.toNat s)))) l = some xs ∧ l ≠ F := fun l xs x g => ⟨by rw [getL_ne (k19 l xs x g).2]; exact (k19 l xs x g).1, (k19 l xs x g).2⟩
  generalize h19.set F (O.lst (rowsD (R.set w.toNat s))) = h20 at g20 f20 k20 ⊢
  clear f19 k19 g19
  rw [q_nx, w_seq]
  walk_at "wpz"
  simp only [f20.rows hs e, oq_some, g20, rows_len, List.length_set, ix_ok y0 y1]
  rw [set_rows]
  generalize hT : (R.set w.toNat s).set y.toNat t = T
  have lT : T.length = R.length := by rw [← hT, List.length_set, List.length_set]
  have oT : ∀ x ∈ T, okR p x = true := by rw [← hT]; exact mem_set (mem_set hR (hR s hss)) (hR t ht)
  have g21 : getL (h20.set F (O.lst (rowsD T))) F = some (rowsD T) := getL_set g20
  have f21 := f20.set (o := O.lst (rowsD T)) F3 F1
  have o21 : Oth st N h (h20.set F (O.lst (rowsD T))) _ := o17.keep f21 fun l xs x g => by rw [getL_ne (k20 l xs x g).2]; exact (k20 l xs x g).1
  generalize h20.set F (O.lst (rowsD T)) = h21 at g21 f21 o21 ⊢
  clear f20 k20 g20 o17
  rw [q_nx]
  walk_at "wpz"
  have gN : ∃ ls, getL h21 N = some ls := ⟨_, o21.is.choose_spec.1⟩
  obtain ⟨ls, gN⟩ := gN
  rw [gN, oq_some]
  clear gN ls
  refine ⟨z2, ?_⟩
  refine o21.push g21 F1 F2 hp oT (by omega) (by omega) fun h22 o22 => ?_
  rw [q_nx]
  walk_at "wps"
  exact ⟨_, rfl, o22.lo, o22.ns, o22.fm, by obtain ⟨ls, e, z, p⟩ := o22.is; exact ⟨ls, e, by omega, p⟩⟩
end K01

namespace K01
open PySem L2 G
local macro_rules | `(tactic| walk_at "wps") => `(tactic| try simp only [G.w_bnd, G.w_chain, G.w_wenum, G.en_fzl, G.en_ref, G.f_insert, G.f_tuple, G.w_getF, G.w_setF, G.w_makeX, G.w_make, G.w_methX, G.w_meth, G.f_lenO, G.w_addX, G.w_fldT, G.w_callX, G.w_fld, G.w_isE, G.w_bndS, G.q_ex, G.x_ex, G.w_raise, G.w_raise0, G.y_nx, G.y_rt, G.y_bk, G.y_ct, G.y_ex, G.w_try, G.w_cl0, G.w_cl1, G.st_nx, G.st_rt, G.st_bk, G.st_ct, G.cl_nx, G.cl_rt, G.cl_bk, G.cl_ct, G.w_su0, G.w_su1, G.n_ex, G.w_ret, G.w_ok, G.w_var, G.s_z, G.s_s, G.w_c, G.w_op, G.w_un, G.w_nil, G.w_cons, G.w_cb, G.w_call, G.w_tup, G.w_alloc, G.w_lst, G.b_bl, G.w_asBl, G.w_test, G.w_yes, G.w_and, G.w_or, G.w_not, G.w_andV, G.w_orV, G.w_notV, G.w_ifx, G.w_nop, G.i_int, G.w_part, G.w_sl, G.w_next, G.w_rt, G.w_rtN, G.w_brk, G.w_cont, G.w_drop, G.q_nx, G.q_rt, G.q_bk, G.q_ct, G.w_seq, G.w_ifS, G.w_set, G.g_some, G.w_asg, G.w_setIx, G.w_aug, G.n_rt, G.n_nx, G.w_fn, G.w_for, G.w_wseq, G.k_tup, G.k_fzl, G.k_ref, G.w_wr1, G.w_wr2, G.f_add, G.f_sub, G.f_addI, G.f_mul, G.f_div, G.f_mod, G.f_pow, G.f_neg, G.f_cmp, G.f_isB, G.f_notB, G.f_isN, G.f_notN, G.n_non, G.n_int, G.n_bl, G.n_ref, G.n_tup, G.f_eq, G.f_ne, G.ty_non, G.ty_bl, G.ty_int, G.ty_str, G.ty_tup, G.ty_fzl, G.kb_ii, G.kb_ib, G.kb_bi, G.kb_bb, G.kb_ni, G.kb_si, G.kb_li, G.kb_ti, G.kb_ll, G.kb_tl, G.kb_nl, G.kb_il, G.kb_bl, G.kb_sl, G.kb_tt, G.kb_lt, G.kb_nt, G.kb_it, G.kb_bt, G.kb_st, decide_eq_true_eq, Bool.not_eq_true', decide_eq_false_iff_not, ↓reduceIte, eq_self, Bool.false_eq_true, Bool.true_eq_false, reduceCtorEq, Bool.not_true, Bool.not_false, ne_eq, not_false_eq_true, G.f_abs, G.f_int, G.f_intB, G.f_max2, G.f_min2, G.f_gcd, G.it_tupD, G.it_fzlD, G.it_refD, G.f_ix, G.f_len, G.f_list, G.f_setItem, G.f_slF, G.f_slR, G.f_isi, G.f_app, G.w_bm, G.oq_some, G.w_lc, List.map_cons, List.map_nil, List.length_cons, List.length_nil, List.cons_append, List.nil_append, Nat.zero_add, List.replicate, Nat.sub_self, Nat.reduceAdd, Nat.reduceSub, List.set_cons_zero, List.set_cons_succ, Option.some.injEq, exists_eq_left', exists_eq_left, true_and, and_true, G.at_0, G.at_1, G.at_2, G.at_3, G.at_m1, G.ix1_0, G.ix2_0, G.ix2_1, G.ix3_0, G.ix3_1, G.ix3_2, List.length_set, List.set_set])
local macro_rules | `(tactic| walk_at "wpx") => `(tactic| try simp only [G.w_bnd, G.w_chain, G.w_wenum, G.en_fzl, G.en_ref, G.f_insert, G.f_tuple, G.w_getF, G.w_setF, G.w_makeX, G.w_make, G.w_methX, G.w_meth, G.f_lenO, G.w_addX, G.w_fldT, G.w_callX, G.w_fld, G.w_isE, G.w_bndS, G.q_ex, G.x_ex, G.w_raise, G.w_raise0, G.y_nx, G.y_rt, G.y_bk, G.y_ct, G.y_ex, G.w_try, G.w_cl0, G.w_cl1, G.st_nx, G.st_rt, G.st_bk, G.st_ct, G.cl_nx, G.cl_rt, G.cl_bk, G.cl_ct, G.w_su0, G.w_su1, G.n_ex, G.w_ret, G.w_ok, G.w_var, G.s_z, G.s_s, G.w_c, G.w_op, G.w_un, G.w_nil, G.w_cons, G.w_cb, G.w_call, G.w_tup, G.w_alloc, G.w_lst, G.b_bl, G.w_asBl, G.w_test, G.w_yes, G.w_and, G.w_or, G.w_not, G.w_andV, G.w_orV, G.w_notV, G.w_ifx, G.w_nop, G.i_int, G.w_part, G.w_sl, G.w_next, G.w_rt, G.w_rtN, G.w_brk, G.w_cont, G.w_drop, G.q_nx, G.q_rt, G.q_bk, G.q_ct, G.w_seq, G.w_ifS, G.w_set, G.g_some, G.w_asg, G.w_setIx, G.w_aug, G.n_rt, G.n_nx, G.w_fn, G.w_for, G.w_wseq, G.k_tup, G.k_fzl, G.k_ref, G.w_wr1, G.w_wr2, G.f_add, G.f_sub, G.f_addI, G.f_mul, G.f_div, G.f_mod, G.f_pow, G.f_neg, G.f_cmp, G.f_isB, G.f_notB, G.f_isN, G.f_notN, G.n_non, G.n_int, G.n_bl, G.n_ref, G.n_tup, G.f_eq, G.f_ne, G.ty_non, G.ty_bl, G.ty_int, G.ty_str, G.ty_tup, G.ty_fzl, G.kb_ii, G.kb_ib, G.kb_bi, G.kb_bb, G.kb_ni, G.kb_si, G.kb_li, G.kb_ti, G.kb_ll, G.kb_tl, G.kb_nl, G.kb_il, G.kb_bl, G.kb_sl, G.kb_tt, G.kb_lt, G.kb_nt, G.kb_it, G.kb_bt, G.kb_st, decide_eq_true_eq, Bool.not_eq_true', decide_eq_false_iff_not, ↓reduceIte, eq_self, Bool.false_eq_true, Bool.true_eq_false, reduceCtorEq, Bool.not_true, Bool.not_false, ne_eq, not_false_eq_true, G.f_abs, G.f_int, G.f_intB, G.f_max2, G.f_min2, G.f_gcd, G.it_tupD, G.it_fzlD, G.it_refD, G.f_ix, G.f_len, G.f_list, G.f_setItem, G.f_slF, G.f_slR, G.f_isi, G.f_app, G.w_bm, G.oq_some, G.w_lc, List.map_cons, List.map_nil, List.length_cons, List.length_nil, List.cons_append, List.nil_append, Nat.zero_add, List.replicate, Nat.sub_self, Nat.reduceAdd, Nat.reduceSub, List.set_cons_zero, List.set_cons_succ, Option.some.injEq, exists_eq_left', exists_eq_left, true_and, and_true, G.at_0, G.at_1, G.at_2, G.at_3, G.at_m1, G.ix1_0, G.ix2_0, G.ix2_1, G.ix3_0, G.ix3_1, G.ix3_2, List.length_set, List.set_set, *])
local macro_rules | `(tactic| walk_at "wpz") => `(tactic| try simp only [G.w_bnd, G.w_chain, G.w_wenum, G.en_fzl, G.en_ref, G.f_insert, G.f_tuple, G.w_getF, G.w_setF, G.w_makeX, G.w_make, G.w_methX, G.w_meth, G.f_lenO, G.w_addX, G.w_fldT, G.w_callX, G.w_fld, G.w_isE, G.w_bndS, G.q_ex, G.x_ex, G.w_raise, G.w_raise0, G.y_nx, G.y_rt, G.y_bk, G.y_ct, G.y_ex, G.w_try, G.w_cl0, G.w_cl1, G.st_nx, G.st_rt, G.st_bk, G.st_ct, G.cl_nx, G.cl_rt, G.cl_bk, G.cl_ct, G.w_su0, G.w_su1, G.n_ex, G.w_ret, G.w_ok, G.w_var, G.s_z, G.s_s, G.w_c, G.w_op, G.w_un, G.w_nil, G.w_cons, G.w_cb, G.w_call, G.w_tup, G.w_alloc, G.w_lst, G.b_bl, G.w_asBl, G.w_test, G.w_yes, G.w_and, G.w_or, G.w_not, G.w_andV, G.w_orV, G.w_notV, G.w_ifx, G.w_nop, G.i_int, G.w_part, G.w_sl, G.w_next, G.w_rt, G.w_rtN, G.w_brk, G.w_cont, G.w_drop, G.q_rt, G.q_bk, G.q_ct, G.w_seq, G.w_ifS, G.w_set, G.g_some, G.w_asg, G.w_setIx, G.w_aug, G.n_rt, G.n_nx, G.w_fn, G.w_for, G.w_wseq, G.k_tup, G.k_fzl, G.k_ref, G.w_wr1, G.w_wr2, G.f_add, G.f_sub, G.f_addI, G.f_mul, G.f_div, G.f_mod, G.f_pow, G.f_neg, G.f_cmp, G.f_isB, G.f_notB, G.f_isN, G.f_notN, G.n_non, G.n_int, G.n_bl, G.n_ref, G.n_tup, G.f_eq, G.f_ne, G.ty_non, G.ty_bl, G.ty_int, G.ty_str, G.ty_tup, G.ty_fzl, G.kb_ii, G.kb_ib, G.kb_bi, G.kb_bb, G.kb_ni, G.kb_si, G.kb_li, G.kb_ti, G.kb_ll, G.kb_tl, G.kb_nl, G.kb_il, G.kb_bl, G.kb_sl, G.kb_tt, G.kb_lt, G.kb_nt, G.kb_it, G.kb_bt, G.kb_st, decide_eq_true_eq, Bool.not_eq_true', decide_eq_false_iff_not, ↓reduceIte, eq_self, Bool.false_eq_true, Bool.true_eq_false, reduceCtorEq, Bool.not_true, Bool.not_false, ne_eq, not_false_eq_true, G.f_abs, G.f_int, G.f_intB, G.f_max2, G.f_min2, G.f_gcd, G.it_tupD, G.it_fzlD, G.it_refD, G.f_ix, G.f_len, G.f_list, G.f_setItem, G.f_slF, G.f_slR, G.f_isi, G.f_app, G.w_bm, G.oq_some, G.w_lc, List.map_cons, List.map_nil, List.length_cons, List.length_nil, List.cons_append, List.nil_append, Nat.zero_add, List.replicate, Nat.sub_self, Nat.reduceAdd, Nat.reduceSub, List.set_cons_zero, List.set_cons_succ, Option.some.injEq, exists_eq_left', exists_eq_left, true_and, and_true, G.at_0, G.at_1, G.at_2, G.at_3, G.at_m1, G.ix1_0, G.ix2_0, G.ix2_1, G.ix3_0, G.ix3_1, G.ix3_2, List.length_set, List.set_set])
theorem wm_none {v w : D} : List.lookup ("with_more" : PySem.Str) [(("points" : PySem.Str), v), (("_rows" : PySem.Str), w)] = none := by
  unfold List.lookup
  rw [show (("with_more" : PySem.Str) == ("points" : PySem.Str)) = false by decide]
  unfold List.lookup
  rw [show (("with_more" : PySem.Str) == ("_rows" : PySem.Str)) = false by decide]
  rfl
theorem IsR.wm {h : Store} {n : Nat} {p : Int} {R : List Tr} (r : IsR h n p R) : ∃ q, ofIns 3 (.ref n) h = some q ∧ List.lookup ("with_more" : PySem.Str) q.2 = none := by
  obtain ⟨l, e, _⟩ := r
  exact ⟨_, of_ins e, wm_none⟩
theorem compares_spec {h : Store} {st n m : Nat} {p : Int} {R : List Tr} (hs : StA h st) (r : IsR h n p R) (e : getL h m = some (rowsD R)) (hz : R.length ≤ 700) (hp : 1 ≤ p ∧ p ≤ 120) (hR : ∀ t ∈ R, okR p t = true) :
    WpX NoX (m_law_compares [.ref st, .ref n, .int p, .ref m] h) fun d h' => d = .bl true ∧ Fm st h h' := by
  unfold m_law_compares m_law_compares_b
  rw [w_fn, w_seq]
  walk_at "wpz"
  refine (others_spec hs e hz hp hR).imp ?_
  rintro _ h1 ⟨N, rfl, o⟩
  obtain ⟨ls, gN, _, il⟩ := o.is
  simp only [k_ref, gN, oq_some]
  refine for_inv (fun k ρ h' => (∃ d4 d5 d6 d7, ρ = [some (.ref st), some (.ref n), some (.int p), some (.ref m), d4, d5, d6, d7]) ∧ Ap h1 h') ⟨⟨none, none, none, none, rfl⟩, Ap.refl _⟩ ?_ ?_ ?_
  · rintro k ρ h' _ ⟨_, a⟩
    exact decide_eq_true (a.getL gN)
  · rintro k d ρ h' hd ⟨⟨d4, d5, d6, d7, rfl⟩, a⟩
    obtain ⟨x, q, y, S, rfl, _, _, _, _, gx, gS, hq, oS, zS⟩ := il d (List.mem_of_getElem? hd)
    have gx' := a.getL gx
    have gS' := a.getL gS
    have r' := (r.fm hs o.fm).ap a
    have e' := a.getL (o.fm.rows hs e)
    unfold gmTup
    dsimp only
    rw [gx']
    show goQ (some _) _
    rw [g_some, w_seq]
    walk_at "wpz"
    refine ⟨line_small (by decide), ?_⟩
    rw [show h' ++ [O.lst []] = h' ++ [O.lst (rowsD [])] from rfl]
    have a2 : Ap h' (h' ++ [O.lst (rowsD [])]) := Ap.app
    have g2 : getL (h' ++ [O.lst (rowsD [])]) h'.length = some (rowsD []) := getL_new
    generalize h' ++ [O.lst (rowsD [])] = h2 at a2 g2 ⊢
    generalize h'.length = z2 at g2 ⊢
    refine (made_spec g2 (by decide) hq (fun t ht => by cases ht)).imp ?_
    rintro _ h3 ⟨rfl, r3, a3⟩
    refine ⟨rfl, ?_⟩
    generalize h2.length = z3 at r3 ⊢
    have a23 := a2.trans a3
    obtain ⟨w3, e3, n3⟩ := r3.wm
    rw [e3, oq_some]
    refine ⟨n3, ?_⟩
    rw [a23.getL gS', oq_some]
    have a4 : Ap h3 (h3 ++ [O.lst (rowsD S)]) := Ap.app
    have g4 : getL (h3 ++ [O.lst (rowsD S)]) h3.length = some (rowsD S) := getL_new
    generalize h3 ++ [O.lst (rowsD S)] = h4 at a4 g4 ⊢
    generalize h3.length = z4 at g4 ⊢
    have a24 := a23.trans a4
    refine more_spec (X := NoX) (r3.ap a4) hq (fun t ht => by cases ht) g4 (by simp; omega) (fun k t h' ht hf => ?_) (fun _ h5 n5 r5 a5 b5 => ?_)
    · rw [oS t (List.mem_of_getElem? ht)] at hf
      cases hf
    rw [List.nil_append] at r5
    have a25 := a24.trans a5
    have r5' := r'.ap a25
    rw [q_nx, w_seq]
    refine WpX.same (Q := fun f h6 => f = .nx [some (.ref st), some (.ref n), some (.int p), some (.ref m), some (.int q), some (.ref y), some (.ref n5), some (.bl (decide (q = p ∧ S = R)))] ∧ h6 = h5) ?_ ?_
    · walk_at "wps"
      rw [feq_rows (a25.getL gS') (a25.getL e') (by omega) (by omega)]
      by_cases c : q = p
      · simp [c]
      · simp [c]
    rintro _ _ ⟨rfl, rfl⟩
    obtain ⟨fs, i1⟩ := r5'.ins
    obtain ⟨gs, i2⟩ := r5.ins
    have q1 : decide (p = q ∧ R = S) = decide (q = p ∧ S = R) := by rw [Bool.eq_iff_iff]; simp only [decide_eq_true_eq]; exact ⟨fun ⟨x, y⟩ => ⟨x.symm, y.symm⟩, fun ⟨x, y⟩ => ⟨x.symm, y.symm⟩⟩
    rw [q_nx]
    walk_at "wpz"
    rw [f_eqO i1 i2]
    refine (eq_spec r5' r5 (by omega) (by omega)).imp ?_
    rintro _ _ ⟨rfl, rfl⟩
    rw [q1, feq_bl, b_bl, if_neg (by simp), f_eqO i2 i1]
    refine (eq_spec r5 r5' (by omega) (by omega)).imp ?_
    rintro _ _ ⟨rfl, rfl⟩
    rw [feq_bl, b_bl, if_neg (by simp), f_neO i1 i2]
    refine (eq_spec r5' r5 (by omega) (by omega)).imp ?_
    rintro _ _ ⟨rfl, rfl⟩
    rw [q1, b_bl, feq_bl, b_bl, if_neg (by cases decide (q = p ∧ S = R) <;> decide)]
    exact ⟨⟨_, _, _, _, rfl⟩, a.trans a25⟩
  · rintro ρ h2 ⟨⟨d4, d5, d6, d7, rfl⟩, a⟩
    rw [q_nx]
    walk_at "wps"
    exact o.fm.ap a
end K01

namespace K01
open PySem L2 G
local macro_rules | `(tactic| walk_at "wps") => `(tactic| try simp only [G.w_bnd, G.w_chain, G.w_wenum, G.en_fzl, G.en_ref, G.f_insert, G.f_tuple, G.w_getF, G.w_setF, G.w_makeX, G.w_make, G.w_methX, G.w_meth, G.f_lenO, G.w_addX, G.w_fldT, G.w_callX, G.w_fld, G.w_isE, G.w_bndS, G.q_ex, G.x_ex, G.w_raise, G.w_raise0, G.y_nx, G.y_rt, G.y_bk, G.y_ct, G.y_ex, G.w_try, G.w_cl0, G.w_cl1, G.st_nx, G.st_rt, G.st_bk, G.st_ct, G.cl_nx, G.cl_rt, G.cl_bk, G.cl_ct, G.w_su0, G.w_su1, G.n_ex, G.w_ret, G.w_ok, G.w_var, G.s_z, G.s_s, G.w_c, G.w_op, G.w_un, G.w_nil, G.w_cons, G.w_cb, G.w_call, G.w_tup, G.w_alloc, G.w_lst, G.b_bl, G.w_asBl, G.w_test, G.w_yes, G.w_and, G.w_or, G.w_not, G.w_andV, G.w_orV, G.w_notV, G.w_ifx, G.w_nop, G.i_int, G.w_part, G.w_sl, G.w_next, G.w_rt, G.w_rtN, G.w_brk, G.w_cont, G.w_drop, G.q_nx, G.q_rt, G.q_bk, G.q_ct, G.w_seq, G.w_ifS, G.w_set, G.g_some, G.w_asg, G.w_setIx, G.w_aug, G.n_rt, G.n_nx, G.w_fn, G.w_for, G.w_wseq, G.k_tup, G.k_fzl, G.k_ref, G.w_wr1, G.w_wr2, G.f_add, G.f_sub, G.f_addI, G.f_mul, G.f_div, G.f_mod, G.f_pow, G.f_neg, G.f_cmp, G.f_isB, G.f_notB, G.f_isN, G.f_notN, G.n_non, G.n_int, G.n_bl, G.n_ref, G.n_tup, G.f_eq, G.f_ne, G.ty_non, G.ty_bl, G.ty_int, G.ty_str, G.ty_tup, G.ty_fzl, G.kb_ii, G.kb_ib, G.kb_bi, G.kb_bb, G.kb_ni, G.kb_si, G.kb_li, G.kb_ti, G.kb_ll, G.kb_tl, G.kb_nl, G.kb_il, G.kb_bl, G.kb_sl, G.kb_tt, G.kb_lt, G.kb_nt, G.kb_it, G.kb_bt, G.kb_st, decide_eq_true_eq, Bool.not_eq_true', decide_eq_false_iff_not, ↓reduceIte, eq_self, Bool.false_eq_true, Bool.true_eq_false, reduceCtorEq, Bool.not_true, Bool.not_false, ne_eq, not_false_eq_true, G.f_abs, G.f_int, G.f_intB, G.f_max2, G.f_min2, G.f_gcd, G.it_tupD, G.it_fzlD, G.it_refD, G.f_ix, G.f_len, G.f_list, G.f_setItem, G.f_slF, G.f_slR, G.f_isi, G.f_app, G.w_bm, G.oq_some, G.w_lc, List.map_cons, List.map_nil, List.length_cons, List.length_nil, List.cons_append, List.nil_append, Nat.zero_add, List.replicate, Nat.sub_self, Nat.reduceAdd, Nat.reduceSub, List.set_cons_zero, List.set_cons_succ, Option.some.injEq, exists_eq_left', exists_eq_left, true_and, and_true, G.at_0, G.at_1, G.at_2, G.at_3, G.at_m1, G.ix1_0, G.ix2_0, G.ix2_1, G.ix3_0, G.ix3_1, G.ix3_2, List.length_set, List.set_set])
local macro_rules | `(tactic| walk_at "wpx") => `(tactic| try simp only [G.w_bnd, G.w_chain, G.w_wenum, G.en_fzl, G.en_ref, G.f_insert, G.f_tuple, G.w_getF, G.w_setF, G.w_makeX, G.w_make, G.w_methX, G.w_meth, G.f_lenO, G.w_addX, G.w_fldT, G.w_callX, G.w_fld, G.w_isE, G.w_bndS, G.q_ex, G.x_ex, G.w_raise, G.w_raise0, G.y_nx, G.y_rt, G.y_bk, G.y_ct, G.y_ex, G.w_try, G.w_cl0, G.w_cl1, G.st_nx, G.st_rt, G.st_bk, G.st_ct, G.cl_nx, G.cl_rt, G.cl_bk, G.cl_ct, G.w_su0, G.w_su1, G.n_ex, G.w_ret, G.w_ok, G.w_var, G.s_z, G.s_s, G.w_c, G.w_op, G.w_un, G.w_nil, G.w_cons, G.w_cb, G.w_call, G.w_tup, G.w_alloc, G.w_lst, G.b_bl, G.w_asBl, G.w_test, G.w_yes, G.w_and, G.w_or, G.w_not, G.w_andV, G.w_orV, G.w_notV, G.w_ifx, G.w_nop, G.i_int, G.w_part, G.w_sl, G.w_next, G.w_rt, G.w_rtN, G.w_brk, G.w_cont, G.w_drop, G.q_nx, G.q_rt, G.q_bk, G.q_ct, G.w_seq, G.w_ifS, G.w_set, G.g_some, G.w_asg, G.w_setIx, G.w_aug, G.n_rt, G.n_nx, G.w_fn, G.w_for, G.w_wseq, G.k_tup, G.k_fzl, G.k_ref, G.w_wr1, G.w_wr2, G.f_add, G.f_sub, G.f_addI, G.f_mul, G.f_div, G.f_mod, G.f_pow, G.f_neg, G.f_cmp, G.f_isB, G.f_notB, G.f_isN, G.f_notN, G.n_non, G.n_int, G.n_bl, G.n_ref, G.n_tup, G.f_eq, G.f_ne, G.ty_non, G.ty_bl, G.ty_int, G.ty_str, G.ty_tup, G.ty_fzl, G.kb_ii, G.kb_ib, G.kb_bi, G.kb_bb, G.kb_ni, G.kb_si, G.kb_li, G.kb_ti, G.kb_ll, G.kb_tl, G.kb_nl, G.kb_il, G.kb_bl, G.kb_sl, G.kb_tt, G.kb_lt, G.kb_nt, G.kb_it, G.kb_bt, G.kb_st, decide_eq_true_eq, Bool.not_eq_true', decide_eq_false_iff_not, ↓reduceIte, eq_self, Bool.false_eq_true, Bool.true_eq_false, reduceCtorEq, Bool.not_true, Bool.not_false, ne_eq, not_false_eq_true, G.f_abs, G.f_int, G.f_intB, G.f_max2, G.f_min2, G.f_gcd, G.it_tupD, G.it_fzlD, G.it_refD, G.f_ix, G.f_len, G.f_list, G.f_setItem, G.f_slF, G.f_slR, G.f_isi, G.f_app, G.w_bm, G.oq_some, G.w_lc, List.map_cons, List.map_nil, List.length_cons, List.length_nil, List.cons_append, List.nil_append, Nat.zero_add, List.replicate, Nat.sub_self, Nat.reduceAdd, Nat.reduceSub, List.set_cons_zero, List.set_cons_succ, Option.some.injEq, exists_eq_left', exists_eq_left, true_and, and_true, G.at_0, G.at_1, G.at_2, G.at_3, G.at_m1, G.ix1_0, G.ix2_0, G.ix2_1, G.ix3_0, G.ix3_1, G.ix3_2, List.length_set, List.set_set, *])
local macro_rules | `(tactic| walk_at "wpz") => `(tactic| try simp only [G.w_bnd, G.w_chain, G.w_wenum, G.en_fzl, G.en_ref, G.f_insert, G.f_tuple, G.w_getF, G.w_setF, G.w_makeX, G.w_make, G.w_methX, G.w_meth, G.f_lenO, G.w_addX, G.w_fldT, G.w_callX, G.w_fld, G.w_isE, G.w_bndS, G.q_ex, G.x_ex, G.w_raise, G.w_raise0, G.y_nx, G.y_rt, G.y_bk, G.y_ct, G.y_ex, G.w_try, G.w_cl0, G.w_cl1, G.st_nx, G.st_rt, G.st_bk, G.st_ct, G.cl_nx, G.cl_rt, G.cl_bk, G.cl_ct, G.w_su0, G.w_su1, G.n_ex, G.w_ret, G.w_ok, G.w_var, G.s_z, G.s_s, G.w_c, G.w_op, G.w_un, G.w_nil, G.w_cons, G.w_cb, G.w_call, G.w_tup, G.w_alloc, G.w_lst, G.b_bl, G.w_asBl, G.w_test, G.w_yes, G.w_and, G.w_or, G.w_not, G.w_andV, G.w_orV, G.w_notV, G.w_ifx, G.w_nop, G.i_int, G.w_part, G.w_sl, G.w_next, G.w_rt, G.w_rtN, G.w_brk, G.w_cont, G.w_drop, G.q_rt, G.q_bk, G.q_ct, G.w_seq, G.w_ifS, G.w_set, G.g_some, G.w_asg, G.w_setIx, G.w_aug, G.n_rt, G.n_nx, G.w_fn, G.w_for, G.w_wseq, G.k_tup, G.k_fzl, G.k_ref, G.w_wr1, G.w_wr2, G.f_add, G.f_sub, G.f_addI, G.f_mul, G.f_div, G.f_mod, G.f_pow, G.f_neg, G.f_cmp, G.f_isB, G.f_notB, G.f_isN, G.f_notN, G.n_non, G.n_int, G.n_bl, G.n_ref, G.n_tup, G.f_eq, G.f_ne, G.ty_non, G.ty_bl, G.ty_int, G.ty_str, G.ty_tup, G.ty_fzl, G.kb_ii, G.kb_ib, G.kb_bi, G.kb_bb, G.kb_ni, G.kb_si, G.kb_li, G.kb_ti, G.kb_ll, G.kb_tl, G.kb_nl, G.kb_il, G.kb_bl, G.kb_sl, G.kb_tt, G.kb_lt, G.kb_nt, G.kb_it, G.kb_bt, G.kb_st, decide_eq_true_eq, Bool.not_eq_true', decide_eq_false_iff_not, ↓reduceIte, eq_self, Bool.false_eq_true, Bool.true_eq_false, reduceCtorEq, Bool.not_true, Bool.not_false, ne_eq, not_false_eq_true, G.f_abs, G.f_int, G.f_intB, G.f_max2, G.f_min2, G.f_gcd, G.it_tupD, G.it_fzlD, G.it_refD, G.f_ix, G.f_len, G.f_list, G.f_setItem, G.f_slF, G.f_slR, G.f_isi, G.f_app, G.w_bm, G.oq_some, G.w_lc, List.map_cons, List.map_nil, List.length_cons, List.length_nil, List.cons_append, List.nil_append, Nat.zero_add, List.replicate, Nat.sub_self, Nat.reduceAdd, Nat.reduceSub, List.set_cons_zero, List.set_cons_succ, Option.some.injEq, exists_eq_left', exists_eq_left, true_and, and_true, G.at_0, G.at_1, G.at_2, G.at_3, G.at_m1, G.ix1_0, G.ix2_0, G.ix2_1, G.ix3_0, G.ix3_1, G.ix3_2, List.length_set, List.set_set])
theorem Sys.ap {h h' : Store} {n l1 l2 : Nat} {p : Int} {R : List Tr} {zs : List Int} (s : Sys h n l1 l2 p R zs) (a : Ap h h') : Sys h' n l1 l2 p R zs :=
  ⟨a.getL s.g0, a.getL s.g1, a.getL s.g2, s.p1, s.z1, s.r1, s.rk⟩
theorem Sys.fm {st : Nat} {h h' : Store} {n l1 l2 : Nat} {p : Int} {R : List Tr} {zs : List Int} (s : Sys h n l1 l2 p R zs) (hs : StA h st) (h2 : l2 ≠ st) (a : Fm st h h') : Sys h' n l1 l2 p R zs := by
  refine ⟨?_, a.rows hs s.g1, a.getL h2 s.g2, s.p1, s.z1, s.r1, s.rk⟩
  refine a.getL ?_ s.g0
  rintro rfl
  obtain ⟨c, k, f, e⟩ := hs
  rw [s.g0] at e
  cases e
theorem ok_join {p q : Int} {R S : List Tr} (hp : 1 ≤ p ∧ p ≤ 120) (hq : 1 ≤ q ∧ q ≤ 120) (hR : ∀ t ∈ R, okR p t = true) (hS : ∀ t ∈ S, okR q t = true) : ∀ t ∈ R ++ S.map (mvR (p - 1)), okR (p + q - 1) t = true := fun t ht => by
  rcases List.mem_append.mp ht with hm | hm
  · have := of_decide_eq_true (hR t hm)
    exact decide_eq_true (by omega)
  · obtain ⟨s, hs, rfl⟩ := List.mem_map.mp hm
    have := of_decide_eq_true (hS s hs)
    unfold mvR jp okR
    refine decide_eq_true ⟨?_, ?_⟩
    · dsimp only; split <;> omega
    · dsimp only; split <;> omega
theorem joined_spec {h : Store} {n l1 l2 m k1 k2 : Nat} {p q : Int} {R S : List Tr} {zs ws : List Int} (s : Sys h n l1 l2 p R zs) (t : Sys h m k1 k2 q S ws) :
    WpX NoX (m_law_joined [.ref n, .ref m] h) fun d h' => ∃ (N L1 L2 : Nat) (us : List Int), d = .ref N ∧ getL h' N = some [.int (p + q - 1), .ref L1, .ref L2] ∧ getL h' L1 = some (rowsD (R ++ S.map (mvR (p - 1)))) ∧ getL h' L2 = some (us.map D.int) ∧ (1 ≤ us.length ∧ us.length ≤ 240) ∧ h.length ≤ L2 ∧ Ap h h' := by
  unfold m_law_joined m_law_joined_b
  have hp := s.p1
  have hq := t.p1
  have sz := s.z1
  have tz := t.z1
  have sr := s.r1
  have tr := t.r1
  rw [w_fn, w_seq]
  walk_at "wpz"
  simp only [s.g0, oq_some, at_0, f_sub]
  rw [q_nx, w_seq]
  walk_at "wpz"
  simp only [s.g0, oq_some, at_1, f_list, it_refD, s.g1]
  rw [q_nx, w_seq]
  have a1 : Ap h (h ++ [O.lst (rowsD R)]) := Ap.app
  have g1 : getL (h ++ [O.lst (rowsD R)]) h.length = some (rowsD R) := getL_new
  generalize h ++ [O.lst (rowsD R)] = h1 at a1 g1 ⊢
  walk_at "wpz"
  simp only [a1.getL t.g0, oq_some, at_1, k_ref, a1.getL t.g1]
  refine for_inv (fun k ρ h' => (∃ d4 d5 d6, ρ = [some (.ref n), some (.ref m), some (.int (p - 1)), some (.ref h.length), d4, d5, d6]) ∧ Ap h h' ∧ getL h' h.length = some (rowsD (R ++ (S.take k).map (mvR (p - 1))))) ⟨⟨none, none, none, rfl⟩, a1, ?_⟩ ?_ ?_ ?_
  · rw [List.take_zero, List.map_nil, List.append_nil]
    exact g1
  · rintro k ρ h' _ ⟨_, a, _⟩
    exact decide_eq_true (a.getL t.g1)
  · rintro k d ρ h' hd ⟨⟨d4, d5, d6, rfl⟩, a, g⟩
    obtain ⟨x, hx, rfl⟩ := rows_get hd
    have ok := of_decide_eq_true (t.rk x (List.mem_of_getElem? hx))
    obtain ⟨i, j, c⟩ := x
    show goQ (some _) _
    rw [g_some]
    walk_at "wps"
    rw [g]
    walk_at "wps"
    have tk : R ++ List.map (mvR (p - 1)) (List.take (k + 1) S) = (R ++ List.map (mvR (p - 1)) (List.take k S)) ++ [mvR (p - 1) (i, j, c)] := by
      rw [List.take_succ, hx, List.map_append, List.append_assoc]
      rfl
    have e1 : ∀ i : Int, 0 ≤ i → i + (p - 1) * (if 0 < i then 1 else 0) = jp (p - 1) i := fun i hi => by
      unfold jp
      by_cases z : i = 0
      · simp [z]
      · rw [if_neg z, if_pos (by omega)]; omega
    have hlen : (R ++ List.map (mvR (p - 1)) (List.take k S)).length ≤ 90000 := by
      rw [List.length_append, List.length_map, List.length_take]
      omega
    rw [e1 i ok.1.1, e1 j ok.2.1]
    have er : rowsD (R ++ List.map (mvR (p - 1)) (List.take k S)) ++ [D.tup [D.int (jp (p - 1) i), D.int (jp (p - 1) j), D.int c]] = rowsD (R ++ List.map (mvR (p - 1)) (List.take (k + 1) S)) := by
      rw [tk, ← rows_app (S := [mvR (p - 1) (i, j, c)])]
      rfl
    have mo : ∀ x : Int, mulOk (p - 1) x = true := fun x => mul_small (by omega)
    simp only [mo, true_and, er]
    exact ⟨line_small (by omega), by rw [rows_len, sizeLine_eq]; omega, ⟨_, _, _, rfl⟩, a.set (Nat.le_refl _), getL_set g⟩
  · rintro ρ h' ⟨⟨d4, d5, d6, rfl⟩, a, g⟩
    rw [rows_len, List.take_length] at g
    rw [q_nx]
    walk_at "wpz"
    simp only [a.getL s.g0, a.getL t.g0, oq_some, at_0, at_2, f_add, f_sub, f_slR, a.getL t.g2]
    obtain ⟨vs, ec, hv⟩ := cut_ints (zs := ws) (a := some 1) (b := none)
    rw [ec]
    have a2 : Ap h' (h' ++ [O.lst (vs.map D.int)]) := Ap.app
    have g2 : getL (h' ++ [O.lst (vs.map D.int)]) h'.length = some (vs.map D.int) := getL_new
    generalize h' ++ [O.lst (vs.map D.int)] = h2 at a2 g2 ⊢
    replace a := a.trans a2
    replace g := a2.getL g
    rw [f_addL (a.getL s.g2) g2 (by simp only [List.length_map]; omega), ← List.map_append]
    refine ⟨line_small (by decide), ?_⟩
    have b2 := a.len
    exact ⟨_, h.length, h2.length, zs ++ vs, rfl, getL_new, (Ap.app.trans Ap.app).getL g, Ap.app.getL getL_new, by rw [List.length_append]; omega, b2, (a.trans Ap.app).trans Ap.app⟩
theorem sum_spec {h : Store} {n m : Nat} {p q : Int} {R S : List Tr} (r : IsR h n p R) (s : IsR h m q S) (hp : 1 ≤ p ∧ p ≤ 120) (hq : 1 ≤ q ∧ q ≤ 120) (hR : ∀ t ∈ R, okR p t = true) (hS : ∀ t ∈ S, okR q t = true) (hz : R.length + S.length ≤ 90000) :
    WpX NoX (m_law_sum [.ref n, .ref m] h) fun d h' => ∃ k, d = .ref k ∧ Ap h h' ∧ ((¬ p + q - 1 ≤ 120 ∧ getL h' k = some [.str "count", .int (p + q - 1)]) ∨ (p + q - 1 ≤ 120 ∧ ∃ n', getL h' k = some [.str "sum", .ref n'] ∧ IsR h' n' (p + q - 1) (R ++ S.map (mvR (p - 1))))) := by
  unfold m_law_sum m_law_sum_b
  obtain ⟨fs, i1⟩ := r.ins
  obtain ⟨gs, i2⟩ := s.ins
  rw [w_fn, w_seq, w_try]
  walk_at "wpz"
  refine ⟨⟨by rw [of_ins i1]; rfl, by rw [of_ins i2]; rfl⟩, ?_⟩
  refine add_spec r s hp hq hR hS hz (fun hn h2 a2 => ?_) (fun hn h2 n' r2 a2 b2 => ?_)
  · walk_at "wpz"
    simp only [tb1, oq_some, ↓reduceIte]
    walk_at "wpz"
    simp only [lkn, oq_some]
    exact ⟨by decide, flat_int, line_small (by decide), _, rfl, a2.trans Ap.app, .inl ⟨hn, getL_new⟩⟩
  · walk_at "wpz"
    exact ⟨line_small (by decide), _, rfl, a2.trans Ap.app, .inr ⟨hn, n', getL_new, r2.ap Ap.app⟩⟩
end K01

namespace K01
open PySem L2 G
local macro_rules | `(tactic| walk_at "wps") => `(tactic| try simp only [G.w_bnd, G.w_chain, G.w_wenum, G.en_fzl, G.en_ref, G.f_insert, G.f_tuple, G.w_getF, G.w_setF, G.w_makeX, G.w_make, G.w_methX, G.w_meth, G.f_lenO, G.w_addX, G.w_fldT, G.w_callX, G.w_fld, G.w_isE, G.w_bndS, G.q_ex, G.x_ex, G.w_raise, G.w_raise0, G.y_nx, G.y_rt, G.y_bk, G.y_ct, G.y_ex, G.w_try, G.w_cl0, G.w_cl1, G.st_nx, G.st_rt, G.st_bk, G.st_ct, G.cl_nx, G.cl_rt, G.cl_bk, G.cl_ct, G.w_su0, G.w_su1, G.n_ex, G.w_ret, G.w_ok, G.w_var, G.s_z, G.s_s, G.w_c, G.w_op, G.w_un, G.w_nil, G.w_cons, G.w_cb, G.w_call, G.w_tup, G.w_alloc, G.w_lst, G.b_bl, G.w_asBl, G.w_test, G.w_yes, G.w_and, G.w_or, G.w_not, G.w_andV, G.w_orV, G.w_notV, G.w_ifx, G.w_nop, G.i_int, G.w_part, G.w_sl, G.w_next, G.w_rt, G.w_rtN, G.w_brk, G.w_cont, G.w_drop, G.q_nx, G.q_rt, G.q_bk, G.q_ct, G.w_seq, G.w_ifS, G.w_set, G.g_some, G.w_asg, G.w_setIx, G.w_aug, G.n_rt, G.n_nx, G.w_fn, G.w_for, G.w_wseq, G.k_tup, G.k_fzl, G.k_ref, G.w_wr1, G.w_wr2, G.f_add, G.f_sub, G.f_addI, G.f_mul, G.f_div, G.f_mod, G.f_pow, G.f_neg, G.f_cmp, G.f_isB, G.f_notB, G.f_isN, G.f_notN, G.n_non, G.n_int, G.n_bl, G.n_ref, G.n_tup, G.f_eq, G.f_ne, G.ty_non, G.ty_bl, G.ty_int, G.ty_str, G.ty_tup, G.ty_fzl, G.kb_ii, G.kb_ib, G.kb_bi, G.kb_bb, G.kb_ni, G.kb_si, G.kb_li, G.kb_ti, G.kb_ll, G.kb_tl, G.kb_nl, G.kb_il, G.kb_bl, G.kb_sl, G.kb_tt, G.kb_lt, G.kb_nt, G.kb_it, G.kb_bt, G.kb_st, decide_eq_true_eq, Bool.not_eq_true', decide_eq_false_iff_not, ↓reduceIte, eq_self, Bool.false_eq_true, Bool.true_eq_false, reduceCtorEq, Bool.not_true, Bool.not_false, ne_eq, not_false_eq_true, G.f_abs, G.f_int, G.f_intB, G.f_max2, G.f_min2, G.f_gcd, G.it_tupD, G.it_fzlD, G.it_refD, G.f_ix, G.f_len, G.f_list, G.f_setItem, G.f_slF, G.f_slR, G.f_isi, G.f_app, G.w_bm, G.oq_some, G.w_lc, List.map_cons, List.map_nil, List.length_cons, List.length_nil, List.cons_append, List.nil_append, Nat.zero_add, List.replicate, Nat.sub_self, Nat.reduceAdd, Nat.reduceSub, List.set_cons_zero, List.set_cons_succ, Option.some.injEq, exists_eq_left', exists_eq_left, true_and, and_true, G.at_0, G.at_1, G.at_2, G.at_3, G.at_m1, G.ix1_0, G.ix2_0, G.ix2_1, G.ix3_0, G.ix3_1, G.ix3_2, List.length_set, List.set_set])
local macro_rules | `(tactic| walk_at "wpx") => `(tactic| try simp only [G.w_bnd, G.w_chain, G.w_wenum, G.en_fzl, G.en_ref, G.f_insert, G.f_tuple, G.w_getF, G.w_setF, G.w_makeX, G.w_make, G.w_methX, G.w_meth, G.f_lenO, G.w_addX, G.w_fldT, G.w_callX, G.w_fld, G.w_isE, G.w_bndS, G.q_ex, G.x_ex, G.w_raise, G.w_raise0, G.y_nx, G.y_rt, G.y_bk, G.y_ct, G.y_ex, G.w_try, G.w_cl0, G.w_cl1, G.st_nx, G.st_rt, G.st_bk, G.st_ct, G.cl_nx, G.cl_rt, G.cl_bk, G.cl_ct, G.w_su0, G.w_su1, G.n_ex, G.w_ret, G.w_ok, G.w_var, G.s_z, G.s_s, G.w_c, G.w_op, G.w_un, G.w_nil, G.w_cons, G.w_cb, G.w_call, G.w_tup, G.w_alloc, G.w_lst, G.b_bl, G.w_asBl, G.w_test, G.w_yes, G.w_and, G.w_or, G.w_not, G.w_andV, G.w_orV, G.w_notV, G.w_ifx, G.w_nop, G.i_int, G.w_part, G.w_sl, G.w_next, G.w_rt, G.w_rtN, G.w_brk, G.w_cont, G.w_drop, G.q_nx, G.q_rt, G.q_bk, G.q_ct, G.w_seq, G.w_ifS, G.w_set, G.g_some, G.w_asg, G.w_setIx, G.w_aug, G.n_rt, G.n_nx, G.w_fn, G.w_for, G.w_wseq, G.k_tup, G.k_fzl, G.k_ref, G.w_wr1, G.w_wr2, G.f_add, G.f_sub, G.f_addI, G.f_mul, G.f_div, G.f_mod, G.f_pow, G.f_neg, G.f_cmp, G.f_isB, G.f_notB, G.f_isN, G.f_notN, G.n_non, G.n_int, G.n_bl, G.n_ref, G.n_tup, G.f_eq, G.f_ne, G.ty_non, G.ty_bl, G.ty_int, G.ty_str, G.ty_tup, G.ty_fzl, G.kb_ii, G.kb_ib, G.kb_bi, G.kb_bb, G.kb_ni, G.kb_si, G.kb_li, G.kb_ti, G.kb_ll, G.kb_tl, G.kb_nl, G.kb_il, G.kb_bl, G.kb_sl, G.kb_tt, G.kb_lt, G.kb_nt, G.kb_it, G.kb_bt, G.kb_st, decide_eq_true_eq, Bool.not_eq_true', decide_eq_false_iff_not, ↓reduceIte, eq_self, Bool.false_eq_true, Bool.true_eq_false, reduceCtorEq, Bool.not_true, Bool.not_false, ne_eq, not_false_eq_true, G.f_abs, G.f_int, G.f_intB, G.f_max2, G.f_min2, G.f_gcd, G.it_tupD, G.it_fzlD, G.it_refD, G.f_ix, G.f_len, G.f_list, G.f_setItem, G.f_slF, G.f_slR, G.f_isi, G.f_app, G.w_bm, G.oq_some, G.w_lc, List.map_cons, List.map_nil, List.length_cons, List.length_nil, List.cons_append, List.nil_append, Nat.zero_add, List.replicate, Nat.sub_self, Nat.reduceAdd, Nat.reduceSub, List.set_cons_zero, List.set_cons_succ, Option.some.injEq, exists_eq_left', exists_eq_left, true_and, and_true, G.at_0, G.at_1, G.at_2, G.at_3, G.at_m1, G.ix1_0, G.ix2_0, G.ix2_1, G.ix3_0, G.ix3_1, G.ix3_2, List.length_set, List.set_set, *])
local macro_rules | `(tactic| walk_at "wpz") => `(tactic| try simp only [G.w_bnd, G.w_chain, G.w_wenum, G.en_fzl, G.en_ref, G.f_insert, G.f_tuple, G.w_getF, G.w_setF, G.w_makeX, G.w_make, G.w_methX, G.w_meth, G.f_lenO, G.w_addX, G.w_fldT, G.w_callX, G.w_fld, G.w_isE, G.w_bndS, G.q_ex, G.x_ex, G.w_raise, G.w_raise0, G.y_nx, G.y_rt, G.y_bk, G.y_ct, G.y_ex, G.w_try, G.w_cl0, G.w_cl1, G.st_nx, G.st_rt, G.st_bk, G.st_ct, G.cl_nx, G.cl_rt, G.cl_bk, G.cl_ct, G.w_su0, G.w_su1, G.n_ex, G.w_ret, G.w_ok, G.w_var, G.s_z, G.s_s, G.w_c, G.w_op, G.w_un, G.w_nil, G.w_cons, G.w_cb, G.w_call, G.w_tup, G.w_alloc, G.w_lst, G.b_bl, G.w_asBl, G.w_test, G.w_yes, G.w_and, G.w_or, G.w_not, G.w_andV, G.w_orV, G.w_notV, G.w_ifx, G.w_nop, G.i_int, G.w_part, G.w_sl, G.w_next, G.w_rt, G.w_rtN, G.w_brk, G.w_cont, G.w_drop, G.q_rt, G.q_bk, G.q_ct, G.w_seq, G.w_ifS, G.w_set, G.g_some, G.w_asg, G.w_setIx, G.w_aug, G.n_rt, G.n_nx, G.w_fn, G.w_for, G.w_wseq, G.k_tup, G.k_fzl, G.k_ref, G.w_wr1, G.w_wr2, G.f_add, G.f_sub, G.f_addI, G.f_mul, G.f_div, G.f_mod, G.f_pow, G.f_neg, G.f_cmp, G.f_isB, G.f_notB, G.f_isN, G.f_notN, G.n_non, G.n_int, G.n_bl, G.n_ref, G.n_tup, G.f_eq, G.f_ne, G.ty_non, G.ty_bl, G.ty_int, G.ty_str, G.ty_tup, G.ty_fzl, G.kb_ii, G.kb_ib, G.kb_bi, G.kb_bb, G.kb_ni, G.kb_si, G.kb_li, G.kb_ti, G.kb_ll, G.kb_tl, G.kb_nl, G.kb_il, G.kb_bl, G.kb_sl, G.kb_tt, G.kb_lt, G.kb_nt, G.kb_it, G.kb_bt, G.kb_st, decide_eq_true_eq, Bool.not_eq_true', decide_eq_false_iff_not, ↓reduceIte, eq_self, Bool.false_eq_true, Bool.true_eq_false, reduceCtorEq, Bool.not_true, Bool.not_false, ne_eq, not_false_eq_true, G.f_abs, G.f_int, G.f_intB, G.f_max2, G.f_min2, G.f_gcd, G.it_tupD, G.it_fzlD, G.it_refD, G.f_ix, G.f_len, G.f_list, G.f_setItem, G.f_slF, G.f_slR, G.f_isi, G.f_app, G.w_bm, G.oq_some, G.w_lc, List.map_cons, List.map_nil, List.length_cons, List.length_nil, List.cons_append, List.nil_append, Nat.zero_add, List.replicate, Nat.sub_self, Nat.reduceAdd, Nat.reduceSub, List.set_cons_zero, List.set_cons_succ, Option.some.injEq, exists_eq_left', exists_eq_left, true_and, and_true, G.at_0, G.at_1, G.at_2, G.at_3, G.at_m1, G.ix1_0, G.ix2_0, G.ix2_1, G.ix3_0, G.ix3_1, G.ix3_2, List.length_set, List.set_set])
theorem adds_spec {h : Store} {st n l1 l2 m k1 k2 : Nat} {p q : Int} {R S : List Tr} {zs ws : List Int} {tw : Bool} (hs : StA h st) (s : Sys h n l1 l2 p R zs) (t : Sys h m k1 k2 q S ws) (sl : l2 ≠ st) (tl : k2 ≠ st) (htw : tw = true → p = q ∧ R = S) :
    WpX NoX (m_law_adds [.ref st, .ref n, .ref m, .bl tw] h) fun d h' => d = .bl true ∧ Fm st h h' := by
  unfold m_law_adds m_law_adds_b
  have hp := s.p1
  have hq := t.p1
  have sr := s.r1
  have tr := t.r1
  rw [w_fn, w_seq]
  walk_at "wpz"
  simp only [s.g0, oq_some, at_0, at_1, f_list, it_refD, s.g1]
  have a1 : Ap h (h ++ [O.lst (rowsD R)]) := Ap.app
  have g1 : getL (h ++ [O.lst (rowsD R)]) h.length = some (rowsD R) := getL_new
  generalize h ++ [O.lst (rowsD R)] = h1 at a1 g1 ⊢
  generalize h.length = z1 at g1 ⊢
  refine (made_spec g1 (by omega) hp s.rk).imp ?_
  rintro _ h2 ⟨rfl, r2, a2⟩
  refine ⟨rfl, ?_⟩
  generalize h1.length = x1 at r2 ⊢
  replace a2 := a1.trans a2
  clear a1 g1
  rw [q_nx, w_seq]
  walk_at "wpz"
  simp only [a2.getL t.g0, oq_some, at_0, at_1, f_list, it_refD, a2.getL t.g1]
  have a3 : Ap h2 (h2 ++ [O.lst (rowsD S)]) := Ap.app
  have g3 : getL (h2 ++ [O.lst (rowsD S)]) h2.length = some (rowsD S) := getL_new
  generalize h2 ++ [O.lst (rowsD S)] = h3 at a3 g3 ⊢
  generalize h2.length = z3 at g3 ⊢
  refine (made_spec g3 (by omega) hq t.rk).imp ?_
  rintro _ h4 ⟨rfl, r4, a4⟩
  refine ⟨rfl, ?_⟩
  generalize h3.length = x3 at r4 ⊢
  replace a4 := a3.trans a4
  replace r2 := r2.ap a4
  replace a4 := a2.trans a4
  clear a3 g3 a2
  rw [q_nx, w_seq]
  refine WpX.same (Q := fun f h' => h' = h4 ∧ ∃ y, f = .nx [some (.ref st), some (.ref n), some (.ref m), some (.bl tw), some (.ref x1), some (.ref y), none, none] ∧ IsR h4 y q S) ?_ ?_
  · walk_at "wpz"
    cases tw with
    | true =>
      obtain ⟨rfl, rfl⟩ := htw rfl
      rw [if_pos rfl]
      exact ⟨_, rfl, r2⟩
    | false =>
      rw [if_neg (by decide)]
      exact ⟨_, rfl, r4⟩
  rintro _ _ ⟨rfl, y, rfl, ry⟩
  clear r4
  rw [q_nx, w_seq]
  walk_at "wpz"
  refine (joined_spec (s.ap a4) (t.ap a4)).imp ?_
  rintro _ h5 ⟨N, L1, L2, us, rfl, gN, gL1, gL2, zu, bL, a5⟩
  replace r2 := r2.ap a5
  replace ry := ry.ap a5
  have bst : L2 ≠ st := by have := sa_lt hs; have := a4.len; omega
  replace a5 := a4.trans a5
  clear a4 bL
  rw [q_nx, w_seq]
  walk_at "wpz"
  refine (sum_spec r2 ry hp hq s.rk t.rk (by omega)).imp ?_
  rintro _ h6 ⟨k, rfl, a6, cs⟩
  replace r2 := r2.ap a6
  replace ry := ry.ap a6
  replace gN := a6.getL gN
  replace gL1 := a6.getL gL1
  replace gL2 := a6.getL gL2
  replace a6 := a5.trans a6
  clear a5
  have f6 : Fm st h h6 := (Fm.refl hs).ap a6
  rw [q_nx, w_seq]
  have ends : ∀ h7, Fm st h6 h7 → WpX NoX (mRet (mAndV (mCall 3 m_law_tells (mCons (mVar 4) (mCons (mOp fIx (mVar 1) (mC (.int 0))) (mCons (mOp fIx (mVar 1) (mC (.int 1))) mNil)))) (mCall 3 m_law_tells (mCons (mVar 5) (mCons (mOp fIx (mVar 2) (mC (.int 0))) (mCons (mOp fIx (mVar 2) (mC (.int 1))) mNil))))) [some (.ref st), some (.ref n), some (.ref m), some (.bl tw), some (.ref x1), some (.ref y), some (.ref N), some (.ref k)] h7) (endQ NoX fun d h' => d = .bl true ∧ Fm st h h') := by
    intro h7 f7
    have s7 := s.fm hs sl (f6.trans f7)
    have t7 := t.fm hs tl (f6.trans f7)
    walk_at "wpz"
    simp only [s7.g0, oq_some, at_0, at_1]
    refine (tells_spec (r2.fm f6.sa f7) s7.g1 (by omega)).imp ?_
    rintro _ h8 ⟨rfl, a8⟩
    simp only [b_bl, if_true, a8.getL t7.g0, oq_some, at_0, at_1]
    refine (tells_spec ((ry.fm f6.sa f7).ap a8) (a8.getL t7.g1) (by omega)).imp ?_
    rintro _ h9 ⟨rfl, a9⟩
    exact ⟨rfl, ((f6.trans f7).ap a8).ap a9⟩
  refine WpX.same (Q := fun f h7 => f = .nx [some (.ref st), some (.ref n), some (.ref m), some (.bl tw), some (.ref x1), some (.ref y), some (.ref N), some (.ref k)] ∧ Fm st h6 h7) ?_ ?_
  · walk_at "wpz"
    simp only [gN, oq_some, at_0, f_cmp, b_bl]
    rcases cs with ⟨hn, gk⟩ | ⟨hn, n', gk, rs⟩
    · rw [if_pos (by simp; omega)]
      refine ⟨line_small (by decide), ?_⟩
      refine (alike_ok (s := "count") (v := p + q - 1) (by exact gk) rfl).imp ?_
      rintro _ _ ⟨rfl, rfl⟩
      walk_at "wps"
      exact Fm.refl f6.sa
    · rw [if_neg (by simp; omega)]
      simp only [gk, oq_some, at_0, at_1]
      rw [feq_str (by decide +kernel) (by decide +kernel), b_bl, if_neg (by decide)]
      simp only [f_ix, it_refD, gk, gN, oq_some, at_0, at_1, at_2]
      refine (tells_spec rs gL1 (by simp only [List.length_append, List.length_map]; omega)).imp ?_
      rintro _ h7 ⟨rfl, a7⟩
      simp only [b_bl]
      rw [if_neg (by simp)]
      try rw [q_nx]
      walk_at "wpz"
      simp only [a7.getL gk, a7.getL gN, oq_some, at_0, at_1, at_2]
      refine (holds_spec (f6.ap a7).sa (rs.ap a7) (a7.getL gL1) (by simp only [List.length_append, List.length_map]; omega) (by omega) (ok_join hp hq s.rk t.rk) (a7.getL gL2) bst (by omega)).imp ?_
      rintro _ h8 ⟨rfl, f8⟩
      walk_at "wps"
      exact ((Fm.refl f6.sa).ap a7).trans f8
  rintro _ h7 ⟨rfl, f7⟩
  rw [q_nx]
  exact ends h7 f7
end K01

namespace K01
open PySem L2 G
local macro_rules | `(tactic| walk_at "wps") => `(tactic| try simp only [G.w_bnd, G.w_chain, G.w_wenum, G.en_fzl, G.en_ref, G.f_insert, G.f_tuple, G.w_getF, G.w_setF, G.w_makeX, G.w_make, G.w_methX, G.w_meth, G.f_lenO, G.w_addX, G.w_fldT, G.w_callX, G.w_fld, G.w_isE, G.w_bndS, G.q_ex, G.x_ex, G.w_raise, G.w_raise0, G.y_nx, G.y_rt, G.y_bk, G.y_ct, G.y_ex, G.w_try, G.w_cl0, G.w_cl1, G.st_nx, G.st_rt, G.st_bk, G.st_ct, G.cl_nx, G.cl_rt, G.cl_bk, G.cl_ct, G.w_su0, G.w_su1, G.n_ex, G.w_ret, G.w_ok, G.w_var, G.s_z, G.s_s, G.w_c, G.w_op, G.w_un, G.w_nil, G.w_cons, G.w_cb, G.w_call, G.w_tup, G.w_alloc, G.w_lst, G.b_bl, G.w_asBl, G.w_test, G.w_yes, G.w_and, G.w_or, G.w_not, G.w_andV, G.w_orV, G.w_notV, G.w_ifx, G.w_nop, G.i_int, G.w_part, G.w_sl, G.w_next, G.w_rt, G.w_rtN, G.w_brk, G.w_cont, G.w_drop, G.q_nx, G.q_rt, G.q_bk, G.q_ct, G.w_seq, G.w_ifS, G.w_set, G.g_some, G.w_asg, G.w_setIx, G.w_aug, G.n_rt, G.n_nx, G.w_fn, G.w_for, G.w_wseq, G.k_tup, G.k_fzl, G.k_ref, G.w_wr1, G.w_wr2, G.f_add, G.f_sub, G.f_addI, G.f_mul, G.f_div, G.f_mod, G.f_pow, G.f_neg, G.f_cmp, G.f_isB, G.f_notB, G.f_isN, G.f_notN, G.n_non, G.n_int, G.n_bl, G.n_ref, G.n_tup, G.f_eq, G.f_ne, G.ty_non, G.ty_bl, G.ty_int, G.ty_str, G.ty_tup, G.ty_fzl, G.kb_ii, G.kb_ib, G.kb_bi, G.kb_bb, G.kb_ni, G.kb_si, G.kb_li, G.kb_ti, G.kb_ll, G.kb_tl, G.kb_nl, G.kb_il, G.kb_bl, G.kb_sl, G.kb_tt, G.kb_lt, G.kb_nt, G.kb_it, G.kb_bt, G.kb_st, decide_eq_true_eq, Bool.not_eq_true', decide_eq_false_iff_not, ↓reduceIte, eq_self, Bool.false_eq_true, Bool.true_eq_false, reduceCtorEq, Bool.not_true, Bool.not_false, ne_eq, not_false_eq_true, G.f_abs, G.f_int, G.f_intB, G.f_max2, G.f_min2, G.f_gcd, G.it_tupD, G.it_fzlD, G.it_refD, G.f_ix, G.f_len, G.f_list, G.f_setItem, G.f_slF, G.f_slR, G.f_isi, G.f_app, G.w_bm, G.oq_some, G.w_lc, List.map_cons, List.map_nil, List.length_cons, List.length_nil, List.cons_append, List.nil_append, Nat.zero_add, List.replicate, Nat.sub_self, Nat.reduceAdd, Nat.reduceSub, List.set_cons_zero, List.set_cons_succ, Option.some.injEq, exists_eq_left', exists_eq_left, true_and, and_true, G.at_0, G.at_1, G.at_2, G.at_3, G.at_m1, G.ix1_0, G.ix2_0, G.ix2_1, G.ix3_0, G.ix3_1, G.ix3_2, List.length_set, List.set_set])
local macro_rules | `(tactic| walk_at "wpx") => `(tactic| try simp only [G.w_bnd, G.w_chain, G.w_wenum, G.en_fzl, G.en_ref, G.f_insert, G.f_tuple, G.w_getF, G.w_setF, G.w_makeX, G.w_make, G.w_methX, G.w_meth, G.f_lenO, G.w_addX, G.w_fldT, G.w_callX, G.w_fld, G.w_isE, G.w_bndS, G.q_ex, G.x_ex, G.w_raise, G.w_raise0, G.y_nx, G.y_rt, G.y_bk, G.y_ct, G.y_ex, G.w_try, G.w_cl0, G.w_cl1, G.st_nx, G.st_rt, G.st_bk, G.st_ct, G.cl_nx, G.cl_rt, G.cl_bk, G.cl_ct, G.w_su0, G.w_su1, G.n_ex, G.w_ret, G.w_ok, G.w_var, G.s_z, G.s_s, G.w_c, G.w_op, G.w_un, G.w_nil, G.w_cons, G.w_cb, G.w_call, G.w_tup, G.w_alloc, G.w_lst, G.b_bl, G.w_asBl, G.w_test, G.w_yes, G.w_and, G.w_or, G.w_not, G.w_andV, G.w_orV, G.w_notV, G.w_ifx, G.w_nop, G.i_int, G.w_part, G.w_sl, G.w_next, G.w_rt, G.w_rtN, G.w_brk, G.w_cont, G.w_drop, G.q_nx, G.q_rt, G.q_bk, G.q_ct, G.w_seq, G.w_ifS, G.w_set, G.g_some, G.w_asg, G.w_setIx, G.w_aug, G.n_rt, G.n_nx, G.w_fn, G.w_for, G.w_wseq, G.k_tup, G.k_fzl, G.k_ref, G.w_wr1, G.w_wr2, G.f_add, G.f_sub, G.f_addI, G.f_mul, G.f_div, G.f_mod, G.f_pow, G.f_neg, G.f_cmp, G.f_isB, G.f_notB, G.f_isN, G.f_notN, G.n_non, G.n_int, G.n_bl, G.n_ref, G.n_tup, G.f_eq, G.f_ne, G.ty_non, G.ty_bl, G.ty_int, G.ty_str, G.ty_tup, G.ty_fzl, G.kb_ii, G.kb_ib, G.kb_bi, G.kb_bb, G.kb_ni, G.kb_si, G.kb_li, G.kb_ti, G.kb_ll, G.kb_tl, G.kb_nl, G.kb_il, G.kb_bl, G.kb_sl, G.kb_tt, G.kb_lt, G.kb_nt, G.kb_it, G.kb_bt, G.kb_st, decide_eq_true_eq, Bool.not_eq_true', decide_eq_false_iff_not, ↓reduceIte, eq_self, Bool.false_eq_true, Bool.true_eq_false, reduceCtorEq, Bool.not_true, Bool.not_false, ne_eq, not_false_eq_true, G.f_abs, G.f_int, G.f_intB, G.f_max2, G.f_min2, G.f_gcd, G.it_tupD, G.it_fzlD, G.it_refD, G.f_ix, G.f_len, G.f_list, G.f_setItem, G.f_slF, G.f_slR, G.f_isi, G.f_app, G.w_bm, G.oq_some, G.w_lc, List.map_cons, List.map_nil, List.length_cons, List.length_nil, List.cons_append, List.nil_append, Nat.zero_add, List.replicate, Nat.sub_self, Nat.reduceAdd, Nat.reduceSub, List.set_cons_zero, List.set_cons_succ, Option.some.injEq, exists_eq_left', exists_eq_left, true_and, and_true, G.at_0, G.at_1, G.at_2, G.at_3, G.at_m1, G.ix1_0, G.ix2_0, G.ix2_1, G.ix3_0, G.ix3_1, G.ix3_2, List.length_set, List.set_set, *])
local macro_rules | `(tactic| walk_at "wpz") => `(tactic| try simp only [G.w_bnd, G.w_chain, G.w_wenum, G.en_fzl, G.en_ref, G.f_insert, G.f_tuple, G.w_getF, G.w_setF, G.w_makeX, G.w_make, G.w_methX, G.w_meth, G.f_lenO, G.w_addX, G.w_fldT, G.w_callX, G.w_fld, G.w_isE, G.w_bndS, G.q_ex, G.x_ex, G.w_raise, G.w_raise0, G.y_nx, G.y_rt, G.y_bk, G.y_ct, G.y_ex, G.w_try, G.w_cl0, G.w_cl1, G.st_nx, G.st_rt, G.st_bk, G.st_ct, G.cl_nx, G.cl_rt, G.cl_bk, G.cl_ct, G.w_su0, G.w_su1, G.n_ex, G.w_ret, G.w_ok, G.w_var, G.s_z, G.s_s, G.w_c, G.w_op, G.w_un, G.w_nil, G.w_cons, G.w_cb, G.w_call, G.w_tup, G.w_alloc, G.w_lst, G.b_bl, G.w_asBl, G.w_test, G.w_yes, G.w_and, G.w_or, G.w_not, G.w_andV, G.w_orV, G.w_notV, G.w_ifx, G.w_nop, G.i_int, G.w_part, G.w_sl, G.w_next, G.w_rt, G.w_rtN, G.w_brk, G.w_cont, G.w_drop, G.q_rt, G.q_bk, G.q_ct, G.w_seq, G.w_ifS, G.w_set, G.g_some, G.w_asg, G.w_setIx, G.w_aug, G.n_rt, G.n_nx, G.w_fn, G.w_for, G.w_wseq, G.k_tup, G.k_fzl, G.k_ref, G.w_wr1, G.w_wr2, G.f_add, G.f_sub, G.f_addI, G.f_mul, G.f_div, G.f_mod, G.f_pow, G.f_neg, G.f_cmp, G.f_isB, G.f_notB, G.f_isN, G.f_notN, G.n_non, G.n_int, G.n_bl, G.n_ref, G.n_tup, G.f_eq, G.f_ne, G.ty_non, G.ty_bl, G.ty_int, G.ty_str, G.ty_tup, G.ty_fzl, G.kb_ii, G.kb_ib, G.kb_bi, G.kb_bb, G.kb_ni, G.kb_si, G.kb_li, G.kb_ti, G.kb_ll, G.kb_tl, G.kb_nl, G.kb_il, G.kb_bl, G.kb_sl, G.kb_tt, G.kb_lt, G.kb_nt, G.kb_it, G.kb_bt, G.kb_st, decide_eq_true_eq, Bool.not_eq_true', decide_eq_false_iff_not, ↓reduceIte, eq_self, Bool.false_eq_true, Bool.true_eq_false, reduceCtorEq, Bool.not_true, Bool.not_false, ne_eq, not_false_eq_true, G.f_abs, G.f_int, G.f_intB, G.f_max2, G.f_min2, G.f_gcd, G.it_tupD, G.it_fzlD, G.it_refD, G.f_ix, G.f_len, G.f_list, G.f_setItem, G.f_slF, G.f_slR, G.f_isi, G.f_app, G.w_bm, G.oq_some, G.w_lc, List.map_cons, List.map_nil, List.length_cons, List.length_nil, List.cons_append, List.nil_append, Nat.zero_add, List.replicate, Nat.sub_self, Nat.reduceAdd, Nat.reduceSub, List.set_cons_zero, List.set_cons_succ, Option.some.injEq, exists_eq_left', exists_eq_left, true_and, and_true, G.at_0, G.at_1, G.at_2, G.at_3, G.at_m1, G.ix1_0, G.ix2_0, G.ix2_1, G.ix3_0, G.ix3_1, G.ix3_2, List.length_set, List.set_set])
/-- a Rows whose places lie between -/
def IsRn (lo hi : Nat) (h : Store) (n : Nat) (p : Int) (R : List Tr) : Prop := ∃ l, lo ≤ l ∧ l < hi ∧ lo ≤ n ∧ n < hi ∧ h[n]? = some (.ins 3 [("points", .int p), ("_rows", .ref l)]) ∧ getL h l = some (rowsD R)
theorem IsRn.is {lo hi : Nat} {h : Store} {n : Nat} {p : Int} {R : List Tr} (r : IsRn lo hi h n p R) : IsR h n p R := by
  obtain ⟨l, _, _, _, _, a, b⟩ := r
  exact ⟨l, a, b⟩
theorem IsRn.ap {lo hi : Nat} {h h' : Store} {n : Nat} {p : Int} {R : List Tr} (r : IsRn lo hi h n p R) (a : Ap h h') : IsRn lo hi h' n p R := by
  obtain ⟨l, x, y, z, w, i, j⟩ := r
  exact ⟨l, x, y, z, w, a.get i, a.getL j⟩
theorem IsRn.set {lo hi z : Nat} {h : Store} {n : Nat} {p : Int} {R : List Tr} {o : O} (r : IsRn lo hi h n p R) (hz : z < lo ∨ hi ≤ z) : IsRn lo hi (h.set z o) n p R := by
  obtain ⟨l, x, y, u, w, i, j⟩ := r
  refine ⟨l, x, y, u, w, ?_, ?_⟩
  · rw [List.getElem?_set_ne (by omega)]
    exact i
  · rw [getL_ne (by omega)]
    exact j
theorem isRn_made {h : Store} {n lo : Nat} {p : Int} {R : List Tr} (hl : n < h.length) (h1 : lo ≤ n) : IsRn lo (((h.set n (.ins 3 [("points", .int p)])) ++ [O.lst (rowsD R)]).set n (.ins 3 [("points", .int p), ("_rows", .ref h.length)])).length (((h.set n (.ins 3 [("points", .int p)])) ++ [O.lst (rowsD R)]).set n (.ins 3 [("points", .int p), ("_rows", .ref h.length)])) n p R := by
  refine ⟨h.length, by omega, by simp, h1, by simp; omega, ?_, ?_⟩
  · rw [List.getElem?_set_self (by rw [List.length_append, List.length_set]; omega)]
  · rw [getL_ne (by omega)]
    have := getL_new (h := h.set n (.ins 3 [("points", .int p)])) (xs := rowsD R)
    rw [List.length_set] at this
    exact this
theorem made_specN {h : Store} {r : Nat} {p : Int} {R : List Tr} (hr : getL h r = some (rowsD R)) (hz : R.length ≤ 100000) (hp : 1 ≤ p ∧ p ≤ 120) (hR : ∀ t ∈ R, okR p t = true) :
    WpX NoX (m_Rows_init [.ref h.length, .int p, .ref r] (h ++ [.ins 3 []])) fun d h' => d = .non ∧ IsRn h.length h'.length h' h.length p R ∧ Ap h h' := by
  refine init_spec (R := R) new_at (Ap.app.getL hr) hz (fun z => (z hp).elim) (fun _ k t ht hb _ => ?_) (fun _ _ => ⟨rfl, isRn_made (by simp) (Nat.le_refl _), ?_⟩)
  · rw [hR t (List.mem_of_getElem? ht)] at hb
    cases hb
  · exact (Ap.trans (Ap.set Ap.app (Nat.le_refl _)) Ap.app).set (Nat.le_refl _)
theorem more_specN {X : XQ} {h : Store} {Q : D → Store → Prop} {n m : Nat} {p : Int} {R S : List Tr} (r : IsR h n p R) (hp : 1 ≤ p ∧ p ≤ 120) (hR : ∀ t ∈ R, okR p t = true) (hS : ∀ t ∈ S, okR p t = true) (e : getL h m = some (rowsD S)) (hz : R.length + S.length ≤ 90000)
    (q2 : ∀ h' n', IsRn h.length h'.length h' n' p (R ++ S) → Ap h h' → Q (.ref n') h') : WpX X (m_Rows_with_more [.ref n, .ref m] h) Q := by
  obtain ⟨l, e1, e2⟩ := r
  unfold m_Rows_with_more m_Rows_with_more_b
  walk_at "wps"
  simp only [of_ins e1, oq_some, lkp, lkr, e]
  walk_at "wps"
  have a1 : Ap h (h ++ [O.lst (rowsD S)]) := Ap.app
  rw [f_addL (a1.getL e2) getL_new (by rw [rows_len, rows_len]; omega), rows_app]
  have a2 : Ap h (h ++ [O.lst (rowsD S)] ++ [O.lst (rowsD (R ++ S))]) := a1.trans Ap.app
  have g2 : getL (h ++ [O.lst (rowsD S)] ++ [O.lst (rowsD (R ++ S))]) (h ++ [O.lst (rowsD S)]).length = some (rowsD (R ++ S)) := getL_new
  generalize hk : h ++ [O.lst (rowsD S)] ++ [O.lst (rowsD (R ++ S))] = h2 at a2 g2 ⊢
  generalize (h ++ [O.lst (rowsD S)]).length = r2 at g2 ⊢
  have all : ∀ t ∈ R ++ S, okR p t = true := fun t ht => (List.mem_append.mp ht).elim (hR t) (hS t)
  refine init_spec (R := R ++ S) new_at (Ap.app.getL g2) (by rw [List.length_append]; omega) (fun z => (z hp).elim) (fun _ k t ht hb hj => ?_) (fun _ hall => ⟨rfl, ?_⟩)
  · rw [all t (List.mem_of_getElem? ht)] at hb
    cases hb
  · exact q2 _ _ (isRn_made (by simp) a2.len) (a2.trans ((Ap.trans (Ap.set Ap.app (Nat.le_refl _)) Ap.app).set (Nat.le_refl _)))
theorem copies_spec {h : Store} {m : Nat} {p : Int} {R : List Tr} (e : getL h m = some (rowsD R)) (hz : R.length ≤ 300) (hp : 1 ≤ p ∧ p ≤ 120) (hR : ∀ t ∈ R, okR p t = true) :
    WpX NoX (m_law_copies [.int p, .ref m] h) fun d h' => d = .bl true ∧ Ap h h' := by
  unfold m_law_copies m_law_copies_b
  rw [w_fn, w_seq]
  walk_at "wpz"
  simp only [e, oq_some]
  have lm := getL_lt e
  have a1 : Ap h (h ++ [O.lst (rowsD R)]) := Ap.app
  have g1 : getL (h ++ [O.lst (rowsD R)]) h.length = some (rowsD R) := getL_new
  generalize h ++ [O.lst (rowsD R)] = h1 at a1 g1 ⊢
  generalize hz1 : h.length = z1 at g1 ⊢
  rw [q_nx, w_seq]
  walk_at "wpz"
  have l1 := getL_lt g1
  refine (made_specN g1 (by omega) hp hR).imp ?_
  rintro _ h2 ⟨rfl, r2, a2⟩
  refine ⟨rfl, ?_⟩
  generalize h1.length = x1 at r2 l1 ⊢
  replace g1 := a2.getL g1
  replace a2 := a1.trans a2
  clear a1
  rw [q_nx, w_seq]
  walk_at "wpz"
  rw [a2.getL e, oq_some]
  have a3 : Ap h2 (h2 ++ [O.lst (rowsD R)]) := Ap.app
  have g3 : getL (h2 ++ [O.lst (rowsD R)]) h2.length = some (rowsD R) := getL_new
  generalize h2 ++ [O.lst (rowsD R)] = h3 at a3 g3 ⊢
  generalize h2.length = z3 at r2 g3 ⊢
  have l3 := getL_lt g3
  replace g1 := a3.getL g1
  replace r2 := r2.ap a3
  replace a3 := a2.trans a3
  clear a2
  rw [q_nx, w_seq]
  walk_at "wpz"
  obtain ⟨w3, e3, n3⟩ := r2.is.wm
  rw [e3, oq_some]
  refine ⟨n3, ?_⟩
  refine more_specN (X := NoX) r2.is hp hR hR g3 (by omega) fun h4 n4 r4 a4 => ?_
  replace r2 := r2.ap a4
  replace g1 := a4.getL g1
  replace g3 := a4.getL g3
  replace a4 := a3.trans a4
  clear a3
  have e4 := a4.getL e
  rw [q_nx, w_seq]
  walk_at "wpz"
  rw [feq_rows g1 e4 (by omega) (by omega), b_bl, if_neg (by simp), feq_rows g3 e4 (by omega) (by omega), b_bl, if_neg (by simp), q_nx, w_seq]
  walk_at "wpz"
  refine ⟨line_small (by decide), ?_⟩
  have z13 : z1 < z3 := by obtain ⟨l, _, _, _, _, _⟩ := r2; omega
  have l4 := getL_lt g3
  have a5 : Ap h4 (h4 ++ [O.lst [D.ref z1, D.ref z3]]) := Ap.app
  have g5 : getL (h4 ++ [O.lst [D.ref z1, D.ref z3]]) h4.length = some [D.ref z1, D.ref z3] := getL_new
  have hi : ∃ hi, hi = h4.length := ⟨_, rfl⟩
  generalize h4 ++ [O.lst [D.ref z1, D.ref z3]] = h5 at a5 g5 ⊢
  generalize h4.length = z5 at r4 l4 g5 ⊢
  rw [g5, oq_some]
  refine for_inv (fun k ρ h' => (∃ d6, ρ = [some (.int p), some (.ref m), some (.ref z1), some (.ref x1), some (.ref z3), some (.ref n4), d6]) ∧ Ap h h' ∧ getL h' m = some (rowsD R) ∧ getL h' z5 = some [D.ref z1, D.ref z3] ∧ IsRn x1 z3 h' x1 p R ∧ IsRn h3.length z5 h' n4 p (R ++ R) ∧ (∃ T, getL h' z1 = some T ∧ T.length ≤ 400 + k) ∧ (∃ T, getL h' z3 = some T ∧ T.length ≤ 400 + k)) ⟨⟨none, rfl⟩, a4.trans a5, a5.getL e4, g5, r2.ap a5, r4.ap a5, ⟨_, a5.getL g1, by rw [rows_len]; omega⟩, ⟨_, a5.getL g3, by rw [rows_len]; omega⟩⟩ ?_ ?_ ?_
  · rintro k ρ h' _ ⟨_, _, _, e5, _⟩
    exact decide_eq_true e5
  · rintro k d ρ h' hd ⟨⟨d6, rfl⟩, aa, em, e5, rm, rl, ⟨T1, f1, t1⟩, ⟨T3, f3, t3⟩⟩
    obtain ⟨z, T, rfl, hzz, fz, tz⟩ : ∃ z T, d = .ref z ∧ (z = z1 ∨ z = z3) ∧ getL h' z = some T ∧ T.length ≤ 400 + k := by
      have := List.mem_of_getElem? hd
      simp only [List.mem_cons, List.not_mem_nil, or_false] at this
      rcases this with rfl | rfl
      · exact ⟨_, _, rfl, .inl rfl, f1, t1⟩
      · exact ⟨_, _, rfl, .inr rfl, f3, t3⟩
    have k2 : k < 2 := (List.getElem?_eq_some_iff.mp hd).1
    show goQ (some _) _
    rw [g_some, w_seq]
    walk_at "wpz"
    rw [fz, oq_some]
    have fz2 : ∀ U, getL (h'.set z (O.lst U)) z = some U := fun U => getL_set fz
    refine ⟨line_small (by decide), by rw [sizeLine_eq]; omega, ?_⟩
    rw [q_nx]
    walk_at "wpz"
    rw [fz2, oq_some]
    generalize hU : T ++ [D.tup [D.int 0, D.int 0, D.int 7]] = U
    have lU : U.length = T.length + 1 := by rw [← hU, List.length_append]; rfl
    refine ⟨line_small (by decide), ?_⟩
    rw [ix_ok (by decide) (by omega), oq_some]
    generalize hV : U.set (Int.toNat 0) (D.tup [D.int 0, D.int 0, D.int 8]) = V
    have lV : V.length = T.length + 1 := by rw [← hV, List.length_set, lU]
    have fV : getL (h'.set z (O.lst V)) z = some V := getL_set fz
    have zz1 : z < z3 ∨ z = z3 := by rcases hzz with rfl | rfl <;> omega
    have zm : m ≠ z := by rcases hzz with rfl | rfl <;> omega
    have zz5 : z5 ≠ z := by rcases hzz with rfl | rfl <;> omega
    refine ⟨⟨_, rfl⟩, aa.set (by rw [hz1]; rcases hzz with rfl | rfl <;> omega), by rw [getL_ne zm]; exact em, by rw [getL_ne zz5]; exact e5, rm.set (by rcases hzz with rfl | rfl <;> omega), rl.set (by rcases hzz with rfl | rfl <;> omega), ?_, ?_⟩
    · by_cases c : z1 = z
      · rw [c]
        exact ⟨V, fV, by omega⟩
      · rw [getL_ne c]
        exact ⟨T1, f1, by omega⟩
    · by_cases c : z3 = z
      · rw [c]
        exact ⟨V, fV, by omega⟩
      · rw [getL_ne c]
        exact ⟨T3, f3, by omega⟩
  · rintro ρ h6 ⟨⟨d6, rfl⟩, aa, em, e5, rm, rl, _, _⟩
    rw [q_nx]
    walk_at "wpz"
    refine (tells_spec rm.is em (by omega)).imp ?_
    rintro _ h7 ⟨rfl, a7⟩
    have e7 := a7.getL em
    simp only [b_bl, if_true, e7, oq_some]
    rw [f_addL e7 e7 (by rw [rows_len]; omega), rows_app]
    refine (tells_spec (rl.is.ap (a7.trans Ap.app)) getL_new (by rw [List.length_append]; omega)).imp ?_
    rintro _ h8 ⟨rfl, a8⟩
    exact ⟨rfl, aa.trans ((a7.trans Ap.app).trans a8)⟩
end K01

namespace K01
open PySem L2 G
local macro_rules | `(tactic| walk_at "wps") => `(tactic| try simp only [G.w_bnd, G.w_chain, G.w_wenum, G.en_fzl, G.en_ref, G.f_insert, G.f_tuple, G.w_getF, G.w_setF, G.w_makeX, G.w_make, G.w_methX, G.w_meth, G.f_lenO, G.w_addX, G.w_fldT, G.w_callX, G.w_fld, G.w_isE, G.w_bndS, G.q_ex, G.x_ex, G.w_raise, G.w_raise0, G.y_nx, G.y_rt, G.y_bk, G.y_ct, G.y_ex, G.w_try, G.w_cl0, G.w_cl1, G.st_nx, G.st_rt, G.st_bk, G.st_ct, G.cl_nx, G.cl_rt, G.cl_bk, G.cl_ct, G.w_su0, G.w_su1, G.n_ex, G.w_ret, G.w_ok, G.w_var, G.s_z, G.s_s, G.w_c, G.w_op, G.w_un, G.w_nil, G.w_cons, G.w_cb, G.w_call, G.w_tup, G.w_alloc, G.w_lst, G.b_bl, G.w_asBl, G.w_test, G.w_yes, G.w_and, G.w_or, G.w_not, G.w_andV, G.w_orV, G.w_notV, G.w_ifx, G.w_nop, G.i_int, G.w_part, G.w_sl, G.w_next, G.w_rt, G.w_rtN, G.w_brk, G.w_cont, G.w_drop, G.q_nx, G.q_rt, G.q_bk, G.q_ct, G.w_seq, G.w_ifS, G.w_set, G.g_some, G.w_asg, G.w_setIx, G.w_aug, G.n_rt, G.n_nx, G.w_fn, G.w_for, G.w_wseq, G.k_tup, G.k_fzl, G.k_ref, G.w_wr1, G.w_wr2, G.f_add, G.f_sub, G.f_addI, G.f_mul, G.f_div, G.f_mod, G.f_pow, G.f_neg, G.f_cmp, G.f_isB, G.f_notB, G.f_isN, G.f_notN, G.n_non, G.n_int, G.n_bl, G.n_ref, G.n_tup, G.f_eq, G.f_ne, G.ty_non, G.ty_bl, G.ty_int, G.ty_str, G.ty_tup, G.ty_fzl, G.kb_ii, G.kb_ib, G.kb_bi, G.kb_bb, G.kb_ni, G.kb_si, G.kb_li, G.kb_ti, G.kb_ll, G.kb_tl, G.kb_nl, G.kb_il, G.kb_bl, G.kb_sl, G.kb_tt, G.kb_lt, G.kb_nt, G.kb_it, G.kb_bt, G.kb_st, decide_eq_true_eq, Bool.not_eq_true', decide_eq_false_iff_not, ↓reduceIte, eq_self, Bool.false_eq_true, Bool.true_eq_false, reduceCtorEq, Bool.not_true, Bool.not_false, ne_eq, not_false_eq_true, G.f_abs, G.f_int, G.f_intB, G.f_max2, G.f_min2, G.f_gcd, G.it_tupD, G.it_fzlD, G.it_refD, G.f_ix, G.f_len, G.f_list, G.f_setItem, G.f_slF, G.f_slR, G.f_isi, G.f_app, G.w_bm, G.oq_some, G.w_lc, List.map_cons, List.map_nil, List.length_cons, List.length_nil, List.cons_append, List.nil_append, Nat.zero_add, List.replicate, Nat.sub_self, Nat.reduceAdd, Nat.reduceSub, List.set_cons_zero, List.set_cons_succ, Option.some.injEq, exists_eq_left', exists_eq_left, true_and, and_true, G.at_0, G.at_1, G.at_2, G.at_3, G.at_m1, G.ix1_0, G.ix2_0, G.ix2_1, G.ix3_0, G.ix3_1, G.ix3_2, List.length_set, List.set_set])
local macro_rules | `(tactic| walk_at "wpx") => `(tactic| try simp only [G.w_bnd, G.w_chain, G.w_wenum, G.en_fzl, G.en_ref, G.f_insert, G.f_tuple, G.w_getF, G.w_setF, G.w_makeX, G.w_make, G.w_methX, G.w_meth, G.f_lenO, G.w_addX, G.w_fldT, G.w_callX, G.w_fld, G.w_isE, G.w_bndS, G.q_ex, G.x_ex, G.w_raise, G.w_raise0, G.y_nx, G.y_rt, G.y_bk, G.y_ct, G.y_ex, G.w_try, G.w_cl0, G.w_cl1, G.st_nx, G.st_rt, G.st_bk, G.st_ct, G.cl_nx, G.cl_rt, G.cl_bk, G.cl_ct, G.w_su0, G.w_su1, G.n_ex, G.w_ret, G.w_ok, G.w_var, G.s_z, G.s_s, G.w_c, G.w_op, G.w_un, G.w_nil, G.w_cons, G.w_cb, G.w_call, G.w_tup, G.w_alloc, G.w_lst, G.b_bl, G.w_asBl, G.w_test, G.w_yes, G.w_and, G.w_or, G.w_not, G.w_andV, G.w_orV, G.w_notV, G.w_ifx, G.w_nop, G.i_int, G.w_part, G.w_sl, G.w_next, G.w_rt, G.w_rtN, G.w_brk, G.w_cont, G.w_drop, G.q_nx, G.q_rt, G.q_bk, G.q_ct, G.w_seq, G.w_ifS, G.w_set, G.g_some, G.w_asg, G.w_setIx, G.w_aug, G.n_rt, G.n_nx, G.w_fn, G.w_for, G.w_wseq, G.k_tup, G.k_fzl, G.k_ref, G.w_wr1, G.w_wr2, G.f_add, G.f_sub, G.f_addI, G.f_mul, G.f_div, G.f_mod, G.f_pow, G.f_neg, G.f_cmp, G.f_isB, G.f_notB, G.f_isN, G.f_notN, G.n_non, G.n_int, G.n_bl, G.n_ref, G.n_tup, G.f_eq, G.f_ne, G.ty_non, G.ty_bl, G.ty_int, G.ty_str, G.ty_tup, G.ty_fzl, G.kb_ii, G.kb_ib, G.kb_bi, G.kb_bb, G.kb_ni, G.kb_si, G.kb_li, G.kb_ti, G.kb_ll, G.kb_tl, G.kb_nl, G.kb_il, G.kb_bl, G.kb_sl, G.kb_tt, G.kb_lt, G.kb_nt, G.kb_it, G.kb_bt, G.kb_st, decide_eq_true_eq, Bool.not_eq_true', decide_eq_false_iff_not, ↓reduceIte, eq_self, Bool.false_eq_true, Bool.true_eq_false, reduceCtorEq, Bool.not_true, Bool.not_false, ne_eq, not_false_eq_true, G.f_abs, G.f_int, G.f_intB, G.f_max2, G.f_min2, G.f_gcd, G.it_tupD, G.it_fzlD, G.it_refD, G.f_ix, G.f_len, G.f_list, G.f_setItem, G.f_slF, G.f_slR, G.f_isi, G.f_app, G.w_bm, G.oq_some, G.w_lc, List.map_cons, List.map_nil, List.length_cons, List.length_nil, List.cons_append, List.nil_append, Nat.zero_add, List.replicate, Nat.sub_self, Nat.reduceAdd, Nat.reduceSub, List.set_cons_zero, List.set_cons_succ, Option.some.injEq, exists_eq_left', exists_eq_left, true_and, and_true, G.at_0, G.at_1, G.at_2, G.at_3, G.at_m1, G.ix1_0, G.ix2_0, G.ix2_1, G.ix3_0, G.ix3_1, G.ix3_2, List.length_set, List.set_set, *])
local macro_rules | `(tactic| walk_at "wpz") => `(tactic| try simp only [G.w_bnd, G.w_chain, G.w_wenum, G.en_fzl, G.en_ref, G.f_insert, G.f_tuple, G.w_getF, G.w_setF, G.w_makeX, G.w_make, G.w_methX, G.w_meth, G.f_lenO, G.w_addX, G.w_fldT, G.w_callX, G.w_fld, G.w_isE, G.w_bndS, G.q_ex, G.x_ex, G.w_raise, G.w_raise0, G.y_nx, G.y_rt, G.y_bk, G.y_ct, G.y_ex, G.w_try, G.w_cl0, G.w_cl1, G.st_nx, G.st_rt, G.st_bk, G.st_ct, G.cl_nx, G.cl_rt, G.cl_bk, G.cl_ct, G.w_su0, G.w_su1, G.n_ex, G.w_ret, G.w_ok, G.w_var, G.s_z, G.s_s, G.w_c, G.w_op, G.w_un, G.w_nil, G.w_cons, G.w_cb, G.w_call, G.w_tup, G.w_alloc, G.w_lst, G.b_bl, G.w_asBl, G.w_test, G.w_yes, G.w_and, G.w_or, G.w_not, G.w_andV, G.w_orV, G.w_notV, G.w_ifx, G.w_nop, G.i_int, G.w_part, G.w_sl, G.w_next, G.w_rt, G.w_rtN, G.w_brk, G.w_cont, G.w_drop, G.q_rt, G.q_bk, G.q_ct, G.w_seq, G.w_ifS, G.w_set, G.g_some, G.w_asg, G.w_setIx, G.w_aug, G.n_rt, G.n_nx, G.w_fn, G.w_for, G.w_wseq, G.k_tup, G.k_fzl, G.k_ref, G.w_wr1, G.w_wr2, G.f_add, G.f_sub, G.f_addI, G.f_mul, G.f_div, G.f_mod, G.f_pow, G.f_neg, G.f_cmp, G.f_isB, G.f_notB, G.f_isN, G.f_notN, G.n_non, G.n_int, G.n_bl, G.n_ref, G.n_tup, G.f_eq, G.f_ne, G.ty_non, G.ty_bl, G.ty_int, G.ty_str, G.ty_tup, G.ty_fzl, G.kb_ii, G.kb_ib, G.kb_bi, G.kb_bb, G.kb_ni, G.kb_si, G.kb_li, G.kb_ti, G.kb_ll, G.kb_tl, G.kb_nl, G.kb_il, G.kb_bl, G.kb_sl, G.kb_tt, G.kb_lt, G.kb_nt, G.kb_it, G.kb_bt, G.kb_st, decide_eq_true_eq, Bool.not_eq_true', decide_eq_false_iff_not, ↓reduceIte, eq_self, Bool.false_eq_true, Bool.true_eq_false, reduceCtorEq, Bool.not_true, Bool.not_false, ne_eq, not_false_eq_true, G.f_abs, G.f_int, G.f_intB, G.f_max2, G.f_min2, G.f_gcd, G.it_tupD, G.it_fzlD, G.it_refD, G.f_ix, G.f_len, G.f_list, G.f_setItem, G.f_slF, G.f_slR, G.f_isi, G.f_app, G.w_bm, G.oq_some, G.w_lc, List.map_cons, List.map_nil, List.length_cons, List.length_nil, List.cons_append, List.nil_append, Nat.zero_add, List.replicate, Nat.sub_self, Nat.reduceAdd, Nat.reduceSub, List.set_cons_zero, List.set_cons_succ, Option.some.injEq, exists_eq_left', exists_eq_left, true_and, and_true, G.at_0, G.at_1, G.at_2, G.at_3, G.at_m1, G.ix1_0, G.ix2_0, G.ix2_1, G.ix3_0, G.ix3_1, G.ix3_2, List.length_set, List.set_set])
theorem state_sp {ns : List Int} {k : Nat} {h : Store} : WpX NoX (m_law_state [.fzl (ns.map D.int), .int (k : Int)] h) fun d h' => ∃ st, d = .ref st ∧ StA h' st ∧ Ap h h' ∧ h.length ≤ st :=
  (show WpX NoX (m_law_state [.fzl (ns.map D.int), .int (k : Int)] h) (NewSt h) from G.state_spec).imp fun d h' ⟨st, l, e, s, x, y⟩ => ⟨st, e, s, ⟨l, x⟩, y⟩
theorem in_ok {h : Store} {n m : Nat} {fs : List (PySem.Str × D)} {neg : Bool} {b : Bool} {Q : D → Store → Prop} {X : XQ} (e : h[n]? = some (.ins 3 fs)) (w : WpX NoX (m_Rows_contains [.ref n, .ref m] h) fun d h' => d = .bl b ∧ h' = h) (q : Q (.bl (if neg then !b else b)) h) : WpX X (insR 3 (fInO neg m_Rows_contains) (fun _ _ => stuck) (.ref m) (.ref n) h) Q := by
  rw [f_inO e]
  refine w.imp ?_
  rintro _ _ ⟨rfl, rfl⟩
  exact q
theorem ok_one : ∀ t ∈ [((0, 1, 1) : Tr)], okR 2 t = true := fun t ht => by cases List.mem_singleton.mp ht; decide
/-- a list of two asked of Rows(2, [(0, 1, 1)]) -/
theorem ask_two {h : Store} {n : Nat} {neg b : Bool} {x y : D} {Q : D → Store → Prop} {X : XQ} (r : IsR h n 2 [(0, 1, 1)])
    (hxy : (∃ i j : Int, x = .int i ∧ y = .int j ∧ keepsB 2 [(0, 1, 1)] [i, j] = b) ∨ (b = false ∧ isI x = some true ∧ isI y = some false))
    (q : ∀ h', Ap h h' → Q (.bl (if neg then !b else b)) h') : WpX X (insR 3 (fInO neg m_Rows_contains) (fun _ _ => stuck) (.ref h.length) (.ref n) (h ++ [O.lst [x, y]])) Q := by
  have r' := r.ap (Ap.app (l := [O.lst [x, y]]))
  obtain ⟨fs, e⟩ := r'.ins
  refine in_ok (b := b) e ?_ (q _ Ap.app)
  rcases hxy with ⟨i, j, rfl, rfl, rfl⟩ | ⟨rfl, hx, hy⟩
  · exact has_spec (zs := [i, j]) r' (by decide) ok_one (by exact getL_new)
  · refine has_bad (by exact getL_new) (fun d hd => ?_) ⟨y, by simp, hy⟩
    simp only [List.mem_cons, List.not_mem_nil, or_false] at hd
    rcases hd with rfl | rfl
    · rw [hx]; rfl
    · rw [hy]; rfl
theorem main (ns : List Int) (hl : ns.length ≤ 63) (hb : ∀ z ∈ ns, PySem.Builtin.Int.intBits z ≤ 1048576) : ∃ h', m_law [.fzl (ns.map D.int)] [] = .ok (.bl true) h' := by
  have key : WpX NoX (m_law [.fzl (ns.map D.int)] []) fun d _ => d = .bl true := by
    unfold m_law m_law_b
    rw [w_fn, w_seq]
    walk_at "wpz"
    refine (state_sp (k := 0)).imp ?_
    rintro _ h1 ⟨s0, rfl, sa0, _, _⟩
    rw [q_nx, w_seq]
    walk_at "wpz"
    refine (points_spec sa0).imp ?_
    rintro _ h2 ⟨p, rfl, p1, p2, f2⟩
    rw [q_nx, w_seq]
    walk_at "wpz"
    refine (next_fm (size := 2) f2.sa).imp ?_
    rintro _ h3 ⟨v, rfl, v0, v1, f3⟩
    replace f3 := f2.trans f3
    walk_at "wpz"
    rw [q_nx, w_seq]
    walk_at "wpz"
    refine (next_fm (size := 6) f3.sa).imp ?_
    rintro _ h4 ⟨w, rfl, w0, w1, f4⟩
    replace f4 := f3.trans f4
    walk_at "wpz"
    refine (next_fm (size := 120) f4.sa).imp ?_
    rintro _ h5 ⟨u, rfl, u0, u1, f5⟩
    replace f5 := f4.trans f5
    walk_at "wpz"
    refine ⟨line_small (by decide), ?_⟩
    have f6 := f5.ap (Ap.app (l := [O.lst [D.int (121 - p + v), D.int (1 + w), D.int (1 + u), D.int (121 - p + v)]]))
    have g6 : getL (h5 ++ [O.lst [D.int (121 - p + v), D.int (1 + w), D.int (1 + u), D.int (121 - p + v)]]) h5.length = _ := getL_new
    have n5 : h5.length ≠ s0 := by have := f5.lt; omega
    generalize h5 ++ [O.lst [D.int (121 - p + v), D.int (1 + w), D.int (1 + u), D.int (121 - p + v)]] = h6 at f6 g6 ⊢
    refine (next_fm (size := 4) f6.sa).imp ?_
    rintro _ h7 ⟨x, rfl, x0, x1, f7⟩
    have g7 := f7.getL n5 g6
    obtain ⟨d, ed, hd⟩ := at_mem (l := [D.int (121 - p + v), D.int (1 + w), D.int (1 + u), D.int (121 - p + v)]) x0 x1
    simp only [f_ix, it_refD, g7, oq_some, ed]
    obtain ⟨y, rfl, y0⟩ : ∃ y : Int, d = .int y ∧ 1 ≤ y := by
      simp only [List.mem_cons, List.not_mem_nil, or_false] at hd
      rcases hd with rfl | rfl | rfl | rfl
      · exact ⟨_, rfl, by omega⟩
      · exact ⟨_, rfl, by omega⟩
      · exact ⟨_, rfl, by omega⟩
      · exact ⟨_, rfl, by omega⟩
    rw [f_min2]
    obtain ⟨q, hq, q1, q2⟩ : ∃ q : Int, (if y < 120 then y else 120) = q ∧ 1 ≤ q ∧ q ≤ 120 := ⟨_, rfl, by split <;> omega, by split <;> omega⟩
    rw [hq]
    clear hq hd ed g7 y0
    rw [q_nx, w_seq]
    walk_at "wpz"
    refine (state_sp (k := 1)).imp ?_
    rintro _ h8 ⟨s1, rfl, sa1, _, _⟩
    refine (system_spec sa1 ⟨p1, p2⟩).imp ?_
    rintro _ h9 ⟨n1, k1, l1, R, zs, rfl, S1, _, _, _, f9⟩
    rw [q_nx, w_seq]
    walk_at "wpz"
    refine (state_sp (k := 2)).imp ?_
    rintro _ h10 ⟨s2, rfl, sa2, a10, b10⟩
    have e1 := getL_lt S1.g2
    replace S1 := S1.ap a10
    refine (system_spec sa2 ⟨q1, q2⟩).imp ?_
    rintro _ h11 ⟨n2, k2, l2, T, ws, rfl, S2, _, _, _, f11⟩
    replace S1 := S1.fm sa2 (by omega) f11
    have e2 := getL_lt S2.g2
    have e11 := f11.len
    have e10 := a10.len
    rw [q_nx, w_seq]
    walk_at "wpz"
    simp only [S1.g0, oq_some, at_1]
    rw [q_nx, w_seq]
    walk_at "wpz"
    refine (state_sp (k := 3)).imp ?_
    rintro _ h12 ⟨s3, rfl, sa3, a12, b12⟩
    replace S1 := S1.ap a12
    replace S2 := S2.ap a12
    have e12 := a12.len
    rw [q_nx, w_seq]
    walk_at "wpz"
    have z1 : 1 ≤ sizeLine := line_small (by decide)
    have z2 : 2 ≤ sizeLine := line_small (by decide)
    have z3 : 3 ≤ sizeLine := line_small (by decide)
    simp only [z1, z2, z3, true_and]
    rw [show [D.tup [D.int 0, D.int 1, D.int 1]] = rowsD [(0, 1, 1)] from rfl]
    have f13 := (Fm.refl sa3).ap (Ap.app (l := [O.lst (rowsD [(0, 1, 1)])]))
    have g13 : getL (h12 ++ [O.lst (rowsD [(0, 1, 1)])]) h12.length = some (rowsD [(0, 1, 1)]) := getL_new
    generalize h12 ++ [O.lst (rowsD [(0, 1, 1)])] = h13 at f13 g13 ⊢
    generalize hL : h12.length = L at g13 ⊢
    have ok1 : ∀ t ∈ [((0, 1, 1) : Tr)], okR 2 t = true := fun t ht => by cases List.mem_singleton.mp ht; decide
    refine (made_spec g13 (by decide) (by decide) ok1).imp ?_
    rintro _ h14 ⟨rfl, r14, a14⟩
    refine ⟨rfl, ?_⟩
    generalize h13.length = o at r14 ⊢
    replace f13 := f13.ap a14
    clear g13 a14
    rw [q_nx, w_seq]
    walk_at "wpz"
    simp only [z1, z2, z3, true_and]
    refine ask_two (b := true) r14 (.inl ⟨0, 1, rfl, rfl, by decide⟩) fun h15 a15 => ?_
    replace r14 := r14.ap a15
    replace f13 := f13.ap a15
    rw [b_bl, if_neg (by decide)]
    refine ask_two (b := false) r14 (.inr ⟨rfl, rfl, rfl⟩) fun h16 a16 => ?_
    replace r14 := r14.ap a16
    replace f13 := f13.ap a16
    rw [b_bl, if_neg (by decide)]
    refine ask_two (b := false) r14 (.inr ⟨rfl, rfl, rfl⟩) fun h17 a17 => ?_
    replace r14 := r14.ap a17
    replace f13 := f13.ap a17
    rw [b_bl, if_neg (by decide)]
    refine ask_two (b := false) r14 (.inr ⟨rfl, rfl, rfl⟩) fun h18 a18 => ?_
    replace r14 := r14.ap a18
    replace f13 := f13.ap a18
    rw [b_bl, if_neg (by decide)]
    refine ask_two (b := false) r14 (.inl ⟨0, 0, rfl, rfl, by decide⟩) fun h19 a19 => ?_
    replace f13 := f13.ap a19
    rw [b_bl, if_neg (by decide)]
    clear r14 a15 a16 a17 a18 a19
    replace S1 := S1.fm sa3 (by omega) f13
    replace S2 := S2.fm sa3 (by omega) f13
    have e13 := f13.len
    clear sa3 a12 a10 f11 f9 sa2 sa1
    have sa3 := f13.sa
    have b1 : l1 < h19.length := by omega
    have b2 : l2 < h19.length := by omega
    have d1 : l1 ≠ s3 := by omega
    have d2 : l2 ≠ s3 := by omega
    clear f13
    rw [q_nx, w_seq]
    walk_at "wpz"
    simp only [S1.g0, oq_some, at_2]
    refine (broken_spec sa3 S1.g1 (by have := S1.r1; omega) S1.g2 d1 S1.z1 S1.rk).imp ?_
    rintro _ h20 ⟨nb, B, rfl, gB, zB, okB, bB, f20⟩
    rw [q_nx, w_seq]
    walk_at "wpz"
    simp only [z1, z2, z3, true_and]
    replace S1 := S1.fm sa3 d1 f20
    replace S2 := S2.fm sa3 d2 f20
    have e20 := f20.len
    have f21 := (Fm.refl f20.sa).ap (Ap.app (l := [O.lst [D.ref k1, D.ref nb]]))
    have g21 : getL (h20 ++ [O.lst [D.ref k1, D.ref nb]]) h20.length = some [D.ref k1, D.ref nb] := getL_new
    have n20 : h20.length ≠ s3 := by have := f20.lt; omega
    replace S1 := S1.fm f20.sa d1 f21
    replace S2 := S2.fm f20.sa d2 f21
    replace gB := f21.rows f20.sa gB
    have e21 := f21.len
    have sa21 := f21.sa
    generalize h20 ++ [O.lst [D.ref k1, D.ref nb]] = h21 at f21 g21 S1 S2 gB e21 sa21 ⊢
    generalize h20.length = L20 at g21 n20 ⊢
    rw [g21, oq_some]
    have sr := S1.r1
    have all : ∀ d ∈ [D.ref k1, D.ref nb], ∃ (m : Nat) (S : List Tr), d = .ref m ∧ getL h21 m = some (rowsD S) ∧ S.length ≤ 500 ∧ ∀ t ∈ S, okR p t = true := by
      intro d hd
      simp only [List.mem_cons, List.not_mem_nil, or_false] at hd
      rcases hd with rfl | rfl
      · exact ⟨_, R, rfl, S1.g1, by omega, S1.rk⟩
      · exact ⟨_, B, rfl, gB, by omega, okB⟩
    refine for_inv (fun k ρ h' => (∃ d10 d11, ρ = [some (.fzl (ns.map D.int)), some (.ref s3), some (.int p), some (.int (121 - p + v)), some (.int q), some (.ref n1), some (.ref n2), some (.ref k1), some (.ref o), some (.ref nb), d10, d11]) ∧ Fm s3 h21 h') ⟨⟨none, none, rfl⟩, Fm.refl sa21⟩ ?_ ?_ ?_
    · rintro k ρ h' _ ⟨_, a⟩
      exact decide_eq_true (a.getL n20 g21)
    · rintro k d ρ h22 hd ⟨⟨d10, d11, rfl⟩, f22⟩
      obtain ⟨m, S, rfl, gS, zS, okS⟩ := all d (List.mem_of_getElem? hd)
      replace gS := f22.rows sa21 gS
      have S1' := S1.fm sa21 d1 f22
      show goQ (some _) _
      rw [g_some, w_seq]
      walk_at "wpz"
      rw [gS, oq_some]
      have f23 := (Fm.refl f22.sa).ap (Ap.app (l := [O.lst (rowsD S)]))
      have g23 : getL (h22 ++ [O.lst (rowsD S)]) h22.length = some (rowsD S) := getL_new
      generalize h22 ++ [O.lst (rowsD S)] = h23 at f23 g23 ⊢
      generalize h22.length = z23 at g23 ⊢
      refine (made_spec g23 (by omega) ⟨p1, p2⟩ okS).imp ?_
      rintro _ h24 ⟨rfl, r24, a24⟩
      refine ⟨rfl, ?_⟩
      generalize h23.length = m24 at r24 ⊢
      have f24 := f23.ap a24
      replace gS := f24.rows f22.sa gS
      have S1'' := S1'.fm f22.sa d1 f24
      rw [q_nx, w_seq]
      walk_at "wpz"
      refine (tells_spec r24 gS (by omega)).imp ?_
      rintro _ h25 ⟨rfl, a25⟩
      have f25 := f24.ap a25
      replace S1'' := S1''.ap a25
      simp only [b_bl, S1''.g0, oq_some, at_2]
      rw [if_neg (by simp)]
      have zz := S1.z1
      refine (holds_spec f25.sa (r24.ap a25) (a25.getL gS) (by omega) p1 okS S1''.g2 d1 (by omega)).imp ?_
      rintro _ h26 ⟨rfl, f26⟩
      simp only [b_bl]
      rw [if_neg (by simp), q_nx]
      walk_at "wpz"
      refine (compares_spec f26.sa ((r24.ap a25).fm f25.sa f26) (f26.rows f25.sa (a25.getL gS)) (by omega) ⟨p1, p2⟩ okS).imp ?_
      rintro _ h27 ⟨rfl, f27⟩
      walk_at "wps"
      exact ⟨⟨_, _, rfl⟩, ((f22.trans f25).trans f26).trans f27⟩
    · rintro ρ h22 ⟨⟨d10, d11, rfl⟩, f22⟩
      replace S1 := S1.fm sa21 d1 f22
      replace S2 := S2.fm sa21 d2 f22
      have e22 := f22.len
      rw [q_nx, w_seq]
      walk_at "wpz"
      refine (state_sp (k := 4)).imp ?_
      rintro _ h23 ⟨s4, rfl, sa4, a23, b23⟩
      replace S1 := S1.ap a23
      replace S2 := S2.ap a23
      have d3 : l1 ≠ s4 := by omega
      have d4 : l2 ≠ s4 := by omega
      rw [q_nx, w_seq]
      walk_at "wpz"
      refine (refuses_spec sa4 S1.g1 (by omega) ⟨p1, p2⟩ S1.rk).imp ?_
      rintro _ h24 ⟨rfl, f24⟩
      simp only [b_bl]
      rw [if_neg (by simp)]
      refine (copies_spec (f24.rows sa4 S1.g1) (by omega) ⟨p1, p2⟩ S1.rk).imp ?_
      rintro _ h25 ⟨rfl, a25⟩
      simp only [b_bl]
      rw [if_neg (by simp), q_nx, w_seq]
      have f25 := f24.ap a25
      replace S1 := S1.fm sa4 d3 f25
      replace S2 := S2.fm sa4 d4 f25
      walk_at "wpz"
      refine (adds_spec f25.sa S1 S2 d3 d4 (fun z => by cases z)).imp ?_
      rintro _ h26 ⟨rfl, f26⟩
      replace S1 := S1.fm f25.sa d3 f26
      replace S2 := S2.fm f25.sa d4 f26
      simp only [b_bl]
      rw [if_neg (by simp)]
      refine (adds_spec f26.sa S2 S1 d4 d3 (fun z => by cases z)).imp ?_
      rintro _ h27 ⟨rfl, f27⟩
      replace S1 := S1.fm f26.sa d3 f27
      simp only [b_bl]
      rw [if_neg (by simp), q_nx]
      walk_at "wpz"
      refine (adds_spec f27.sa S1 S1 d3 d3 (fun _ => ⟨rfl, rfl⟩)).imp ?_
      rintro _ h28 ⟨rfl, f28⟩
      rfl
  obtain ⟨d, h', e, rfl⟩ := key.ex
  exact ⟨h', e⟩
end K01

open PySem PySem.W PyProof.Rows
set_option maxHeartbeats 0 in
theorem PySem.Challenge.cw_roomsfit_k01_rows_hold_numbers_holds : PySem.Challenge.rw_roomsfit_k01_rows_hold_numbers.Holds := by
  w_on; o_law; k_head; (case hw => w_witness2)
  k_fill
  refine L2.walk_ofB (l := PySem.Challenge.rw_roomsfit_k01_rows_hold_numbers) (n := 63) (k := 7) (x := "script") (CX := fun _ => L2.CX0) (sp := fun w => G.spAll _ K01.m_law 1) rfl (by decide) rfl ⟨rfl, by decide, by decide⟩ (fun w h Y => PySem.W.kIn_of Y) ?F (fun _ _ a ns hl hb hO hS => by
    obtain ⟨h', e⟩ := K01.main ns hl hb
    exact G.law_all hO hS e) (fun _ _ _ _ _ h => h)
  case F =>
    intro w mg fa h KX G hmg
    refine' K01.all_mk KX G hmg ?zb_isinstance ?zb_int ?zb_bool ?zb_len ?zb_abs ?zb_enumerate ?zb_list ?kc_MOST_POINTS ?a_BadCount ?a_FitError ?x_BadCount ?sa_BadCount ?ga_BadCount ?gg_BadCount ?kp_BadCount ?ex_BadCount ?ve_BadCount ?ty_BadCount ?hd_BadCount ?su_BadCount ?mo_BadCount ?opq ?sp_BadCount ?no_BadCount_number ?i_BadCount ?t_BadCount ?l_BadCount ?c_BadCount ?d_BadCount ?v_BadCount ?p_BadCount ?e_BadCount ?top ?zb_super ?a_BadRow ?x_BadRow ?sa_BadRow ?ga_BadRow ?gg_BadRow ?kp_BadRow ?ex_BadRow ?ve_BadRow ?ty_BadRow ?hd_BadRow ?su_BadRow ?mo_BadRow ?sp_BadRow ?no_BadRow_index ?i_BadRow ?t_BadRow ?l_BadRow ?c_BadRow ?d_BadRow ?v_BadRow ?p_BadRow ?e_BadRow ?a_Rows ?pg_Rows ?hd_Rows ?po_Rows ?sa_Rows ?no_Rows_points ?no_Rows__rows ?zb_iter ?zt_NoneType_Rows ?zt_bool_Rows ?zt_int_Rows ?zt_str_Rows ?zt_tuple_Rows ?zt_list_Rows ?gk_Rows ?ob_Rows ?spc ?tkc ?zz_Rows_Rows ?zb_range ?kp_Rows ?mk_Rows ?s_BadCount_FitError ?s_BadRow_FitError ?x_FitError ?sa_FitError ?ga_FitError ?gg_FitError ?kp_FitError ?ex_FitError ?ve_FitError ?ty_FitError ?hd_FitError ?su_FitError ?mo_FitError ?zb_ValueError ?zV_BadCount ?gk_BadCount ?ob_BadCount ?zV_BadRow ?gk_BadRow ?ob_BadRow ?z_BadCount_BadCount ?z_BadRow_BadCount ?z_BadCount_BadRow ?z_BadRow_BadRow ?zb_tuple ?ne_Rows ?sf_Rows ?zb_min ?a_is_whole ?l_is_whole ?c_is_whole ?k_is_whole ?a_joined_point ?l_joined_point ?c_joined_point ?k_joined_point ?a_law_int ?l_law_int ?c_law_int ?k_law_int ?a_law_state ?l_law_state ?c_law_state ?k_law_state ?a_law_next ?l_law_next ?c_law_next ?k_law_next ?a_law_keeps ?l_law_keeps ?c_law_keeps ?k_law_keeps ?a_law_due ?l_law_due ?c_law_due ?k_law_due ?a_law_joined ?l_law_joined ?c_law_joined ?k_law_joined ?a_Rows_init ?n_Rows_init ?l_Rows_init ?c_Rows_init ?k_Rows_init ?a_Rows_len ?n_Rows_len ?l_Rows_len ?c_Rows_len ?k_Rows_len ?a_Rows_iter ?n_Rows_iter ?l_Rows_iter ?c_Rows_iter ?k_Rows_iter ?a_Rows_eq ?n_Rows_eq ?l_Rows_eq ?c_Rows_eq ?k_Rows_eq ?a_is_whole_list ?l_is_whole_list ?c_is_whole_list ?k_is_whole_list ?a_law_ints ?l_law_ints ?c_law_ints ?k_law_ints ?a_law_points ?l_law_points ?c_law_points ?k_law_points ?a_law_system ?l_law_system ?c_law_system ?k_law_system ?a_law_lists ?l_law_lists ?c_law_lists ?k_law_lists ?a_law_broken ?l_law_broken ?c_law_broken ?k_law_broken ?a_law_bad ?l_law_bad ?c_law_bad ?k_law_bad ?a_law_alike ?l_law_alike ?c_law_alike ?k_law_alike ?a_law_others ?l_law_others ?c_law_others ?k_law_others ?a_law_made ?l_law_made ?c_law_made ?k_law_made ?a_Rows_contains ?n_Rows_contains ?l_Rows_contains ?c_Rows_contains ?k_Rows_contains ?a_Rows_add ?n_Rows_add ?l_Rows_add ?c_Rows_add ?k_Rows_add ?a_Rows_with_more ?n_Rows_with_more ?l_Rows_with_more ?c_Rows_with_more ?k_Rows_with_more ?a_law_holds ?l_law_holds ?c_law_holds ?k_law_holds ?a_law_more ?l_law_more ?c_law_more ?k_law_more ?a_law_compares ?l_law_compares ?c_law_compares ?k_law_compares ?a_law_sum ?l_law_sum ?c_law_sum ?k_law_sum ?a_law_tells ?l_law_tells ?c_law_tells ?k_law_tells ?a_law_refuses ?l_law_refuses ?c_law_refuses ?k_law_refuses ?a_law_adds ?l_law_adds ?c_law_adds ?k_law_adds ?a_law_copies ?l_law_copies ?c_law_copies ?k_law_copies ?a_law ?l_law ?c_law ?k_law
    (case zb_isinstance => k_is)
    (case zb_int => k_is)
    (case zb_bool => k_is)
    (case zb_len => k_is)
    (case zb_abs => k_is)
    (case zb_enumerate => k_is)
    (case zb_list => k_is)
    (case kc_MOST_POINTS => k_is)
    (case a_BadCount => k_is)
    (case a_FitError => k_is)
    (case x_BadCount => k_is)
    (case sa_BadCount => k_is)
    (case ga_BadCount => k_is)
    (case gg_BadCount => k_is)
    (case kp_BadCount => k_is)
    (case ex_BadCount => k_is)
    (case ve_BadCount => k_is)
    (case ty_BadCount => k_is)
    (case hd_BadCount => k_is)
    (case su_BadCount => k_is)
    (case mo_BadCount => k_is)
    (case opq => k_is)
    (case sp_BadCount => ks_is)
    (case no_BadCount_number => k_is)
    (case i_BadCount => k_is)
    (case t_BadCount => k_is)
    (case l_BadCount => k_is)
    (case c_BadCount => k_is)
    (case d_BadCount => k_is)
    (case v_BadCount => rfl)
    (case p_BadCount => decide +kernel)
    (case e_BadCount => k_is)
    (case top => decide +kernel)
    (case zb_super => k_is)
    (case a_BadRow => k_is)
    (case x_BadRow => k_is)
    (case sa_BadRow => k_is)
    (case ga_BadRow => k_is)
    (case gg_BadRow => k_is)
    (case kp_BadRow => k_is)
    (case ex_BadRow => k_is)
    (case ve_BadRow => k_is)
    (case ty_BadRow => k_is)
    (case hd_BadRow => k_is)
    (case su_BadRow => k_is)
    (case mo_BadRow => k_is)
    (case sp_BadRow => ks_is)
    (case no_BadRow_index => k_is)
    (case i_BadRow => k_is)
    (case t_BadRow => k_is)
    (case l_BadRow => k_is)
    (case c_BadRow => k_is)
    (case d_BadRow => k_is)
    (case v_BadRow => rfl)
    (case p_BadRow => decide +kernel)
    (case e_BadRow => k_is)
    (case a_Rows => k_is)
    (case pg_Rows => k_is)
    (case hd_Rows => k_is)
    (case po_Rows => k_is)
    (case sa_Rows => k_is)
    (case no_Rows_points => k_is)
    (case no_Rows__rows => k_is)
    (case zb_iter => k_is)
    (case zt_NoneType_Rows => kit_is)
    (case zt_bool_Rows => kit_is)
    (case zt_int_Rows => kit_is)
    (case zt_str_Rows => kit_is)
    (case zt_tuple_Rows => kit_is)
    (case zt_list_Rows => kit_is)
    (case gk_Rows => k_is)
    (case ob_Rows => k_is)
    (case spc => k_is)
    (case tkc => k_is)
    (case zz_Rows_Rows => kit_is)
    (case zb_range => k_is)
    (case kp_Rows => k_is)
    (case mk_Rows => k_is)
    (case s_BadCount_FitError => k_is)
    (case s_BadRow_FitError => k_is)
    (case x_FitError => k_is)
    (case sa_FitError => k_is)
    (case ga_FitError => k_is)
    (case gg_FitError => k_is)
    (case kp_FitError => k_is)
    (case ex_FitError => k_is)
    (case ve_FitError => k_is)
    (case ty_FitError => k_is)
    (case hd_FitError => k_is)
    (case su_FitError => k_is)
    (case mo_FitError => k_is)
    (case zb_ValueError => k_is)
    (case zV_BadCount => kit_is)
    (case gk_BadCount => k_is)
    (case ob_BadCount => k_is)
    (case zV_BadRow => kit_is)
    (case gk_BadRow => k_is)
    (case ob_BadRow => k_is)
    (case z_BadCount_BadCount => kit_is)
    (case z_BadRow_BadCount => kit_is)
    (case z_BadCount_BadRow => kit_is)
    (case z_BadRow_BadRow => kit_is)
    (case zb_tuple => k_is)
    (case ne_Rows => k_is)
    (case sf_Rows => k_is)
    (case zb_min => k_is)
    (case a_is_whole => k_is)
    (case l_is_whole => k_is)
    (case c_is_whole => k_is)
    (case k_is_whole => k_is)
    (case a_joined_point => k_is)
    (case l_joined_point => k_is)
    (case c_joined_point => k_is)
    (case k_joined_point => k_is)
    (case a_law_int => k_is)
    (case l_law_int => k_is)
    (case c_law_int => k_is)
    (case k_law_int => k_is)
    (case a_law_state => k_is)
    (case l_law_state => k_is)
    (case c_law_state => k_is)
    (case k_law_state => k_is)
    (case a_law_next => k_is)
    (case l_law_next => k_is)
    (case c_law_next => k_is)
    (case k_law_next => k_is)
    (case a_law_keeps => k_is)
    (case l_law_keeps => k_is)
    (case c_law_keeps => k_is)
    (case k_law_keeps => k_is)
    (case a_law_due => k_is)
    (case l_law_due => k_is)
    (case c_law_due => k_is)
    (case k_law_due => k_is)
    (case a_law_joined => k_is)
    (case l_law_joined => k_is)
    (case c_law_joined => k_is)
    (case k_law_joined => k_is)
    (case a_Rows_init => k_is)
    (case n_Rows_init => k_is)
    (case l_Rows_init => k_is)
    (case c_Rows_init => k_is)
    (case k_Rows_init => k_is)
    (case a_Rows_len => k_is)
    (case n_Rows_len => k_is)
    (case l_Rows_len => k_is)
    (case c_Rows_len => k_is)
    (case k_Rows_len => k_is)
    (case a_Rows_iter => k_is)
    (case n_Rows_iter => k_is)
    (case l_Rows_iter => k_is)
    (case c_Rows_iter => k_is)
    (case k_Rows_iter => k_is)
    (case a_Rows_eq => k_is)
    (case n_Rows_eq => k_is)
    (case l_Rows_eq => k_is)
    (case c_Rows_eq => k_is)
    (case k_Rows_eq => k_is)
    (case a_is_whole_list => k_is)
    (case l_is_whole_list => k_is)
    (case c_is_whole_list => k_is)
    (case k_is_whole_list => k_is)
    (case a_law_ints => k_is)
    (case l_law_ints => k_is)
    (case c_law_ints => k_is)
    (case k_law_ints => k_is)
    (case a_law_points => k_is)
    (case l_law_points => k_is)
    (case c_law_points => k_is)
    (case k_law_points => k_is)
    (case a_law_system => k_is)
    (case l_law_system => k_is)
    (case c_law_system => k_is)
    (case k_law_system => k_is)
    (case a_law_lists => k_is)
    (case l_law_lists => k_is)
    (case c_law_lists => k_is)
    (case k_law_lists => k_is)
    (case a_law_broken => k_is)
    (case l_law_broken => k_is)
    (case c_law_broken => k_is)
    (case k_law_broken => k_is)
    (case a_law_bad => k_is)
    (case l_law_bad => k_is)
    (case c_law_bad => k_is)
    (case k_law_bad => k_is)
    (case a_law_alike => k_is)
    (case l_law_alike => k_is)
    (case c_law_alike => k_is)
    (case k_law_alike => k_is)
    (case a_law_others => k_is)
    (case l_law_others => k_is)
    (case c_law_others => k_is)
    (case k_law_others => k_is)
    (case a_law_made => k_is)
    (case l_law_made => k_is)
    (case c_law_made => k_is)
    (case k_law_made => k_is)
    (case a_Rows_contains => k_is)
    (case n_Rows_contains => k_is)
    (case l_Rows_contains => k_is)
    (case c_Rows_contains => k_is)
    (case k_Rows_contains => k_is)
    (case a_Rows_add => k_is)
    (case n_Rows_add => k_is)
    (case l_Rows_add => k_is)
    (case c_Rows_add => k_is)
    (case k_Rows_add => k_is)
    (case a_Rows_with_more => k_is)
    (case n_Rows_with_more => k_is)
    (case l_Rows_with_more => k_is)
    (case c_Rows_with_more => k_is)
    (case k_Rows_with_more => k_is)
    (case a_law_holds => k_is)
    (case l_law_holds => k_is)
    (case c_law_holds => k_is)
    (case k_law_holds => k_is)
    (case a_law_more => k_is)
    (case l_law_more => k_is)
    (case c_law_more => k_is)
    (case k_law_more => k_is)
    (case a_law_compares => k_is)
    (case l_law_compares => k_is)
    (case c_law_compares => k_is)
    (case k_law_compares => k_is)
    (case a_law_sum => k_is)
    (case l_law_sum => k_is)
    (case c_law_sum => k_is)
    (case k_law_sum => k_is)
    (case a_law_tells => k_is)
    (case l_law_tells => k_is)
    (case c_law_tells => k_is)
    (case k_law_tells => k_is)
    (case a_law_refuses => k_is)
    (case l_law_refuses => k_is)
    (case c_law_refuses => k_is)
    (case k_law_refuses => k_is)
    (case a_law_adds => k_is)
    (case l_law_adds => k_is)
    (case c_law_adds => k_is)
    (case k_law_adds => k_is)
    (case a_law_copies => k_is)
    (case l_law_copies => k_is)
    (case c_law_copies => k_is)
    (case k_law_copies => k_is)
    (case a_law => k_is)
    (case l_law => k_is)
    (case c_law => k_is)
    (case k_law => k_is)
