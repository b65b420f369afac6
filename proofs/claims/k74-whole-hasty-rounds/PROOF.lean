import PyProof.Rows.All
import Wide.All
import OpenK.AllK
import Wide.FinOn
import HandS.ForExc
import HandS.Comp
import HandS.Defaults
import HandS.Deep
import HandS.IsInst
import HandS.OwnEq
import HandS.TupAny
import HandS.Conv
import HandS.Zip
import HandS.Flow
import HandS.WideBits
import HandS.Evl
import HandS.SortRule
import HandS.SortInts
import HandS.Nested
import HandS.ExcInit
import HandS.ExcField
import HandS.CallSlots
import HandS.Small
import HandS.WordsDict
import HandS.Dict
import KE.KExcSuper
import KE.SortData
import HandS.Head0
import HandS.Head1
import HandS.Head2
import HandS.HeadEnd
import HandS.HeadHook1
import HandS.HeadHook2
import PySem.Challenge.RW_busyfloor_k74_whole_hasty_rounds
set_option Elab.async false
set_option linter.all false
set_option maxRecDepth 100000
set_option maxHeartbeats 4000000
/-! ### the text by places -/
namespace Bz
open PySem PySem.Spec PyProof.Rows L2
def top (i : Nat) : Stmt := PySem.Challenge.pw_busyfloor_k74_whole_hasty_rounds.main.body.getD i (.Pass ⟨0, 0, 0, 0⟩)
abbrev sBad : Stmt := inClass (top 3) 0
abbrev sIsInt : Stmt := top 5
abbrev sWithin : Stmt := top 6
abbrev sAsc : Stmt := top 7
abbrev sLot : Stmt := top 8
abbrev sBits : Stmt := top 9
abbrev sLotOf : Stmt := top 10
abbrev sTies : Stmt := top 13
abbrev sWeb : Stmt := inClass (top 14) 0
abbrev sEq : Stmt := inClass (top 14) 1
abbrev sCalls : Stmt := top 15
abbrev sHasty : Stmt := top 16
abbrev sRounds : Stmt := top 17
abbrev sHand : Stmt := top 19
abbrev sDraw : Stmt := top 20
abbrev sIs : Stmt := top 21
abbrev sSome : Stmt := top 22
abbrev sDeep : Stmt := top 23
abbrev sLWeb : Stmt := top 24
abbrev sNear : Stmt := top 25
abbrev sLHasty : Stmt := top 26
abbrev sTold : Stmt := top 27
abbrev sPart : Stmt := top 28
abbrev sLaw : Stmt := top 29
abbrev FnP (K : PySem.W.Frag) (x : Str) (st : Stmt) (f : Addr) (fd : FuncData) : Prop := FunD K x x (defArgs st) (defBody st) (defScope st) [] [] f fd
abbrev FnM (K : PySem.W.Frag) (x q : Str) (st : Stmt) (f : Addr) (fd : FuncData) : Prop := FunD K x q (defArgs st) (defBody st) (defScope st) [] [] f fd
def dG (x : Str) (st : Stmt) : He.DefD := ⟨(x, none), x, x, defArgs st, defBody st, defScope st, [], []⟩
def dM (c m q : Str) (st : Stmt) : He.DefD := ⟨(c, some m), m, q, defArgs st, defBody st, defScope st, [], []⟩
/-! ### what is asked of the written part -/
/-- the text's facts, as the defs' proofs take them -/
structure Txt (K : PySem.W.Frag) (mg : Str → Option Value) (CW CB CN : Addr) : Prop where
  isinstance : mg "isinstance" = none
  int : mg "int" = none
  bool : mg "bool" = none
  all : mg "all" = none
  range : mg "range" = none
  len : mg "len" = none
  tuple : mg "tuple" = none
  sum : mg "sum" = none
  any : mg "any" = none
  sorted : mg "sorted" = none
  list : mg "list" = none
  zip : mg "zip" = none
  abs : mg "abs" = none
  min : mg "min" = none
  max : mg "max" = none
  most : ∃ t, mg "MOST_PEOPLE" = some (.int 9 t)
  -- Web
  gW : mg "Web" = some (.ref CW)
  clW : Cls K CW
  nPe : NoAttr K CW "people"
  nTi : NoAttr K CW "ties"
  nKe : NoAttr K CW "kept_ties"
  kpW : PySem.W.keepIn K (.ref CW) = true
  w1 : PySem.W.findIn K (.ref CW) "__class__" = some (some (.builtin "object.__class__"))
  w2 : PySem.W.specialIn K (.builtin "object.__class__") "__get__" = some (some (.builtin "getset_descriptor.__get__"))
  w3 : PySem.W.takesIn K (.builtin "object.__class__") = some true
  w4 : PySem.W.mroIn K CW (.type "object") = some true
  wInt : PySem.W.kitOne K (.ref CW) (.type "int") = some false
  wBool : PySem.W.kitOne K (.ref CW) (.type "bool") = some false
  wTup : PySem.W.kitOne K (.ref CW) (.type "tuple") = some false
  wList : PySem.W.kitOne K (.ref CW) (.type "list") = some false
  wSelf : PySem.W.kitOne K (.ref CW) (.ref CW) = some true
  tupW : PySem.W.kitOne K (.type "tuple") (.ref CW) = some false
  neW : PySem.W.findIn K (.ref CW) "__ne__" = some (some (.builtin "object.__ne__"))
  -- NoLot
  gN : mg "NoLot" = some (.ref CN)
  xN : PySem.W.excIn K CN He.veBase "ValueError.__new__" = true
  kpN : PySem.W.keepIn K (.ref CN) = true
  bN : PySem.W.subIn K (.ref CN) (.type "BaseException") = some true
  tN : PySem.W.typeIn K (.ref CN) = some (.type "type")
  exmN : PySem.W.exmOne K (.ref CN) (.ref CN) = some true
  -- BadWeb
  gB : mg "BadWeb" = some (.ref CB)
  oxB : OexC K CB
  xfB : XfC K CB
  nPart : PySem.W.findIn K (.ref CB) "part" = some none
  exmB : PySem.W.exmOne K (.ref CB) (.ref CB) = some true
  kpB : PySem.W.keepIn K (.ref CB) = true
/-- BadWeb's own __init__ as it stands behind the top: it closes over the class -/
structure BadF (K : PySem.W.Frag) (CB fI : Addr) (fd : FuncData) : Prop where
  ex : ∃ (oc : Value) (od : Option Addr) (osl : Array (Option Value)) (kV doc pm ct : Value) (an : Option Addr) (cc c : Addr),
    fd = PySem.W.fnX "__init__" "BadWeb.__init__" (defArgs sBad) (defBody sBad) (defScope sBad) [("__class__", cc)] .none kV doc pm an (.ref c) ct ∧ K.lookup fI = some ⟨oc, od, .func fd, osl⟩ ∧ PySem.W.codeIn K (.ref c) "BadWeb.__init__" = true ∧
    (∃ x y z, K.lookup cc = some ⟨x, y, .cell (some (.ref CB)), z⟩) ∧
    (∃ x y vs z file tf, K.lookup c = some ⟨x, y, .fields vs, z⟩ ∧ vs[2]? = some (Value.str file tf) ∧ (PySem.Challenge.pw_busyfloor_k74_whole_hasty_rounds.main.file == file) = true)
  init : PySem.W.findIn K (.ref CB) "__init__" = some (some (.ref fI))
  ty : PySem.W.typeIn K (.ref fI) = some (.type "function")
  st : PySem.W.nsIn K cStatics "thirdparty.any" = some none
  su : PySem.W.ks_superIn K CB CB "__init__" = some (some (.builtin "ValueError.__init__"))
  mr : PySem.W.mroIn K CB (.ref CB) = some true
  sb : PySem.W.subIn K (.ref CB) (.type "ValueError") = some true
end Bz

set_option maxHeartbeats 4000000
namespace Bz
open PySem PySem.Spec PyProof.Rows L2 NdefX
/-! ### super().__init__(m) in an own exception's __init__ -/
section
variable {X : Cx} {pins : List (Addr × Obj)} {σ : L2.St} {H : Hp} {s : Shared}
/-- the built-in __init__ bound to the exception, called -/
theorem mw_call {a u C : Addr} {us : List Value} {Q : Value → Shared → Prop} {E : Value → Shared → Prop} (T : OexC X.K C) (I : Inv X pins σ H s) (ha : H a = some (exo a C none)) (hu : s.heap.get? u = some (PySem.W.kxs_mw "ValueError.__init__" a)) (hl : us.length ≤ sizeLine)
    (h : ∀ s', Inv X pins σ H s' → Q .none s') : wpAny (model X.prog X.w) X.A (call (.ref u) us) Q E s := by
  obtain ⟨nm, q, N, bs, bm, sn, sub, ab, col, dd, k0, k1, k2, k3, k5, hC, hbm⟩ := T.cls
  obtain ⟨t1, ho⟩ := exo_at I.hok ha
  have hC' := I.kIn _ _ hC
  obtain ⟨hp, g, d, t, os⟩ := s
  refine wpAny_call (codeAny_of_tree ?_)
  show wpAny _ X.A.in1 (callAny (.ref u) ⟨us, []⟩) _ _ _
  simp only [callAny]
  refine wpAny_bind (wpAny_load hu ?_)
  simp only [PySem.W.kxs_mw, show (Value.type "method-wrapper" == Value.type "method" || Value.type "method-wrapper" == Value.type "builtin_function_or_method" || Value.type "method-wrapper" == Value.type "method-wrapper") = true by decide, if_true]
  refine PySem.W.KFB.if_so (by decide) ?_
  refine wpAny_bind (PySem.W.check_bound_init F.excBase_ValueError.toExcCallFacts hC' ho rfl ?_)
  refine wpAny_bind (wpAny_pure (wpAny_pure ?_))
  refine ⟨plainId_quiet F.excBase_ValueError.init.plain _, codeAny_builtin F.excBase_ValueError.initEntry ?_⟩
  refine PySem.W.exc_init_tree (cls := .ref C) (t0 := t1) (dv := none) (c2 := .none) (c3 := .none) (b4 := .bool false) ho hl fun h' k hx _ => ?_
  have J := I.write (t' := t) (x := a) (e := a) (o := exo a C none) (by rw [ha]; exact True.intro) (.inl rfl) k ⟨_, hx⟩ (exo_ok hx)
  have eu : upd H a (exo a C none) = H := by
    funext b
    by_cases hb : b = a
    · rw [hb, upd_same, ha]
    · rw [upd_ne hb]
  rw [eu] at J
  exact h _ J
theorem super_init {body : List Stmt} {f c cc a C : Addr} {of oc : Obj} {fd : FuncData} {ar : Arg} {vs : Array Value} {file : Str} {tf : Tok} {p0 p1 p2 p3 p4 : Pos} {m : Str} {j : Nat} {Q : Value → Shared → Prop} {E : Value → Shared → Prop} {pl : Sem Bool} (T : OexC X.K C)
    (het : eval (.Call (.Attribute (.Call (.Name "super" p0) [] [] p1) "__init__" p2) [.Constant (.str m) j p3] [] p4) X.env = (do
      let ov ← attributeBase (.Call (.Name "super" p0) [] [] p1) "__init__" X.env (eval (.Call (.Name "super" p0) [] [] p1) X.env)
      standAt p2.atName
      let (f, first) ← holding [ov] (getMethod ov "__init__" pl)
      callWith p4 f first (backTo p4 (starEach [.Constant (.str m) j p3] X.env)) []))
    (hks : X.env.kindOf "super" = some .globalImplicit) (hkc : X.env.kindOf "__class__" = some .free) (hfu : X.env.func = some f) (hf : s.heap.get? f = some of) (hfd : of.data = .func fd)
    (hp : (fd.params.posonlyargs ++ fd.params.args).head? = some ar) (hco : X.env.code = .ref c) (hcc : s.heap.get? c = some oc) (hoc : oc.data = .fields vs) (hvs : vs[2]? = some (.str file tf))
    (hfile : ((X.prog.main.file : Str) == file) = true) (htop : (X.prog.main.scope.names.lookup ("super" : Str)).isSome = false) (gs : X.mg "super" = none)
    (hcl : X.env.cells.lookup ("__class__" : Str) = some cc) (hcell : s.heap.IsCell cc (some (.ref C)))
    (hN : X.N[0]? = some ar.arg) (hka : X.env.kindOf ar.arg = some .local) (h0 : σ[0]? = some (some (.ref a)))
    (mr : PySem.W.mroIn X.K C (.ref C) = some true) (st : PySem.W.nsIn X.K cStatics "thirdparty.any" = some none) (su : PySem.W.ks_superIn X.K C C "__init__" = some (some (.builtin "ValueError.__init__"))) (sb : PySem.W.subIn X.K (.ref C) (.type "ValueError") = some true)
    (I : Inv X pins σ H s) (ha : H a = some (exo a C none)) (h : ∀ s', Inv X pins σ H s' → Q .none s') :
    PySem.wpAt (model X.prog X.w) X.A (.func body X.env) (eval (.Call (.Attribute (.Call (.Name "super" p0) [] [] p1) "__init__" p2) [.Constant (.str m) j p3] [] p4) X.env) Q E s := by
  refine PySem.ks_wpAt_MethodCall (pl := pl) ?_ het
  refine PySem.ks_wpAt_super_base hks hkc rfl hfu hf hfd hp hco hcc hoc hvs hfile htop ?_
  obtain ⟨mb, h1, h2⟩ := I.mod.blt
  refine PySem.W.ks_loadName_global I.ok.kind hks (Calls.loadGlobal_builtin (by rw [I.ok.glob]; exact I.mod.glob.keeps I.bk) gs (by rw [I.ok.blt]; exact h1.keeps I.bk) ((h2 "super" (by decide)).trans (by decide +kernel)) ⟨rfl, ?_⟩)
  refine wpAny_loadName_free I.ok.kind hkc hcl hcell ?_
  obtain ⟨m1, hm1, hl⟩ := I.loc
  obtain ⟨u1, r1, l1⟩ := hl 0 _ _ hN h0 (.inl hka)
  have l1' : m1 ar.arg = some u1 := by
    rcases l1 with ⟨_, e⟩ | ⟨k, _⟩
    · exact e
    · rw [hka] at k
      rcases k with k | k <;> cases k
  cases r1
  refine wpAny_loadName_local I.ok.kind hka hm1 l1' ?_
  obtain ⟨nm, q, N, bs, bm, sn, sub, ab, col, dd, k0, k1, k2, k3, k5, hC, hbm⟩ := T.cls
  obtain ⟨t1, ho⟩ := exo_at I.hok ha
  have hC' := I.kIn _ _ hC
  have KX := I.kIn
  obtain ⟨hp, g, d, t, os⟩ := s
  refine PySem.ks_wpAny_isType_cls hC' rfl ⟨rfl, ?_⟩
  refine PySem.ks_wpAny_call_super hC' rfl ho rfl (fun c e => by cases e) (PySem.W.looks_mroIn KX mr) (fun h' e k => ?_)
  have I1 : Inv X pins σ H ⟨h', g, d, t, os⟩ := I.kept (t' := t) k
  have KX1 := I1.kIn
  obtain ⟨cd, hcd, hal⟩ := Option.bind_eq_some_iff.mp (show (PySem.W.clsIn X.K C).bind (fun cd => PySem.W.alongIn X.K "__init__" ((cd.mro.dropWhile (· != .ref C)).drop 1)) = some (some (.builtin "ValueError.__init__")) from su)
  have hne : a ≠ C := by
    rintro rfl
    have e2 : some _ = some _ := ho.symm.trans hC'
    cases e2
  have ho1 : h'.get? a = some _ := k _ _ ho
  have hI : PySem.W.Looks (model X.prog X.w) h' (isInstance (.ref a) (.type "ValueError")) true := by
    have IA : PySem.W.InstAt h' a ({ cls := .ref C, dict := none, data := .fields #[.ref t1, .none, .none, .none, .bool false, .none] } : Obj) C none := ⟨ho1, rfl, rfl, trivial⟩
    exact IA.type.andThen (PySem.W.looks_subIn KX1 sb)
  refine PySem.W.kxs_getMethod PySem.W.kxs_ValueError e (PySem.W.looks_opaque KX1 st) (l₀ := cd.mro) (fun A Q E s k q => wpAny_bind ((PySem.W.looks_clsIn KX1 hcd) A _ E s k (wpAny_pure q))) rfl KX1 hal hI hne rfl ?_
  have hnu : H h'.objs.size = none := I1.hok.fresh (Nat.le_refl _)
  have I2 : Inv X pins σ H ⟨h'.push (PySem.W.kxs_mw "ValueError.__init__" a), g, d, t + 1, os⟩ := I1.kept (t' := t + 1) fun b o e => Heap.get?_push_of_some _ e
  have hu : (h'.push (PySem.W.kxs_mw "ValueError.__init__" a)).get? h'.objs.size = some (PySem.W.kxs_mw "ValueError.__init__" a) := Heap.get?_push_at rfl rfl
  have I3 : Inv X (pins ++ [(h'.objs.size, PySem.W.kxs_mw "ValueError.__init__" a)]) σ H ⟨h'.push (PySem.W.kxs_mw "ValueError.__init__" a), g, d, t + 1, os⟩ := I2.pins_of fun p hp => (List.mem_append.mp hp).elim (fun z => I2.pin p (List.mem_append_right _ z)) fun z => by
    have e' : p = (h'.objs.size, PySem.W.kxs_mw "ValueError.__init__" a) := by simpa using z
    subst e'
    have fp := I1.fpOk (H' := H) (Nat.le_refl _) hnu
    exact ⟨hu, hnu, fp.2.1, fp.2.2.1, fun v hv => by cases hv⟩
  refine PySem.W.kxs_callWith (i := "ValueError.__init__") (x := a) rfl ?_
  have he : starEach [.Constant (.str m) j p3] X.env = (false, eval (.Constant (.str m) j p3) X.env) :: starEach [] X.env := rfl
  have ar := (pa_cons (X := X.wish E) (pe_str (x := m) (j := j) (pos := p3)) pa_nil).run p4 _ _ σ H (fun vs H' => vs = [.str m] ∧ H' = H) (I3.wish E) ⟨rfl, rfl⟩
  have ar2 : wpAny (model X.prog X.w) X.A (spliced (backTo p4 (starEach [.Constant (.str m) j p3] X.env))) (fun us s1 => PySem.W.KxsAt "ValueError.__init__" h'.objs.size a s1.heap ∧ wpAny (model X.prog X.w) X.A (call (.ref h'.objs.size) us) Q E s1) E _ := thn ar fun us s1 ⟨vs', H', I4w, r4, q4⟩ => by
    have I4 := I4w.unwish
    obtain ⟨rfl, rfl⟩ := q4
    have hu4 := (I4.pin (h'.objs.size, PySem.W.kxs_mw "ValueError.__init__" a) (by simp)).1
    refine ⟨hu4, mw_call T I4.unpinned ha hu4 ?_ fun s' I' => h s' I'⟩
    have := r4.length
    show us.length ≤ sizeLine
    rw [← this]
    show 1 ≤ sizeLine
    decide
  rw [he] at ar2 ⊢
  exact Calls.evalArgs_plain ar2
end
/-- BadWeb's __init__: part is kept in a new dict -/
def spBad (C : Addr) : Sp := fun vs H Q _ => ∃ (a : Addr) (z : Str), vs = [.ref a, .str z] ∧ H a = some (exo a C none) ∧ ∀ dx, H dx = none → dx ≠ a → Q .non (upd (upd H dx (exd dx [("part", .str z)])) a (exo a C (some dx)))
theorem scBad : NScope ["self", "part", "__class__"] ["self", "part"] ["__class__"] (defScope sBad) := nscope_by (by decide +kernel)
section
variable {w : World} {K : PySem.W.Frag} {mg : Str → Option Value} {base : Heap} {CX : CXT}
theorem ok_bad {fI CW CB CN : Addr} {fd : FuncData} (F : BadF K CB fI fd) (T : Txt K mg CW CB CN) (gsuper : mg "super" = none) : FnOk PySem.Challenge.pw_busyfloor_k74_whole_hasty_rounds w K mg base CX 1 fI fd ["self", "part"] (spBad CB) := by
  refine ⟨fun vs H Q E h => ?_, fun A outer s H args us vs Q E hr e0 hb r hsp => ?_⟩
  · obtain ⟨a, z, rfl, _⟩ := h
    rfl
  obtain ⟨a, z, rfl, ha, hq⟩ := hsp
  obtain ⟨oc, od, osl, kV, doc, pm, ct, an, cc, c, rfl, lk, hcd, ⟨cx, cy, cz, hcc⟩, ⟨kx, ky, vs, kz, file, tf, hco, hvs, hfile⟩⟩ := F.ex
  have KX : K.In s.heap := e0.mod.kin.keeps fun b o e => (e0.bs b o e).1
  have KB : K.In base := e0.mod.kin
  have lim : s.heap.NoLimit := e0.mod.nolimit.keeps fun b o e => (e0.bs b o e).1
  refine PySem.ks_codeAny_call_defAt (body := defBody sBad) (binds := (["self", "part"] : List Str).zip us) hr.depth (KX _ _ lk) rfl lim (PySem.W.codeRec_of KX hcd) rfl hb ?_ ?_ (fun h₀ hns kp => ?_)
  · intro y hy
    exact scBad.nocell y hy
  · rintro ⟨n, v⟩ hy
    exact scBad.par n (List.of_mem_zip hy).1
  -- the body's state
  have C : CellsAt [(("__class__" : Str), cc)] (["__class__"] : List Str) [some (.ref CB)] s.heap H := by
    refine ⟨rfl, fun y c' e => ?_, fun x y c' e1 e2 => ?_, fun i y hi => ?_⟩
    · have hc : c' = cc := by
        by_cases h : y = "__class__"
        · subst h
          exact (Option.some.inj e).symm
        · have e' : (y == ("__class__" : Str)) = false := by simpa using h
          simp [List.lookup, e'] at e
      subst hc
      exact ⟨(e0.bs _ _ (KB _ _ hcc)).2, _, _, KX _ _ hcc, rfl⟩
    · have one : ∀ y : Str, ([(("__class__" : Str), cc)] : List (Str × Addr)).lookup y = some c' → y = "__class__" := fun y e => by
        by_cases h : y = "__class__"
        · exact h
        · have e' : (y == ("__class__" : Str)) = false := by simpa using h
          simp [List.lookup, e'] at e
      rw [one x e1, one y e2]
    · cases i with
      | zero =>
        have hy : y = "__class__" := (Option.some.inj hi).symm
        subst hy
        refine ⟨cc, rfl, fun v hv => ?_⟩
        have : v = .ref CB := (Option.some.inj (Option.some.inj hv)).symm
        subst this
        exact ⟨_, rfl, _, KX _ _ hcc, rfl⟩
      | succ i => simp at hi
  have I : Inv (ncx CX PySem.Challenge.pw_busyfloor_k74_whole_hasty_rounds w K mg base ["self", "part", "__class__"] ⟨"__init__", "BadWeb.__init__", defArgs sBad, defBody sBad, defScope sBad, [("__class__", cc)], c⟩ fI A outer s H E) []
      (startF ["self", "part", "__class__"] [.ref a, .str z] [some (.ref CB)]) H { s with heap := h₀, toks := s.toks + ((["self", "part"] : List Str).zip us).length } := inv_startN scBad hr.hd e0 rfl r C hns kp
  have htop : (PySem.Challenge.pw_busyfloor_k74_whole_hasty_rounds.main.scope.names.lookup ("super" : Str)).isSome = false := by decide +kernel
  have hf : h₀.get? fI = some _ := kp _ _ (KX _ _ lk)
  have hc : h₀.get? c = some _ := kp _ _ (KX _ _ hco)
  have hcl : h₀.get? cc = some _ := kp _ _ (KX _ _ hcc)
  refine PySem.ks_wpAt_execs_cons (PySem.ks_wpAt_Expr_any ?_)
  refine super_init (a := a) (C := CB) T.oxB rfl rfl rfl rfl hf rfl rfl rfl hc rfl hvs hfile htop gsuper rfl ⟨_, hcl, rfl⟩ rfl rfl rfl F.mr F.st F.su F.sb I ha (fun s1 I1 => ?_)
  have body2 : PSs (ncx CX PySem.Challenge.pw_busyfloor_k74_whole_hasty_rounds w K mg base ["self", "part", "__class__"] ⟨"__init__", "BadWeb.__init__", defArgs sBad, defBody sBad, defScope sBad, [("__class__", cc)], c⟩ fI A outer s H E)
      ((defBody sBad).drop 1) (tOst K "part" (tVar 0) (tVar 1)) := pss_one (ps_ost (pv 0) (pv 1))
  refine PySem.wpAt_of_wpAny (wpAny_mono (body2.run [] s1 _ H { nx := fun _ H' => Q .non H', rt := Q } I1 ?_) (fun fl s' hs => ?_) fun e s' hs => hs)
  · refine ⟨_, rfl, _, rfl, a, CB, rfl, T.oxB, T.nPart, .inl ⟨ha, fun dx h1 h2 => hq dx h1 h2⟩⟩
  · cases fl with
    | ret u =>
      obtain ⟨v, σ', H', J, rv, q⟩ := hs
      exact ⟨v, H', J.os, J.bare, J.base, J.hok, rv, q⟩
    | next =>
      obtain ⟨σ', H', J, q⟩ := hs
      exact ⟨.non, H', J.os, J.bare, J.base, J.hok, rfl, q⟩
    | brk =>
      obtain ⟨_, _, _, q⟩ := hs
      exact False.elim q
    | cont =>
      obtain ⟨_, _, _, q⟩ := hs
      exact False.elim q
end
end Bz

set_option maxHeartbeats 4000000
/-! ### sorted of a tuple, at the library's level -/
namespace BzS
open PySem PySem.W PySem.Calls PyProof.Rows
section
variable {prog : Program} {w : World} {A : Around} {E : Value → Shared → Prop} {s : Shared}
theorem collect_tup {l : Addr} {vs : List Value} {Q : List Value → Shared → Prop} (hl : IsTup s.heap l vs.toArray)
    (h : Q vs { s with heap := (s.heap.push (seqObj "list" #[] 0)).update s.heap.objs.size (Obj.mapSeq (· ++ vs.toArray)) }) (hsz : vs.length ≤ sizeLine) :
    wpAny (model prog w) A (collect (.ref l)) Q E s := by
  obtain ⟨o, ho, hc, n, hd⟩ := id hl
  unfold collect
  refine wpAny_bind (wpAny_runValue (codeAny_builtin entry_proto_collect' ?_))
  show wpAny _ _ (do again (.builtin "list.__iadd__" ⟨[← newList [], .ref l], []⟩)) _ _ s
  refine wpAny_bind (wpAny_newList (wpAny_pure ⟨Code.quiet_builtin _ (by decide +kernel), codeAny_builtin entry_list_iadd' ?_⟩))
  show wpAny _ _ (Builtin.List.listExtendWith (.ref s.heap.objs.size) (.ref l) (.ref s.heap.objs.size)) _ _ { s with heap := s.heap.push (seqObj "list" #[] 0) }
  unfold Builtin.List.listExtendWith
  have ho' : (s.heap.push (seqObj "list" #[] 0)).get? l = some o := Heap.get?_push_of_some _ ho
  refine wpAny_bind (wpAny_typeOf (T := "tuple") ⟨o, ho', hc⟩ ?_)
  have ht : (Value.type "tuple" == Value.type "tuple") = true := by rfl
  rw [if_pos (by rw [ht]; simp)]
  refine wpAny_bind (listItems_at ho' hd ?_)
  refine wpAny_bind (listItems_at (xs := #[]) (n := 0) (Heap.get?_push_size _ rfl) rfl ?_)
  rw [if_neg (by simp)]
  refine wpAny_bind (listUpdate_at (xs := #[]) (n := 0) (Heap.get?_push_size _ rfl) rfl ?_ (Nat.zero_le _) (by show (#[] ++ vs.toArray).size ≤ sizeLine + 1; simp only [Array.size_append, List.size_toArray, List.length_nil]; omega))
  refine wpAny_pure ?_
  show wpAny (model prog w) A (do
      let o ← load s.heap.objs.size
      match o.data with
      | .seq xs _ => pure xs.toList
      | _ => unsupported "internal:collect") Q E { s with heap := (s.heap.push (seqObj "list" #[] 0)).update s.heap.objs.size (Obj.mapSeq (· ++ vs.toArray)) }
  refine wpAny_bind (wpAny_load (get?_update_seq (Heap.get?_push_size _ rfl) _) ?_)
  show wpAny _ _ (pure ((#[] : Array Value) ++ vs.toArray).toList) Q E _
  rw [show ((#[] : Array Value) ++ vs.toArray).toList = vs by simp]
  exact wpAny_pure h
theorem sortedT_of_sort {l : Addr} {vs : List Value} {Q : Value → Shared → Prop} (hl : IsTup s.heap l vs.toArray) (hL : vs.length ≤ sizeLine)
    (body : ∀ E' : Value → Shared → Prop, wpAny (model prog w) A.in1.in1 (Builtin.«list.sort» ⟨[.ref (s.heap.objs.size + 1)], []⟩) (fun f s' => f = .done (.ret .none) ∧ Q (.ref (s.heap.objs.size + 1)) s') E' { s with heap := copyHeap s.heap vs }) :
    wpAny (model prog w) A (call (.builtin "sorted") [.ref l]) Q E s := by
  refine call_function_entry_kw kind_sorted plain_sorted entry_sorted (args_sorted1 _) ?_
  unfold Builtin.«sorted»
  refine wpAny_bind (m := checkCount "sorted" 1 1 _) (wpAny_pure ?_)
  refine wpAny_bind (collect_tup hl ?_ hL)
  refine wpAny_bind (wpAny_newList ?_ hL)
  have hsz : ((s.heap.push (seqObj "list" #[] 0)).update s.heap.objs.size (Obj.mapSeq (· ++ vs.toArray))).objs.size = s.heap.objs.size + 1 := by
    rw [Heap.size_update, size_push']
  show wpAny _ _ _ _ _ { s with heap := copyHeap s.heap vs }
  rw [hsz]
  refine wpAny_bind (wpAny_holding (wpAny_call_entry_kw slot_list_sort ⟨_, copyHeap_at s.heap vs, rfl⟩ entry_list_sort ?body (args_list_sort _)))
  case body =>
    show wpAny (model prog w) A.in1.in1 (Builtin.«list.sort» ⟨[.ref (s.heap.objs.size + 1)], []⟩) _ _ _
    refine wpAny_mono (body _) (fun f s' hf => ?_) fun _ _ e => e
    obtain ⟨rfl, hq⟩ := hf
    exact ⟨_, rfl, wpAny_pure ⟨_, rfl, hq⟩⟩
end
end BzS
namespace Bz
open PySem PySem.Spec PyProof.Rows L2
section
variable {X : Cx}
/-- sorted(t), t a tuple of ints -/
def rSortedTI (K : PySem.W.Frag) : List V → Hp → VK → Prop := fun vs H Q => ∃ (a : Addr) (ns : List Int), vs = [V.ref a] ∧ SqT K H a (ns.map V.int) ∧
  ∀ (ns' : List Int) (p : Addr), ns'.Perm ns → ns'.Pairwise (· ≤ ·) → H p = none → Q (.ref p) (upd H p (.lst (ns'.map V.int)))
theorem cr_sortedTI : CallR X (.builtin "sorted") (rSortedTI X.K) := by
  intro pins s σ H vs us Q I r h
  obtain ⟨a, ns, rfl, hs, q⟩ := h
  obtain ⟨its, rv, hl, hz⟩ := I.tuple hs
  rw [Vals.ref1 r]
  have hi := rv.ints
  have hzi : its.length ≤ sizeLine := by rw [← rv.length]; exact hz
  refine BzS.sortedT_of_sort hl hzi fun E' => SrtO.list_sort_ord (s := { s with heap := PySem.W.copyHeap s.heap its }) SrtO.swo_int (PySem.W.copyHeap_at s.heap its) hzi (fun h2 => SrtO.ints_sortable hi h2) fun out h1 h2 => ⟨rfl, ?_⟩
  obtain ⟨k1, k2, k3⟩ := SrtO.ints_out hi h1 h2
  obtain ⟨ep, he'⟩ := PyProof.Rows.sortedAll_at s.heap its out.toArray
  have hlen : ((out.map SrtO.iv).map V.int).length ≤ sizeLine := by
    rw [List.length_map, k2.length_eq]
    rw [List.length_map] at hz
    exact hz
  exact ⟨.ref _, upd H (s.heap.objs.size + 1) (.lst ((out.map SrtO.iv).map V.int)), I.laid (t' := s.toks) (fun _ _ => PyProof.Rows.sortedAll_old) (Nat.le_succ _) ⟨hlen, out, ep, vals_of_ints k1, he'⟩, rfl, q _ _ k2 k3 (I.hok.fresh (Nat.le_succ _))⟩
end
end Bz

namespace Bz
open PySem PySem.Spec PyProof.Rows L2
section
variable {X : Cx}
/-! ### sorted of a list of data -/
theorem DpAll.length {K : PySem.W.Frag} {H : Hp} : ∀ {vs : List V} {ds : List PyData}, DpAll K H vs ds → vs.length = ds.length
  | [], _, h => by cases h; rfl
  | _ :: _, _, h => by
    cases h with
    | cons _ r => simp [DpAll.length r]
theorem DpAll.of_zip {K : PySem.W.Frag} {H : Hp} : ∀ (l : List (V × PyData)), (∀ p ∈ l, Dp K H p.1 p.2) → DpAll K H (l.map (·.1)) (l.map (·.2))
  | [], _ => .nil
  | p :: l, h => .cons (h p (List.mem_cons_self ..)) (DpAll.of_zip l fun q hq => h q (List.mem_cons_of_mem _ hq))
theorem DpAll.zip {K : PySem.W.Frag} {H : Hp} : ∀ {vs : List V} {ds : List PyData}, DpAll K H vs ds → (∀ p ∈ vs.zip ds, Dp K H p.1 p.2) ∧ (vs.zip ds).map (·.1) = vs ∧ (vs.zip ds).map (·.2) = ds
  | [], _, h => by cases h; exact ⟨fun p hp => by simp at hp, rfl, rfl⟩
  | v :: vs, _, h => by
    cases h with
    | cons a r =>
      obtain ⟨h1, h2, h3⟩ := DpAll.zip r
      refine ⟨fun p hp => ?_, by simp [h2], by simp [h3]⟩
      rcases List.mem_cons.mp (by simpa using hp) with rfl | hp
      · exact a
      · exact h1 p hp
theorem each_of_vals {K : PySem.W.Frag} {H : Hp} : ∀ {us : List Value} (l : List (V × PyData)), Vals (l.map (·.1)) us → PySem.W.EachIs (fun v (b : V × PyData) => RelV b.1 v) us l
  | _, [], h => by
    have h' : Vals [] _ := h
    cases h'
    exact .nil
  | _, p :: l, h => by
    have h' : Vals (p.1 :: l.map (·.1)) _ := h
    cases h' with
    | cons a r => exact .cons a (each_of_vals (K := K) (H := H) l r)
theorem vals_of_each : ∀ {us : List Value} {l : List (V × PyData)}, PySem.W.EachIs (fun v (b : V × PyData) => RelV b.1 v) us l → Vals (l.map (·.1)) us
  | _, _, .nil => .nil
  | _, _, .cons a r => .cons a (vals_of_each r)
end
end Bz

namespace Bz
open PySem PySem.Spec PyProof.Rows L2
section
variable {X : Cx}
theorem perm_le_one {α : Type} {l m : List α} (h : l.Perm m) (hl : m.length ≤ 1) : l = m := by
  cases m with
  | nil => exact List.Perm.eq_nil h
  | cons x r =>
    cases r with
    | nil => exact List.perm_singleton.mp h
    | cons y r => simp at hl
theorem ms_le_one {α : Type} {le : α → α → Bool} {l : List α} (hl : l.length ≤ 1) : l.mergeSort le = l := by
  cases l with
  | nil => simp
  | cons x r =>
    cases r with
    | nil => simp
    | cons y r => simp at hl
/-- the order that sorted keeps -/
abbrev dLe : PyData → PyData → Bool := PySem.W.dataLe false id
/-- sorted(xs), xs a list of alike data (two or more: of nonempty tuples, or of no tuples) -/
def rSortedD (K : PySem.W.Frag) : List V → Hp → VK → Prop := fun vs H Q => ∃ (a : Addr) (xs : List V) (ds : List PyData), vs = [V.ref a] ∧ SqL K H a xs ∧ DpAll K H xs ds ∧ PySem.W.AllAlike ds ∧ (2 ≤ ds.length → PySem.W.Sortable ds) ∧ (∀ d ∈ ds, d.depth ≤ 8) ∧
  ∀ (ys : List V) (p : Addr), H p = none → DpAll K H ys (ds.mergeSort dLe) → ys.length ≤ xs.length → Q (.ref p) (upd H p (.lst ys))
theorem cr_sortedD (hu : X.A.units + 64 < cLine) : CallR X (.builtin "sorted") (rSortedD X.K) := by
  intro pins s σ H vs us Q I r h
  obtain ⟨a, xs, ds, rfl, hs, hd, hal, hso, hdp, q⟩ := h
  obtain ⟨its, rv, hl, hz⟩ := I.list hs
  rw [Vals.ref1 r]
  have hzi : its.length ≤ sizeLine := by rw [← rv.length]; exact hz
  have hlen := DpAll.length hd
  by_cases h2 : 2 ≤ ds.length
  · obtain ⟨hm, e1, e2⟩ := DpAll.zip hd
    have rv' : Vals ((xs.zip ds).map (·.1)) its := by rw [e1]; exact rv
    have eR := each_of_vals (K := X.K) (H := H) (xs.zip ds) rv'
    have er : PySem.W.EachIs (fun v (b : V × PyData) => ∃ as, Reads s.heap v b.2 as) its (xs.zip ds) := by
      have go : ∀ {us : List Value} {l : List (V × PyData)}, PySem.W.EachIs (fun v (b : V × PyData) => RelV b.1 v) us l → (∀ p ∈ l, Dp X.K H p.1 p.2) → PySem.W.EachIs (fun v (b : V × PyData) => ∃ as, Reads s.heap v b.2 as) us l := by
        intro us l e hm
        induction e with
        | nil => exact .nil
        | cons a r ih => exact .cons (Dp.reads I _ _ _ (hm _ (List.mem_cons_self ..)) a) (ih fun p hp => hm p (List.mem_cons_of_mem _ hp))
      exact go eR hm
    have hbl : (xs.zip ds).length = ds.length := by
      rw [← e2]
      simp
    refine PySem.W.sorted_data (enc := fun b : V × PyData => b.2) hl.isList eR er (by rw [e2]; exact hal) (by rw [e2]; exact hso h2) (by rw [hbl, ← hlen]; exact hz) (fun b hb => ?_) fun out ho hout => ?_
    · have : b.2 ∈ ds := by
        rw [← e2]
        exact List.mem_map_of_mem hb
      have := hdp _ this
      omega
    · obtain ⟨ep, he'⟩ := PyProof.Rows.sortedAll_at s.heap its (List.toArray out)
      have hv := vals_of_each hout
      have hsz : (((xs.zip ds).mergeSort (PySem.W.dataLe false fun b : V × PyData => b.2)).map (·.1)).length = ds.length := by
        rw [List.length_map, (List.mergeSort_perm _ _).length_eq, hbl]
      have hD : DpAll X.K H (((xs.zip ds).mergeSort (PySem.W.dataLe false fun b : V × PyData => b.2)).map (·.1)) (ds.mergeSort dLe) := by
        have e3 : ((xs.zip ds).mergeSort (PySem.W.dataLe false fun b : V × PyData => b.2)).map (·.2) = ds.mergeSort dLe := by
          have e5 := PySem.W.sort_maps (r := PySem.W.dataLe false fun b : V × PyData => b.2) (s := dLe) (fun b : V × PyData => b.2) (l := xs.zip ds) fun a _ b _ => rfl
          rw [e2] at e5
          exact e5
        rw [← e3]
        exact DpAll.of_zip _ fun p hp => hm p ((List.mergeSort_perm _ _).mem_iff.mp hp)
      refine ⟨.ref _, upd H (s.heap.objs.size + 1) (.lst _), I.laid (t' := s.toks) (fun _ _ => PyProof.Rows.sortedAll_old) (Nat.le_succ _) ⟨?_, out, ep, hv, he'⟩, rfl, q _ _ (I.hok.fresh (Nat.le_succ _)) hD ?_⟩
      · rw [hsz, ← hlen]
        exact hz
      · rw [hsz, hlen]
        exact Nat.le_refl _
  · have hO : SrtO.Swo (fun _ _ : Value => false) := ⟨fun _ _ h => Bool.noConfusion h, fun _ _ _ _ _ => rfl⟩
    refine SrtO.sorted_ord hO hl.isList hzi (fun h3 => absurd (by rw [← hlen, rv.length]; exact h3) h2) fun out _ hb => ?_
    have eo : out = its := by
      exact perm_le_one hb.perm (by rw [← rv.length, hlen]; omega)
    subst eo
    obtain ⟨ep, he'⟩ := PyProof.Rows.sortedAll_at s.heap out out.toArray
    have e4 : ds.mergeSort dLe = ds := ms_le_one (by omega)
    exact ⟨.ref _, upd H (s.heap.objs.size + 1) (.lst xs), I.laid (t' := s.toks) (fun _ _ => PyProof.Rows.sortedAll_old) (Nat.le_succ _) ⟨hz, out, ep, rv, he'⟩, rfl, q _ _ (I.hok.fresh (Nat.le_succ _)) (by rw [e4]; exact hd) (Nat.le_refl _)⟩
end
end Bz

namespace Bz
open PySem PySem.Spec PyProof.Rows L2
section
variable {X : Cx}
/-! ### x in a tuple of data -/
def rInT (K : PySem.W.Frag) : R2 := fun x y H Q => ∃ d ds, Dp K H x d ∧ Dp K H y (.tuple ds) ∧ SeqAt.shaped d = true ∧ SeqAt.shaped (.tuple ds) = true ∧ Q (.bl (ds.any fun z => PyData.eqv z d)) H
theorem op_inT (hu : X.A.units + 65 < cLine) : OpR X (compareOp .In) (rInT X.K) := by
  intro pins s σ H x y v u Q I rx ry h
  obtain ⟨d, ds, hd, he, sd, se, q⟩ := h
  obtain ⟨as, r1⟩ := Dp.reads I d x v hd rx
  obtain ⟨bs, r2⟩ := Dp.reads I (.tuple ds) y u he ry
  exact SeqAt.in_tuple_reads r2 r1 (SeqAt.canLay_of_shaped se) (SeqAt.canLay_of_shaped sd) (room_in_shaped sd hu) ⟨.bl _, H, I, rfl, q⟩
end
end Bz

set_option maxHeartbeats 1000000
/-! ### != by object's, over an own __eq__ -/
namespace BzS
open PySem PySem.W PySem.Calls PyProof.Rows
section
variable {prog : Program} {w : World} {A : Around} {E : Value → Shared → Prop} {s : Shared} {K : Frag} {x C L f : Addr} {h₀ : Heap} {m : Str → Option Value} {ox : Obj} {od : Option Obj} {b tb : Value}
theorem ifBound_ne {M : Model} {args : List Value} {Q : Option Value → Shared → Prop} (X : K.In s.heap) (I : InstAt s.heap x ox C od) (hs : findIn K (.ref C) "__ne__" = some (some (.builtin "object.__ne__")))
    (h : wpAny M A (call (.builtin "object.__ne__") (.ref x :: args)) (fun v => Q (some v)) E s) : wpAny M A (callSpecialIfBound? (.ref x) "__ne__" args) Q E s := by
  simp only [callSpecialIfBound?, bindSpecialIfBound?]
  refine wpAny_holding (wpAny_bind (wpAny_bind (wpAny_bind (I.type.here ((looks_findIn X hs).here ?_)))))
  refine wpAny_bind (wpAny_askSetting (wpAny_ite ?_))
  have fin : wpAny M A (call (.builtin "object.__ne__") ([.ref x] ++ args) >>= fun v => pure (some v)) Q E s := wpAny_bind (wpAny_mono h (fun v s' h' => wpAny_pure h') fun _ _ h' => h')
  split
  · exact wpAny_bind (wpAny_of_eq (PySem.F.cmp_object.ne.bind _) (wpAny_pure (by exact fin)))
  · exact wpAny_tryCatch (wpAny_bind (wpAny_of_eq (PySem.F.cmp_object.ne.bind _) (wpAny_pure (by exact fin))))
theorem call_ne {Q : Value → Shared → Prop} (hu : A.in1.units < cLine) (X : K.In s.heap) (I : InstAt s.heap x ox C od) (he : findIn K (.ref C) "__eq__" = some (some (.ref f))) (hf : isFn K (.ref f) = true) (hm : mroIn K C (.type "object") = some true)
    (h : wpAny (model prog w) A.in1 (call (.ref f) [.ref x, b]) (fun v s' => ∃ k, v = .bool k ∧ Q (.bool (!k)) s') E s) : wpAny (model prog w) A (call (.builtin "object.__ne__") [.ref x, b]) Q E s := by
  have sub : Looks (model prog w) s.heap (isInstance (.ref x) (.type "object")) true := I.type.andThen (looks_mroIn X hm)
  refine wpAny_call (codeAny_call_builtin PySem.F.cmp_object.ne.plain PySem.F.cmpEntry_ne (@check_slot (model prog w) _ _ s "object.__ne__" "object" "__ne__" (.ref x) [b] [] _ PySem.F.cmpKind_ne PySem.F.cmpSplit_ne sub (PySem.F.cmpArgs_ne (.ref x) b) ?_))
  unfold Builtin.«object.__ne__»
  refine wpAny_bind (wpAny_of_eq (a := (.ref x, [b])) (by rfl) ?_)
  refine wpAny_bind (wpAny_cRoomFor hu ?_)
  refine wpAny_bind (ifBound_K X I he hf (wpAny_mono h (fun v s' hv => ?_) fun _ _ e => e))
  obtain ⟨k, rfl, q⟩ := hv
  exact wpAny_bind (wpAny_truthy_bool (wpAny_pure q))
theorem ne_K {Q : Value → Shared → Prop} (hu : A.in1.units < cLine) (F : Fr h₀ L s.heap m) (X₀ : K.In h₀) (I : InstAt s.heap x ox C od) (hb : Looks (model prog w) s.heap (typeOf b) tb) (hn : notFirst K C tb = true)
    (hs : findIn K (.ref C) "__ne__" = some (some (.builtin "object.__ne__"))) (he : findIn K (.ref C) "__eq__" = some (some (.ref f))) (hf : isFn K (.ref f) = true) (hm : mroIn K C (.type "object") = some true)
    (h : wpAny (model prog w) A.in1 (call (.ref f) [.ref x, b]) (fun v s' => ∃ k, v = .bool k ∧ Q (.bool (!k)) s') E s) : wpAny (model prog w) A (richCompare .NotEq (.ref x) b) Q E s := by
  have X := X₀.keeps F.keep
  have hu0 : A.units < cLine := Nat.lt_of_le_of_lt (by show A.units ≤ A.units + 1; exact Nat.le_succ _) hu
  have one : wpAny (model prog w) A (tryCompare (.ref x) "__ne__" b) (fun r s' => ∃ v, r = some v ∧ Q v s') E s := by
    unfold tryCompare
    refine wpAny_bind (ifBound_ne X I hs (call_ne hu X I he hf hm (wpAny_mono h (fun v s' hv => ?_) fun _ _ e => e)))
    obtain ⟨k, rfl, q⟩ := hv
    exact ⟨k, rfl, wpAny_pure ⟨_, rfl, q⟩⟩
  unfold richCompare
  simp only [oneThing_ref]
  refine wpAny_holding (wpAny_bind (wpAny_cRoomFor hu0 ?_))
  refine wpAny_bind (I.type.here (wpAny_bind (hb.here ?_)))
  split
  · rename_i q
    have e : subIn K tb (.ref C) = some false := by
      rcases Bool.or_eq_true_iff.mp hn with e | e
      · rw [beq_iff_eq.mp e] at q; simp at q
      · exact beq_iff_eq.mp e
    refine wpAny_bind ((looks_subIn X e).here ?_)
    simp only [Bool.false_eq_true, if_false]
    refine wpAny_bind (wpAny_mono one (fun r s' z => ?_) fun _ _ e => e)
    obtain ⟨v, rfl, hq⟩ := z
    exact wpAny_pure hq
  · refine wpAny_bind (wpAny_pure ?_)
    simp only [Bool.false_eq_true, if_false]
    refine wpAny_bind (wpAny_mono one (fun r s' z => ?_) fun _ _ e => e)
    obtain ⟨v, rfl, hq⟩ := z
    exact wpAny_pure hq
end
end BzS
namespace Bz
open PySem PySem.Spec PyProof.Rows L2
section
variable {X : Cx} {CX : CXT} {k : Nat} {C f : Addr} {fd : FuncData} {ps : List Str} {sp : Sp} {E : XK}
/-- o == y by o's own __eq__; y of the class itself, or of another type that is no heir of it -/
def rEqOwn (C : Addr) (K : PySem.W.Frag) (sp : Sp) (E : XK) (neg : Bool) : R2 := fun x y H Q => ∃ (a dx : Addr) (fs : List (Str × V)), x = .ref a ∧ H a = some (.ins C dx fs) ∧
  ((∃ b dy gs, y = .ref b ∧ H b = some (.ins C dy gs)) ∨ ∃ b ys, y = .ref b ∧ SqT K H b ys) ∧ sp [x, y] H (fun v H' => ∃ c, v = .bl c ∧ Q (.bl (if neg then !c else c)) H') E
theorem tup_typed {pins : List (Addr × Obj)} {σ : L2.St} {H : Hp} {s : Shared} {b : Addr} {ys : List V} (I : Inv X pins σ H s) (h : SqT X.K H b ys) : PySem.W.Looks (model X.prog X.w) s.heap (typeOf (.ref b)) (.type "tuple") := by
  obtain ⟨its, rv, ⟨o, ho, hc, n, hd⟩, _⟩ := I.tuple h
  intro A Q E s' k q
  exact wpAny_typeOf (T := "tuple") ⟨o, k _ _ ho, hc⟩ q
theorem op_eqOwn (F : FnOk X.prog X.w X.K X.mg X.base CX k f fd ps sp) (hr : Room k X.A) (hs : PySem.W.findIn X.K (.ref C) "__eq__" = some (some (.ref f))) (hf : PySem.W.isFn X.K (.ref f) = true) (hb : Binds X.K fd ps []) (hx : Passes CX X E)
    (ht : PySem.W.subIn X.K (.type "tuple") (.ref C) = some false) : OpR X (compareOp .Eq) (rEqOwn C X.K sp E false) := by
  intro pins s σ H x y v u Q I rx ry h
  obtain ⟨a, dx, fs, rfl, ha, hy, hq⟩ := h
  cases rx
  obtain ⟨mA, J, _⟩ := ins_get I.hok ha
  obtain ⟨od, J, _⟩ := J.look
  obtain ⟨m, hF⟩ := I.fr
  show wpAny (model X.prog X.w) X.A (richCompare .Eq (.ref a) u) (EP X pins σ Q) X.xe s
  have go : ∀ tb, PySem.W.Looks (model X.prog X.w) s.heap (typeOf u) tb → PySem.W.notFirst X.K C tb = true → wpAny (model X.prog X.w) X.A (richCompare .Eq (.ref a) u) (EP X pins σ Q) X.xe s := fun tb hl hn => by
    refine PySem.W.cmp_K (op := .Eq) (tb := tb) hr.units0 hF I.ok.mod.kin J hl hn hs hf ?_
    have hq' : sp ([V.ref a, y] ++ []) H (fun v H' => ∃ c, v = .bl c ∧ Q (.bl c) H') E := hq
    refine wpAny_mono (run_fn (vs := [V.ref a, y]) (us := [Value.ref a, u]) F hr hb .nil hx I (.cons rfl (.cons ry .nil)) hq') (fun r s' hv => ?_) fun _ _ e => e
    obtain ⟨z, H', I', rz, c, ec, q⟩ := hv
    subst ec
    cases rz
    exact ⟨.bl c, H', I', rfl, q⟩
  rcases hy with ⟨b, dy, gs, rfl, hb'⟩ | ⟨b, ys, rfl, hb'⟩
  · cases ry
    obtain ⟨mB, J', _⟩ := ins_get I.hok hb'
    obtain ⟨od', J', _⟩ := J'.look
    exact go (.ref C) J'.type (by simp [PySem.W.notFirst])
  · cases ry
    exact go (.type "tuple") (tup_typed I hb') (by simp [PySem.W.notFirst, ht])
theorem op_neOwn (F : FnOk X.prog X.w X.K X.mg X.base CX k f fd ps sp) (hr : Room (k + 1) X.A) (hs : PySem.W.findIn X.K (.ref C) "__eq__" = some (some (.ref f))) (hf : PySem.W.isFn X.K (.ref f) = true) (hb : Binds X.K fd ps []) (hx : Passes CX X E)
    (hne : PySem.W.findIn X.K (.ref C) "__ne__" = some (some (.builtin "object.__ne__"))) (hm : PySem.W.mroIn X.K C (.type "object") = some true)
    (ht : PySem.W.subIn X.K (.type "tuple") (.ref C) = some false) : OpR X (compareOp .NotEq) (rEqOwn C X.K sp E true) := by
  intro pins s σ H x y v u Q I rx ry h
  obtain ⟨a, dx, fs, rfl, ha, hy, hq⟩ := h
  cases rx
  obtain ⟨mA, J, _⟩ := ins_get I.hok ha
  obtain ⟨od, J, _⟩ := J.look
  obtain ⟨m, hF⟩ := I.fr
  show wpAny (model X.prog X.w) X.A (richCompare .NotEq (.ref a) u) (EP X pins σ Q) X.xe s
  have go : ∀ tb, PySem.W.Looks (model X.prog X.w) s.heap (typeOf u) tb → PySem.W.notFirst X.K C tb = true → wpAny (model X.prog X.w) X.A (richCompare .NotEq (.ref a) u) (EP X pins σ Q) X.xe s := fun tb hl hn => by
    refine BzS.ne_K (tb := tb) hr.in1.units0 hF I.ok.mod.kin J hl hn hne hs hf hm ?_
    have sb : Sub X k X.A.in1 := (show Sub X (k + 1) X.A from ⟨hr, rfl⟩).in1
    have e0 : Env0 X.prog X.w X.K X.mg X.base X.A.in1 X.stack s H := I.env0.in1
    have hl' := F.len _ _ _ _ hq
    have r2 : Vals [V.ref a, y] [Value.ref a, u] := .cons rfl (.cons ry .nil)
    refine wpAny_call (codeAny_mono (F.run X.A.in1 X.stack s H ⟨[.ref a, u], []⟩ [.ref a, u] [.ref a, y] _ E sb.room e0 (by
      have := hb s [.ref a, u] I.kIn (by simpa using hl')
      simpa using this) r2 hq) fun r s' hq' => ?_)
    cases r with
    | error e => exact hx pins σ H s e s' I hq'
    | ok fl =>
      cases fl with
      | ret w =>
        obtain ⟨z, H', I', rz, c, ec, q⟩ := I.after hq'
        subst ec
        cases rz
        exact ⟨c, rfl, .bl (!c), H', I', rfl, q⟩
      | next => exact False.elim hq'
      | brk => exact False.elim hq'
      | cont => exact False.elim hq'
  rcases hy with ⟨b, dy, gs, rfl, hb'⟩ | ⟨b, ys, rfl, hb'⟩
  · cases ry
    obtain ⟨mB, J', _⟩ := ins_get I.hok hb'
    obtain ⟨od', J', _⟩ := J'.look
    exact go (.ref C) J'.type (by simp [PySem.W.notFirst])
  · cases ry
    exact go (.type "tuple") (tup_typed I hb') (by simp [PySem.W.notFirst, ht])
end
end Bz

set_option maxHeartbeats 1000000
namespace Bz
open PySem PySem.Spec PyProof.Rows L2
section
variable {X : Cx} {CX : CXT} {k : Nat} {f C : Addr} {fd : FuncData} {ps : List Str} {sp : Sp} {E : L2.St → XK} {x : Str} {p pos : Pos} {e : Expr} {es : List Expr} {t : TA}
/-- X(), X an own exception without own __init__ -/
theorem pmk_own0 {bmB : List Value} {B newId initId : String} (F : ExcBaseFacts B newId initId bmB) (q : PySem.W.excIn X.K C bmB newId = true) (gC : X.mg x = some (.ref C)) (kC : PySem.W.keepIn X.K (.ref C) = true) (r : Raises X (.ref C)) (hg : Gl X x)
    (hdb : (x == ("__debug__" : Str)) = false := by decide) : PMk X (.Call (.Name x p) [] [] pos) (fun _ H Q => Q (.ref C) none H) := by
  intro pins s σ H Q I h
  refine wpAny_Call_Name_kw (ld_glob I hg gC ?_ hdb)
  refine PySem.W.callWith_K0 I.kIn kC ?_
  show wpAny _ _ (call (.ref C) []) _ _ _
  obtain ⟨bm, N, nm, qn, bs, hdct, sn, sub, ab, col, dd, k0, k1, k2, k3, k5, mN, hC, hN, hni, T⟩ := exc_obj I.kIn q
  refine wpAny_call_exc_subT F T hC hN hni (fun h' e hm => ?_) (Nat.zero_le _)
  exact mk_of I hm r h (I.hok.gone hm.new)
/-- C(e, ..) where what is raised is wished for at the caller's slots -/
def tMakeS (C : Addr) (sp : Sp) (E : L2.St → XK) (t : TA) : TE := fun σ H Q => t σ H fun vs H1 => ∀ x dx, H1 x = none → H1 dx = none → dx ≠ x →
  sp (.ref x :: vs) (upd (upd H1 dx (.own x)) x (.ins C dx [])) (fun v H2 => v = .non ∧ Q (.ref x) H2) (E σ)
theorem run_makeS {pins : List (Addr × Obj)} {σ : L2.St} {H : Hp} {s : Shared} {Q : VK} {us : List Value} {vs : List V} (M : Mk X.K C f) (F : FnOk X.prog X.w X.K X.mg X.base CX k f fd ps sp) (hr : Room (k + 1) X.A) (hb : Binds X.K fd ps [])
    (hx : PassesAt CX X σ (E σ)) (I : Inv X pins σ H s) (r : Vals vs us)
    (h : ∀ x dx, H x = none → H dx = none → dx ≠ x → sp (.ref x :: vs) (upd (upd H dx (.own x)) x (.ins C dx [])) (fun v H2 => v = .non ∧ Q (.ref x) H2) (E σ)) :
    wpAny (model X.prog X.w) X.A (call (.ref C) us) (EP X pins σ Q) X.xe s := by
  have hq := h (s.heap.objs.size + 1) s.heap.objs.size (I.hok.fresh (Nat.le_succ _)) (I.hok.fresh (Nat.le_refl _)) (Nat.ne_of_lt (Nat.lt_succ_self _))
  have I2 := Inv.made (C := C) I
  have r2 : Vals (V.ref (s.heap.objs.size + 1) :: vs) (Value.ref (s.heap.objs.size + 1) :: us) := .cons rfl r
  have hl : (Value.ref (s.heap.objs.size + 1) :: us).length = ps.length := by
    have e := r2.length
    rw [F.len _ _ _ _ hq] at e
    exact e.symm
  have hb2 := hb _ (Value.ref (s.heap.objs.size + 1) :: us) I2.kIn (by simpa using hl)
  rw [List.append_nil] at hb2
  refine wpAny_call (make_map (f := f) I.kIn M.makes M.init (beq_iff_eq.mp M.fn) (codeAny_mono (F.run _ X.stack _ _ ⟨Value.ref (s.heap.objs.size + 1) :: us, []⟩ (Value.ref (s.heap.objs.size + 1) :: us) _ _ (E σ) (hr.make C us [])
    (I2.env0.make C us []) hb2 r2 hq) fun r s' hq' => ?_))
  cases r with
  | error e => exact hx pins _ _ e s' I2 hq'
  | ok fl =>
    cases fl with
    | ret u =>
      obtain ⟨v, H', I3, rv, ev, q3⟩ := I2.after hq'
      subst ev
      exact ⟨rv, ⟨V.ref (s.heap.objs.size + 1), H', I3, rfl, q3⟩⟩
    | next => exact False.elim hq'
    | brk => exact False.elim hq'
    | cont => exact False.elim hq'
theorem pe_makeS (M : Mk X.K C f) (F : FnOk X.prog X.w X.K X.mg X.base CX k f fd ps sp) (hr : Room (k + 1) X.A) (hg : Gl X x) (hm : X.mg x = some (.ref C)) (hb : Binds X.K fd ps []) (hx : ∀ σ, PassesAt CX X σ (E σ))
    (ha : PA X (e :: es) t) (hdb : (x == ("__debug__" : Str)) = false := by decide) (he : starEach (e :: es) X.env = (false, eval e X.env) :: starEach es X.env := by rfl) (hpl : (backTo pos (starEach es X.env)).any (·.1) = false := by rfl) :
    PE X (.Call (.Name x p) (e :: es) [] pos) (tMakeS C sp E t) := by
  refine ⟨fun pins s σ H Q I h => ?_⟩
  refine wpAny_Call_Name_kw (ld_glob I hg hm ?_ hdb)
  refine PySem.W.callWith_K (h₀ := X.base) I.ok.mod.kin M.kp (thn (ha.run pos pins s σ H _ I h) fun us s1 ⟨vs, H1, I1, r, q⟩ => ⟨I1.kIn, ?_⟩) he hpl
  exact run_makeS M F hr hb (hx σ) I1 r q
/-- what is walked is a list or a tuple -/
def iSeq (K : PySem.W.Frag) (tl : TE) : TI := fun σ H R => iList K tl σ H R ∨ iTup K tl σ H R
theorem pi_seq {tg l : Expr} {tl : TE} (hl : PE X l tl) : PI X tg l (iSeq X.K tl) := by
  refine ⟨fun pins s σ H R I h => ?_⟩
  rcases h with h | h
  · exact (pi_list hl).run pins s σ H R I h
  · exact (pi_tup hl).run pins s σ H R I h
end
end Bz

set_option maxHeartbeats 1000000
namespace Bz
open PySem PySem.Spec PyProof.Rows L2 Evl
/-! ### evaluations, further -/
/-- evaluates to some value of which P holds behind -/
def EvP (te : TE) (σ : L2.St) (H : Hp) (P : V → Hp → Prop) : Prop := ∀ H1, Ex H H1 → ∀ Q : VK, (∀ v H2, Ex H1 H2 → P v H2 → Q v H2) → te σ H1 Q
/-- evaluates to a new list of which P holds behind -/
def EvLP (te : TE) (σ : L2.St) (H : Hp) (P : List V → Hp → Prop) : Prop := ∀ H1, Ex H H1 → ∀ Q : VK, (∀ p xs H2, H1 p = none → Ex H1 H2 → H2 p = some (.lst xs) → P xs H2 → Q (.ref p) H2) → te σ H1 Q
/-- what is walked: n items, the i-th as Y says -/
def WI (wi : TI) (σ : L2.St) (H : Hp) (n : Nat) (Y : Nat → V → Hp → Prop) : Prop := ∀ H1, Ex H H1 → ∀ R : It → Hp → Prop,
  (∀ (J : It) (H2 : Hp), Ex H1 H2 → (∀ H3, Ex H2 H3 → (∀ i, i < n → J.go i H3) ∧ J.stop n H3 ∧ ∀ i x H4, i < n → J.yld i H3 x H4 → Ex H3 H4 ∧ Y i x H4) → R J H2) → wi σ H1 R
section
variable {K : PySem.W.Frag} {σ : L2.St} {H H' : Hp} {ta tb tc te tl tx : TE} {t u : TT} {x y z v : V} {r r' : R2}
theorem Ev.p (h : Ev te σ H v) : EvP te σ H (fun x _ => x = v) := fun H1 e Q q => h H1 e Q fun H2 e2 => q v H2 e2 rfl
theorem EvP.mono {P : V → Hp → Prop} (e : Ex H H') (h : EvP te σ H P) : EvP te σ H' P := fun H1 e1 => h H1 (e.trans e1)
theorem ev_chain {k l : Bool} (ha : Ev ta σ H x) (hb : Ev tb σ H y) (hc : Ev tc σ H z) (h1 : RV r x y H (.bl k)) (h2 : k = true → RV r' y z H (.bl l)) : Ev (tChain r r' ta tb tc) σ H (.bl (k && l)) := fun H1 e Q q =>
  ha H1 e _ fun H2 e2 => hb H2 (e.trans e2) _ fun H3 e3 => h1 H3 ((e.trans e2).trans e3) _ fun H4 e4 => ⟨k, rfl, by
    cases k with
    | true =>
      show tc σ H4 fun w' H5 => r' y w' H5 Q
      refine hc H4 (((e.trans e2).trans e3).trans e4) _ fun H5 e5 => h2 rfl H5 ((((e.trans e2).trans e3).trans e4).trans e5) _ fun H6 e6 => ?_
      exact q H6 ((((e2.trans e3).trans e4).trans e5).trans e6)
    | false => exact q H4 ((e2.trans e3).trans e4)⟩
theorem rv_orl (h : RV r x y H z) : RV (fun x y H Q => r x y H Q ∨ r' x y H Q) x y H z := fun H1 e Q q => .inl (h H1 e Q q)
theorem rv_orr (h : RV r' x y H z) : RV (fun x y H Q => r x y H Q ∨ r' x y H Q) x y H z := fun H1 e Q q => .inr (h H1 e Q q)
/-- t < u of tuples of ints -/
theorem rv_ltT {a b : Addr} {ns ms : List Int} (ha : SqT K H a (ns.map V.int)) (hb : SqT K H b (ms.map V.int)) : RV (rLtT K) (.ref a) (.ref b) H (.bl (HT.lexLt ns ms)) := rv_val fun H1 e Q q => ⟨a, b, ns, ms, rfl, rfl, ex_t e ha, ex_t e hb, q⟩
/-- len of a tuple, of a list -/
abbrev rLen (K : PySem.W.Frag) : List V → Hp → VK → Prop := fun xs H Q => ∃ x n, xs = [x] ∧ LenV K x H n ∧ Q (.int n) H
theorem ev_lenT {p : Addr} {xs : List V} (ha : Ev ta σ H (.ref p)) (h : SqT K H p xs) : Ev (tCB (rLen K) (tCons ta tNil)) σ H (.int (xs.length : Int)) := fun H1 e Q q =>
  ha H1 e _ fun H2 e2 => ⟨.ref p, xs.length, rfl, .inr ⟨xs, ex_t (e.trans e2) h, rfl⟩, q H2 e2⟩
theorem ev_lenL {p : Addr} {xs : List V} (ha : Ev ta σ H (.ref p)) (h : SqL K H p xs) : Ev (tCB (rLen K) (tCons ta tNil)) σ H (.int (xs.length : Int)) := fun H1 e Q q =>
  ha H1 e _ fun H2 e2 => ⟨.ref p, xs.length, rfl, .inl ⟨xs, ex_l (e.trans e2) h, rfl⟩, q H2 e2⟩
/-- all, any of a new list of truth values; sum of a new list of ints -/
theorem ev_all {bs : List Bool} (h : EvL tl σ H (bs.map V.bl)) : Ev (tCB (rAll K) (tCons tl tNil)) σ H (.bl (bs.all id)) := fun H1 e Q q =>
  h H1 e _ fun p H2 _ e2 h2 => ⟨p, bs, rfl, sq_of h2, q H2 e2⟩
theorem ev_any {bs : List Bool} (h : EvL tl σ H (bs.map V.bl)) : Ev (tCB (rAny K) (tCons tl tNil)) σ H (.bl (bs.any id)) := fun H1 e Q q =>
  h H1 e _ fun p H2 _ e2 h2 => ⟨p, bs, rfl, sq_of h2, q H2 e2⟩
theorem ev_sum {ns : List Int} (h : EvL tl σ H (ns.map V.int)) : Ev (tCB (rSum K) (tCons tl tNil)) σ H (.int ns.sum) := fun H1 e Q q =>
  h H1 e _ fun p H2 _ e2 h2 => ⟨p, ns, rfl, sq_of h2, q H2 e2⟩
/-- tuple(a new list) -/
theorem eu_tupleOf {xs : List V} (h : EvL tl σ H xs) : EvU (tThen tl (kTup K)) σ H xs := fun H1 e Q q =>
  h H1 e _ fun p H2 hp e2 h2 => .inl ⟨p, xs, rfl, sq_of h2, fun l hl => q l _ (fresh_back e2 hl) (e2.trans (Ex.new hl)) upd_same⟩
/-! ### what is walked -/
theorem wi_tup {a : Addr} {xs : List V} (h : Ev tl σ H (.ref a)) (hx : SqT K H a xs) : WI (iTup K tl) σ H xs.length (fun i x _ => xs[i]? = some x) := fun H1 e R k =>
  h H1 e _ fun H2 e2 => ⟨a, rfl, ⟨xs, ex_t (e.trans e2) hx⟩, k (Itt K a) H2 e2 fun H3 e3 => ⟨fun i hi => ⟨xs, xs[i], ex_t ((e.trans e2).trans e3) hx, by simp [hi]⟩, ⟨xs, ex_t ((e.trans e2).trans e3) hx, Nat.le_refl _⟩, fun i x H4 hi y => by
    obtain ⟨rfl, y⟩ := y
    exact ⟨Ex.refl _, y xs (ex_t ((e.trans e2).trans e3) hx)⟩⟩⟩
theorem wi_list {a : Addr} {xs : List V} (h : Ev tl σ H (.ref a)) (hx : SqL K H a xs) : WI (iList K tl) σ H xs.length (fun i x _ => xs[i]? = some x) := fun H1 e R k =>
  h H1 e _ fun H2 e2 => ⟨a, rfl, ⟨xs, ex_l (e.trans e2) hx⟩, k (Itl K a) H2 e2 fun H3 e3 => ⟨fun i hi => ⟨xs, xs[i], ex_l ((e.trans e2).trans e3) hx, by simp [hi]⟩, ⟨xs, ex_l ((e.trans e2).trans e3) hx, Nat.le_refl _⟩, fun i x H4 hi y => by
    obtain ⟨rfl, y⟩ := y
    exact ⟨Ex.refl _, y xs (ex_l ((e.trans e2).trans e3) hx)⟩⟩⟩
/-- a new tuple, a new list -/
theorem wi_tupU {xs : List V} (h : EvU tl σ H xs) : WI (iTup K tl) σ H xs.length (fun i x _ => xs[i]? = some x) := fun H1 e R k =>
  h H1 e _ fun a H2 _ e2 ha => ⟨a, rfl, ⟨xs, st_of ha⟩, k (Itt K a) H2 e2 fun H3 e3 => ⟨fun i hi => ⟨xs, xs[i], st_of (e3 _ _ ha), by simp [hi]⟩, ⟨xs, st_of (e3 _ _ ha), Nat.le_refl _⟩, fun i x H4 hi y => by
    obtain ⟨rfl, y⟩ := y
    exact ⟨Ex.refl _, y xs (st_of (e3 _ _ ha))⟩⟩⟩
theorem wi_listN {xs : List V} (h : EvL tl σ H xs) : WI (iList K tl) σ H xs.length (fun i x _ => xs[i]? = some x) := fun H1 e R k =>
  h H1 e _ fun a H2 _ e2 ha => ⟨a, rfl, ⟨xs, sq_of ha⟩, k (Itl K a) H2 e2 fun H3 e3 => ⟨fun i hi => ⟨xs, xs[i], sq_of (e3 _ _ ha), by simp [hi]⟩, ⟨xs, sq_of (e3 _ _ ha), Nat.le_refl _⟩, fun i x H4 hi y => by
    obtain ⟨rfl, y⟩ := y
    exact ⟨Ex.refl _, y xs (sq_of (e3 _ _ ha))⟩⟩⟩
theorem wi_seq {a : Addr} {xs : List V} (h : Ev tl σ H (.ref a)) (hx : SqL K H a xs ∨ SqT K H a xs) : WI (iSeq K tl) σ H xs.length (fun i x _ => xs[i]? = some x) := fun H1 e R k => by
  rcases hx with hx | hx
  · exact .inl (wi_list h hx H1 e R k)
  · exact .inr (wi_tup h hx H1 e R k)
theorem wi_r1 {ta : TA} {n : Int} (h : EvA ta σ H [.int n]) (h1 : -(2 ^ 62) ≤ n) (h2 : n < 2 ^ 62) : WI (iRng1 ta) σ H n.toNat (fun i x _ => x = .int (i : Int)) := fun H1 e R k =>
  h H1 e _ fun H2 e2 => ⟨n, rfl, h1, h2, k (Itr 0 n.toNat) H2 e2 fun H3 e3 => ⟨fun i hi => hi, Nat.le_refl _, fun i x H4 hi y => by
    obtain ⟨rfl, rfl⟩ := y
    exact ⟨Ex.refl _, by rw [Int.zero_add]⟩⟩⟩
theorem wi_r2 {ta : TA} {lo n : Int} (h : EvA ta σ H [.int lo, .int n]) (hb : -(2 ^ 62) ≤ lo ∧ lo < 2 ^ 62 ∧ -(2 ^ 62) ≤ n ∧ n < 2 ^ 62) : WI (iRng2 ta) σ H (n - lo).toNat (fun i x _ => x = .int (lo + (i : Int))) := fun H1 e R k =>
  h H1 e _ fun H2 e2 => ⟨lo, n, rfl, hb, k (Itr lo (n - lo).toNat) H2 e2 fun H3 e3 => ⟨fun i hi => hi, Nat.le_refl _, fun i x H4 hi y => by
    obtain ⟨rfl, rfl⟩ := y
    exact ⟨Ex.refl _, rfl⟩⟩⟩
/-! ### comprehensions -/
/-- the loop's bookkeeping, for any walk -/
theorem lc_walk {J : It} {n : Nat} {g : TG} {tt : TT} {te : TE} {vs : List Nat} {σ : L2.St} {H1 : Hp} {D : Addr} {Qd : Hp → Prop} (Pv : Nat → Hp → Prop) (h0 : Pv 0 (upd H1 D (.lst [])))
    (hj : ∀ i H, i ≤ n → Pv i H → (i < n → J.go i H) ∧ (n ≤ i → J.stop i H))
    (hs : ∀ i H x H', i < n → Pv i H → J.yld i H x H' → g x (wipe σ vs) H' fun σ2 H2 => wipe σ2 vs = wipe σ vs ∧ tt σ2 H2 fun b H3 =>
      if b = true then te σ2 H3 fun y H4 => ∃ acc, H4 D = some (.lst acc) ∧ acc.length < sizeLine ∧ Pv (i + 1) (upd H4 D (.lst (acc ++ [y]))) else Pv (i + 1) H3) (hd : ∀ H, Pv n H → Qd H) :
    ∃ W : Nat → Nat → Hp → Prop, (∃ m, W 0 m (upd H1 D (.lst []))) ∧ ∀ i m H, W i m H →
      (J.stop i H ∧ Qd H) ∨ (J.go i H ∧ ∃ Nx : Hp → Prop, (∀ H', Nx H' → ∃ m', m' < m ∧ W (i + 1) m' H') ∧ ∀ x H', J.yld i H x H' → g x (wipe σ vs) H' fun σ2 H2 => wipe σ2 vs = wipe σ vs ∧ tt σ2 H2 fun b H3 =>
        if b = true then te σ2 H3 fun y H4 => ∃ acc, H4 D = some (.lst acc) ∧ acc.length < sizeLine ∧ Nx (upd H4 D (.lst (acc ++ [y]))) else Nx H3) := by
  refine ⟨fun i m H => m = n - i ∧ i ≤ n ∧ Pv i H, ⟨n, by simp, Nat.zero_le _, h0⟩, ?_⟩
  rintro i m H ⟨rfl, hi, p⟩
  by_cases hlt : i < n
  · exact .inr ⟨(hj i H hi p).1 hlt, Pv (i + 1), fun H' p' => ⟨n - (i + 1), by omega, rfl, hlt, p'⟩, fun x H' y => hs i H x H' hlt p y⟩
  · have e : i = n := by omega
    subst e
    exact .inl ⟨(hj i H hi p).2 (Nat.le_refl _), hd H p⟩
/-- a comprehension whose turns give determined values: the i-th turn gives if f i, and gives v i -/
theorem el_lc {wi : TI} {g : TG} {vs : List Nat} {n : Nat} {Y : Nat → V → Hp → Prop} (f : Nat → Bool) (v : Nat → V) (hw : WI wi σ H n Y) (hn : n ≤ 40000)
    (body : ∀ i x H1, Ex H H1 → i < n → Y i x H1 → ∃ σ2, (∀ Q : L2.St → Hp → Prop, Q σ2 H1 → g x (wipe σ vs) H1 Q) ∧ wipe σ2 vs = wipe σ vs ∧ EvT t σ2 H1 (f i) ∧ (f i = true → Ev te σ2 H1 (v i))) :
    EvL (tLc wi g t te vs) σ H (given n f v) := fun H0 e Q q => hw H0 e _ fun J H1 e1 hJ D hD => by
  refine lc_walk (n := n) (fun i H' => H1 D = none ∧ Ex H1 H' ∧ H' D = some (.lst (given i f v))) ⟨hD, Ex.new hD, upd_same⟩ (fun i H' hi p => ?_) (fun i H' x H4 hi p y => ?_) (fun H' p => q D H' (fresh_back e1 p.1) (e1.trans p.2.1) p.2.2)
  · obtain ⟨h1, h2, _⟩ := hJ H' p.2.1
    exact ⟨fun h => h1 i h, fun h => by have : i = n := by omega
                                        subst this; exact h2⟩
  · obtain ⟨p1, p2, p3⟩ := p
    obtain ⟨_, _, h3⟩ := hJ H' p2
    obtain ⟨e4, hY⟩ := h3 i x H4 hi y
    obtain ⟨σ2, hg, hw2, ht, he⟩ := body i x H4 (((e.trans e1).trans p2).trans e4) hi hY
    refine hg _ ⟨hw2, ht H4 (Ex.refl _) _ fun H5 e5 => ?_⟩
    have e15 : Ex H1 H5 := (p2.trans e4).trans e5
    have hD5 : H5 D = some (.lst (given i f v)) := e5 _ _ (e4 _ _ p3)
    cases hf : f i with
    | true =>
      show te σ2 H5 fun y H6 => _
      refine he hf H5 e5 _ fun H6 e6 => ⟨given i f v, e6 _ _ hD5, sz_lt (by have := given_len i f v; omega), p1, Ex.mut (e15.trans e6) p1, ?_⟩
      rw [given_yes hf]
      exact upd_same
    | false =>
      refine ⟨p1, e15, ?_⟩
      rw [given_no hf]
      exact hD5
/-- the target a name -/
theorem el_lcN {wi : TI} {j : Nat} {vs : List Nat} {n : Nat} {Y : Nat → V → Hp → Prop} (f : Nat → Bool) (v : Nat → V) (hw : WI wi σ H n Y) (hn : n ≤ 40000) (hwp : ∀ x, wipe ((wipe σ vs).set j (some x)) vs = wipe σ vs)
    (body : ∀ i x H1, Ex H H1 → i < n → Y i x H1 → EvT t ((wipe σ vs).set j (some x)) H1 (f i) ∧ (f i = true → Ev te ((wipe σ vs).set j (some x)) H1 (v i))) :
    EvL (tLc wi (gName j) t te vs) σ H (given n f v) := el_lc f v hw hn fun i x H1 e hi hY => ⟨_, fun Q q => q, hwp x, body i x H1 e hi hY⟩
theorem el_is {xs ys : List V} (e : ys = xs) (h : EvL tl σ H ys) : EvL tl σ H xs := e ▸ h
theorem et_yes : EvT tYes σ H true := fun H1 e Q q => q H1 (Ex.refl _)
theorem given_all {n : Nat} {v : Nat → V} : given n (fun _ => true) v = (List.range n).map v := by
  unfold given
  rw [List.filter_eq_self.mpr (fun _ _ => rfl)]
theorem given_map {α : Type} {n : Nat} {f : Nat → Bool} {c : α → V} {v : Nat → α} : given n f (fun i => c (v i)) = (((List.range n).filter f).map v).map c := by
  unfold given
  rw [List.map_map]
  rfl
end
end Bz

set_option maxHeartbeats 4000000
namespace Bz
open PySem PySem.Spec PyProof.Rows L2 Evl
/-! ### things: what an argument may be -/
inductive Th where
  | non | bl (b : Bool) | int (i : Int) | str (x : Str) | lst | dic | web | tup (ts : List Th)
mutual
inductive ThR (K : PySem.W.Frag) (CW : Addr) (H : Hp) : V → Th → Prop
  | non : ThR K CW H .non .non
  | bl (b : Bool) : ThR K CW H (.bl b) (.bl b)
  | int (i : Int) : ThR K CW H (.int i) (.int i)
  | str (x : Str) : ThR K CW H (.str x) (.str x)
  | lst {a : Addr} {xs : List V} : H a = some (.lst xs) → ThR K CW H (.ref a) .lst
  | dic {a : Addr} {kvs : List (Key × V)} : H a = some (.dK kvs) → ThR K CW H (.ref a) .dic
  | web {a dx : Addr} {fs : List (Str × V)} : H a = some (.ins CW dx fs) → ThR K CW H (.ref a) .web
  | tup {a : Addr} {xs : List V} {ts : List Th} : SqT K H a xs → ThAll K CW H xs ts → ts.length ≤ 40000 → ThR K CW H (.ref a) (.tup ts)
inductive ThAll (K : PySem.W.Frag) (CW : Addr) (H : Hp) : List V → List Th → Prop
  | nil : ThAll K CW H [] []
  | cons {v : V} {vs : List V} {t : Th} {ts : List Th} : ThR K CW H v t → ThAll K CW H vs ts → ThAll K CW H (v :: vs) (t :: ts)
end
/-- what a heap must keep so that things stay things -/
structure Kp (K : PySem.W.Frag) (CW : Addr) (H H' : Hp) : Prop where
  tup : ∀ a xs, SqT K H a xs → SqT K H' a xs
  lst : ∀ a xs, H a = some (.lst xs) → ∃ ys, H' a = some (.lst ys)
  dic : ∀ a kvs, H a = some (.dK kvs) → ∃ l, H' a = some (.dK l)
  web : ∀ a dx fs, H a = some (.ins CW dx fs) → ∃ dy gs, H' a = some (.ins CW dy gs)
section
variable {K : PySem.W.Frag} {CW : Addr} {H H' : Hp}
theorem Kp.of_ex (e : Ex H H') : Kp K CW H H' := ⟨fun _ _ h => ex_t e h, fun _ xs h => ⟨xs, e _ _ h⟩, fun _ l h => ⟨l, e _ _ h⟩, fun _ dx fs h => ⟨dx, fs, e _ _ h⟩⟩
mutual
theorem ThR.keep (k : Kp K CW H H') : ∀ {v : V} {t : Th}, ThR K CW H v t → ThR K CW H' v t
  | _, _, .non => .non
  | _, _, .bl b => .bl b
  | _, _, .int i => .int i
  | _, _, .str x => .str x
  | _, _, .lst e => let ⟨_, q⟩ := k.lst _ _ e; .lst q
  | _, _, .dic e => let ⟨_, q⟩ := k.dic _ _ e; .dic q
  | _, _, .web e => let ⟨_, _, q⟩ := k.web _ _ _ e; .web q
  | _, _, .tup e h z => .tup (k.tup _ _ e) (ThAll.keep k h) z
theorem ThAll.keep (k : Kp K CW H H') : ∀ {vs : List V} {ts : List Th}, ThAll K CW H vs ts → ThAll K CW H' vs ts
  | _, _, .nil => .nil
  | _, _, .cons h r => .cons (ThR.keep k h) (ThAll.keep k r)
end
theorem ThR.mono {v : V} {t : Th} (h : ThR K CW H v t) (e : Ex H H') : ThR K CW H' v t := h.keep (.of_ex e)
theorem ThAll.mono {vs : List V} {ts : List Th} (h : ThAll K CW H vs ts) (e : Ex H H') : ThAll K CW H' vs ts := h.keep (.of_ex e)
theorem ThAll.length {vs : List V} {ts : List Th} (h : ThAll K CW H vs ts) : vs.length = ts.length := by
  induction vs generalizing ts with
  | nil => cases h; rfl
  | cons v vs ih =>
    cases h with
    | cons a b => simp [ih b]
theorem ThAll.get : ∀ {vs : List V} {ts : List Th} {i : Nat} {v : V}, ThAll K CW H vs ts → vs[i]? = some v → ∃ t, ts[i]? = some t ∧ ThR K CW H v t
  | _, _, 0, _, .cons a b, e => by
    simp at e
    subst e
    exact ⟨_, rfl, a⟩
  | _, _, i + 1, _, .cons a b, e => by
    obtain ⟨t, h1, h2⟩ := ThAll.get (i := i) b (by simpa using e)
    exact ⟨t, by simpa using h1, h2⟩
theorem ThAll.ints : ∀ ns : List Int, ThAll K CW H (ns.map V.int) (ns.map Th.int)
  | [] => .nil
  | n :: ns => .cons (.int n) (ThAll.ints ns)
end
/-- a thing's type -/
def Th.ty (CW : Addr) : Th → Value
  | .non => .type "NoneType"
  | .bl _ => .type "bool"
  | .int _ => .type "int"
  | .str _ => .type "str"
  | .lst => .type "list"
  | .dic => .type "dict"
  | .web => .ref CW
  | .tup _ => .type "tuple"
theorem sqT_ty {K : PySem.W.Frag} {H : Hp} {a : Addr} {xs : List V} (h : SqT K H a xs) : TyX K H (.ref a) (.type "tuple") := by
  rcases h with (h | ⟨o, h⟩) | ⟨o, its, n, hk, hc, _⟩
  · exact .base (.tup h)
  · exact .fTuple h
  · exact .kTuple hk hc
theorem ThR.ty {K : PySem.W.Frag} {mg : Str → Option Value} {CW CB CN : Addr} (T : Txt K mg CW CB CN) {H : Hp} {v : V} {t : Th} (h : ThR K CW H v t) : TyX K H v (t.ty CW) := by
  cases h with
  | non => exact .base .non
  | bl b => exact .base (.bl b)
  | int i => exact .base (.int i)
  | str x => exact .base (.str x)
  | lst e => exact .base (.lst e)
  | dic e => exact .base (.dK e)
  | web e => exact .base (.ins e T.clW T.w1 T.w2 T.w3 T.w4)
  | tup e _ _ => exact sqT_ty e
def Th.isInt : Th → Bool
  | .int _ => true
  | _ => false
def Th.isBool : Th → Bool
  | .bl _ => true
  | _ => false
def Th.isTup : Th → Bool
  | .tup _ => true
  | _ => false
/-- isinstance(thing, int): of bools too -/
def Th.subInt : Th → Bool
  | .int _ => true
  | .bl _ => true
  | _ => false
section
variable {K : PySem.W.Frag} {mg : Str → Option Value} {CW CB CN : Addr} (T : Txt K mg CW CB CN)
include T
theorem kit_int (t : Th) : PySem.W.kitOne K (t.ty CW) (.type "int") = some t.subInt := by
  cases t <;> first | exact T.wInt | exact kit_ty (r := true) (by decide +kernel) | exact kit_ty (r := false) (by decide +kernel)
theorem kit_bool (t : Th) : PySem.W.kitOne K (t.ty CW) (.type "bool") = some t.isBool := by
  cases t <;> first | exact T.wBool | exact kit_ty (r := true) (by decide +kernel) | exact kit_ty (r := false) (by decide +kernel)
theorem kit_tup (t : Th) : PySem.W.kitOne K (t.ty CW) (.type "tuple") = some t.isTup := by
  cases t <;> first | exact T.wTup | exact kit_ty (r := true) (by decide +kernel) | exact kit_ty (r := false) (by decide +kernel)
/-- isinstance(x, C) as an evaluation -/
theorem ev_isi {σ : L2.St} {H : Hp} {ta tb : TE} {v : V} {n : String} {t : Th} {b : Bool} (ha : Ev ta σ H v) (hb : Ev tb σ H (.ty n)) (h : ThR K CW H v t) (k : PySem.W.kitOne K (t.ty CW) (.type n) = some b) :
    Ev (tCB (rIsi K) (tCons ta (tCons tb tNil))) σ H (.bl b) :=
  ev_cb (ea_cons ha (ea_cons hb ea_nil)) fun H1 e Q q => ⟨v, .ty n, t.ty CW, .type n, b, rfl, .ty n, (h.mono e).ty T, k, q H1 (Ex.refl _)⟩
end
/-! ### is_integer, is_within -/
def spIsInt (K : PySem.W.Frag) (CW : Addr) : Sp := fun vs H Q _ => ∃ (v : V) (t : Th), vs = [v] ∧ ThR K CW H v t ∧ RetV (.bl t.isInt) H Q
theorem scIsInt : FnScope ["thing"] ["thing"] (defScope sIsInt) := ⟨rfl, rfl, rfl, by decide +kernel, rfl, by decide +kernel, by decide +kernel⟩
/-- an int within two bounds -/
def Th.within (t : Th) (lo hi : Int) : Bool := match t with
  | .int i => decide (lo ≤ i) && decide (i ≤ hi)
  | _ => false
def spWithin (K : PySem.W.Frag) (CW : Addr) : Sp := fun vs H Q _ => ∃ (v : V) (t : Th) (lo hi : Int), vs = [v, .int lo, .int hi] ∧ ThR K CW H v t ∧ RetV (.bl (t.within lo hi)) H Q
theorem scWithin : FnScope ["thing", "least", "most"] ["thing", "least", "most"] (defScope sWithin) := ⟨rfl, rfl, rfl, by decide +kernel, rfl, by decide +kernel, by decide +kernel⟩
section
variable {P : Program} {w : World} {K : PySem.W.Frag} {mg : Str → Option Value} {base : Heap} {CW CB CN : Addr}
theorem ok_isInt {f : Addr} {fd : FuncData} (F : FnP K "is_integer" sIsInt f fd) (T : Txt K mg CW CB CN) : FnOk P w K mg base CX0 1 f fd ["thing"] (spIsInt K CW) := by
  refine F.ok scIsInt (fun vs H Q E h => ?_) (fun cdv A outer s H vs Q E hr h => ?_)
  · obtain ⟨v, t, rfl, _⟩ := h
    rfl
  · obtain ⟨v, t, rfl, ht, k⟩ := h
    refine ⟨_, PSs.nox (pss_one (ps_ret (pe_and (pe_callB call_isi rfl T.isinstance (by decide +kernel) (pa_cons (pv 0) (pa_cons (pe_bltn (v := .ty "int") rfl T.int (by decide +kernel) rfl) pa_nil)))
      (pe_one (pe_not (pe_callB call_isi rfl T.isinstance (by decide +kernel) (pa_cons (pv 0) (pa_cons (pe_bltn (v := .ty "bool") rfl T.bool (by decide +kernel) rfl) pa_nil)))))))), ?_⟩
    have e0 : (start ["thing"] [v])[0]? = some (some v) := rfl
    refine s_ret (ev_is (ev_andV (ev_isi T (ev_var e0) ev_c ht (kit_int T t)) fun _ => ev_notV (ev_isi T (ev_var e0) ev_c ht (kit_bool T t))) ?_) k
    cases t <;> rfl
theorem ok_within {f fI : Addr} {fd fdI : FuncData} (F : FnP K "is_within" sWithin f fd) (T : Txt K mg CW CB CN) (FI : FnP K "is_integer" sIsInt fI fdI) (gI : mg "is_integer" = some (.ref fI)) : FnOk P w K mg base CX0 2 f fd ["thing", "least", "most"] (spWithin K CW) := by
  have GI : FnOk P w K mg base CX0 1 fI fdI ["thing"] (spIsInt K CW) := ok_isInt FI T
  have bI : Binds K fdI ["thing"] [] := FI.bindsN fun _ _ _ _ _ _ us hl => match us, hl with | [_], _ => rfl
  refine F.ok scWithin (fun vs H Q E h => ?_) (fun cdv A outer s H vs Q E hr h => ?_)
  · obtain ⟨v, t, lo, hi, rfl, _⟩ := h
    rfl
  · obtain ⟨v, t, lo, hi, rfl, ht, k⟩ := h
    refine ⟨_, PSs.nox (pss_one (ps_ret (pe_and (pe_call GI hr rfl gI FI.kp bI .nil pass0 (pa_cons (pv 0) pa_nil)) (pe_one (pe_chain op_le op_le (pv 1) (pv 0) (pv 2)))))), ?_⟩
    have e0 : (start ["thing", "least", "most"] [v, .int lo, .int hi])[0]? = some (some v) := rfl
    have e1 : (start ["thing", "least", "most"] [v, .int lo, .int hi])[1]? = some (some (.int lo)) := rfl
    have e2 : (start ["thing", "least", "most"] [v, .int lo, .int hi])[2]? = some (some (.int hi)) := rfl
    refine s_ret (ev_is (ev_andV (ev_call (z := .bl t.isInt) (ea_cons (ev_var e0) ea_nil) fun H1 e Q q E => ⟨v, t, rfl, ht.mono e, q⟩) (b := t.within lo hi) fun hb => ?_) ?_) k
    · cases ht <;> try (exact Bool.noConfusion hb)
      rename_i i
      exact ev_chain (ev_var e1) (ev_var e0) (ev_var e2) rv_I0 fun _ => rv_I0
    · cases t <;> rfl
theorem sv_within {H : Hp} {v : V} {t : Th} {lo hi : Int} (h : ThR K CW H v t) : SpV (spWithin K CW) [v, .int lo, .int hi] H (.bl (t.within lo hi)) := fun H1 e Q q E => ⟨v, t, lo, hi, rfl, h.mono e, q⟩
end
end Bz

set_option maxHeartbeats 1000000
namespace Bz
open PySem PySem.Spec PyProof.Rows L2 Evl
/-! ### are_ascending -/
abbrev rAsc (K : PySem.W.Frag) : R2 := fun x y H Q => rI0 (fun i j => .bl (decide (i < j))) x y H Q ∨ rLtT K x y H Q
/-- neighbours compare as c says -/
def AscOf (K : PySem.W.Frag) (H : Hp) (xs : List V) (c : Nat → Bool) : Prop := ∀ i, i + 1 < xs.length → ∃ x y, xs[i]? = some x ∧ xs[i + 1]? = some y ∧ RV (rAsc K) x y H (.bl (c i))
def ascB (n : Nat) (c : Nat → Bool) : Bool := (List.range (n - 1)).all c
def spAsc (K : PySem.W.Frag) : Sp := fun vs H Q _ => ∃ (a : Addr) (xs : List V) (c : Nat → Bool), vs = [.ref a] ∧ SqT K H a xs ∧ xs.length ≤ 40000 ∧ AscOf K H xs c ∧ RetV (.bl (ascB xs.length c)) H Q
theorem scAsc : FnScope ["things", "at"] ["things"] (defScope sAsc) := ⟨rfl, rfl, rfl, by decide +kernel, rfl, by decide +kernel, by decide +kernel⟩
theorem rv_mono {r : R2} {x y z : V} {H H' : Hp} (h : RV r x y H z) (e : Ex H H') : RV r x y H' z := fun H1 e1 => h H1 (e.trans e1)
section
variable {P : Program} {w : World} {K : PySem.W.Frag} {mg : Str → Option Value} {base : Heap} {CW CB CN : Addr}
theorem ok_asc {f : Addr} {fd : FuncData} (F : FnP K "are_ascending" sAsc f fd) (T : Txt K mg CW CB CN) : FnOk P w K mg base CX0 1 f fd ["things"] (spAsc K) := by
  refine F.ok scAsc (fun vs H Q E h => ?_) (fun cdv A outer s H vs Q E hr h => ?_)
  · obtain ⟨a, xs, c, rfl, _⟩ := h
    rfl
  · obtain ⟨a, xs, c, rfl, hx, hz, ha, k⟩ := h
    refine ⟨_, PSs.nox (pss_one (ps_ret (pe_callB (cr_all rfl) rfl T.all (by decide +kernel) (pa_cons
      (pe_lc (own := [("at", 1)]) (g := gName 1) (tt := tYes) rfl scAsc.nd (pi_range2 rfl T.range (pa_cons pe_int (pa_cons (pe_callB call_len rfl T.len (by decide +kernel) (pa_cons (pv 0) pa_nil)) pa_nil)))
        (blkOk_by (N := ["things", "at"]) (sc := defScope sAsc) (by decide +kernel)) (fun _ _ _ _ _ => pg_name (i := 1) scAsc.nd rfl (Or.inl rfl)) (fun _ _ _ _ _ => pts_nil)
        (fun _ _ _ _ _ => pe_cmpR (r := rAsc K) (OpR.or op_lt (op_ltT hr.units0)) (pe_ix (r := rIxT K) ix_tup (pv 0) (pe_op op_sub (pv 1) pe_int) (fun _ _ => rfl)) (pe_ix (r := rIxT K) ix_tup (pv 0) (pv 1) (fun _ _ => rfl)) (nomark _))) pa_nil)))), ?_⟩
    have e0 : (start ["things", "at"] [V.ref a])[0]? = some (some (V.ref a)) := rfl
    refine s_ret (ev_is (ev_all (bs := (List.range (xs.length - 1)).map c) ?_) (by unfold ascB; rw [List.all_map]; rfl)) k
    refine fun H1 e1 => el_is ?_ (el_lcN (fun _ => true) (fun i => .bl (c i)) (wi_r2 (lo := 1) (n := xs.length) (ea_cons ev_c (ea_cons (ev_lenT (ev_var e0) hx) ea_nil)) ⟨by decide, by decide, by omega, by omega⟩) (by omega) (fun _ => rfl) fun i x H2 e2 hi hY => ⟨et_yes, fun _ => ?_⟩) H1 e1
    · rw [given_all, List.map_map]
      have : ((xs.length : Int) - 1).toNat = xs.length - 1 := by omega
      rw [this]
      rfl
    · subst hY
      have hi' : i + 1 < xs.length := by omega
      obtain ⟨x, y, hx1, hy1, hr1⟩ := ha i hi'
      have f0 : ((wipe (start ["things", "at"] [V.ref a]) [1]).set 1 (some (.int (1 + (i : Int)))))[0]? = some (some (V.ref a)) := rfl
      have f1 : ((wipe (start ["things", "at"] [V.ref a]) [1]).set 1 (some (.int (1 + (i : Int)))))[1]? = some (some (.int (1 + (i : Int)))) := rfl
      refine ev_op (ev_op (ev_var f0) (ev_op (ev_var f1) ev_c rv_I0) (rv_ixT (ex_t e2 hx) (v := x) ?_)) (ev_op (ev_var f0) (ev_var f1) (rv_ixT (ex_t e2 hx) (v := y) ?_)) (rv_mono hr1 e2)
      · rw [show (1 + (i : Int) - 1) = (i : Int) by omega]
        exact atI_nat hx1
      · rw [show (1 + (i : Int)) = ((i + 1 : Nat) : Int) by omega]
        exact atI_nat hy1
end
end Bz

set_option maxHeartbeats 1000000
namespace Bz
open PySem PySem.Spec PyProof.Rows L2 Evl
/-! ### is_lot_of -/
def Th.i : Th → Int
  | .int i => i
  | _ => 0
def ascI (ns : List Int) : Bool := ascB ns.length fun i => decide (ns.getD i 0 < ns.getD (i + 1) 0)
def Th.lot (m : Int) : Th → Bool
  | .tup ts => ts.all (·.within 0 (m - 1)) && ascI (ts.map Th.i)
  | _ => false
def spLot (K : PySem.W.Frag) (CW : Addr) : Sp := fun vs H Q _ => ∃ (m : Int) (v : V) (t : Th), vs = [.int m, v] ∧ ThR K CW H v t ∧ RetV (.bl (t.lot m)) H Q
theorem scLot : FnScope ["many", "thing", "item"] ["many", "thing"] (defScope sLot) := ⟨rfl, rfl, rfl, by decide +kernel, rfl, by decide +kernel, by decide +kernel⟩
theorem getD_at {α : Type} {l : List α} {i : Nat} {d x : α} (h : l[i]? = some x) : l.getD i d = x := by
  rw [List.getD_eq_getElem?_getD, h]
  rfl
theorem at_getD {α : Type} {l : List α} {i : Nat} (d : α) (h : i < l.length) : l[i]? = some (l.getD i d) := by
  rw [List.getD_eq_getElem?_getD, List.getElem?_eq_getElem h]
  rfl
section
variable {K : PySem.W.Frag} {CW : Addr} {H : Hp}
theorem within_int {t : Th} {lo hi : Int} (h : t.within lo hi = true) : t = .int t.i := by
  cases t <;> first | rfl | exact Bool.noConfusion h
/-- things that are ints are ints -/
theorem ThAll.toInts : ∀ {vs : List V} {ts : List Th}, ThAll K CW H vs ts → (∀ t ∈ ts, t = .int t.i) → vs = (ts.map Th.i).map V.int
  | _, _, .nil, _ => rfl
  | _, _, .cons (t := t) a b, h => by
    have h0 := h t (List.mem_cons_self ..)
    rw [h0] at a
    cases a
    rw [List.map_cons, List.map_cons, ← ThAll.toInts b fun t ht => h t (List.mem_cons_of_mem _ ht)]
theorem ascOf_ints (ns : List Int) : AscOf K H (ns.map V.int) fun i => decide (ns.getD i 0 < ns.getD (i + 1) 0) := fun i hi => by
  rw [List.length_map] at hi
  refine ⟨.int (ns.getD i 0), .int (ns.getD (i + 1) 0), ?_, ?_, rv_orl rv_I0⟩
  · rw [List.getElem?_map, at_getD 0 (by omega)]
    rfl
  · rw [List.getElem?_map, at_getD 0 (by omega)]
    rfl
end
theorem range_all {α : Type} (xs : List α) (d : α) (p : α → Bool) : ((List.range xs.length).map fun i => p (xs.getD i d)).all id = xs.all p := by
  have : (List.range xs.length).map (fun i => p (xs.getD i d)) = xs.map p := by
    refine List.ext_getElem (by simp) fun i h1 h2 => ?_
    simp at h1
    simp [h1]
  rw [this, List.all_map]
  rfl
section
variable {P : Program} {w : World} {K : PySem.W.Frag} {mg : Str → Option Value} {base : Heap} {CW CB CN : Addr}
theorem sv_asc {H : Hp} {a : Addr} {xs : List V} {c : Nat → Bool} (hx : SqT K H a xs) (hz : xs.length ≤ 40000) (ha : AscOf K H xs c) : SpV (spAsc K) [.ref a] H (.bl (ascB xs.length c)) := fun H1 e Q q E => ⟨a, xs, c, rfl, ex_t e hx, hz, fun i hi => by
  obtain ⟨x, y, h1, h2, h3⟩ := ha i hi
  exact ⟨x, y, h1, h2, rv_mono h3 e⟩, q⟩
theorem ok_lot {f fW fA : Addr} {fd fdW fdA : FuncData} (F : FnP K "is_lot_of" sLot f fd) (T : Txt K mg CW CB CN) (FW : FnP K "is_within" sWithin fW fdW) (gW : mg "is_within" = some (.ref fW)) (GW : FnOk P w K mg base CX0 2 fW fdW ["thing", "least", "most"] (spWithin K CW))
    (FA : FnP K "are_ascending" sAsc fA fdA) (gA : mg "are_ascending" = some (.ref fA)) (GA : FnOk P w K mg base CX0 1 fA fdA ["things"] (spAsc K)) : FnOk P w K mg base CX0 3 f fd ["many", "thing"] (spLot K CW) := by
  have bW : Binds K fdW ["thing", "least", "most"] [] := FW.bindsN fun _ _ _ _ _ _ us hl => match us, hl with | [_, _, _], _ => rfl
  have bA : Binds K fdA ["things"] [] := FA.bindsN fun _ _ _ _ _ _ us hl => match us, hl with | [_], _ => rfl
  refine F.ok scLot (fun vs H Q E h => ?_) (fun cdv A outer s H vs Q E hr h => ?_)
  · obtain ⟨m, v, t, rfl, _⟩ := h
    rfl
  · obtain ⟨m, v, t, rfl, ht, k⟩ := h
    refine ⟨_, PSs.nox (pss_one (ps_ret (pe_and (pe_callB call_isi rfl T.isinstance (by decide +kernel) (pa_cons (pv 1) (pa_cons (pe_bltn (v := .ty "tuple") rfl T.tuple (by decide +kernel) rfl) pa_nil)))
      (pe_and (pe_callB (cr_all rfl) rfl T.all (by decide +kernel) (pa_cons
      (pe_lc (own := [("item", 2)]) (g := gName 2) (tt := tYes) rfl scLot.nd (pi_tup (pv 1))
        (blkOk_by (N := ["many", "thing", "item"]) (sc := defScope sLot) (by decide +kernel)) (fun _ _ _ _ _ => pg_name (i := 2) scLot.nd rfl (Or.inl rfl)) (fun _ _ _ _ _ => pts_nil)
        (fun _ _ _ _ _ => pe_call GW hr rfl gW FW.kp bW .nil pass0 (pa_cons (pv 2) (pa_cons pe_int (pa_cons (pe_op op_sub (pv 0) pe_int) pa_nil))))) pa_nil))
      (pe_one (pe_call GA (hr.mono (by decide)) rfl gA FA.kp bA .nil pass0 (pa_cons (pv 1) pa_nil))))))), ?_⟩
    have e0 : (start ["many", "thing", "item"] [.int m, v])[0]? = some (some (.int m)) := rfl
    have e1 : (start ["many", "thing", "item"] [.int m, v])[1]? = some (some v) := rfl
    refine s_ret (ev_is (ev_andV (b := t.lot m) (ev_isi T (ev_var e1) ev_c ht (kit_tup T t)) fun hb => ?_) ?_) k
    · cases ht <;> try (exact Bool.noConfusion hb)
      rename_i a xs ts hx hall hz
      have hl := hall.length
      refine ev_andV (a := ts.all (·.within 0 (m - 1))) (ev_is (ev_all (bs := (List.range xs.length).map fun i => (ts.getD i .non).within 0 (m - 1)) ?_) ?_) fun hall1 => ?_
      · refine fun H1 q1 => el_is ?_ (el_lcN (fun _ => true) (fun i => .bl ((ts.getD i .non).within 0 (m - 1))) (wi_tup (ev_var e1) hx) (by omega) (fun _ => rfl) fun i x H2 q2 hi hY => ⟨et_yes, fun _ => ?_⟩) H1 q1
        · rw [given_all, List.map_map]
          rfl
        · obtain ⟨t, ht1, ht2⟩ := hall.get hY
          have f0 : ((wipe (start ["many", "thing", "item"] [.int m, .ref a]) [2]).set 2 (some x))[0]? = some (some (.int m)) := rfl
          have f2 : ((wipe (start ["many", "thing", "item"] [.int m, .ref a]) [2]).set 2 (some x))[2]? = some (some x) := rfl
          have : ts.getD i .non = t := by rw [List.getD_eq_getElem?_getD, ht1]; rfl
          rw [this]
          exact ev_call (ea_cons (ev_var f2) (ea_cons ev_c (ea_cons (ev_op (ev_var f0) ev_c rv_I0) ea_nil))) (sv_within (ht2.mono q2))
      · rw [hl, range_all ts .non (·.within 0 (m - 1))]
      · have hi : ∀ t ∈ ts, t = .int t.i := fun t ht => within_int (List.all_eq_true.mp hall1 t ht)
        have hv := hall.toInts hi
        refine ev_is (ev_call (ea_cons (ev_var e1) ea_nil) (sv_asc hx (by omega) (hv ▸ ascOf_ints (ts.map Th.i)))) ?_
        unfold ascI
        rw [hl, List.length_map]
    · cases t <;> rfl
theorem sv_lot {H : Hp} {v : V} {t : Th} {m : Int} (h : ThR K CW H v t) : SpV (spLot K CW) [.int m, v] H (.bl (t.lot m)) := fun H1 e Q q E => ⟨m, v, t, rfl, h.mono e, q⟩
end
end Bz

set_option maxHeartbeats 1000000
namespace Bz
open PySem PySem.Spec PyProof.Rows L2 Evl
/-! ### are_ties -/
def Th.is : Th → List Int
  | .tup ts => ts.map Th.i
  | _ => []
def Th.len : Th → Int
  | .tup ts => ts.length
  | _ => 0
def Th.tie (m : Int) (t : Th) : Bool := t.lot m && decide (t.len = 2)
def ascL (ll : List (List Int)) : Bool := ascB ll.length fun i => HT.lexLt (ll.getD i []) (ll.getD (i + 1) [])
def Th.ties (m : Int) : Th → Bool
  | .tup ts => ts.all (·.tie m) && ascL (ts.map Th.is)
  | _ => false
def spTies (K : PySem.W.Frag) (CW : Addr) : Sp := fun vs H Q _ => ∃ (m : Int) (v : V) (t : Th), vs = [v, .int m] ∧ ThR K CW H v t ∧ RetV (.bl (t.ties m)) H Q
theorem scTies : FnScope ["thing", "people", "pair"] ["thing", "people"] (defScope sTies) := ⟨rfl, rfl, rfl, by decide +kernel, rfl, by decide +kernel, by decide +kernel⟩
section
variable {K : PySem.W.Frag} {CW : Addr} {H : Hp}
/-- a lot is a tuple of ints -/
theorem lot_ints {v : V} {t : Th} {m : Int} (h : ThR K CW H v t) (hl : t.lot m = true) : ∃ a, v = .ref a ∧ SqT K H a (t.is.map V.int) ∧ t.len = t.is.length := by
  cases h <;> try (exact Bool.noConfusion hl)
  rename_i a xs ts hx hall hz
  have h1 : ts.all (·.within 0 (m - 1)) = true := (Bool.and_eq_true_iff.mp hl).1
  have hi : ∀ t ∈ ts, t = .int t.i := fun t ht => within_int (List.all_eq_true.mp h1 t ht)
  refine ⟨a, rfl, ?_, ?_⟩
  · have := hall.toInts hi
    rw [this] at hx
    exact hx
  · simp [Th.len, Th.is]
theorem ascOf_lots {vs : List V} {ts : List Th} {m : Int} (h : ThAll K CW H vs ts) (hl : ∀ t ∈ ts, t.lot m = true) : AscOf K H vs fun i => HT.lexLt ((ts.map Th.is).getD i []) ((ts.map Th.is).getD (i + 1) []) := fun i hi => by
  obtain ⟨t, h1, h2⟩ := h.get (List.getElem?_eq_getElem (by omega : i < vs.length))
  obtain ⟨u, k1, k2⟩ := h.get (List.getElem?_eq_getElem (by omega : i + 1 < vs.length))
  obtain ⟨a, ha, sa, _⟩ := lot_ints h2 (hl t (List.mem_of_getElem? h1))
  obtain ⟨b, hb, sb, _⟩ := lot_ints k2 (hl u (List.mem_of_getElem? k1))
  refine ⟨.ref a, .ref b, ?_, ?_, rv_orr ?_⟩
  · rw [← ha]; exact List.getElem?_eq_getElem (by omega)
  · rw [← hb]; exact List.getElem?_eq_getElem (by omega)
  · have e1 : (ts.map Th.is).getD i [] = t.is := getD_at (by rw [List.getElem?_map, h1]; rfl)
    have e2 : (ts.map Th.is).getD (i + 1) [] = u.is := getD_at (by rw [List.getElem?_map, k1]; rfl)
    show RV (rLtT K) (V.ref a) (V.ref b) H (V.bl (HT.lexLt ((ts.map Th.is).getD i []) ((ts.map Th.is).getD (i + 1) [])))
    rw [e1, e2]
    exact rv_ltT sa sb
end
section
variable {P : Program} {w : World} {K : PySem.W.Frag} {mg : Str → Option Value} {base : Heap} {CW CB CN : Addr}
theorem ok_ties {f fL fA : Addr} {fd fdL fdA : FuncData} (F : FnP K "are_ties" sTies f fd) (T : Txt K mg CW CB CN) (FL : FnP K "is_lot_of" sLot fL fdL) (gL : mg "is_lot_of" = some (.ref fL)) (GL : FnOk P w K mg base CX0 3 fL fdL ["many", "thing"] (spLot K CW))
    (FA : FnP K "are_ascending" sAsc fA fdA) (gA : mg "are_ascending" = some (.ref fA)) (GA : FnOk P w K mg base CX0 1 fA fdA ["things"] (spAsc K)) : FnOk P w K mg base CX0 4 f fd ["thing", "people"] (spTies K CW) := by
  have bL : Binds K fdL ["many", "thing"] [] := FL.bindsN fun _ _ _ _ _ _ us hl => match us, hl with | [_, _], _ => rfl
  have bA : Binds K fdA ["things"] [] := FA.bindsN fun _ _ _ _ _ _ us hl => match us, hl with | [_], _ => rfl
  refine F.ok scTies (fun vs H Q E h => ?_) (fun cdv A outer s H vs Q E hr h => ?_)
  · obtain ⟨m, v, t, rfl, _⟩ := h
    rfl
  · obtain ⟨m, v, t, rfl, ht, k⟩ := h
    refine ⟨_, PSs.nox (pss_cons (ps_if (PW.pt (pw_or (pt_not (pt_val (pe_callB call_isi rfl T.isinstance (by decide +kernel) (pa_cons (pv 0) (pa_cons (pe_bltn (v := .ty "tuple") rfl T.tuple (by decide +kernel) rfl) pa_nil)))))
      (pw_or1 (pt_not (pt_val (pe_callB (cr_all rfl) rfl T.all (by decide +kernel) (pa_cons
      (pe_lc (own := [("pair", 2)]) (g := gName 2) (tt := tYes) rfl scTies.nd (pi_tup (pv 0))
        (blkOk_by (N := ["thing", "people", "pair"]) (sc := defScope sTies) (by decide +kernel)) (fun _ _ _ _ _ => pg_name (i := 2) scTies.nd rfl (Or.inl rfl)) (fun _ _ _ _ _ => pts_nil)
        (fun _ _ _ _ _ => pe_and (pe_call GL hr rfl gL FL.kp bL .nil pass0 (pa_cons (pv 1) (pa_cons (pv 2) pa_nil)))
          (pe_one (pe_cmpR op_eq (pe_callB (r := rLen K) call_len rfl T.len (by decide +kernel) (pa_cons (pv 2) pa_nil)) pe_int (nomark _))))) pa_nil)))))))
      (pss_one (ps_ret pe_bl)) pss_nil)
      (pss_one (ps_ret (pe_call GA (hr.mono (by decide)) rfl gA FA.kp bA .nil pass0 (pa_cons (pv 0) pa_nil))))), ?_⟩
    have e0 : (start ["thing", "people", "pair"] [v, .int m])[0]? = some (some v) := rfl
    have e1 : (start ["thing", "people", "pair"] [v, .int m])[1]? = some (some (.int m)) := rfl
    let good : Bool := match t with | .tup ts => ts.all (·.tie m) | _ => false
    refine q_when (b := !good) ?_ (fun hb H1 q1 => s_ret ev_c fun H2 q2 => ?_) fun hb H1 q1 => ?_
    · refine et_is (et_or (a := !t.isTup) (et_not (et_B (ev_isi T (ev_var e0) ev_c ht (kit_tup T t)))) (b := !good) fun hb => et_not (et_B ?_)) ?_
      · cases ht <;> try (exact Bool.noConfusion hb)
        rename_i a xs ts hx hall hz
        have hl := hall.length
        show Ev _ _ _ (.bl (ts.all (·.tie m)))
        refine ev_is (ev_all (bs := (List.range xs.length).map fun i => (ts.getD i .non).tie m) ?_) (by rw [hl, range_all ts .non (·.tie m)])
        refine fun H1 q1 => el_is ?_ (el_lcN (fun _ => true) (fun i => .bl ((ts.getD i .non).tie m)) (wi_tup (ev_var e0) hx) (by omega) (fun _ => rfl) fun i x H2 q2 hi hY => ⟨et_yes, fun _ => ?_⟩) H1 q1
        · rw [given_all, List.map_map]
          rfl
        · obtain ⟨t, ht1, ht2⟩ := hall.get hY
          have f1 : ((wipe (start ["thing", "people", "pair"] [.ref a, .int m]) [2]).set 2 (some x))[1]? = some (some (.int m)) := rfl
          have f2 : ((wipe (start ["thing", "people", "pair"] [.ref a, .int m]) [2]).set 2 (some x))[2]? = some (some x) := rfl
          rw [getD_at ht1]
          refine ev_andV (ev_call (ea_cons (ev_var f1) (ea_cons (ev_var f2) ea_nil)) (sv_lot (ht2.mono q2))) fun hlot => ?_
          obtain ⟨b, rfl, sb, hn⟩ := lot_ints (ht2.mono q2) hlot
          refine ev_is (ev_op (ev_lenT (ev_var f2) sb) ev_c (rv_eq rfl)) ?_
          rw [hn, List.length_map]
          by_cases h2 : t.is.length = 2
          · rw [h2]; rfl
          · rw [decide_eq_false (fun h => h2 (by injection h with h; omega)), decide_eq_false (fun h => h2 (by omega))]
      · cases t <;> first | rfl | (show (!good) = !good; rfl) | skip
    · have : t.ties m = false := by
        have hb' : good = false := by simpa using hb
        cases t <;> first | rfl | skip
        rename_i ts
        show (ts.all (·.tie m) && _) = false
        rw [show ts.all (·.tie m) = false from hb']
        rfl
      rw [← this]
      exact k.go (q1.trans q2)
    · have hb' : good = true := by simpa using hb
      cases ht <;> try (exact Bool.noConfusion hb')
      rename_i a xs ts hx hall hz
      have hl := hall.length
      have hlot : ∀ t ∈ ts, t.lot m = true := fun t ht => (Bool.and_eq_true_iff.mp (List.all_eq_true.mp (show ts.all (·.tie m) = true from hb') t ht)).1
      refine s_ret (ev_is (ev_call (ea_cons (ev_var e0) ea_nil) (sv_asc (ex_t q1 hx) (by omega) (ascOf_lots (hall.mono q1) hlot))) ?_) fun H2 q2 => k.go (q1.trans q2)
      show _ = V.bl (ts.all (·.tie m) && _)
      rw [show ts.all (·.tie m) = true from hb', Bool.true_and]
      unfold ascL
      rw [hl, List.length_map]
theorem sv_ties {H : Hp} {v : V} {t : Th} {m : Int} (h : ThR K CW H v t) : SpV (spTies K CW) [v, .int m] H (.bl (t.ties m)) := fun H1 e Q q E => ⟨m, v, t, rfl, h.mono e, q⟩
end
end Bz

set_option maxHeartbeats 1000000
namespace Bz
open PySem PySem.Spec PyProof.Rows L2 Evl
/-! ### masks, plain -/
theorem band_nat (a b : Nat) : Builtin.bitAnd (a : Int) (b : Int) = ((a &&& b : Nat) : Int) := rfl
theorem bor_nat (a b : Nat) : Builtin.bitOr (a : Int) (b : Int) = ((a ||| b : Nat) : Int) := by
  rw [bitOr_nn (Int.natCast_nonneg _) (Int.natCast_nonneg _), Int.toNat_natCast, Int.toNat_natCast]
/-- a without the bits of b -/
def lessN (a b : Nat) : Nat := a - (a &&& b)
theorem and_le (a b : Nat) : a &&& b ≤ a := Nat.and_le_left
theorem bandnot_nat (a b : Nat) : Builtin.bitAnd (a : Int) (Builtin.bitNot (b : Int)) = ((lessN a b : Nat) : Int) := by
  have h1 : decide (0 ≤ (a : Int)) = true := decide_eq_true (Int.natCast_nonneg _)
  have h2 : decide (0 ≤ Builtin.bitNot (b : Int)) = false := decide_eq_false (by unfold Builtin.bitNot; omega)
  have h3 : Builtin.bitNot (Builtin.bitNot (b : Int)) = (b : Int) := by unfold Builtin.bitNot; omega
  have hle := and_le a b
  unfold Builtin.bitAnd lessN
  rw [h1, h2]
  show (a : Int) - _ = _
  rw [h3, Int.toNat_natCast, Int.toNat_natCast]
  omega
theorem bit_zero (a : Nat) : a.testBit 0 = decide (a % 2 = 1) := by
  rw [Nat.testBit_zero]
theorem lessN_bit (i : Nat) : ∀ a b : Nat, (lessN a b).testBit i = (a.testBit i && !b.testBit i) := by
  induction i with
  | zero =>
    intro a b
    have h1 := @Nat.and_mod_two_eq_one a b
    have hle := and_le a b
    unfold lessN
    rw [bit_zero, bit_zero, bit_zero]
    by_cases ha : a % 2 = 1 <;> by_cases hb : b % 2 = 1
    · have := h1.mpr ⟨ha, hb⟩
      simp [ha, hb]
      omega
    · have : ¬ (a &&& b) % 2 = 1 := fun h => hb (h1.mp h).2
      simp [ha, hb]
      omega
    · have : ¬ (a &&& b) % 2 = 1 := fun h => ha (h1.mp h).1
      simp [ha, hb]
      omega
    · have : ¬ (a &&& b) % 2 = 1 := fun h => ha (h1.mp h).1
      simp [ha, hb]
      omega
  | succ i ih =>
    intro a b
    have h1 := @Nat.and_mod_two_eq_one a b
    have hle := and_le a b
    have hd := @Nat.and_div_two a b
    have e : lessN a b / 2 = lessN (a / 2) (b / 2) := by
      unfold lessN
      rw [← hd]
      by_cases ha : (a &&& b) % 2 = 1
      · have := (h1.mp ha).1
        omega
      · omega
    rw [Nat.testBit_succ, Nat.testBit_succ, Nat.testBit_succ, e, ih]
theorem add_bit (i : Nat) : ∀ a b : Nat, (∀ j, (a.testBit j && b.testBit j) = false) → (a + b).testBit i = (a.testBit i || b.testBit i) := by
  induction i with
  | zero =>
    intro a b h
    have h0 := h 0
    rw [bit_zero, bit_zero] at h0
    rw [bit_zero, bit_zero, bit_zero]
    by_cases ha : a % 2 = 1 <;> by_cases hb : b % 2 = 1
    · simp [ha, hb] at h0
    · simp [ha, hb]
      omega
    · simp [ha, hb]
      omega
    · simp [ha, hb]
      omega
  | succ i ih =>
    intro a b h
    have h0 := h 0
    rw [bit_zero, bit_zero] at h0
    have e : (a + b) / 2 = a / 2 + b / 2 := by
      by_cases ha : a % 2 = 1 <;> by_cases hb : b % 2 = 1
      · simp [ha, hb] at h0
      · omega
      · omega
      · omega
    rw [Nat.testBit_succ, Nat.testBit_succ, Nat.testBit_succ, e]
    refine ih _ _ fun j => ?_
    have := h (j + 1)
    rwa [Nat.testBit_succ, Nat.testBit_succ] at this
theorem pow_bit (n i : Nat) : (2 ^ n).testBit i = decide (i = n) := by
  rw [Nat.testBit_two_pow]
  by_cases h : n = i
  · simp [h]
  · simp [h, Ne.symm h]
/-- the mask of a list without doubles -/
def maskN (l : List Nat) : Nat := (l.map (2 ^ ·)).sum
theorem maskN_bit : ∀ {l : List Nat}, l.Nodup → ∀ i, (maskN l).testBit i = decide (i ∈ l)
  | [], _, i => by simp [maskN]
  | n :: l, h, i => by
    have hn := List.nodup_cons.mp h
    have ih := maskN_bit hn.2
    show (2 ^ n + maskN l).testBit i = _
    rw [add_bit i _ _ fun j => ?_, pow_bit, ih]
    · simp [Bool.decide_or]
    · rw [pow_bit, ih]
      by_cases hj : j = n
      · subst hj
        simp [hn.1]
      · simp [hj]
theorem lt_of_bits {m k : Nat} (h : ∀ i, m.testBit i = true → i < k) : m < 2 ^ k := by
  refine Nat.lt_pow_two_of_testBit m fun i hi => ?_
  cases e : m.testBit i with
  | false => rfl
  | true =>
    have := h i e
    omega
/-- the bits of a mask below 2 ^ 16 -/
def bitsN (m : Nat) : List Nat := (List.range 16).filter m.testBit
theorem bitsN_of {m n : Nat} (hm : m < 2 ^ 16) (hn : m < 2 ^ n) : (List.range n).filter m.testBit = bitsN m := by
  have key : ∀ k, m < 2 ^ k → ∀ j, (List.range (k + j)).filter m.testBit = (List.range k).filter m.testBit := by
    intro k hk j
    induction j with
    | zero => rfl
    | succ j ih =>
      rw [← Nat.add_assoc, List.range_succ, List.filter_append, ih]
      have : m.testBit (k + j) = false := Nat.testBit_lt_two_pow (Nat.lt_of_lt_of_le hk (Nat.pow_le_pow_right (by decide) (by omega)))
      rw [List.filter_cons, this]
      simp
  unfold bitsN
  by_cases h : n ≤ 16
  · obtain ⟨j, hj⟩ := Nat.exists_eq_add_of_le h
    rw [hj, key n hn j]
  · obtain ⟨j, hj⟩ := Nat.exists_eq_add_of_le (show 16 ≤ n by omega)
    rw [hj, key 16 hm j]
theorem mem_bitsN {m i : Nat} (hm : m < 2 ^ 16) : i ∈ bitsN m ↔ m.testBit i = true := by
  unfold bitsN
  rw [List.mem_filter, List.mem_range]
  refine ⟨fun h => h.2, fun h => ⟨?_, h⟩⟩
  by_cases hi : i < 16
  · exact hi
  · exfalso
    have : m.testBit i = false := Nat.testBit_lt_two_pow (Nat.lt_of_lt_of_le hm (Nat.pow_le_pow_right (by decide) (by omega)))
    rw [this] at h
    exact Bool.noConfusion h
theorem shr_bit (m i : Nat) : decide (V.int (Builtin.bitAnd ((m : Int) / 2 ^ ((i : Int).toNat)) 1) = V.int 1) = m.testBit i := by
  rw [PyProof.Rows.bitAnd_m1, Nat.testBit_eq_decide_div_mod_eq, Int.toNat_natCast]
  have : ((m : Int) / 2 ^ i % 2) = ((m / 2 ^ i % 2 : Nat) : Int) := by simp
  rw [this]
  by_cases h : m / 2 ^ i % 2 = 1
  · rw [h]; rfl
  · rw [decide_eq_false h, decide_eq_false]
    intro q
    injection q with q
    omega
theorem intBits_lt (m : Nat) : m < 2 ^ (Builtin.Int.intBits (m : Int)) := by
  have := PySem.intBits_le_iff (m := Builtin.Int.intBits (m : Int)) (x := (m : Int))
  have h := this.mp (Nat.le_refl _)
  simpa using h
end Bz

set_option maxHeartbeats 1000000
namespace Bz
open PySem PySem.Spec PyProof.Rows L2 Evl
/-! ### bits, lot_of -/
abbrev nV (n : Nat) : V := .int (n : Int)
/-- a new tuple -/
def RetU (xs : List V) (H : Hp) (Q : VK) : Prop := ∀ p H2, H p = none → Ex H H2 → H2 p = some (.tup xs) → Q (.ref p) H2
def SpU (sp : Sp) (vs : List V) (H : Hp) (xs : List V) : Prop := ∀ H1, Ex H H1 → ∀ Q : VK, (∀ p H2, H1 p = none → Ex H1 H2 → H2 p = some (.tup xs) → Q (.ref p) H2) → ∀ E : XK, sp vs H1 Q E
theorem eu_call {sp : Sp} {dvs vs xs : List V} {E : XK} {ta : TA} {σ : L2.St} {H : Hp} (h : EvA ta σ H vs) (hs : SpU sp (vs ++ dvs) H xs) : EvU (tCall sp dvs E ta) σ H xs := fun H1 e Q q =>
  h H1 e _ fun H2 e2 => hs H2 (e.trans e2) Q (fun p H3 hp e3 h3 => q p H3 (fresh_back e2 hp) (e2.trans e3) h3) E
def spBits (K : PySem.W.Frag) : Sp := fun vs H Q _ => ∃ (a : Addr) (ns : List Nat), vs = [.ref a] ∧ (SqL K H a (ns.map nV) ∨ SqT K H a (ns.map nV)) ∧ ns.length ≤ 40000 ∧ (∀ n ∈ ns, n ≤ 1000) ∧ RetV (nV (maskN ns)) H Q
theorem scBits : FnScope ["lot", "item"] ["lot"] (defScope sBits) := ⟨rfl, rfl, rfl, by decide +kernel, rfl, by decide +kernel, by decide +kernel⟩
def spLotOf (K : PySem.W.Frag) : Sp := fun vs H Q _ => ∃ (m : Nat), vs = [nV m] ∧ m < 2 ^ 16 ∧ RetU ((bitsN m).map nV) H Q
theorem scLotOf : FnScope ["mask", "item"] ["mask"] (defScope sLotOf) := ⟨rfl, rfl, rfl, by decide +kernel, rfl, by decide +kernel, by decide +kernel⟩
theorem sum_cast : ∀ l : List Nat, (l.map fun n => ((2 ^ n : Nat) : Int)).sum = ((maskN l : Nat) : Int)
  | [] => rfl
  | n :: l => by
    have ih := sum_cast l
    rw [List.map_cons, List.sum_cons, ih]
    show _ = ((2 ^ n + maskN l : Nat) : Int)
    push_cast
    rfl
theorem map_getD {α β : Type} (l : List α) (d : α) (f : α → β) : (List.range l.length).map (fun i => f (l.getD i d)) = l.map f := by
  refine List.ext_getElem (by simp) fun i h1 h2 => ?_
  simp at h1
  simp [h1]
section
variable {P : Program} {w : World} {K : PySem.W.Frag} {mg : Str → Option Value} {base : Heap} {CW CB CN : Addr}
theorem ok_bits {f : Addr} {fd : FuncData} (F : FnP K "bits" sBits f fd) (T : Txt K mg CW CB CN) : FnOk P w K mg base CX0 1 f fd ["lot"] (spBits K) := by
  refine F.ok scBits (fun vs H Q E h => ?_) (fun cdv A outer s H vs Q E hr h => ?_)
  · obtain ⟨a, ns, rfl, _⟩ := h
    rfl
  · obtain ⟨a, ns, rfl, hx, hz, hn, k⟩ := h
    refine ⟨_, PSs.nox (pss_one (ps_ret (pe_callB (cr_sum rfl) rfl T.sum (by decide +kernel) (pa_cons
      (pe_lc (own := [("item", 1)]) (g := gName 1) (tt := tYes) rfl scBits.nd (pi_seq (pv 0))
        (blkOk_by (N := ["lot", "item"]) (sc := defScope sBits) (by decide +kernel)) (fun _ _ _ _ _ => pg_name (i := 1) scBits.nd rfl (Or.inl rfl)) (fun _ _ _ _ _ => pts_nil)
        (fun _ _ _ _ _ => pe_op op_oneShl pe_int (pv 1))) pa_nil)))), ?_⟩
    have e0 : (start ["lot", "item"] [V.ref a])[0]? = some (some (V.ref a)) := rfl
    refine s_ret (ev_is (ev_sum (ns := ns.map fun n => ((2 ^ n : Nat) : Int)) ?_) (by rw [sum_cast])) k
    refine fun H1 q1 => el_is ?_ (el_lcN (fun _ => true) (fun i => .int ((2 ^ (ns.getD i 0) : Nat) : Int)) (wi_seq (ev_var e0) hx) (by rw [List.length_map]; exact hz) (fun _ => rfl) fun i x H2 q2 hi hY => ⟨et_yes, fun _ => ?_⟩) H1 q1
    · rw [given_all, List.length_map, map_getD ns 0 (fun n => V.int ((2 ^ n : Nat) : Int)), List.map_map]
      rfl
    · rw [List.length_map] at hi
      have e : ns[i]? = some (ns.getD i 0) := at_getD 0 hi
      rw [List.getElem?_map, e] at hY
      have hY : nV (ns.getD i 0) = x := by injection hY
      subst hY
      have f1 : ((wipe (start ["lot", "item"] [V.ref a]) [1]).set 1 (some (nV (ns.getD i 0))))[1]? = some (some (nV (ns.getD i 0))) := rfl
      refine ev_op ev_c (ev_var f1) (rv_val fun H1 e1 Q q => ⟨ns.getD i 0, rfl, rfl, ?_, ?_⟩)
      · have := hn _ (List.mem_of_getElem? e)
        omega
      · have : ((2 : Int) ^ (ns.getD i 0)) = ((2 ^ (ns.getD i 0) : Nat) : Int) := by push_cast; rfl
        rw [this]
        exact q
theorem ev_bits {te : TE} {σ : L2.St} {H : Hp} {i : Int} (h : Ev te σ H (.int i)) : Ev (tBits te) σ H (nV (Builtin.Int.intBits i)) := fun H1 e Q q => h H1 e _ fun H2 e2 => ⟨i, rfl, q H2 e2⟩
theorem ok_lotOf {f : Addr} {fd : FuncData} (F : FnP K "lot_of" sLotOf f fd) (T : Txt K mg CW CB CN) : FnOk P w K mg base CX0 1 f fd ["mask"] (spLotOf K) := by
  refine F.ok scLotOf (fun vs H Q E h => ?_) (fun cdv A outer s H vs Q E hr h => ?_)
  · obtain ⟨m, rfl, _⟩ := h
    rfl
  · obtain ⟨m, rfl, hm, k⟩ := h
    refine ⟨_, PSs.nox (pss_one (ps_ret (pe_tupleOf rfl T.tuple
      (pe_lc (own := [("item", 1)]) (g := gName 1) rfl scLotOf.nd (pi_range1 rfl T.range (pa_cons (pe_bits (pv 0)) pa_nil))
        (blkOk_by (N := ["mask", "item"]) (sc := defScope sLotOf) (by decide +kernel)) (fun _ _ _ _ _ => pg_name (i := 1) scLotOf.nd rfl (Or.inl rfl))
        (fun _ _ _ _ _ => pts_one (pt_cmpR op_eq (pe_op op_and (pe_op op_shr (pv 0) (pv 1)) pe_int) pe_int (nomark _)))
        (fun _ _ _ _ _ => pv 1))))), ?_⟩
    have e0 : (start ["mask", "item"] [nV m])[0]? = some (some (nV m)) := rfl
    have hb : Builtin.Int.intBits (m : Int) ≤ 16 := PySem.intBits_le_iff.mpr (by simpa using hm)
    refine s_retU (xs := (bitsN m).map nV) (eu_tupleOf fun H1 q1 => el_is ?_ (el_lcN (fun i => m.testBit i) (fun i => nV i) (wi_r1 (n := (Builtin.Int.intBits (m : Int) : Nat)) (ea_cons (ev_bits (ev_var e0)) ea_nil) (by omega) (by omega)) (by omega) (fun _ => rfl) fun i x H2 q2 hi hY => ?_) H1 q1) k
    · unfold given
      rw [Int.toNat_natCast, bitsN_of hm (intBits_lt m)]
    · subst hY
      have f0 : ((wipe (start ["mask", "item"] [nV m]) [1]).set 1 (some (nV i)))[0]? = some (some (nV m)) := rfl
      have f1 : ((wipe (start ["mask", "item"] [nV m]) [1]).set 1 (some (nV i)))[1]? = some (some (nV i)) := rfl
      refine ⟨?_, fun _ => ev_var f1⟩
      exact et_test (ev_is (ev_op (ev_op (ev_op (ev_var f0) (ev_var f1) (rv_I (Int.natCast_nonneg _))) ev_c rv_I0) ev_c (rv_eq rfl)) (by rw [shr_bit]))
theorem sv_bits {H : Hp} {a : Addr} {ns : List Nat} (hx : SqL K H a (ns.map nV) ∨ SqT K H a (ns.map nV)) (hz : ns.length ≤ 40000) (hn : ∀ n ∈ ns, n ≤ 1000) : SpV (spBits K) [.ref a] H (nV (maskN ns)) := fun H1 e Q q E =>
  ⟨a, ns, rfl, hx.imp (ex_l e) (ex_t e), hz, hn, q⟩
theorem su_lotOf {H : Hp} {m : Nat} (hm : m < 2 ^ 16) : SpU (spLotOf K) [nV m] H ((bitsN m).map nV) := fun H1 e Q q E => ⟨m, rfl, hm, q⟩
end
end Bz

set_option maxHeartbeats 1000000
namespace Bz
open PySem PySem.Spec PyProof.Rows L2 Evl
section
variable {K : PySem.W.Frag} {σ : L2.St} {H H' : Hp} {ta tb tv te : TE} {x y v : V} {D : Ends} {f : Str} {tz : TS}
theorem ev_fld {a C dx : Addr} {fs : List (Str × V)} (ha : Ev ta σ H (.ref a)) (h : H a = some (.ins C dx fs)) (c : Cls K C) (n : NoAttr K C f) (l : fs.lookup f = some v) : Ev (tFld K ta f) σ H v := fun H1 e Q q =>
  ha H1 e _ fun H2 e2 => ⟨a, C, dx, fs, v, rfl, (e.trans e2) _ _ h, c, n, l, q H2 e2⟩
theorem s_fld {a C dx : Addr} {fs : List (Str × V)} (hv : Ev tv σ H y) (ha : Ev ta σ H (.ref a)) (h : H a = some (.ins C dx fs)) (c : Cls K C) (n : NoAttr K C f) (hz : fs.length < 1000) (k : ∀ H1, Ex H H1 → D.nx σ (upd H1 a (.ins C dx (putF f y fs)))) :
    sFld K ta tv f D σ H :=
  hv H (Ex.refl _) _ fun H1 e1 => ha H1 e1 _ fun H2 e2 => ⟨a, C, dx, fs, rfl, (e1.trans e2) _ _ h, c, n, hz, k H2 (e1.trans e2)⟩
theorem s_fldL {a C dx : Addr} {fs : List (Str × V)} {xs : List V} (hv : EvL tv σ H xs) (ha : Ev ta σ H (.ref a)) (h : H a = some (.ins C dx fs)) (c : Cls K C) (n : NoAttr K C f) (hz : fs.length < 1000)
    (k : ∀ p H1, H p = none → Ex H H1 → H1 p = some (.lst xs) → D.nx σ (upd H1 a (.ins C dx (putF f (.ref p) fs)))) : sFld K ta tv f D σ H :=
  hv H (Ex.refl _) _ fun p H1 hp e1 hp1 => ha H1 e1 _ fun H2 e2 => ⟨a, C, dx, fs, rfl, (e1.trans e2) _ _ h, c, n, hz, k p H2 hp (e1.trans e2) (e2 _ _ hp1)⟩
theorem q_fld {a C dx : Addr} {fs : List (Str × V)} (hv : Ev tv σ H y) (ha : Ev ta σ H (.ref a)) (h : H a = some (.ins C dx fs)) (c : Cls K C) (n : NoAttr K C f) (hz : fs.length < 1000) (k : ∀ H1, Ex H H1 → tz D σ (upd H1 a (.ins C dx (putF f y fs)))) :
    tSeq (sFld K ta tv f) tz D σ H := s_fld (D := { D with nx := tz D }) hv ha h c n hz k
theorem q_fldL {a C dx : Addr} {fs : List (Str × V)} {xs : List V} (hv : EvL tv σ H xs) (ha : Ev ta σ H (.ref a)) (h : H a = some (.ins C dx fs)) (c : Cls K C) (n : NoAttr K C f) (hz : fs.length < 1000)
    (k : ∀ p H1, H p = none → Ex H H1 → H1 p = some (.lst xs) → tz D σ (upd H1 a (.ins C dx (putF f (.ref p) fs)))) : tSeq (sFld K ta tv f) tz D σ H := s_fldL (D := { D with nx := tz D }) hv ha h c n hz k
/-- [..] * k -/
theorem el_rep {xs : List V} {k : Nat} (ha : EvL ta σ H xs) (hb : ∀ H1, Ex H H1 → Ev tb σ H1 (nV k)) (hk : k ≤ 1000) (hz : xs.length ≤ 10) : EvL (tOp rRep ta tb) σ H (List.replicate k xs).flatten := fun H1 e Q q =>
  ha H1 e _ fun p H2 hp e2 h2 => hb H2 (e.trans e2) H2 (Ex.refl _) _ fun H3 e3 => ⟨p, (k : Int), xs, rfl, rfl, e3 _ _ h2, by omega, by omega, by
    rw [Int.toNat_natCast]
    refine sz_of ?_
    have := Nat.mul_le_mul hz hk
    omega, fun l hl => by
    rw [Int.toNat_natCast]
    exact q l _ (fresh_back e2 (fresh_back e3 hl)) ((e2.trans e3).trans (Ex.new hl)) upd_same⟩
theorem rv_bor {a b : Nat} : RV (rI0 fun i j => .int (Builtin.bitOr i j)) (nV a) (nV b) H (nV (a ||| b)) := by
  have := rv_I0 (H := H) (g := fun i j => V.int (Builtin.bitOr i j)) (i := (a : Int)) (j := (b : Int))
  rwa [bor_nat] at this
theorem rv_oneShl {k : Nat} (hk : k ≤ 1000) : RV (fun x y H Q => ∃ k : Nat, x = .int 1 ∧ y = .int (k : Int) ∧ k ≤ 134217727 ∧ Q (.int (2 ^ k)) H) (.int 1) (nV k) H (nV (2 ^ k)) := rv_val fun H1 e Q q => ⟨k, rfl, rfl, by omega, by
  have : ((2 : Int) ^ k) = ((2 ^ k : Nat) : Int) := by push_cast; rfl
  rw [this]
  exact q⟩
theorem rv_band {a b : Nat} : RV (rI0 fun i j => .int (Builtin.bitAnd i j)) (nV a) (nV b) H (nV (a &&& b)) := rv_I0
theorem rv_bandnot {a b : Nat} : RV (rI0 fun i j => .int (Builtin.bitAnd i j)) (nV a) (.int (Builtin.bitNot (b : Int))) H (nV (lessN a b)) := by
  have := rv_I0 (H := H) (g := fun i j => V.int (Builtin.bitAnd i j)) (i := (a : Int)) (j := Builtin.bitNot (b : Int))
  rwa [bandnot_nat] at this
theorem ru_inv {i : Int} : RU (rU fun i => .int (Builtin.bitNot i)) (.int i) H (.int (Builtin.bitNot i)) := fun H1 e Q q => ⟨i, rfl, q H1 (Ex.refl _)⟩
theorem rv_ixLn {p : Addr} {ns : List Nat} {i : Nat} (h : SqL K H p (ns.map nV)) (hi : i < ns.length) : RV (rIxL K) (.ref p) (nV i) H (nV (ns.getD i 0)) := rv_ixL h (atI_nat (by rw [List.getElem?_map, at_getD 0 hi]; rfl))
end
end Bz

set_option maxHeartbeats 1000000
namespace Bz
open PySem PySem.Spec PyProof.Rows L2 Evl
/-! ### Web.__init__ -/
abbrev pwB : Program := PySem.Challenge.pw_busyfloor_k74_whole_hasty_rounds
def thE (e : Nat × Nat) : Th := .tup [.int (e.1 : Int), .int (e.2 : Int)]
def thT (es : List (Nat × Nat)) : Th := .tup (es.map thE)
def keptStep (ks : List Nat) (e : Nat × Nat) : List Nat := (ks.set e.1 (ks.getD e.1 0 ||| 2 ^ e.2)).set e.2 ((ks.set e.1 (ks.getD e.1 0 ||| 2 ^ e.2)).getD e.2 0 ||| 2 ^ e.1)
def keptOf (p : Nat) (es : List (Nat × Nat)) : List Nat := es.foldl keptStep (List.replicate p 0)
theorem keptStep_len (ks : List Nat) (e : Nat × Nat) : (keptStep ks e).length = ks.length := by simp [keptStep]
theorem kept_len : ∀ (es : List (Nat × Nat)) (ks : List Nat), (es.foldl keptStep ks).length = ks.length
  | [], _ => rfl
  | e :: es, ks => by
    rw [List.foldl_cons, kept_len es, keptStep_len]
def EsOk (p : Nat) (es : List (Nat × Nat)) : Prop := ∀ e ∈ es, e.1 < e.2 ∧ e.2 < p
def webFs (p : Nat) (t l : Addr) : List (Str × V) := [("people", nV p), ("ties", .ref t), ("kept_ties", .ref l)]
/-- at x: a whole web -/
def WebAt (K : PySem.W.Frag) (CW : Addr) (H : Hp) (x : Addr) (p : Nat) (es : List (Nat × Nat)) : Prop := ∃ dx t l, H x = some (.ins CW dx (webFs p t l)) ∧ ThR K CW H (.ref t) (thT es) ∧ H l = some (.lst ((keptOf p es).map nV))
theorem WebAt.mono {K : PySem.W.Frag} {CW : Addr} {H H' : Hp} {x : Addr} {p : Nat} {es : List (Nat × Nat)} (h : WebAt K CW H x p es) (e : Ex H H') : WebAt K CW H' x p es := by
  obtain ⟨dx, t, l, h1, h2, h3⟩ := h
  exact ⟨dx, t, l, e _ _ h1, h2.mono e, e _ _ h3⟩
/-- the raising way -/
def RaiseP (CB : Addr) (z : Str) (H : Hp) (E : XK) : Prop := ∀ d H', Ex H H' → H' d = some (.xd [("part", .str z)]) → E (.ref CB) (some d) H'
def spWeb (K : PySem.W.Frag) (CW CB : Addr) : Sp := fun vs H Q E => ∃ (x dx : Addr) (vp vt : V) (tp tt : Th), vs = [.ref x, vp, vt] ∧ H x = some (.ins CW dx []) ∧ ThR K CW H vp tp ∧ ThR K CW H vt tt ∧
  ((tp.within 1 9 = false ∧ RaiseP CB "people" H E) ∨ (tp.within 1 9 = true ∧ tt.ties tp.i = false ∧ RaiseP CB "ties" H E) ∨
    ∃ (p : Nat) (es : List (Nat × Nat)), tp = .int (p : Int) ∧ 1 ≤ p ∧ p ≤ 9 ∧ tt = thT es ∧ tt.ties (p : Int) = true ∧ EsOk p es ∧
      ∀ H', (∀ a o, a ≠ x → H a = some o → H' a = some o) → WebAt K CW H' x p es → Q .non H')
theorem scWeb : FnScope ["self", "people", "ties", "one", "other"] ["self", "people", "ties"] (defScope sWeb) := ⟨rfl, rfl, rfl, by decide +kernel, rfl, by decide +kernel, by decide +kernel⟩
/-- raise BadWeb(z) -/
theorem rep_flat {α : Type} (p : Nat) (v : α) : (List.replicate p [v]).flatten = List.replicate p v := by
  induction p with
  | zero => rfl
  | succ p ih => rw [List.replicate_succ, List.flatten_cons, ih]; rfl
theorem bad_raise {CB : Addr} {σ : L2.St} {H : Hp} {z : Str} {E : XK} (h : RaiseP CB z H E) : tMkO CB (spBad CB) [] (tCons (tC (.str z)) tNil) σ H E := by
  refine ⟨(by show (1 : Nat) ≤ 1000; decide), fun a ha => ⟨a, z, rfl, upd_same, fun d hd hda => ⟨rfl, d, [("part", .str z)], upd_same, ?_, ?_, h d _ ?_ upd_same⟩⟩⟩
  · rw [upd_ne hda]
    exact upd_same
  · rwa [upd_ne hda] at hd
  · intro b o hb
    have hd : H d = none := by rwa [upd_ne hda] at hd
    have hba : b ≠ a := fun q => by rw [q, ha] at hb; cases hb
    have hbd : b ≠ d := fun q => by rw [q, hd] at hb; cases hb
    rw [upd_ne hbd, del_ne hba, upd_ne hba, upd_ne hbd, upd_ne hba]
    exact hb
theorem kept_take {p : Nat} {es : List (Nat × Nat)} {i : Nat} {e : Nat × Nat} (h : es[i]? = some e) : keptOf p (es.take (i + 1)) = keptStep (keptOf p (es.take i)) e := by
  obtain ⟨hi, h⟩ := List.getElem?_eq_some_iff.mp h
  rw [List.take_succ_eq_append_getElem hi, h]
  unfold keptOf
  rw [List.foldl_append]
  rfl
theorem Kp.of_x {K : PySem.W.Frag} {CW x : Addr} {H H' : Hp} (hx : ∃ dx fs, H x = some (.ins CW dx fs)) (hx' : ∃ dx fs, H' x = some (.ins CW dx fs)) (k : ∀ a o, a ≠ x → H a = some o → H' a = some o) : Kp K CW H H' := by
  obtain ⟨dx, fs, hx⟩ := hx
  obtain ⟨dy, gs, hx'⟩ := hx'
  have ne : ∀ a o, H a = some o → (∀ d f, o ≠ .ins CW d f) → H' a = some o := fun a o h n => k a o (fun q => by
    subst q
    rw [hx] at h
    injection h with h
    exact n _ _ h.symm) h
  refine ⟨fun a xs h => ?_, fun a xs h => ⟨xs, ne a _ h (by intro _ _ q; cases q)⟩, fun a l h => ⟨l, ne a _ h (by intro _ _ q; cases q)⟩, fun a d fs h => ?_⟩
  · rcases h with (h | ⟨o, h⟩) | h
    · exact .inl (.inl (ne a _ h (by intro _ _ q; cases q)))
    · exact .inl (.inr ⟨o, ne a _ h (by intro _ _ q; cases q)⟩)
    · exact .inr h
  · by_cases q : a = x
    · subst q
      exact ⟨dy, gs, hx'⟩
    · exact ⟨d, fs, k a _ q h⟩
/-- a tie as two ints -/
theorem tie_pair {K : PySem.W.Frag} {CW : Addr} {H : Hp} {v : V} {e : Nat × Nat} (h : ThR K CW H v (thE e)) : ∃ a, v = .ref a ∧ SqT K H a [nV e.1, nV e.2] := by
  cases h with
  | tup hs hall _ =>
    cases hall with
    | cons h1 h2 =>
      cases h2 with
      | cons h3 h4 =>
        cases h1
        cases h3
        cases h4
        exact ⟨_, rfl, hs⟩
section
variable {w : World} {K : PySem.W.Frag} {mg : Str → Option Value} {base : Heap} {CW CB CN : Addr}
theorem bad_binds {fI : Addr} {fdI : FuncData} (B : BadF K CB fI fdI) : Binds K fdI ["self", "part"] [] := by
  obtain ⟨oc, od, osl, kV, doc, pm, ct, an, cc, c, rfl, _⟩ := B.ex
  exact .all fun us hl => match us, hl with | [_, _], _ => rfl
theorem ok_web {f fW fT fI : Addr} {fd fdW fdT fdI : FuncData} (F : FnM K "__init__" "Web.__init__" sWeb f fd) (T : Txt K mg CW CB CN) (FW : FnP K "is_within" sWithin fW fdW) (gW : mg "is_within" = some (.ref fW)) (GW : FnOk pwB w K mg base CX0 2 fW fdW ["thing", "least", "most"] (spWithin K CW))
    (FT : FnP K "are_ties" sTies fT fdT) (gT : mg "are_ties" = some (.ref fT)) (GT : FnOk pwB w K mg base CX0 4 fT fdT ["thing", "people"] (spTies K CW)) (B : BadF K CB fI fdI) (gsuper : mg "super" = none) : FnOk pwB w K mg base (L2.CX pwB w) 5 f fd ["self", "people", "ties"] (spWeb K CW CB) := by
  have bW : Binds K fdW ["thing", "least", "most"] [] := FW.bindsN fun _ _ _ _ _ _ us hl => match us, hl with | [_, _, _], _ => rfl
  have bT : Binds K fdT ["thing", "people"] [] := FT.bindsN fun _ _ _ _ _ _ us hl => match us, hl with | [_, _], _ => rfl
  have bI := bad_binds B
  have GI : FnOk pwB w K mg base CX0 1 fI fdI ["self", "part"] (spBad CB) := ok_bad B T gsuper
  obtain ⟨t9, hm9⟩ := T.most
  refine F.ok scWeb (fun vs H Q E h => ?_) (fun cdv A outer s H vs Q E hr h => ?_)
  · obtain ⟨x, dx, vp, vt, tp, tt, rfl, _⟩ := h
    rfl
  · obtain ⟨x, dx, vp, vt, tp, tt, rfl, hx, hp, ht, k⟩ := h
    refine ⟨_, pss_cons (ps_if (pt_not (pt_val (pe_call GW (hr.mono (by decide)) rfl gW FW.kp bW .nil pass0 (pa_cons (pv 1) (pa_cons pe_int (pa_cons (pe_glob (v := .int 9) rfl hm9 ⟨_, rfl⟩) pa_nil))))))
        (pss_one (ps_raise rfl (takes_of rfl rfl rfl rfl) (pmk_oex T.oxB B.init B.ty GI (hr.mono (by decide)) bI .nil pass0 rfl T.gB (pa_cons pe_str pa_nil)))) pss_nil)
      (pss_cons (ps_if (pt_not (pt_val (pe_call GT (hr.mono (by decide)) rfl gT FT.kp bT .nil pass0 (pa_cons (pv 2) (pa_cons (pv 1) pa_nil)))))
        (pss_one (ps_raise rfl (takes_of rfl rfl rfl rfl) (pmk_oex T.oxB B.init B.ty GI (hr.mono (by decide)) bI .nil pass0 rfl T.gB (pa_cons pe_str pa_nil)))) pss_nil)
      (pss_cons (ps_fld (pv 0) (pv 1) rfl) (pss_cons (ps_fld (pv 0) (pv 2) rfl) (pss_cons (ps_fld (pv 0) (pe_op op_rep (pe_lst (pa_cons pe_int pa_nil)) (pv 1)) rfl)
      (pss_one (ps_for (passes_of rfl) rfl (pi_tup (pv 2)) (pg_tup rfl (pgs_cons (pg_name (i := 3) scWeb.nd rfl (.inl rfl)) (pgs_cons (pg_name (i := 4) scWeb.nd rfl (.inl rfl)) pgs_nil)))
        (pss_cons (ps_asg (pe_op op_or (pe_ix ix_list (pe_fld (pv 0) rfl) (pv 3) (fun _ _ => rfl)) (pe_op op_oneShl pe_int (pv 4))) (pg_sub (pe_fld (pv 0) rfl) (pv 3) set_list))
        (pss_one (ps_asg (pe_op op_or (pe_ix ix_list (pe_fld (pv 0) rfl) (pv 4) (fun _ _ => rfl)) (pe_op op_oneShl pe_int (pv 3))) (pg_sub (pe_fld (pv 0) rfl) (pv 4) set_list)))))))))), ?_⟩
    have e0 : (start ["self", "people", "ties", "one", "other"] [.ref x, vp, vt])[0]? = some (some (.ref x)) := rfl
    have e1 : (start ["self", "people", "ties", "one", "other"] [.ref x, vp, vt])[1]? = some (some vp) := rfl
    have e2 : (start ["self", "people", "ties", "one", "other"] [.ref x, vp, vt])[2]? = some (some vt) := rfl
    refine q_when (b := !tp.within 1 9) (et_not (et_B (ev_call (ea_cons (ev_var e1) (ea_cons ev_c (ea_cons ev_c ea_nil))) (sv_within hp)))) (fun hb H1 q1 => ?_) fun hb H1 q1 => ?_
    · have hb : tp.within 1 9 = false := by simpa using hb
      rcases k with ⟨_, k⟩ | ⟨k, _⟩ | ⟨p, es, rfl, h1, h9, _⟩
      · exact bad_raise fun d H' q h => k d H' (q1.trans q) h
      · rw [k] at hb; cases hb
      · have : (Th.int (p : Int)).within 1 9 = true := by
          show (decide _ && decide _) = true
          rw [decide_eq_true (by omega), decide_eq_true (by omega)]
          rfl
        rw [this] at hb; cases hb
    · have hb : tp.within 1 9 = true := by simpa using hb
      have hpi : tp = .int tp.i := within_int hb
      generalize hti : tp.i = ti at hpi
      subst hpi
      cases hp with
      | int =>
      refine q_when (b := !tt.ties ti) (et_not (et_B (ev_call (ea_cons (ev_var e2) (ea_cons (ev_var e1) ea_nil)) (sv_ties (ht.mono q1))))) (fun hb2 H2 q2 => ?_) fun hb2 H2 q2 => ?_
      · have hb2 : tt.ties ti = false := by simpa using hb2
        rcases k with ⟨k, _⟩ | ⟨_, _, k⟩ | ⟨p, es, hpe, h1, h9, _, htt, _⟩
        · rw [k] at hb; cases hb
        · exact bad_raise fun d H' q h => k d H' ((q1.trans q2).trans q) h
        · have : ti = (p : Int) := by injection hpe
          rw [this, htt] at hb2; cases hb2
      · have hb2 : tt.ties ti = true := by simpa using hb2
        rcases k with ⟨k, _⟩ | ⟨_, k, _⟩ | ⟨p, es, hpe, h1, h9, hes, htt, hok, k⟩
        · rw [k] at hb; cases hb
        · rw [show (Th.int ti).i = ti from rfl] at k
          rw [k] at hb2; cases hb2
        · have : ti = (p : Int) := by injection hpe
          subst this
          subst hes
          have q12 := q1.trans q2
          have htt0 := ht
          cases ht with
          | tup hts hall hz =>
          rename_i t xs
          have hlen := hall.length
          rw [List.length_map] at hlen
          have hx2 := q12 _ _ hx
          refine q_fld (y := nV p) (ev_var e1) (ev_var e0) hx2 T.clW T.nPe (by show (0 : Nat) < 1000; decide) fun H3 q3 => ?_
          refine q_fld (y := .ref t) (ev_var e2) (ev_var e0) upd_same T.clW T.nTi (by show (1 : Nat) < 1000; decide) fun H4 q4 => ?_
          refine q_fldL (xs := (List.replicate p [nV 0]).flatten) (el_rep (el_lst (ea_cons ev_c ea_nil) (by show (1 : Nat) ≤ 100000; decide)) (fun _ _ => ev_var e1) (by omega) (by show (1 : Nat) ≤ 10; decide)) (ev_var e0) upd_same T.clW T.nKe (by show (2 : Nat) < 1000; decide) fun l H5 hl0 q5 hl5 => ?_
          have hx4 : H4 x = some (.ins CW dx (putF "people" (nV p) [])) := q4 _ _ upd_same
          have hlx : l ≠ x := fun q => by
            subst q
            rw [upd_same] at hl0
            cases hl0
          have kx : ∀ a o, a ≠ x → H a = some o → H5 a = some o := fun a o ha h => by
            refine q5 _ _ ?_
            rw [upd_ne ha]
            refine q4 _ _ ?_
            rw [upd_ne ha]
            exact q3 _ _ (q12 _ _ h)
          have hl0' : H l = none := by
            cases hh : H l with
            | none => rfl
            | some o =>
              exfalso
              have : H4 l = some o := q4 _ _ (by rw [upd_ne hlx]; exact q3 _ _ (q12 _ _ hh))
              rw [upd_ne hlx] at hl0
              rw [this] at hl0
              cases hl0
          let Pv : Nat → L2.St → Hp → Prop := fun i σ' H' => (∃ o3 o4, σ' = [some (.ref x), some (nV p), some (.ref t), o3, o4]) ∧ (∀ a o, a ≠ x → H a = some o → H' a = some o) ∧ H' x = some (.ins CW dx (webFs p t l)) ∧ H' l = some (.lst ((keptOf p (es.take i)).map nV))
          have kp : ∀ {H' : Hp}, (∀ a o, a ≠ x → H a = some o → H' a = some o) → H' x = some (.ins CW dx (webFs p t l)) → Kp K CW H H' := fun k hx' => .of_x ⟨_, _, hx⟩ ⟨_, _, hx'⟩ k
          have g0 : upd H5 x (.ins CW dx (putF "kept_ties" (.ref l) (putF "ties" (.ref t) (putF "people" (nV p) [])))) x = some (.ins CW dx (webFs p t l)) := upd_same
          have k0 : ∀ a o, a ≠ x → H a = some o → upd H5 x (.ins CW dx (putF "kept_ties" (.ref l) (putF "ties" (.ref t) (putF "people" (nV p) [])))) a = some o := fun a o ha h => by
            rw [upd_ne ha]
            exact kx a o ha h
          refine s_forT (a := t) (xs := xs) (ev_var e2) ((kp k0 g0).tup _ _ hts) Pv (fun H6 q6 => ⟨⟨_, _, rfl⟩, fun a o ha h => q6 _ _ (k0 a o ha h), q6 _ _ g0, ?_⟩) (fun i σ' H' hi pv => (kp pv.2.1 pv.2.2.1).tup _ _ hts) (fun i y σ' H' hy pv => ?_) fun σ' H' pv => ?_
          · have : upd H5 x (.ins CW dx (putF "kept_ties" (.ref l) (putF "ties" (.ref t) (putF "people" (nV p) [])))) l = some (.lst (List.replicate p [nV 0]).flatten) := by
              rw [upd_ne hlx]
              exact hl5
            rw [q6 _ _ this, rep_flat]
            show _ = some (HO.lst ((List.replicate p 0).map nV))
            rw [List.map_replicate]
          · obtain ⟨⟨o3, o4, rfl⟩, pk, px, pl⟩ := pv
            obtain ⟨te, h1, h2⟩ := hall.get hy
            rw [List.getElem?_map] at h1
            cases he : es[i]? with
            | none => rw [he] at h1; cases h1
            | some e =>
            rw [he] at h1
            have h1 : thE e = te := by injection h1
            subst h1
            obtain ⟨a, rfl, hs⟩ := tie_pair (h2.keep (kp pk px))
            obtain ⟨e12, e2p⟩ := hok e (List.mem_of_getElem? he)
            have hkl : (keptOf p (es.take i)).length = p := by
              unfold keptOf
              rw [kept_len, List.length_replicate]
            generalize hks : keptOf p (es.take i) = ks at pl hkl
            refine ⟨a, _, rfl, hs, rfl, _, _, rfl, _, _, rfl, rfl, ?_⟩
            show tSeq _ _ _ [some (.ref x), some (nV p), some (.ref t), some (nV e.1), some (nV e.2)] H'
            have f0 : ([some (.ref x), some (nV p), some (.ref t), some (nV e.1), some (nV e.2)] : L2.St)[0]? = some (some (.ref x)) := rfl
            have f3 : ([some (.ref x), some (nV p), some (.ref t), some (nV e.1), some (nV e.2)] : L2.St)[3]? = some (some (nV e.1)) := rfl
            have f4 : ([some (.ref x), some (nV p), some (.ref t), some (nV e.1), some (nV e.2)] : L2.St)[4]? = some (some (nV e.2)) := rfl
            refine q_setL (v := nV (ks.getD e.1 0 ||| 2 ^ e.2)) (j := e.1) pl (ev_op (ev_op (ev_fld (v := .ref l) (ev_var f0) px T.clW T.nKe rfl) (ev_var f3) (rv_ixLn (sq_of pl) (by omega))) (ev_op ev_c (ev_var f4) (rv_oneShl (by omega))) rv_bor)
              (ev_fld (ev_var f0) px T.clW T.nKe rfl) (ev_var f3) (by rw [List.length_map]; omega) fun H6 q6 => ?_
            have px6 : upd H6 l (.lst ((ks.map nV).set e.1 (nV (ks.getD e.1 0 ||| 2 ^ e.2)))) x = some (.ins CW dx (webFs p t l)) := by
              rw [upd_ne (Ne.symm hlx)]
              exact q6 _ _ px
            have pl6 : upd H6 l (.lst ((ks.map nV).set e.1 (nV (ks.getD e.1 0 ||| 2 ^ e.2)))) l = some (.lst ((ks.set e.1 (ks.getD e.1 0 ||| 2 ^ e.2)).map nV)) := by
              rw [upd_same, List.map_set]
            have hk1 : (ks.set e.1 (ks.getD e.1 0 ||| 2 ^ e.2)).length = p := by rw [List.length_set]; exact hkl
            generalize hk1s : ks.set e.1 (ks.getD e.1 0 ||| 2 ^ e.2) = k1 at pl6 hk1
            refine s_setL (v := nV (k1.getD e.2 0 ||| 2 ^ e.1)) (j := e.2) pl6 (ev_op (ev_op (ev_fld (v := .ref l) (ev_var f0) px6 T.clW T.nKe rfl) (ev_var f4) (rv_ixLn (sq_of pl6) (by omega))) (ev_op ev_c (ev_var f3) (rv_oneShl (by omega))) rv_bor)
              (ev_fld (ev_var f0) px6 T.clW T.nKe rfl) (ev_var f4) (by rw [List.length_map]; omega) fun H7 q7 => ⟨⟨_, _, rfl⟩, fun a o ha h => ?_, ?_, ?_⟩
            · have hal : a ≠ l := fun q => by rw [q, hl0'] at h; cases h
              rw [upd_ne hal]
              refine q7 _ _ ?_
              rw [upd_ne hal]
              exact q6 _ _ (pk a o ha h)
            · rw [upd_ne (Ne.symm hlx)]
              exact q7 _ _ px6
            · rw [upd_same, kept_take he, hks]
              unfold keptStep
              rw [hk1s, List.map_set]
          · obtain ⟨_, pk, px, pl⟩ := pv
            refine k H' pk ⟨dx, t, l, px, htt0.keep (kp pk px), ?_⟩
            rw [pl, hlen, List.take_length]
end
end Bz

set_option maxHeartbeats 1000000
namespace Bz
open PySem PySem.Spec PyProof.Rows L2 Evl
/-! ### rounds as data -/
abbrev Rd := List (Nat × Nat)
def prE (e : Nat × Nat) : PyData := .tuple [.int (e.1 : Int), .int (e.2 : Int)]
def rdD (r : Rd) : PyData := .tuple (r.map prE)
def rsD (rs : List Rd) : PyData := .list (rs.map rdD)
inductive Al2 {α β : Type} (P : α → β → Prop) : List α → List β → Prop
  | nil : Al2 P [] []
  | cons {a : α} {b : β} {as : List α} {bs : List β} : P a b → Al2 P as bs → Al2 P (a :: as) (b :: bs)
theorem Al2.imp {α β : Type} {P Q : α → β → Prop} (f : ∀ a b, P a b → Q a b) : ∀ {as : List α} {bs : List β}, Al2 P as bs → Al2 Q as bs
  | _, _, .nil => .nil
  | _, _, .cons h r => .cons (f _ _ h) (Al2.imp f r)
theorem Al2.length {α β : Type} {P : α → β → Prop} : ∀ {as : List α} {bs : List β}, Al2 P as bs → as.length = bs.length
  | _, _, .nil => rfl
  | _, _, .cons _ r => by simp [Al2.length r]
theorem Al2.append {α β : Type} {P : α → β → Prop} : ∀ {as cs : List α} {bs ds : List β}, Al2 P as bs → Al2 P cs ds → Al2 P (as ++ cs) (bs ++ ds)
  | _, _, _, _, .nil, h => h
  | _, _, _, _, .cons h r, k => .cons h (Al2.append r k)
theorem Al2.one {α β : Type} {P : α → β → Prop} {a : α} {b : β} (h : P a b) : Al2 P [a] [b] := .cons h .nil
theorem Al2.get {α β : Type} {P : α → β → Prop} : ∀ {as : List α} {bs : List β} {i : Nat} {a : α}, Al2 P as bs → as[i]? = some a → ∃ b, bs[i]? = some b ∧ P a b
  | _, _, 0, _, .cons h _, e => by
    simp at e
    subst e
    exact ⟨_, rfl, h⟩
  | _, _, i + 1, _, .cons _ r, e => by
    obtain ⟨b, h1, h2⟩ := Al2.get (i := i) r (by simpa using e)
    exact ⟨b, by simpa using h1, h2⟩
theorem Al2.map {α β γ : Type} {P : α → β → Prop} {f : γ → β} {g : γ → α} : ∀ {l : List γ}, (∀ c ∈ l, P (g c) (f c)) → Al2 P (l.map g) (l.map f)
  | [], _ => .nil
  | c :: l, h => .cons (h c (List.mem_cons_self ..)) (Al2.map fun d hd => h d (List.mem_cons_of_mem _ hd))
/-- a tuple of two ints; a tuple of such -/
def PrAt (K : PySem.W.Frag) (H : Hp) (v : V) (e : Nat × Nat) : Prop := ∃ a, v = .ref a ∧ SqT K H a [nV e.1, nV e.2]
def RdAt (K : PySem.W.Frag) (H : Hp) (v : V) (r : Rd) : Prop := ∃ a xs, v = .ref a ∧ SqT K H a xs ∧ Al2 (PrAt K H) xs r
/-- what tuples are kept -/
def TK (K : PySem.W.Frag) (H H' : Hp) : Prop := ∀ a xs, SqT K H a xs → SqT K H' a xs
section
variable {K : PySem.W.Frag} {CW : Addr} {H H' H'' : Hp} {v w : V} {r s : Rd} {e : Nat × Nat}
theorem TK.refl : TK K H H := fun _ _ h => h
theorem TK.of_ex (h : Ex H H') : TK K H H' := fun _ _ k => ex_t h k
theorem TK.trans (h : TK K H H') (k : TK K H' H'') : TK K H H'' := fun a xs q => k a xs (h a xs q)
/-- a list's change keeps the tuples -/
theorem TK.lst {l : Addr} {xs ys : List V} (h : H l = some (.lst xs)) : TK K H (upd H l (.lst ys)) := fun a zs k => by
  have ne : ∀ u, H a = some u → u ≠ .lst xs → a ≠ l := fun u h1 h2 q => by
    subst q
    rw [h] at h1
    injection h1 with h1
    exact h2 h1.symm
  rcases k with (k | ⟨o, k⟩) | k
  · exact .inl (.inl (by rw [upd_ne (ne _ k (by intro z; cases z))]; exact k))
  · exact .inl (.inr ⟨o, by rw [upd_ne (ne _ k (by intro z; cases z))]; exact k⟩)
  · exact .inr k
theorem PrAt.keep (k : TK K H H') (h : PrAt K H v e) : PrAt K H' v e := let ⟨a, e, q⟩ := h; ⟨a, e, k _ _ q⟩
theorem RdAt.keep (k : TK K H H') (h : RdAt K H v r) : RdAt K H' v r := let ⟨a, xs, e, q, z⟩ := h; ⟨a, xs, e, k _ _ q, z.imp fun _ _ => .keep k⟩
theorem PrAt.dp (h : PrAt K H v e) : Dp K H v (prE e) := by
  obtain ⟨a, rfl, q⟩ := h
  exact .tup q (.cons (.int _) (.cons (.int _) .nil))
theorem PrAt.dpAll : ∀ {xs : List V} {r : Rd}, Al2 (PrAt K H) xs r → DpAll K H xs (r.map prE)
  | _, _, .nil => .nil
  | _, _, .cons h k => .cons h.dp (PrAt.dpAll k)
theorem RdAt.dp (h : RdAt K H v r) : Dp K H v (rdD r) := by
  obtain ⟨a, xs, rfl, q, k⟩ := h
  exact .tup q (PrAt.dpAll k)
theorem RdAt.dpAll : ∀ {xs : List V} {rs : List Rd}, Al2 (RdAt K H) xs rs → DpAll K H xs (rs.map rdD)
  | _, _, .nil => .nil
  | _, _, .cons h k => .cons h.dp (RdAt.dpAll k)
/-- things and rounds -/
theorem PrAt.th (h : PrAt K H v e) : ThR K CW H v (thE e) := by
  obtain ⟨a, rfl, q⟩ := h
  exact .tup q (.cons (.int _) (.cons (.int _) .nil)) (by show (2 : Nat) ≤ 40000; decide)
theorem PrAt.thAll : ∀ {xs : List V} {r : Rd}, Al2 (PrAt K H) xs r → ThAll K CW H xs (r.map thE)
  | _, _, .nil => .nil
  | _, _, .cons h k => .cons h.th (PrAt.thAll k)
theorem RdAt.th (h : RdAt K H v r) (hz : r.length ≤ 40000) : ThR K CW H v (thT r) := by
  obtain ⟨a, xs, rfl, q, k⟩ := h
  exact .tup q (PrAt.thAll k) (by rw [List.length_map]; exact hz)
theorem PrAt.ofAll : ∀ {xs : List V} {r : Rd}, ThAll K CW H xs (r.map thE) → Al2 (PrAt K H) xs r
  | _, [], h => by cases h; exact .nil
  | _, e :: r, h => by
    cases h with
    | cons h k => exact .cons (tie_pair h) (PrAt.ofAll k)
theorem RdAt.of (h : ThR K CW H v (thT r)) : RdAt K H v r := by
  cases h with
  | tup q k _ => exact ⟨_, _, rfl, q, PrAt.ofAll k⟩
end
/-! ### == and shape of such data -/
theorem prE_eqv (z w : Nat × Nat) : PyData.eqv (prE z) (prE w) = decide (z = w) := by
  obtain ⟨a, b⟩ := z
  obtain ⟨c, d⟩ := w
  have e : PyData.eqv (prE (a, b)) (prE (c, d)) = (((a : Int) == (c : Int)) && (((b : Int) == (d : Int)) && true)) := by simp only [prE, PyData.eqv, PyData.eqvAll]
  rw [e]
  by_cases h1 : a = c
  · by_cases h2 : b = d
    · subst h1; subst h2; simp
    · have q : ((b : Int) == (d : Int)) = false := beq_eq_false_iff_ne.mpr (by omega)
      rw [q, Bool.false_and, Bool.and_false, decide_eq_false (fun h => h2 (Prod.mk.inj h).2)]
  · have q : ((a : Int) == (c : Int)) = false := beq_eq_false_iff_ne.mpr (by omega)
    rw [q, Bool.false_and, decide_eq_false (fun h => h1 (Prod.mk.inj h).1)]
theorem eqvAll_map {α : Type} [DecidableEq α] (f : α → PyData) (hf : ∀ a b, PyData.eqv (f a) (f b) = decide (a = b)) : ∀ r s : List α, PyData.eqvAll (r.map f) (s.map f) = decide (r = s)
  | [], [] => by simp [PyData.eqvAll]
  | [], b :: s => by simp [PyData.eqvAll]
  | a :: r, [] => by simp [PyData.eqvAll]
  | a :: r, b :: s => by
    rw [List.map_cons, List.map_cons, PyData.eqvAll, hf, eqvAll_map f hf r s]
    by_cases h1 : a = b <;> by_cases h2 : r = s <;> simp [h1, h2]
theorem rdD_eqv (r s : Rd) : PyData.eqv (rdD r) (rdD s) = decide (r = s) := by
  have : PyData.eqv (rdD r) (rdD s) = PyData.eqvAll (r.map prE) (s.map prE) := by simp only [rdD, PyData.eqv]
  rw [this, eqvAll_map prE prE_eqv]
theorem rsD_eqv (r s : List Rd) : PyData.eqv (rsD r) (rsD s) = decide (r = s) := by
  have : PyData.eqv (rsD r) (rsD s) = PyData.eqvAll (r.map rdD) (s.map rdD) := by simp only [rsD, PyData.eqv]
  rw [this, eqvAll_map rdD rdD_eqv]
theorem lay_map {α : Type} (f : α → PyData) (h : ∀ a, (f a).canLay0 = true) : ∀ l : List α, PyData.canLayAll0 (l.map f) = true
  | [] => by simp [PyData.canLayAll0]
  | z :: zs => by simp [PyData.canLayAll0, h z, lay_map f h zs]
theorem depth_map {α : Type} (f : α → PyData) {n : Nat} (h : ∀ a, (f a).depth ≤ n) : ∀ l : List α, PyData.depthAll (l.map f) ≤ n
  | [] => by simp [PyData.depthAll]
  | z :: zs => by
    have h1 := depth_map f h zs
    have h2 := h z
    simp only [List.map_cons, PyData.depthAll]
    omega
theorem prE_lay (e : Nat × Nat) : (prE e).canLay0 = true := by simp [prE, PyData.canLay0, PyData.canLayAll0]
theorem prE_depth (e : Nat × Nat) : (prE e).depth ≤ 1 := by simp [prE, PyData.depth, PyData.depthAll]
theorem rdD_lay (r : Rd) : (rdD r).canLay0 = true := by
  simp only [rdD, PyData.canLay0]
  exact lay_map prE prE_lay r
theorem rdD_depth (r : Rd) : (rdD r).depth ≤ 2 := by
  have := depth_map prE prE_depth r
  simp only [rdD, PyData.depth]
  omega
theorem rsD_lay (r : List Rd) : (rsD r).canLay0 = true := by
  simp only [rsD, PyData.canLay0]
  exact lay_map rdD rdD_lay r
theorem rsD_depth (r : List Rd) : (rsD r).depth ≤ 3 := by
  have := depth_map rdD rdD_depth r
  simp only [rsD, PyData.depth]
  omega
theorem shaped_of {d : PyData} {n : Nat} (h : d.canLay0 = true) (hd : d.depth ≤ n) (hn : n ≤ 64) : SeqAt.shaped d = true := by
  show (d.canLay0 && decide (d.depth ≤ 64)) = true
  rw [h, decide_eq_true (by omega)]
  rfl
theorem prE_shaped (e : Nat × Nat) : SeqAt.shaped (prE e) = true := shaped_of (prE_lay e) (prE_depth e) (by decide)
theorem rdD_shaped (r : Rd) : SeqAt.shaped (rdD r) = true := shaped_of (rdD_lay r) (rdD_depth r) (by decide)
theorem rsD_shaped (r : List Rd) : SeqAt.shaped (rsD r) = true := shaped_of (rsD_lay r) (rsD_depth r) (by decide)
theorem Dp.go {K : PySem.W.Frag} {H H' : Hp} (e : Ex H H') : ∀ (d : PyData) (v : V), Dp K H v d → Dp K H' v d := fun d v h => Dp.rec (motive_1 := fun v d _ => Dp K H' v d) (motive_2 := fun vs ds _ => DpAll K H' vs ds) .non .bl .int .str (fun h _ k => .lst (ex_l e h) k) (fun h _ k => .tup (ex_t e h) k) .nil (fun _ _ h k => .cons h k) h
section
variable {K : PySem.W.Frag} {H : Hp} {v w : V}
theorem rv_eqD {d e : PyData} (hd : Dp K H v d) (he : Dp K H w e) (sd : SeqAt.shaped d = true) (se : SeqAt.shaped e = true) : RV (rEqD K) v w H (.bl (PyData.eqv d e)) := rv_val fun H1 q Q k => ⟨d, e, Dp.go q _ _ hd, Dp.go q _ _ he, sd, se, k⟩
theorem rv_neD {d e : PyData} (hd : Dp K H v d) (he : Dp K H w e) (sd : SeqAt.shaped d = true) (se : SeqAt.shaped e = true) : RV (rNeD K) v w H (.bl (!PyData.eqv d e)) := rv_val fun H1 q Q k => ⟨d, e, Dp.go q _ _ hd, Dp.go q _ _ he, sd, se, k⟩
theorem rv_eqRd {r s : Rd} (hd : RdAt K H v r) (he : RdAt K H w s) : RV (rEqD K) v w H (.bl (decide (r = s))) := by
  have := rv_eqD hd.dp he.dp (rdD_shaped r) (rdD_shaped s)
  rwa [rdD_eqv] at this
end
end Bz

set_option maxHeartbeats 1000000
namespace Bz
open PySem PySem.Spec PyProof.Rows L2 Evl
/-! ### Web.__eq__ -/
def spEq (K : PySem.W.Frag) (CW : Addr) : Sp := fun vs H Q _ => ∃ (a b : Addr) (p : Nat) (es : Rd), vs = [.ref a, .ref b] ∧ WebAt K CW H a p es ∧
  ((∃ (q : Nat) (fs : Rd), WebAt K CW H b q fs ∧ RetV (.bl (decide (p = q) && decide (es = fs))) H Q) ∨ (∃ ys, SqT K H b ys ∧ RetV (.bl false) H Q))
theorem scEq : FnScope ["self", "other"] ["self", "other"] (defScope sEq) := ⟨rfl, rfl, rfl, by decide +kernel, rfl, by decide +kernel, by decide +kernel⟩
theorem sub_of_kit {K : PySem.W.Frag} {C : Addr} (h : PySem.W.kitOne K (.type "tuple") (.ref C) = some false) : PySem.W.subIn K (.type "tuple") (.ref C) = some false := by
  unfold PySem.W.kitOne at h
  have : ((Value.type "tuple" == Value.ref C) = true) = False := by simp
  rw [if_neg (by rw [this]; exact id)] at h
  unfold PySem.W.kitCls at h
  by_cases hc : ((PySem.W.clsIn K C).isSome && PySem.W.typeIn K (.ref C) == some (.type "type")) = true
  · simpa only [if_pos hc] using h
  · simp only [if_neg hc] at h
    cases h
section
variable {P : Program} {w : World} {K : PySem.W.Frag} {mg : Str → Option Value} {base : Heap} {CW CB CN : Addr}
/-- isinstance(x, C), C own -/
theorem ev_isiC {σ : L2.St} {H : Hp} {ta tb : TE} {v : V} {C : Addr} {t : Value} {b : Bool} (ha : Ev ta σ H v) (hb : Ev tb σ H (.ref C)) (h : ∀ H1, Ex H H1 → TyX K H1 v t) (k : PySem.W.kitOne K t (.ref C) = some b) :
    Ev (tCB (rIsi K) (tCons ta (tCons tb tNil))) σ H (.bl b) :=
  ev_cb (ea_cons ha (ea_cons hb ea_nil)) fun H1 e Q q => ⟨v, .ref C, t, .ref C, b, rfl, .own C, h H1 e, k, q H1 (Ex.refl _)⟩
theorem ok_eq {f : Addr} {fd : FuncData} (F : FnM K "__eq__" "Web.__eq__" sEq f fd) (T : Txt K mg CW CB CN) : FnOk P w K mg base CX0 1 f fd ["self", "other"] (spEq K CW) := by
  refine F.ok scEq (fun vs H Q E h => ?_) (fun cdv A outer s H vs Q E hr h => ?_)
  · obtain ⟨a, b, p, es, rfl, _⟩ := h
    rfl
  · obtain ⟨a, b, p, es, rfl, ha, k⟩ := h
    refine ⟨_, PSs.nox (pss_one (ps_ret (pe_and (pe_callB call_isi rfl T.isinstance (by decide +kernel) (pa_cons (pv 1) (pa_cons (pe_glob (v := .ref CW) rfl T.gW rfl) pa_nil)))
      (pe_and (pe_cmpR op_eq (pe_fld (pv 0) rfl) (pe_fld (pv 1) rfl) (nomark _)) (pe_one (pe_cmpR (op_eqD hr.units) (pe_fld (pv 0) rfl) (pe_fld (pv 1) rfl) (nomark _))))))), ?_⟩
    have e0 : (start ["self", "other"] [V.ref a, V.ref b])[0]? = some (some (V.ref a)) := rfl
    have e1 : (start ["self", "other"] [V.ref a, V.ref b])[1]? = some (some (V.ref b)) := rfl
    obtain ⟨dx, t, l, h1, h2, h3⟩ := ha
    rcases k with ⟨q, fs, hb, k⟩ | ⟨ys, hb, k⟩
    · obtain ⟨dy, u, m, g1, g2, g3⟩ := hb
      refine s_ret (ev_is (ev_andV (ev_isiC (t := .ref CW) (ev_var e1) ev_c (fun H1 e => .base (.ins (e _ _ g1) T.clW T.w1 T.w2 T.w3 T.w4)) T.wSelf) (b := decide (p = q) && decide (es = fs)) fun _ => ev_andV (a := decide (p = q))
        (ev_is (ev_op (ev_fld (v := nV p) (ev_var e0) h1 T.clW T.nPe rfl) (ev_fld (v := nV q) (ev_var e1) g1 T.clW T.nPe rfl) (rv_eq rfl)) ?_) fun _ =>
        (ev_op (ev_fld (v := .ref t) (ev_var e0) h1 T.clW T.nTi rfl) (ev_fld (v := .ref u) (ev_var e1) g1 T.clW T.nTi rfl) (rv_eqRd (.of h2) (.of g2)))) rfl) k
      by_cases h : p = q
      · subst h; simp
      · rw [decide_eq_false h, decide_eq_false]
        intro z
        injection z with z
        omega
    · exact s_ret (ev_is (ev_andV (b := false) (ev_isiC (t := .type "tuple") (ev_var e1) ev_c (fun H1 e => sqT_ty (ex_t e hb)) T.tupW) fun z => Bool.noConfusion z) rfl) k
end
end Bz

set_option maxHeartbeats 1000000
namespace Bz
open PySem PySem.Spec PyProof.Rows L2 Evl
/-! ### evaluations to some value with a property -/
/-- kept under extension -/
def Mo (P : V → Hp → Prop) : Prop := ∀ v H H', Ex H H' → P v H → P v H'
section
variable {K : PySem.W.Frag} {σ : L2.St} {H H' : Hp} {ta tb tc te tl tx : TE} {t u : TT} {x y z v : V} {r r' : R2} {P R : V → Hp → Prop}
theorem mo_eq : Mo (fun v _ => v = x) := fun _ _ _ _ h => h
theorem mo_rd {r : Rd} : Mo (fun v H => RdAt K H v r) := fun _ _ _ e h => h.keep (.of_ex e)
theorem mo_pr {e : Nat × Nat} : Mo (fun v H => PrAt K H v e) := fun _ _ _ e h => h.keep (.of_ex e)
theorem EvP.imp (h : EvP te σ H P) (f : ∀ v H', Ex H H' → P v H' → R v H') : EvP te σ H R := fun H1 e Q q => h H1 e Q fun v H2 e2 p => q v H2 e2 (f v H2 (e.trans e2) p)
/-- a tuple of two, of one, of none -/
theorem evp_two (ha : EvP ta σ H P) (hb : EvP tb σ H R) (mP : Mo P) (mR : Mo R) : EvP (tTup (tCons ta (tCons tb tNil))) σ H (fun v H' => ∃ a x y, v = .ref a ∧ H' a = some (.tup [x, y]) ∧ P x H' ∧ R y H') := fun H1 e Q q =>
  ha H1 e _ fun x H2 e2 hx => hb H2 (e.trans e2) _ fun y H3 e3 hy => ⟨sz_of (by show (2 : Nat) ≤ 100000; decide), fun p hp => q _ _ ((e2.trans e3).trans (Ex.new hp)) ⟨p, x, y, rfl, upd_same, mP _ _ _ (e3.trans (Ex.new hp)) hx, mR _ _ _ (Ex.new hp) hy⟩⟩
theorem evp_one (ha : EvP ta σ H P) (mP : Mo P) : EvP (tTup (tCons ta tNil)) σ H (fun v H' => ∃ a x, v = .ref a ∧ H' a = some (.tup [x]) ∧ P x H') := fun H1 e Q q =>
  ha H1 e _ fun x H2 e2 hx => ⟨sz_of (by show (1 : Nat) ≤ 100000; decide), fun p hp => q _ _ (e2.trans (Ex.new hp)) ⟨p, x, rfl, upd_same, mP _ _ _ (Ex.new hp) hx⟩⟩
theorem evp_nil : EvP (tTup tNil) σ H (fun v H' => ∃ a, v = .ref a ∧ H' a = some (.tup [])) := fun H1 e Q q => ⟨sz_of (by show (0 : Nat) ≤ 100000; decide), fun p hp => q _ _ (Ex.new hp) ⟨p, rfl, upd_same⟩⟩
/-- a list of one -/
theorem evl_one (ha : EvP ta σ H P) (mP : Mo P) : EvLP (tLst (tCons ta tNil)) σ H (fun xs H' => ∃ x, xs = [x] ∧ P x H') := fun H1 e Q q =>
  ha H1 e _ fun x H2 e2 hx => ⟨sz_of (by show (1 : Nat) ≤ 100000; decide), fun p hp => q p _ _ (fresh_back e2 hp) (e2.trans (Ex.new hp)) upd_same ⟨x, rfl, mP _ _ _ (Ex.new hp) hx⟩⟩
theorem EvL.lp {xs : List V} (h : EvL te σ H xs) : EvLP te σ H (fun ys _ => ys = xs) := fun H1 e Q q => h H1 e Q fun p H2 hp e2 h2 => q p xs H2 hp e2 h2 rfl
/-- the pair (i, j) -/
theorem evp_pr {i j : Nat} (ha : Ev ta σ H (nV i)) (hb : Ev tb σ H (nV j)) : EvP (tTup (tCons ta (tCons tb tNil))) σ H (fun v H' => PrAt K H' v (i, j)) :=
  (evp_two (Bz.Ev.p ha) (Bz.Ev.p hb) mo_eq mo_eq).imp fun v H' _ ⟨a, x, y, e, h, hx, hy⟩ => ⟨a, e, by subst hx; subst hy; exact st_of h⟩
/-- the round of one call; of none -/
theorem evp_rd1 {e : Nat × Nat} (h : EvP ta σ H (fun v H' => PrAt K H' v e)) : EvP (tTup (tCons ta tNil)) σ H (fun v H' => RdAt K H' v [e]) :=
  (evp_one h mo_pr).imp fun v H' _ ⟨a, x, e, h, hx⟩ => ⟨a, [x], e, st_of h, .one hx⟩
theorem evp_rd0 : EvP (tTup tNil) σ H (fun v H' => RdAt K H' v []) := evp_nil.imp fun v H' _ ⟨a, e, h⟩ => ⟨a, [], e, st_of h, .nil⟩
/-- rounds together -/
theorem evp_cat {r s : Rd} (ha : EvP ta σ H (fun v H' => RdAt K H' v r)) (hb : EvP tb σ H (fun v H' => RdAt K H' v s)) (hz : r.length + s.length ≤ 1000) : EvP (tOp (rCatA K) ta tb) σ H (fun v H' => RdAt K H' v (r ++ s)) := fun H1 e Q q =>
  ha H1 e _ fun x H2 e2 hx => hb H2 (e.trans e2) _ fun y H3 e3 hy => by
    have hx := hx.keep (.of_ex e3)
    obtain ⟨a, xs, rfl, ha, hxs⟩ := hx
    obtain ⟨b, ys, rfl, hb, hys⟩ := hy
    have l1 := hxs.length
    have l2 := hys.length
    refine ⟨a, b, xs, ys, rfl, rfl, ha, hb, sz_of (by omega), fun h => ?_, fun h1 h2 => ?_, fun h1 h2 p hp => ?_⟩
    · subst h
      cases hxs
      exact q _ _ (e2.trans e3) ⟨b, ys, rfl, hb, hys⟩
    · subst h2
      cases hys
      exact q _ _ (e2.trans e3) ⟨a, xs, rfl, ha, by rw [List.append_nil]; exact hxs⟩
    · exact q _ _ ((e2.trans e3).trans (Ex.new hp)) ⟨p, xs ++ ys, rfl, st_of upd_same, (hxs.append hys).imp fun _ _ => .keep (.of_ex (Ex.new hp))⟩
/-! ### statements -/
variable {D : Ends} {tz : TS} {Pl : List V → Hp → Prop}
theorem s_asgP {i : Nat} (h : EvP te σ H P) (k : ∀ v H1, Ex H H1 → P v H1 → D.nx (σ.set i (some v)) H1) : tAsg te (gName i) D σ H := h H (Ex.refl _) _ k
theorem q_asgP {i : Nat} (h : EvP te σ H P) (k : ∀ v H1, Ex H H1 → P v H1 → tz D (σ.set i (some v)) H1) : tSeq (tAsg te (gName i)) tz D σ H := h H (Ex.refl _) _ k
theorem s_asgLP {i : Nat} (h : EvLP te σ H Pl) (k : ∀ p xs H1, H p = none → Ex H H1 → H1 p = some (.lst xs) → Pl xs H1 → D.nx (σ.set i (some (.ref p))) H1) : tAsg te (gName i) D σ H := h H (Ex.refl _) _ k
theorem q_asgLP {i : Nat} (h : EvLP te σ H Pl) (k : ∀ p xs H1, H p = none → Ex H H1 → H1 p = some (.lst xs) → Pl xs H1 → tz D (σ.set i (some (.ref p))) H1) : tSeq (tAsg te (gName i)) tz D σ H := h H (Ex.refl _) _ k
theorem s_appP {l : Addr} {xs : List V} (hl : H l = some (.lst xs)) (ha : Ev ta σ H (.ref l)) (h : EvP te σ H P) (hz : xs.length < 100000) (k : ∀ v H1, Ex H H1 → P v H1 → D.nx σ (upd H1 l (.lst (xs ++ [v])))) :
    tDrop (tBM K "list" rAppend ta (tCons te tNil)) D σ H := ha H (Ex.refl H) _ fun H1 e1 =>
  ⟨Or.inl ⟨rfl, xs, sq_of (e1 l _ hl)⟩, h H1 e1 _ fun v H2 e2 p => ⟨l, xs, v, rfl, rfl, e2 l _ (e1 l _ hl), sz_lt hz, k v H2 (e1.trans e2) p⟩⟩
theorem q_appP {l : Addr} {xs : List V} (hl : H l = some (.lst xs)) (ha : Ev ta σ H (.ref l)) (h : EvP te σ H P) (hz : xs.length < 100000) (k : ∀ v H1, Ex H H1 → P v H1 → tz D σ (upd H1 l (.lst (xs ++ [v])))) :
    tSeq (tDrop (tBM K "list" rAppend ta (tCons te tNil))) tz D σ H := s_appP (D := { D with nx := tz D }) hl ha h hz k
theorem s_extP {l : Addr} {xs : List V} (hl : H l = some (.lst xs)) (ha : Ev ta σ H (.ref l)) (h : EvLP te σ H Pl) (hz : ∀ ys H1, Pl ys H1 → xs.length + ys.length ≤ 100000) (k : ∀ ys H1, Ex H H1 → Pl ys H1 → D.nx σ (upd H1 l (.lst (xs ++ ys)))) :
    tDrop (tBM K "list" rExtend ta (tCons te tNil)) D σ H := ha H (Ex.refl H) _ fun H1 e1 =>
  ⟨Or.inl ⟨rfl, xs, sq_of (e1 l _ hl)⟩, h H1 e1 _ fun p ys H2 hp e2 h2 hP => ⟨l, p, xs, ys, rfl, rfl, e2 l _ (e1 l _ hl), h2, sz_of (hz ys H2 hP), k ys H2 (e1.trans e2) hP⟩⟩
/-! ### comprehensions -/
def givenM {γ : Type} (n : Nat) (f : Nat → Bool) (c : Nat → γ) : List γ := ((List.range n).filter f).map c
theorem givenM_yes {γ : Type} {n : Nat} {f : Nat → Bool} {c : Nat → γ} (h : f n = true) : givenM (n + 1) f c = givenM n f c ++ [c n] := by
  unfold givenM
  rw [List.range_succ, List.filter_append, List.map_append]
  simp [h]
theorem givenM_no {γ : Type} {n : Nat} {f : Nat → Bool} {c : Nat → γ} (h : f n = false) : givenM (n + 1) f c = givenM n f c := by
  unfold givenM
  rw [List.range_succ, List.filter_append, List.map_append]
  simp [h]
theorem givenM_len {γ : Type} (n : Nat) (f : Nat → Bool) (c : Nat → γ) : (givenM n f c).length ≤ n := by
  unfold givenM
  rw [List.length_map]
  exact Nat.le_trans (List.length_filter_le _ _) (by rw [List.length_range]; exact Nat.le_refl _)
/-- kept by whatever keeps the tuples -/
def MoT (K : PySem.W.Frag) {γ : Type} (P : γ → V → Hp → Prop) : Prop := ∀ c v H H', TK K H H' → P c v H → P c v H'
theorem el_lcP {γ : Type} {wi : TI} {g : TG} {vs : List Nat} {n : Nat} {Y : Nat → V → Hp → Prop} {P : γ → V → Hp → Prop} (f : Nat → Bool) (c : Nat → γ) (mP : MoT K P) (hw : WI wi σ H n Y) (hn : n ≤ 40000)
    (body : ∀ i x H1, Ex H H1 → i < n → Y i x H1 → ∃ σ2, (∀ Q : L2.St → Hp → Prop, Q σ2 H1 → g x (wipe σ vs) H1 Q) ∧ wipe σ2 vs = wipe σ vs ∧ EvT t σ2 H1 (f i) ∧ (f i = true → EvP te σ2 H1 (P (c i)))) :
    EvLP (tLc wi g t te vs) σ H (fun xs H' => Al2 (fun v c => P c v H') xs (givenM n f c)) := fun H0 e Q q => hw H0 e _ fun J H1 e1 hJ D hD => by
  refine lc_walk (n := n) (fun i H' => H1 D = none ∧ Ex H1 H' ∧ ∃ acc, H' D = some (.lst acc) ∧ Al2 (fun v c => P c v H') acc (givenM i f c)) ⟨hD, Ex.new hD, [], upd_same, .nil⟩ (fun i H' hi p => ?_) (fun i H' x H4 hi p y => ?_) (fun H' p => ?_)
  · obtain ⟨h1, h2, _⟩ := hJ H' p.2.1
    exact ⟨fun h => h1 i h, fun h => by have : i = n := by omega
                                        subst this; exact h2⟩
  · obtain ⟨p1, p2, acc, p3, p4⟩ := p
    obtain ⟨_, _, h3⟩ := hJ H' p2
    obtain ⟨e4, hY⟩ := h3 i x H4 hi y
    obtain ⟨σ2, hg, hw2, ht, he⟩ := body i x H4 (((e.trans e1).trans p2).trans e4) hi hY
    refine hg _ ⟨hw2, ht H4 (Ex.refl _) _ fun H5 e5 => ?_⟩
    have e15 : Ex H1 H5 := (p2.trans e4).trans e5
    have hD5 : H5 D = some (.lst acc) := e5 _ _ (e4 _ _ p3)
    have a5 : Al2 (fun v c => P c v H5) acc (givenM i f c) := p4.imp fun v c h => mP c v _ _ (.of_ex (e4.trans e5)) h
    cases hf : f i with
    | true =>
      show te σ2 H5 fun y H6 => _
      refine he hf H5 e5 _ fun y H6 e6 hy => ⟨acc, e6 _ _ hD5, sz_lt (by have := givenM_len i f c; have := a5.length; omega), p1, Ex.mut (e15.trans e6) p1, acc ++ [y], upd_same, ?_⟩
      rw [givenM_yes hf]
      have tk : TK K H6 (upd H6 D (.lst (acc ++ [y]))) := TK.lst (e6 _ _ hD5)
      exact (a5.imp fun v c h => mP c v _ _ ((TK.of_ex e6).trans tk) h).append (.one (mP _ _ _ _ tk hy))
    | false =>
      refine ⟨p1, e15, acc, hD5, ?_⟩
      rw [givenM_no hf]
      exact a5
  · obtain ⟨p1, p2, acc, p3, p4⟩ := p
    exact q D acc H' (fresh_back e1 p1) (e1.trans p2) p3 p4
theorem el_lcPN {γ : Type} {wi : TI} {j : Nat} {vs : List Nat} {n : Nat} {Y : Nat → V → Hp → Prop} {P : γ → V → Hp → Prop} (f : Nat → Bool) (c : Nat → γ) (mP : MoT K P) (hw : WI wi σ H n Y) (hn : n ≤ 40000) (hwp : ∀ x, wipe ((wipe σ vs).set j (some x)) vs = wipe σ vs)
    (body : ∀ i x H1, Ex H H1 → i < n → Y i x H1 → EvT t ((wipe σ vs).set j (some x)) H1 (f i) ∧ (f i = true → EvP te ((wipe σ vs).set j (some x)) H1 (P (c i)))) :
    EvLP (tLc wi (gName j) t te vs) σ H (fun xs H' => Al2 (fun v c => P c v H') xs (givenM n f c)) := el_lcP f c mP hw hn fun i x H1 e hi hY => ⟨_, fun Q q => q, hwp x, body i x H1 e hi hY⟩
theorem givenM_all {γ : Type} {α : Type} (l : List α) (d : α) (c : α → γ) : givenM l.length (fun _ => true) (fun i => c (l.getD i d)) = l.map c := by
  unfold givenM
  rw [List.filter_eq_self.mpr (fun _ _ => rfl), map_getD]
theorem EvLP.is {P P' : List V → Hp → Prop} (h : EvLP te σ H P) (f : ∀ xs H', P xs H' → P' xs H') : EvLP te σ H P' := fun H1 e Q q => h H1 e Q fun p xs H2 hp e2 h2 hP => q p xs H2 hp e2 h2 (f _ _ hP)
end
end Bz

set_option maxHeartbeats 2000000
namespace Bz
open PySem PySem.Spec PyProof.Rows L2 Evl
/-! ### calls_by -/
abbrev Cl := Rd × Nat
def stepP (ks : List Nat) (c : Nat) (cl : Cl) : List Cl := cl :: (bitsN (ks.getD c 0 &&& cl.2)).map fun one => (cl.1 ++ [(c, one)], lessN cl.2 (2 ^ one))
def callsP (ks cs : List Nat) (fresh : Nat) : List Cl := cs.foldl (fun found c => found.flatMap (stepP ks c)) [([], fresh)]
theorem lessN_le (a b : Nat) : lessN a b ≤ a := by unfold lessN; omega
theorem stepP_inv {ks : List Nat} {c n m : Nat} {cl cl' : Cl} (h : cl.1.length ≤ n ∧ cl.2 ≤ m) (hm : cl' ∈ stepP ks c cl) : cl'.1.length ≤ n + 1 ∧ cl'.2 ≤ m := by
  unfold stepP at hm
  rcases List.mem_cons.mp hm with rfl | hm
  · exact ⟨by omega, h.2⟩
  · obtain ⟨one, _, rfl⟩ := List.mem_map.mp hm
    have := lessN_le cl.2 (2 ^ one)
    simp
    omega
theorem callsP_go {ks : List Nat} {fresh : Nat} : ∀ (cs : List Nat) (n : Nat) (found : List Cl), (∀ cl ∈ found, cl.1.length ≤ n ∧ cl.2 ≤ fresh) → ∀ cl ∈ cs.foldl (fun found c => found.flatMap (stepP ks c)) found, cl.1.length ≤ n + cs.length ∧ cl.2 ≤ fresh
  | [], n, found, h => by simpa using h
  | c :: cs, n, found, h => by
    intro cl hcl
    rw [List.foldl_cons] at hcl
    have := callsP_go cs (n + 1) (found.flatMap (stepP ks c)) (fun cl' h' => by
      obtain ⟨cl0, h0, h1⟩ := List.mem_flatMap.mp h'
      exact stepP_inv (h cl0 h0) h1) cl hcl
    rw [List.length_cons]
    omega
theorem callsP_inv {ks cs : List Nat} {fresh : Nat} {cl : Cl} (h : cl ∈ callsP ks cs fresh) : cl.1.length ≤ cs.length ∧ cl.2 ≤ fresh := by
  have := callsP_go (ks := ks) (fresh := fresh) cs 0 [([], fresh)] (fun cl h => by
    simp at h
    subst h
    simp) cl h
  simpa using this
theorem callsP_take {ks cs : List Nat} {fresh i c : Nat} (h : cs[i]? = some c) : callsP ks (cs.take (i + 1)) fresh = (callsP ks (cs.take i) fresh).flatMap (stepP ks c) := by
  obtain ⟨hi, h⟩ := List.getElem?_eq_some_iff.mp h
  rw [List.take_succ_eq_append_getElem hi, h]
  unfold callsP
  rw [List.foldl_append]
  rfl
def ClAt (K : PySem.W.Frag) (H : Hp) (v : V) (cl : Cl) : Prop := ∃ a y, v = .ref a ∧ SqT K H a [y, nV cl.2] ∧ RdAt K H y cl.1
theorem ClAt.keep {K : PySem.W.Frag} {H H' : Hp} {v : V} {cl : Cl} (k : TK K H H') (h : ClAt K H v cl) : ClAt K H' v cl := let ⟨a, y, e, q, z⟩ := h; ⟨a, y, e, k _ _ q, z.keep k⟩
/-- a new list of which P holds behind -/
def RetLP (P : List V → Hp → Prop) (H : Hp) (Q : VK) : Prop := ∀ l xs H', H l = none → Ex H H' → H' l = some (.lst xs) → P xs H' → Q (.ref l) H'
def SpLP (sp : Sp) (vs : List V) (H : Hp) (P : List V → Hp → Prop) : Prop := ∀ H1, Ex H H1 → ∀ Q : VK, (∀ p xs H2, H1 p = none → Ex H1 H2 → H2 p = some (.lst xs) → P xs H2 → Q (.ref p) H2) → ∀ E : XK, sp vs H1 Q E
theorem elp_call {sp : Sp} {dvs vs : List V} {P : List V → Hp → Prop} {E : XK} {ta : TA} {σ : L2.St} {H : Hp} (h : EvA ta σ H vs) (hs : SpLP sp (vs ++ dvs) H P) : EvLP (tCall sp dvs E ta) σ H P := fun H1 e Q q =>
  h H1 e _ fun H2 e2 => hs H2 (e.trans e2) Q (fun p xs H3 hp e3 h3 hP => q p xs H3 (fresh_back e2 hp) (e2.trans e3) h3 hP) E
/-- what calls_by asks -/
structure CallsOk (p : Nat) (ks cs : List Nat) (fresh : Nat) : Prop where
  mem : ∀ c ∈ cs, c < p
  kl : ks.length = p
  pl : p ≤ 16
  fr : fresh < 2 ^ 16
  len : cs.length ≤ 16
  bd : ∀ i, (callsP ks (cs.take i) fresh).length ≤ 1000
def spCalls (K : PySem.W.Frag) (CW : Addr) : Sp := fun vs H Q _ => ∃ (x t : Addr) (p : Nat) (es : Rd) (cs : List Nat) (fresh : Nat), vs = [.ref x, .ref t, nV fresh] ∧ WebAt K CW H x p es ∧ SqT K H t (cs.map nV) ∧ CallsOk p (keptOf p es) cs fresh ∧
  RetLP (fun xs H' => Al2 (ClAt K H') xs (callsP (keptOf p es) cs fresh)) H Q
abbrev nmCalls : List Str := ["web", "callers", "fresh", "found", "caller", "later", "calls", "left", "some", "one"]
theorem scCalls : FnScope nmCalls ["web", "callers", "fresh"] (defScope sCalls) := ⟨rfl, rfl, rfl, by decide +kernel, rfl, by decide +kernel, by decide +kernel⟩
section
variable {P : Program} {w : World} {K : PySem.W.Frag} {mg : Str → Option Value} {base : Heap} {CW CB CN : Addr}
theorem mo_cl {cl : Cl} : Mo (fun v H => ClAt K H v cl) := fun _ _ _ e h => h.keep (.of_ex e)
theorem ok_calls {f fL : Addr} {fd fdL : FuncData} (F : FnP K "calls_by" sCalls f fd) (T : Txt K mg CW CB CN) (FL : FnP K "lot_of" sLotOf fL fdL) (gL : mg "lot_of" = some (.ref fL)) (GL : FnOk P w K mg base CX0 1 fL fdL ["mask"] (spLotOf K)) :
    FnOk P w K mg base CX0 2 f fd ["web", "callers", "fresh"] (spCalls K CW) := by
  have bL : Binds K fdL ["mask"] [] := FL.bindsN fun _ _ _ _ _ _ us hl => match us, hl with | [_], _ => rfl
  refine F.ok scCalls (fun vs H Q E h => ?_) (fun cdv A outer s H vs Q E hr h => ?_)
  · obtain ⟨x, t, p, es, cs, fresh, rfl, _⟩ := h
    rfl
  · obtain ⟨x, t, p, es, cs, fresh, rfl, hw, ht, ok, k⟩ := h
    refine ⟨_, PSs.nox (pss_cons (ps_asg (pe_lst (pa_cons (pe_tup (pa_cons (pe_tup pa_nil) (pa_cons (pv 2) pa_nil))) pa_nil)) (pg_name (i := 3) scCalls.nd rfl (.inl rfl)))
      (pss_cons (ps_for PassesOwn.never rfl (pi_tup (pv 1)) (pg_name (i := 4) scCalls.nd rfl (.inr rfl))
        (pss_cons (ps_asg (pe_lst pa_nil) (pg_name (i := 5) scCalls.nd rfl (.inl rfl)))
        (pss_cons (ps_for PassesOwn.never rfl (pi_list (pv 3)) (pg_tup rfl (pgs_cons (pg_name (i := 6) scCalls.nd rfl (.inr rfl)) (pgs_cons (pg_name (i := 7) scCalls.nd rfl (.inr rfl)) pgs_nil)))
          (pss_cons (ps_expr (pe_bm PySem.F.plainAttrs_list PySem.F.slot_list_append PySem.F.type_list_append mt_append (pv 5) (pa_cons (pe_tup (pa_cons (pv 6) (pa_cons (pv 7) pa_nil))) pa_nil)))
          (pss_cons (ps_asg (pe_call GL hr rfl gL FL.kp bL .nil pass0 (pa_cons (pe_op op_and (pe_ix ix_list (pe_fld (pv 0) rfl) (pv 4) (fun _ _ => rfl)) (pv 7)) pa_nil)) (pg_name (i := 8) scCalls.nd rfl (.inl rfl)))
          (pss_one (ps_expr (pe_bm PySem.F.plainAttrs_list PySem.F.slot_list_extend PySem.F.type_list_extend mt_extend (pv 5) (pa_cons
            (pe_lc (own := [("one", 9)]) (g := gName 9) (tt := tYes) rfl scCalls.nd (pi_tup (pv 8)) (blkOk_by (N := nmCalls) (sc := defScope sCalls) (by decide +kernel)) (fun _ _ _ _ _ => pg_name (i := 9) scCalls.nd rfl (Or.inl rfl)) (fun _ _ _ _ _ => pts_nil)
              (fun _ _ _ _ _ => pe_tup (pa_cons (pe_op (r := rCatA K) op_catA (pv 6) (pe_tup (pa_cons (pe_tup (pa_cons (pv 4) (pa_cons (pv 9) pa_nil))) pa_nil)))
                (pa_cons (pe_op op_and (pv 7) (pe_un un_inv (pe_op op_oneShl pe_int (pv 9)))) pa_nil)))) pa_nil)))))))
        (pss_one (ps_asg (pv 5) (pg_name (i := 3) scCalls.nd rfl (.inl rfl)))))))
      (pss_one (ps_ret (pv 3))))), ?_⟩
    obtain ⟨dx, tt, kl, hx, htt, hkl⟩ := hw
    generalize hks : keptOf p es = ks at ok k hkl
    let Pv : Nat → L2.St → Hp → Prop := fun i σ' H' => ∃ l xs o4 o5 o6 o7 o8 o9, σ' = [some (.ref x), some (.ref t), some (nV fresh), some (.ref l), o4, o5, o6, o7, o8, o9] ∧ Ex H H' ∧ H l = none ∧ H' l = some (.lst xs) ∧ Al2 (ClAt K H') xs (callsP ks (cs.take i) fresh)
    refine q_asgLP (Pl := fun xs H' => ∃ v, xs = [v] ∧ ClAt K H' v ([], fresh)) ((evl_one (P := fun v H' => ClAt K H' v ([], fresh)) ((evp_two evp_rd0 (Bz.Ev.p (ev_var rfl)) mo_rd mo_eq).imp fun v H' _ ⟨a, y, z, e, h, h1, h2⟩ => ⟨a, y, e, by subst h2; exact st_of h, h1⟩) mo_cl)) fun l xs H1 hl0 q1 hl1 hP => ?_
    obtain ⟨v0, rfl, hv0⟩ := hP
    refine q_forT (a := t) (xs := cs.map nV) (ev_var rfl) (ex_t q1 ht) Pv (fun H2 q2 => ⟨l, [v0], _, _, _, _, _, _, rfl, q1.trans q2, hl0, q2 _ _ hl1, .one (hv0.keep (.of_ex q2))⟩) (fun i σ' H' hi pv => ?_) (fun i y σ' H' hy pv => ?_) fun σ' H' pv => ?_
    · obtain ⟨l, xs, o4, o5, o6, o7, o8, o9, rfl, qe, _⟩ := pv
      exact ex_t qe ht
    · obtain ⟨l, xs, o4, o5, o6, o7, o8, o9, rfl, qe, hln, hlx, hal⟩ := pv
      rw [List.getElem?_map] at hy
      cases hc : cs[i]? with
      | none => rw [hc] at hy; cases hy
      | some c =>
      rw [hc] at hy
      have hy : nV c = y := by injection hy
      subst hy
      have hcp : c < p := ok.mem c (List.mem_of_getElem? hc)
      have hbd := ok.bd i
      have hbd1 := ok.bd (i + 1)
      rw [callsP_take hc] at hbd1
      have hinv : ∀ cl ∈ callsP ks (cs.take i) fresh, cl.1.length ≤ 16 ∧ cl.2 < 2 ^ 16 := fun cl h => by
        have h1 := callsP_inv h
        have h2 : (cs.take i).length ≤ cs.length := by rw [List.length_take]; omega
        have h3 := ok.len
        have h4 := ok.fr
        omega
      have htake := callsP_take (ks := ks) (fresh := fresh) hc
      generalize hfd : callsP ks (cs.take i) fresh = fd0 at hal hbd hbd1 hinv htake
      have hlen := hal.length
      show tSeq _ _ _ [some (.ref x), some (.ref t), some (nV fresh), some (.ref l), some (nV c), o5, o6, o7, o8, o9] H'
      refine q_asgL (xs := []) (el_lst ea_nil (by show (0 : Nat) ≤ 100000; decide)) fun l2 H2 hl2 q2 hl2x => ?_
      show tSeq _ _ _ [some (.ref x), some (.ref t), some (nV fresh), some (.ref l), some (nV c), some (.ref l2), o6, o7, o8, o9] H2
      have hl2H : H l2 = none := fresh_back qe hl2
      let Pv2 : Nat → L2.St → Hp → Prop := fun j σ'' H'' => ∃ acc o6 o7 o8 o9, σ'' = [some (.ref x), some (.ref t), some (nV fresh), some (.ref l), some (nV c), some (.ref l2), o6, o7, o8, o9] ∧ Ex H' H'' ∧ H'' l2 = some (.lst acc) ∧ Al2 (ClAt K H'') acc ((fd0.take j).flatMap (stepP ks c))
      refine q_forL (a := l) (xs := xs) (ev_var rfl) (ex_l q2 (sq_of hlx)) Pv2 (fun H3 q3 => ⟨[], _, _, _, _, rfl, q2.trans q3, q3 _ _ hl2x, .nil⟩) (fun j σ'' H'' hj pv => ?_) (fun j y σ'' H'' hy pv => ?_) fun σ'' H'' pv => ?_
      · obtain ⟨acc, o6, o7, o8, o9, rfl, qq, _⟩ := pv
        exact ex_l qq (sq_of hlx)
      · obtain ⟨acc, o6, o7, o8, o9, rfl, qq, hacc, haccl⟩ := pv
        obtain ⟨cl, hcl, hy1⟩ := hal.get hy
        obtain ⟨b, yr, rfl, hb, hyr⟩ := hy1.keep (.of_ex qq)
        obtain ⟨r, m⟩ := cl
        have hcm := hinv _ (List.mem_of_getElem? hcl)
        simp only at hb hyr hcm
        have hxs2 := qq _ _ (qe _ _ hx)
        have hks2 := qq _ _ (qe _ _ hkl)
        have hstep : (fd0.take (j + 1)).flatMap (stepP ks c) = (fd0.take j).flatMap (stepP ks c) ++ stepP ks c (r, m) := by
          obtain ⟨hj, he⟩ := List.getElem?_eq_some_iff.mp hcl
          rw [List.take_succ_eq_append_getElem hj, he, List.flatMap_append]
          simp
        have hle : ((fd0.take (j + 1)).flatMap (stepP ks c)).length ≤ 1000 := by
          have : fd0 = fd0.take (j + 1) ++ fd0.drop (j + 1) := (List.take_append_drop _ _).symm
          rw [this, List.flatMap_append, List.length_append] at hbd1
          omega
        rw [hstep, List.length_append] at hle
        have hacl := haccl.length
        refine ⟨b, _, rfl, hb, rfl, _, _, rfl, _, _, rfl, rfl, ?_⟩
        show tSeq _ _ _ [some (.ref x), some (.ref t), some (nV fresh), some (.ref l), some (nV c), some (.ref l2), some yr, some (nV m), o8, o9] H''
        refine q_appP (P := fun v H' => ClAt K H' v (r, m)) hacc (ev_var rfl) ((evp_two (Bz.Ev.p (v := yr) (ev_var rfl)) (Bz.Ev.p (v := nV m) (ev_var rfl)) mo_eq mo_eq).imp fun v H3 q3 ⟨a, y, z, e, h, h1, h2⟩ => ⟨a, yr, e, by subst h1; subst h2; exact st_of h, hyr.keep (.of_ex q3)⟩) (by omega) fun v H3 q3 hv => ?_
        have hl2l : l2 ≠ l := fun q => by rw [q, hlx] at hl2; cases hl2
        have h3l2 : H3 l2 = some (.lst acc) := q3 _ _ hacc
        have tk3 : TK K H3 (upd H3 l2 (.lst (acc ++ [v]))) := TK.lst h3l2
        have ex3 : Ex H' (upd H3 l2 (.lst (acc ++ [v]))) := Ex.mut (qq.trans q3) hl2
        have hacc3 : Al2 (ClAt K (upd H3 l2 (.lst (acc ++ [v])))) (acc ++ [v]) ((fd0.take j).flatMap (stepP ks c) ++ [(r, m)]) := (haccl.imp fun _ _ h => h.keep ((TK.of_ex q3).trans tk3)).append (.one (hv.keep tk3))
        have h3s : upd H3 l2 (.lst (acc ++ [v])) l2 = some (.lst (acc ++ [v])) := upd_same
        have hyrG : RdAt K (upd H3 l2 (.lst (acc ++ [v]))) yr r := hyr.keep ((TK.of_ex q3).trans tk3)
        generalize upd H3 l2 (.lst (acc ++ [v])) = G at ex3 hacc3 h3s hyrG
        have hmm : ks.getD c 0 &&& m < 2 ^ 16 := Nat.lt_of_le_of_lt Nat.and_le_right hcm.2
        refine q_asgU (xs := (bitsN (ks.getD c 0 &&& m)).map nV) (eu_call (ea_cons (ev_op (ev_op (ev_fld (v := .ref kl) (ev_var rfl) (ex3 _ _ (qe _ _ hx)) T.clW T.nKe rfl) (ev_var rfl) (rv_ixLn (sq_of (ex3 _ _ (qe _ _ hkl))) (by have := ok.kl; omega))) (ev_var rfl) rv_band) ea_nil) (su_lotOf hmm)) fun ts H4 hts q4 hts4 => ?_
        show tDrop _ _ [some (.ref x), some (.ref t), some (nV fresh), some (.ref l), some (nV c), some (.ref l2), some yr, some (nV m), some (.ref ts), o9] H4
        have hbl : (bitsN (ks.getD c 0 &&& m)).length ≤ 16 := by
          unfold bitsN
          exact Nat.le_trans (List.length_filter_le _ _) (by simp)
        refine s_extP (xs := acc ++ [v]) (Pl := fun xs H' => Al2 (ClAt K H') xs ((bitsN (ks.getD c 0 &&& m)).map fun one => (r ++ [(c, one)], lessN m (2 ^ one)))) (q4 _ _ h3s) (ev_var rfl) ((el_lcPN (P := fun cl v H' => ClAt K H' v cl) (fun _ => true) (fun i => (r ++ [(c, (bitsN (ks.getD c 0 &&& m)).getD i 0)], lessN m (2 ^ ((bitsN (ks.getD c 0 &&& m)).getD i 0)))) (fun cl v H H' tk h => h.keep tk)
          (wi_tup (a := ts) (xs := (bitsN (ks.getD c 0 &&& m)).map nV) (ev_var rfl) (st_of hts4)) (by rw [List.length_map]; omega) (fun _ => rfl) fun i y H5 q5 hi hY => ⟨et_yes, fun _ => ?_⟩).is fun ys H5 h5 => ?_) (fun ys H5 h5 => ?_) fun ys H5 q5 h5 => ?_
        · rw [List.length_map] at hi
          have e : (bitsN (ks.getD c 0 &&& m))[i]? = some ((bitsN (ks.getD c 0 &&& m)).getD i 0) := at_getD 0 hi
          rw [List.getElem?_map, e] at hY
          generalize hone : (bitsN (ks.getD c 0 &&& m)).getD i 0 = one at hY
          have hY : nV one = y := by injection hY
          subst hY
          have hone16 : one < 16 := by
            have := List.mem_of_getElem? e
            rw [hone] at this
            unfold bitsN at this
            have := (List.mem_filter.mp this).1
            exact List.mem_range.mp this
          have hyr5 : RdAt K H5 yr r := hyrG.keep (.of_ex (q4.trans q5))
          have hrl := hcm.1
          refine (evp_two (P := fun v H' => RdAt K H' v (r ++ [(c, one)])) (R := fun v _ => v = nV (lessN m (2 ^ one))) (evp_cat ((Bz.Ev.p (v := yr) (ev_var rfl)).imp fun v H6 q6 hv => by subst hv; exact hyr5.keep (.of_ex q6)) (evp_rd1 (evp_pr (ev_var rfl) (ev_var rfl))) (by simp; omega)) (Bz.Ev.p (ev_op (ev_var rfl) (ev_un (ev_op ev_c (ev_var rfl) (rv_oneShl (by omega))) ru_inv) rv_bandnot)) mo_rd mo_eq).imp fun v H6 q6 ⟨a, y, z, e, h, h1, h2⟩ => ⟨a, y, e, by subst h2; exact st_of h, h1⟩
        · rw [List.length_map] at h5
          rwa [givenM_all (bitsN (ks.getD c 0 &&& m)) 0 (fun one => (r ++ [(c, one)], lessN m (2 ^ one)))] at h5
        · have h5l := h5.length
          rw [List.length_map] at h5l
          have h6 := hacc3.length
          rw [List.length_append] at h6 ⊢
          simp at h6 ⊢
          omega
        · have h5l2 : H5 l2 = some (.lst (acc ++ [v])) := q5 _ _ (q4 _ _ h3s)
          have tk5 : TK K H5 (upd H5 l2 (.lst (acc ++ [v] ++ ys))) := TK.lst h5l2
          refine ⟨acc ++ [v] ++ ys, _, _, _, _, rfl, Ex.mut ((ex3.trans q4).trans q5) hl2, upd_same, ?_⟩
          rw [hstep]
          have e : (fd0.take j).flatMap (stepP ks c) ++ stepP ks c (r, m) = ((fd0.take j).flatMap (stepP ks c) ++ [(r, m)]) ++ ((bitsN (ks.getD c 0 &&& m)).map fun one => (r ++ [(c, one)], lessN m (2 ^ one))) := by
            rw [List.append_assoc]
            rfl
          rw [e]
          exact (hacc3.imp fun _ _ h => h.keep ((TK.of_ex (q4.trans q5)).trans tk5)).append (h5.imp fun _ _ h => h.keep tk5)
      · obtain ⟨acc, o6, o7, o8, o9, rfl, qq, hacc, haccl⟩ := pv
        rw [hlen, List.take_length] at haccl
        refine s_asg (v := .ref l2) (ev_var rfl) fun H3 q3 => ⟨l2, acc, _, _, _, _, _, _, rfl, (qe.trans qq).trans q3, hl2H, q3 _ _ hacc, ?_⟩
        rw [htake]
        exact haccl.imp fun _ _ h => h.keep (.of_ex q3)
    · obtain ⟨l, xs, o4, o5, o6, o7, o8, o9, rfl, qe, hln, hlx, hal⟩ := pv
      refine s_ret (v := .ref l) (ev_var rfl) fun H3 q3 => k l xs H3 hln (qe.trans q3) (q3 _ _ hlx) ?_
      rw [List.length_map, List.take_length] at hal
      exact hal.imp fun _ _ h => h.keep (.of_ex q3)
end
end Bz

set_option maxHeartbeats 2000000
namespace Bz
open PySem PySem.Spec PyProof.Rows L2 Evl
/-! ### hasty -/
def goodP (ks : List Nat) (knowing : Nat) (cl : Cl) : Bool := !((bitsN (lessN knowing (maskN (cl.1.map (·.1))))).any fun c => decide (ks.getD c 0 &&& cl.2 ≠ 0))
def hastyP (ks : List Nat) (knowing there : Nat) : List Rd := ((callsP ks (bitsN knowing) (lessN there knowing)).filter (goodP ks knowing)).map (·.1)
theorem callsP_mem {ks : List Nat} {fresh : Nat} (S : Nat → Prop) : ∀ (cs : List Nat) (found : List Cl), (∀ c ∈ cs, S c) → (∀ cl ∈ found, ∀ e ∈ cl.1, S e.1) → ∀ cl ∈ cs.foldl (fun found c => found.flatMap (stepP ks c)) found, ∀ e ∈ cl.1, S e.1
  | [], _, _, h => h
  | c :: cs, found, hc, h => by
    rw [List.foldl_cons]
    refine callsP_mem (fresh := fresh) S cs _ (fun d hd => hc d (List.mem_cons_of_mem _ hd)) fun cl hcl e he => ?_
    obtain ⟨cl0, h0, h1⟩ := List.mem_flatMap.mp hcl
    unfold stepP at h1
    rcases List.mem_cons.mp h1 with rfl | h1
    · exact h _ h0 e he
    · obtain ⟨one, _, rfl⟩ := List.mem_map.mp h1
      rcases List.mem_append.mp he with he | he
      · exact h _ h0 e he
      · simp at he
        subst he
        exact hc c (List.mem_cons_self ..)
section
variable {K : PySem.W.Frag} {σ : L2.St} {H : Hp} {tl te ta tb : TE} {D : Ends} {tz tu : TS} {g : TG} {Pl : List V → Hp → Prop} {t : TT}
theorem s_forNLP (h : EvLP tl σ H Pl) (k : ∀ p xs H1, H p = none → Ex H H1 → H1 p = some (.lst xs) → Pl xs H1 → ∃ Pv : Nat → L2.St → Hp → Prop, Pv 0 σ H1 ∧ (∀ i σ' H', i ≤ xs.length → Pv i σ' H' → SqL K H' p xs) ∧
    (∀ i x σ' H', xs[i]? = some x → Pv i σ' H' → g x σ' H' fun σ2 H2 => tu { D with nx := Pv (i + 1), ct := Pv (i + 1), bk := D.nx } σ2 H2) ∧ (∀ σ' H', Pv xs.length σ' H' → D.nx σ' H')) : tFor (iList K tl) g tu D σ H :=
  h H (Ex.refl H) _ fun p xs H1 hp e h1 hP => by
    obtain ⟨Pv, h0, hl, hs, hd⟩ := k p xs H1 hp e h1 hP
    exact ⟨p, rfl, ⟨xs, sq_of h1⟩, for_list Pv h0 hl hs hd⟩
theorem q_forNLP (h : EvLP tl σ H Pl) (k : ∀ p xs H1, H p = none → Ex H H1 → H1 p = some (.lst xs) → Pl xs H1 → ∃ Pv : Nat → L2.St → Hp → Prop, Pv 0 σ H1 ∧ (∀ i σ' H', i ≤ xs.length → Pv i σ' H' → SqL K H' p xs) ∧
    (∀ i x σ' H', xs[i]? = some x → Pv i σ' H' → g x σ' H' fun σ2 H2 => tu { D with nx := Pv (i + 1), ct := Pv (i + 1), bk := tz D } σ2 H2) ∧ (∀ σ' H', Pv xs.length σ' H' → tz D σ' H')) : tSeq (tFor (iList K tl) g tu) tz D σ H := s_forNLP (D := { D with nx := tz D }) h k
theorem ev_callL {sp : Sp} {dvs xs : List V} {z : V} {E : XK} (h : EvL tl σ H xs) (hs : ∀ p H1, H1 p = some (.lst xs) → Ex H H1 → SpV sp ([.ref p] ++ dvs) H1 z) : Ev (tCall sp dvs E (tCons tl tNil)) σ H z := fun H1 e Q q =>
  h H1 e _ fun p H2 hp e2 h2 => hs p H2 h2 (e.trans e2) H2 (Ex.refl _) Q (fun H3 e3 => q H3 (e2.trans e3)) E
theorem ev_callU {sp : Sp} {dvs xs : List V} {z : V} {E : XK} (h : EvU tl σ H xs) (hs : ∀ p H1, H1 p = some (.tup xs) → Ex H H1 → SpV sp ([.ref p] ++ dvs) H1 z) : Ev (tCall sp dvs E (tCons tl tNil)) σ H z := fun H1 e Q q =>
  h H1 e _ fun p H2 hp e2 h2 => hs p H2 h2 (e.trans e2) H2 (Ex.refl _) Q (fun H3 e3 => q H3 (e2.trans e3)) E
end
def spHasty (K : PySem.W.Frag) (CW : Addr) : Sp := fun vs H Q _ => ∃ (x : Addr) (p : Nat) (es : Rd) (kn th : Nat), vs = [.ref x, nV kn, nV th] ∧ WebAt K CW H x p es ∧ kn < 2 ^ 16 ∧ CallsOk p (keptOf p es) (bitsN kn) (lessN th kn) ∧
  RetLP (fun xs H' => Al2 (RdAt K H') xs (hastyP (keptOf p es) kn th)) H Q
abbrev nmHasty : List Str := ["web", "knowing", "there", "fresh", "callers", "found", "calls", "left", "busy", "caller", "called"]
theorem scHasty : FnScope nmHasty ["web", "knowing", "there"] (defScope sHasty) := ⟨rfl, rfl, rfl, by decide +kernel, rfl, by decide +kernel, by decide +kernel⟩
section
variable {P : Program} {w : World} {K : PySem.W.Frag} {mg : Str → Option Value} {base : Heap} {CW CB CN : Addr}
theorem slp_calls {H : Hp} {x t : Addr} {p fresh : Nat} {es : Rd} {cs : List Nat} (hw : WebAt K CW H x p es) (ht : SqT K H t (cs.map nV)) (ok : CallsOk p (keptOf p es) cs fresh) : SpLP (spCalls K CW) [.ref x, .ref t, nV fresh] H (fun xs H' => Al2 (ClAt K H') xs (callsP (keptOf p es) cs fresh)) := fun H1 e Q q E =>
  ⟨x, t, p, es, cs, fresh, rfl, hw.mono e, ex_t e ht, ok, q⟩
theorem ok_hasty {f fL fB fC : Addr} {fd fdL fdB fdC : FuncData} (F : FnP K "hasty" sHasty f fd) (T : Txt K mg CW CB CN) (FL : FnP K "lot_of" sLotOf fL fdL) (gL : mg "lot_of" = some (.ref fL)) (GL : FnOk P w K mg base CX0 1 fL fdL ["mask"] (spLotOf K))
    (FB : FnP K "bits" sBits fB fdB) (gB : mg "bits" = some (.ref fB)) (GB : FnOk P w K mg base CX0 1 fB fdB ["lot"] (spBits K)) (FC : FnP K "calls_by" sCalls fC fdC) (gC : mg "calls_by" = some (.ref fC)) (GC : FnOk P w K mg base CX0 2 fC fdC ["web", "callers", "fresh"] (spCalls K CW)) :
    FnOk P w K mg base CX0 3 f fd ["web", "knowing", "there"] (spHasty K CW) := by
  have bL : Binds K fdL ["mask"] [] := FL.bindsN fun _ _ _ _ _ _ us hl => match us, hl with | [_], _ => rfl
  have bB : Binds K fdB ["lot"] [] := FB.bindsN fun _ _ _ _ _ _ us hl => match us, hl with | [_], _ => rfl
  have bC : Binds K fdC ["web", "callers", "fresh"] [] := FC.bindsN fun _ _ _ _ _ _ us hl => match us, hl with | [_, _, _], _ => rfl
  refine F.ok scHasty (fun vs H Q E h => ?_) (fun cdv A outer s H vs Q E hr h => ?_)
  · obtain ⟨x, p, es, kn, th, rfl, _⟩ := h
    rfl
  · obtain ⟨x, p, es, kn, th, rfl, hw, hkn, ok, k⟩ := h
    refine ⟨_, PSs.nox (pss_cons (ps_asg (pe_op op_and (pv 2) (pe_un un_inv (pv 1))) (pg_name (i := 3) scHasty.nd rfl (.inl rfl)))
      (pss_cons (ps_asg (pe_call GL (hr.mono (by decide)) rfl gL FL.kp bL .nil pass0 (pa_cons (pv 1) pa_nil)) (pg_name (i := 4) scHasty.nd rfl (.inl rfl)))
      (pss_cons (ps_asg (pe_lst pa_nil) (pg_name (i := 5) scHasty.nd rfl (.inl rfl)))
      (pss_cons (ps_for PassesOwn.never rfl (pi_list (pe_call GC hr rfl gC FC.kp bC .nil pass0 (pa_cons (pv 0) (pa_cons (pv 4) (pa_cons (pv 3) pa_nil))))) (pg_tup rfl (pgs_cons (pg_name (i := 6) scHasty.nd rfl (.inl rfl)) (pgs_cons (pg_name (i := 7) scHasty.nd rfl (.inr rfl)) pgs_nil)))
        (pss_cons (ps_asg (pe_call GB (hr.mono (by decide)) rfl gB FB.kp bB .nil pass0 (pa_cons
            (pe_lc (own := [("caller", 9), ("called", 10)]) (g := gTup K 2 (gCons (gName 9) (gCons (gName 10) gNil))) (tt := tYes) rfl scHasty.nd (pi_tup (pv 6)) (blkOk_by (N := nmHasty) (sc := defScope sHasty) (by decide +kernel))
              (fun _ _ _ _ _ => pg_tup rfl (pgs_cons (pg_name (i := 9) scHasty.nd rfl (Or.inl rfl)) (pgs_cons (pg_name (i := 10) scHasty.nd rfl (Or.inl rfl)) pgs_nil))) (fun _ _ _ _ _ => pts_nil) (fun _ _ _ _ _ => pv 9)) pa_nil)) (pg_name (i := 8) scHasty.nd rfl (.inl rfl)))
        (pss_one (ps_if (pt_not (pt_val (pe_callB (cr_any rfl) rfl T.any (by decide +kernel) (pa_cons
            (pe_lc (own := [("caller", 9)]) (g := gName 9) (tt := tYes) rfl scHasty.nd (pi_tup (pe_call GL (hr.mono (by decide)) rfl gL FL.kp bL .nil pass0 (pa_cons (pe_op op_and (pv 1) (pe_un un_inv (pv 8))) pa_nil))) (blkOk_by (N := nmHasty) (sc := defScope sHasty) (by decide +kernel))
              (fun _ _ _ _ _ => pg_name (i := 9) scHasty.nd rfl (Or.inl rfl)) (fun _ _ _ _ _ => pts_nil)
              (fun _ _ _ _ _ => pe_cmpR op_ne (pe_op op_and (pe_ix (r := rIxL K) (ta := tFld K (tVar 0) "kept_ties") ix_list (pe_fld (pv 0) rfl) (pv 9) (fun _ _ => rfl)) (pv 7)) pe_int (nomark _))) pa_nil))))
          (pss_one (ps_expr (pe_bm PySem.F.plainAttrs_list PySem.F.slot_list_append PySem.F.type_list_append mt_append (pv 5) (pa_cons (pv 6) pa_nil)))) pss_nil))))
      (pss_one (ps_ret (pv 5))))))), ?_⟩
    have hw0 := hw
    obtain ⟨dx, tt, kl, hx, htt, hkl⟩ := hw
    generalize hks : keptOf p es = ks at ok k hkl
    generalize hfr : lessN th kn = fr at ok
    have hcs := ok.mem
    refine q_asg (v := nV fr) (by rw [← hfr]; exact ev_op (ev_var rfl) (ev_un (ev_var rfl) ru_inv) rv_bandnot) fun H1 q1 => ?_
    refine q_asgU (xs := (bitsN kn).map nV) (eu_call (ea_cons (ev_var rfl) ea_nil) (su_lotOf hkn)) fun ts H2 hts q2 hts2 => ?_
    refine q_asgL (xs := []) (el_lst ea_nil (by show (0 : Nat) ≤ 100000; decide)) fun l H3 hl q3 hl3 => ?_
    show tSeq _ _ _ [some (.ref x), some (nV kn), some (nV th), some (nV fr), some (.ref ts), some (.ref l), none, none, none, none, none] H3
    have qe3 : Ex H H3 := (q1.trans q2).trans q3
    have hlH : H l = none := fresh_back (q1.trans q2) hl
    have hlc : SpLP (spCalls K CW) [.ref x, .ref ts, nV fr] H3 (fun xs H' => Al2 (ClAt K H') xs (callsP ks (bitsN kn) fr)) := by
      have := slp_calls (t := ts) (fresh := fr) (cs := bitsN kn) (hw0.mono qe3) (st_of (q3 _ _ hts2)) (by rw [hks]; exact ok)
      rwa [hks] at this
    refine q_forNLP (elp_call (ea_cons (ev_var rfl) (ea_cons (ev_var rfl) (ea_cons (ev_var rfl) ea_nil))) hlc) fun fl xs H4 hfl q4 hfl4 hal => ?_
    have hinv : ∀ cl ∈ callsP ks (bitsN kn) fr, cl.1.length ≤ 16 ∧ cl.2 < 2 ^ 16 ∧ (∀ e ∈ cl.1, e.1 < p) := fun cl h => by
      have h1 := callsP_inv h
      have h3 := ok.len
      have h4 := ok.fr
      refine ⟨by omega, by omega, ?_⟩
      exact callsP_mem (ks := ks) (fresh := fr) (fun c => c < p) (bitsN kn) [([], fr)] ok.mem (fun cl h => by simp at h; subst h; simp) cl h
    have hlen := hal.length
    have hbd : (callsP ks (bitsN kn) fr).length ≤ 1000 := by
      have := ok.bd (bitsN kn).length
      rwa [List.take_length] at this
    have hkp := ok.kl
    have hkey : hastyP ks kn th = ((callsP ks (bitsN kn) fr).filter (goodP ks kn)).map (·.1) := by unfold hastyP; rw [hfr]
    rw [hkey] at k
    generalize hfd : callsP ks (bitsN kn) fr = fd0 at hal hinv hlen hbd k
    have hx4 := (qe3.trans q4) _ _ hx
    have hkl4 := (qe3.trans q4) _ _ hkl
    let Pv : Nat → L2.St → Hp → Prop := fun i σ' H' => ∃ acc o6 o7 o8 o9 o10, σ' = [some (.ref x), some (nV kn), some (nV th), some (nV fr), some (.ref ts), some (.ref l), o6, o7, o8, o9, o10] ∧ (∀ a o, a ≠ l → H4 a = some o → H' a = some o) ∧ H' l = some (.lst acc) ∧ TK K H4 H' ∧ Al2 (RdAt K H') acc (((fd0.take i).filter (goodP ks kn)).map (·.1)) ∧ Ex H H'
    have hfll : fl ≠ l := fun q => by rw [q, hl3] at hfl; cases hfl
    have hxl : x ≠ l := fun q => by rw [q, hlH] at hx; cases hx
    have hkll : kl ≠ l := fun q => by rw [q, hlH] at hkl; cases hkl
    refine ⟨Pv, ⟨[], _, _, _, _, _, rfl, fun a o _ h => h, q4 _ _ hl3, TK.refl, .nil, qe3.trans q4⟩, fun i σ' H' hi pv => ?_, fun i y σ' H' hy pv => ?_, fun σ' H' pv => ?_⟩
    · obtain ⟨acc, o6, o7, o8, o9, o10, rfl, qa, _⟩ := pv
      exact sq_of (qa _ _ hfll hfl4)
    · obtain ⟨acc, o6, o7, o8, o9, o10, rfl, qa, hacc, tk, haccl, qe⟩ := pv
      obtain ⟨cl, hcl, hy1⟩ := hal.get hy
      obtain ⟨b, yr, rfl, hb, hyr⟩ := hy1.keep tk
      have hcm := hinv cl (List.mem_of_getElem? hcl)
      have hal2 := haccl.length
      have hx5 := qa _ _ hxl hx4
      have hkl5 := qa _ _ hkll hkl4
      have htake : fd0.take (i + 1) = fd0.take i ++ [cl] := by
        obtain ⟨hi, h⟩ := List.getElem?_eq_some_iff.mp hcl
        rw [List.take_succ_eq_append_getElem hi, h]
      have hfl2 : ((fd0.take i).filter (goodP ks kn)).length ≤ 1000 := by
        refine Nat.le_trans (List.length_filter_le _ _) ?_
        rw [List.length_take]
        omega
      rw [List.length_map] at hal2
      refine ⟨b, _, rfl, hb, rfl, _, _, rfl, _, _, rfl, rfl, ?_⟩
      show tSeq _ _ _ [some (.ref x), some (nV kn), some (nV th), some (nV fr), some (.ref ts), some (.ref l), some yr, some (nV cl.2), o8, o9, o10] H'
      obtain ⟨ya, ys, rfl, hya, hyl⟩ := hyr
      have hylen := hyl.length
      -- busy
      refine q_asg (v := nV (maskN (cl.1.map (·.1)))) (ev_callL (xs := (cl.1.map (·.1)).map nV) ?_ fun bp H5 hbp q5 => sv_bits (.inl (sq_of hbp)) (by rw [List.length_map]; omega) fun n hn => ?_) fun H5 q5 => ?_
      · refine fun H5 q5 => el_is ?_ (el_lc (fun _ => true) (fun i => nV ((cl.1.map (·.1)).getD i 0)) (wi_tup (a := ya) (xs := ys) (ev_var rfl) hya) (by omega) fun i y H6 q6 hi hY => ?_) H5 q5
        · rw [given_all]
          have : ys.length = (cl.1.map (·.1)).length := by rw [List.length_map]; exact hylen
          rw [this, map_getD (cl.1.map (·.1)) 0 nV]
        · obtain ⟨e, he, pa, rfl, hpa⟩ := hyl.get hY
          refine ⟨[some (.ref x), some (nV kn), some (nV th), some (nV fr), some (.ref ts), some (.ref l), some (.ref ya), some (nV cl.2), o8, some (nV e.1), some (nV e.2)], fun Q q => ⟨pa, _, rfl, ex_t q6 hpa, rfl, _, _, rfl, _, _, rfl, rfl, q⟩, rfl, et_yes, fun _ => ?_⟩
          rw [getD_at (show (cl.1.map (·.1))[i]? = some e.1 by rw [List.getElem?_map, he]; rfl)]
          exact ev_var rfl
      · obtain ⟨e, he, rfl⟩ := List.mem_map.mp hn
        have h1 := hcm.2.2 e he
        have h2 := ok.kl
        have h3 := ok.pl
        omega
      · show tIfS _ _ _ _ [some (.ref x), some (nV kn), some (nV th), some (nV fr), some (.ref ts), some (.ref l), some (.ref ya), some (nV cl.2), some (nV (maskN (cl.1.map (·.1)))), o9, o10] H5
        generalize hbz : maskN (cl.1.map (·.1)) = bz
        have hidle : lessN kn bz < 2 ^ 16 := Nat.lt_of_le_of_lt (lessN_le _ _) hkn
        have hgood : goodP ks kn cl = !((bitsN (lessN kn bz)).any fun c => decide (ks.getD c 0 &&& cl.2 ≠ 0)) := by unfold goodP; rw [hbz]
        have hbl : (bitsN (lessN kn bz)).length ≤ 16 := by
          unfold bitsN
          exact Nat.le_trans (List.length_filter_le _ _) (by simp)
        have hmem : ∀ c ∈ bitsN (lessN kn bz), c < p := fun c hc => hcs c (by
          rw [mem_bitsN hidle, lessN_bit] at hc
          rw [mem_bitsN hkn]
          exact (Bool.and_eq_true_iff.mp hc).1)
        refine s_when (b := goodP ks kn cl) ?_ (fun hg H6 q6 => ?_) fun hg H6 q6 => ?_
        · rw [hgood]
          refine et_not (et_B (ev_is (ev_any (bs := (bitsN (lessN kn bz)).map fun c => decide (ks.getD c 0 &&& cl.2 ≠ 0)) ?_) (by rw [List.any_map]; rfl)))
          refine fun H6 q6 => el_is ?_ (el_lcN (fun _ => true) (fun i => .bl (decide (ks.getD ((bitsN (lessN kn bz)).getD i 0) 0 &&& cl.2 ≠ 0))) (wi_tupU (xs := (bitsN (lessN kn bz)).map nV) (eu_call (ea_cons (ev_op (ev_var rfl) (ev_un (ev_var rfl) ru_inv) rv_bandnot) ea_nil) (su_lotOf hidle))) (by rw [List.length_map]; omega) (fun _ => rfl) fun i y H7 q7 hi hY => ⟨et_yes, fun _ => ?_⟩) H6 q6
          · rw [given_all, List.length_map, map_getD (bitsN (lessN kn bz)) 0 (fun c => V.bl (decide (ks.getD c 0 &&& cl.2 ≠ 0))), List.map_map]
            rfl
          · rw [List.length_map] at hi
            have e : (bitsN (lessN kn bz))[i]? = some ((bitsN (lessN kn bz)).getD i 0) := at_getD 0 hi
            have hc := hmem _ (List.mem_of_getElem? e)
            rw [List.getElem?_map, e] at hY
            generalize (bitsN (lessN kn bz)).getD i 0 = c at hY hc
            have hY : nV c = y := by injection hY
            subst hY
            refine ev_is (ev_op (ev_op (ev_op (ev_fld (v := .ref kl) (ev_var rfl) ((q5.trans q7) _ _ hx5) T.clW T.nKe rfl) (ev_var rfl) (rv_ixLn (sq_of ((q5.trans q7) _ _ hkl5)) (by omega))) (ev_var rfl) rv_band) ev_c (rv_ne rfl)) ?_
            by_cases h : ks.getD c 0 &&& cl.2 = 0
            · rw [h]; rfl
            · rw [decide_eq_false (p := nV (ks.getD c 0 &&& cl.2) = V.int 0) (fun q => by injection q with q; omega), decide_eq_true (p := ks.getD c 0 &&& cl.2 ≠ 0) h]
              rfl
        · refine s_app (v := .ref ya) (q6 _ _ (q5 _ _ hacc)) (ev_var rfl) (ev_var rfl) (by omega) fun H7 q7 => ?_
          have q57 : Ex H' H7 := (q5.trans q6).trans q7
          have h7l : H7 l = some (.lst acc) := q57 _ _ hacc
          have tk7 : TK K H7 (upd H7 l (.lst (acc ++ [.ref ya]))) := TK.lst h7l
          refine ⟨acc ++ [.ref ya], _, _, _, _, _, rfl, fun a o ha h => by rw [upd_ne ha]; exact q57 _ _ (qa a o ha h), upd_same, (tk.trans (.of_ex q57)).trans tk7, ?_, fun a o h => by
            have ha : a ≠ l := fun q => by rw [q, hlH] at h; cases h
            rw [upd_ne ha]
            exact q57 _ _ (qe _ _ h)⟩
          rw [htake, List.filter_append, List.map_append]
          have : [cl].filter (goodP ks kn) = [cl] := by simp [hg]
          rw [this]
          exact (haccl.imp fun _ _ h => h.keep ((TK.of_ex q57).trans tk7)).append (.one (RdAt.keep ((TK.of_ex q57).trans tk7) ⟨ya, ys, rfl, hya, hyl⟩))
        · have q56 : Ex H' H6 := q5.trans q6
          refine ⟨acc, _, _, _, _, _, rfl, fun a o ha h => q56 _ _ (qa a o ha h), q56 _ _ hacc, tk.trans (.of_ex q56), ?_, qe.trans q56⟩
          rw [htake, List.filter_append, List.map_append]
          have : [cl].filter (goodP ks kn) = [] := by simp [hg]
          rw [this]
          simpa using haccl.imp fun _ _ h => h.keep (.of_ex q56)
    · obtain ⟨acc, o6, o7, o8, o9, o10, rfl, qa, hacc, tk, haccl, qe⟩ := pv
      rw [hlen, List.take_length] at haccl
      exact s_ret (v := .ref l) (ev_var rfl) fun H5 q5 => k l acc H5 hlH (qe.trans q5) (q5 _ _ hacc) (haccl.imp fun _ _ h => h.keep (.of_ex q5))
end
end Bz

set_option maxHeartbeats 2000000
namespace Bz
open PySem PySem.Spec PyProof.Rows L2 Evl
/-! ### rounds_from -/
def rLe (r s : Rd) : Bool := dLe (rdD r) (rdD s)
def sortR (rs : List Rd) : List Rd := rs.mergeSort rLe
theorem sortR_data (rs : List Rd) : (rs.map rdD).mergeSort dLe = (sortR rs).map rdD := (PySem.W.sort_maps rdD (l := rs) fun a _ b _ => rfl).symm
theorem alike_pr (e f : Nat × Nat) : PySem.W.alike (prE e) (prE f) = true := by simp [prE, PySem.W.alike, PySem.W.alikeAll]
theorem alike_map {α : Type} (f : α → PyData) (h : ∀ a b, PySem.W.alike (f a) (f b) = true) : ∀ r s : List α, PySem.W.alikeAll (r.map f) (s.map f) = true
  | [], _ => by simp [PySem.W.alikeAll]
  | _ :: _, [] => by simp [PySem.W.alikeAll]
  | a :: r, b :: s => by
    rw [List.map_cons, List.map_cons, PySem.W.alikeAll, h, alike_map f h r s]
    rfl
theorem alike_rd (r s : Rd) : PySem.W.alike (rdD r) (rdD s) = true := by
  simp only [rdD, PySem.W.alike]
  exact alike_map prE alike_pr r s
theorem alike_rds (rs : List Rd) : PySem.W.AllAlike (rs.map rdD) := fun d hd e he => by
  obtain ⟨r, _, rfl⟩ := List.mem_map.mp hd
  obtain ⟨s, _, rfl⟩ := List.mem_map.mp he
  exact alike_rd r s
def SortOk (rs : List Rd) : Prop := 2 ≤ rs.length → ∀ r ∈ rs, r ≠ []
theorem SortOk.able {rs : List Rd} (h : SortOk rs) : 2 ≤ (rs.map rdD).length → PySem.W.Sortable (rs.map rdD) := fun h2 => .inl fun d hd => by
  rw [List.length_map] at h2
  obtain ⟨r, hr, rfl⟩ := List.mem_map.mp hd
  cases r with
  | nil => exact absurd rfl (h h2 _ hr)
  | cons e r => exact ⟨prE e, r.map prE, rfl⟩
theorem rds_depth {rs : List Rd} : ∀ d ∈ rs.map rdD, d.depth ≤ 8 := fun d hd => by
  obtain ⟨r, _, rfl⟩ := List.mem_map.mp hd
  have := rdD_depth r
  omega
section
variable {K : PySem.W.Frag} {σ : L2.St} {H : Hp} {tl te ta tb : TE}
/-- sorted(a new list of rounds) -/
theorem elp_sorted {rs : List Rd} (h : EvLP tl σ H (fun xs H' => Al2 (RdAt K H') xs rs)) (hs : SortOk rs) : EvLP (tCB (rSortedD K) (tCons tl tNil)) σ H (fun ys H' => DpAll K H' ys ((sortR rs).map rdD)) := fun H1 e Q q =>
  h H1 e _ fun p xs H2 hp e2 h2 hal => ⟨p, xs, rs.map rdD, rfl, sq_of h2, RdAt.dpAll hal, alike_rds rs, hs.able, rds_depth, fun ys l hl hd _ => by
    refine q l ys _ (fresh_back e2 hl) (e2.trans (Ex.new hl)) upd_same ?_
    rw [sortR_data] at hd
    exact DpAll.rec (motive_1 := fun v d _ => Dp K (upd H2 l (.lst ys)) v d) (motive_2 := fun vs ds _ => DpAll K (upd H2 l (.lst ys)) vs ds) .non .bl .int .str (fun h _ k => .lst (ex_l (Ex.new hl) h) k) (fun h _ k => .tup (ex_t (Ex.new hl) h) k) .nil (fun _ _ h k => .cons h k) hd⟩
end
theorem DpAll.go {K : PySem.W.Frag} {H H' : Hp} (e : Ex H H') {vs : List V} {ds : List PyData} (h : DpAll K H vs ds) : DpAll K H' vs ds :=
  DpAll.rec (motive_1 := fun v d _ => Dp K H' v d) (motive_2 := fun vs ds _ => DpAll K H' vs ds) .non .bl .int .str (fun h _ k => .lst (ex_l e h) k) (fun h _ k => .tup (ex_t e h) k) .nil (fun _ _ h k => .cons h k) h
theorem DpAll.ints {K : PySem.W.Frag} {H : Hp} : ∀ ns : List Int, DpAll K H (ns.map V.int) (ns.map PyData.int)
  | [] => .nil
  | n :: ns => .cons (.int n) (DpAll.ints ns)
theorem ints_shaped (ns : List Int) : SeqAt.shaped (.tuple (ns.map PyData.int)) = true := by
  refine shaped_of (n := 1) ?_ ?_ (by decide)
  · simp only [PyData.canLay0]
    exact lay_map PyData.int (fun a => by simp [PyData.canLay0]) ns
  · have := depth_map (n := 0) PyData.int (fun a => by simp [PyData.depth]) ns
    simp only [PyData.depth]
    omega
def spRounds (K : PySem.W.Frag) (CW CN : Addr) : Sp := fun vs H Q E => ∃ (x : Addr) (v : V) (t : Th) (p : Nat) (es : Rd), vs = [.ref x, v] ∧ WebAt K CW H x p es ∧ ThR K CW H v t ∧ p ≤ 16 ∧
  (((t.lot (p : Int) = false ∨ t = .tup []) ∧ ∀ H', Ex H H' → E (.ref CN) none H') ∨
    ∃ (kn : List Nat), t = .tup (kn.map fun n : Nat => Th.int (n : Int)) ∧ t.lot (p : Int) = true ∧ kn ≠ [] ∧ kn.length ≤ 1000 ∧ (∀ n ∈ kn, n ≤ 1000) ∧ maskN kn < 2 ^ 16 ∧ CallsOk p (keptOf p es) (bitsN (maskN kn)) (lessN (2 ^ p - 1) (maskN kn)) ∧ SortOk (hastyP (keptOf p es) (maskN kn) (2 ^ p - 1)) ∧
      RetLP (fun ys H' => DpAll K H' ys ((sortR (hastyP (keptOf p es) (maskN kn) (2 ^ p - 1))).map rdD)) H Q)
theorem scRounds : FnScope ["web", "knowing"] ["web", "knowing"] (defScope sRounds) := ⟨rfl, rfl, rfl, by decide +kernel, rfl, by decide +kernel, by decide +kernel⟩
section
variable {P : Program} {w : World} {K : PySem.W.Frag} {mg : Str → Option Value} {base : Heap} {CW CB CN : Addr}
theorem slp_hasty {H : Hp} {x : Addr} {p kn th : Nat} {es : Rd} (hw : WebAt K CW H x p es) (hkn : kn < 2 ^ 16) (ok : CallsOk p (keptOf p es) (bitsN kn) (lessN th kn)) : SpLP (spHasty K CW) [.ref x, nV kn, nV th] H (fun xs H' => Al2 (RdAt K H') xs (hastyP (keptOf p es) kn th)) := fun H1 e Q q E =>
  ⟨x, p, es, kn, th, rfl, hw.mono e, hkn, ok, q⟩
theorem ok_rounds {f fL fB fH : Addr} {fd fdL fdB fdH : FuncData} (F : FnP K "rounds_from" sRounds f fd) (T : Txt K mg CW CB CN) (FL : FnP K "is_lot_of" sLot fL fdL) (gL : mg "is_lot_of" = some (.ref fL)) (GL : FnOk P w K mg base CX0 3 fL fdL ["many", "thing"] (spLot K CW))
    (FB : FnP K "bits" sBits fB fdB) (gB : mg "bits" = some (.ref fB)) (GB : FnOk P w K mg base CX0 1 fB fdB ["lot"] (spBits K)) (FH : FnP K "hasty" sHasty fH fdH) (gH : mg "hasty" = some (.ref fH)) (GH : FnOk P w K mg base CX0 3 fH fdH ["web", "knowing", "there"] (spHasty K CW)) :
    FnOk P w K mg base (L2.CX P w) 4 f fd ["web", "knowing"] (spRounds K CW CN) := by
  have bL : Binds K fdL ["many", "thing"] [] := FL.bindsN fun _ _ _ _ _ _ us hl => match us, hl with | [_, _], _ => rfl
  have bB : Binds K fdB ["lot"] [] := FB.bindsN fun _ _ _ _ _ _ us hl => match us, hl with | [_], _ => rfl
  have bH : Binds K fdH ["web", "knowing", "there"] [] := FH.bindsN fun _ _ _ _ _ _ us hl => match us, hl with | [_, _, _], _ => rfl
  refine F.ok scRounds (fun vs H Q E h => ?_) (fun cdv A outer s H vs Q E hr h => ?_)
  · obtain ⟨x, v, t, p, es, rfl, _⟩ := h
    rfl
  · obtain ⟨x, v, t, p, es, rfl, hw, ht, hp, k⟩ := h
    refine ⟨_, pss_cons (ps_if (PW.pt (pw_or (pt_not (pt_val (pe_call GL hr rfl gL FL.kp bL .nil pass0 (pa_cons (pe_fld (pv 0) rfl) (pa_cons (pv 1) pa_nil))))) (pw_or1 (pt_cmpR (op_eqD hr.units) (pv 1) (pe_tup pa_nil) (nomark _)))))
        (pss_one (ps_raise rfl (takes_of rfl rfl rfl rfl) (pmk_own0 PySem.F.excBase_ValueError T.xN T.gN T.kpN (raises_own T.bN T.tN) rfl))) pss_nil)
      (pss_one (ps_ret (pe_callB (cr_sortedD hr.units) rfl T.sorted (by decide +kernel) (pa_cons (pe_call GH hr rfl gH FH.kp bH .nil pass0 (pa_cons (pv 0) (pa_cons (pe_call GB (hr.mono (by decide)) rfl gB FB.kp bB .nil pass0 (pa_cons (pv 1) pa_nil))
        (pa_cons (pe_op op_sub (pe_op op_oneShl pe_int (pe_fld (pv 0) rfl)) pe_int) pa_nil)))) pa_nil)))), ?_⟩
    have hw0 := hw
    obtain ⟨dx, tt, kl, hx, htt, hkl⟩ := hw
    have evP : ∀ H1, Ex H H1 → Ev (tFld K (tVar 0) "people") (start ["web", "knowing"] [V.ref x, v]) H1 (nV p) := fun H1 e => ev_fld (v := nV p) (ev_var rfl) (e _ _ hx) T.clW T.nPe rfl
    have evL : EvT _ (start ["web", "knowing"] [V.ref x, v]) H (!t.lot (p : Int)) := et_not (et_B (ev_call (E := E0) (dvs := []) (ea_cons (evP H (Ex.refl _)) (ea_cons (ev_var (i := 1) rfl) ea_nil)) (sv_lot (m := (p : Int)) ht)))
    rcases k with ⟨hbad, k⟩ | ⟨kn, rfl, hlot, hne, hz, hle, hm, ok, so, k⟩
    · refine q_when (b := true) (et_is (et_or evL (b := true) fun hl => ?_) (by simp)) (fun _ H1 q1 => k H1 q1) fun q => Bool.noConfusion q
      have hl : t.lot (p : Int) = true := by simpa using hl
      rcases hbad with hb | rfl
      · rw [hl] at hb; cases hb
      · cases ht with
        | tup hs hall _ =>
          cases hall
          refine et_test (ev_is (ev_opU (z := .bl (PyData.eqv (.tuple []) (.tuple []))) (ev_var rfl) (eu_tup ea_nil (by show (0 : Nat) ≤ 100000; decide)) fun q H1 h1 e => rv_eqD (.tup (ex_t e hs) .nil) (.tup (st_of h1) .nil) (ints_shaped []) (ints_shaped [])) ?_)
          simp [PyData.eqv, PyData.eqvAll]
    · have hsq : ∃ a, v = .ref a ∧ SqT K H a (kn.map nV) := by
        obtain ⟨a, ha, hs, _⟩ := lot_ints ht hlot
        refine ⟨a, ha, ?_⟩
        have : (Th.tup (kn.map fun n : Nat => Th.int (n : Int))).is.map V.int = kn.map nV := by
          show ((kn.map fun n : Nat => Th.int (n : Int)).map Th.i).map V.int = _
          rw [List.map_map, List.map_map]
          rfl
        rwa [this] at hs
      obtain ⟨a, rfl, hs⟩ := hsq
      have hs2 : SqT K H a ((kn.map fun n : Nat => (n : Int)).map V.int) := by
        rw [List.map_map]
        exact hs
      refine q_when (b := false) (et_is (et_or evL (b := false) fun hl => ?_) (by rw [hlot]; rfl)) (fun q => Bool.noConfusion q) fun _ H1 q1 => ?_
      · refine et_test (ev_is (ev_opU (z := .bl (PyData.eqv (.tuple ((kn.map fun n : Nat => (n : Int)).map PyData.int)) (.tuple []))) (ev_var rfl) (eu_tup ea_nil (by show (0 : Nat) ≤ 100000; decide)) fun q H1 h1 e => rv_eqD (.tup (ex_t e hs2) (DpAll.ints _)) (.tup (st_of h1) .nil) (ints_shaped _) (ints_shaped [])) ?_)
        cases kn with
        | nil => exact absurd rfl hne
        | cons n kn => simp [PyData.eqv, PyData.eqvAll]
      · have h2p : 1 ≤ 2 ^ p := Nat.one_le_two_pow
        have evT : ∀ H2, Ex H H2 → Ev (tOp (rI0 fun i j => .int (i - j)) (tOp _ (tC (.int 1)) (tFld K (tVar 0) "people")) (tC (.int 1))) (start ["web", "knowing"] [V.ref x, .ref a]) H2 (nV (2 ^ p - 1)) := fun H2 e => ev_is (ev_op (ev_op ev_c (evP H2 e) (rv_oneShl (by omega))) ev_c rv_I0) (by
          show V.int (((2 ^ p : Nat) : Int) - 1) = V.int ((2 ^ p - 1 : Nat) : Int)
          congr 1
          omega)
        have evB : ∀ H2, Ex H H2 → Ev _ (start ["web", "knowing"] [V.ref x, .ref a]) H2 (nV (maskN kn)) := fun H2 e => ev_call (E := E0) (dvs := []) (ea_cons (ev_var (i := 1) rfl) ea_nil) (sv_bits (.inr (ex_t e hs)) (by omega) hle)
        refine elp_sorted (elp_call (ea_cons (ev_var rfl) (ea_cons (evB H1 q1) (ea_cons (evT H1 q1) ea_nil))) (slp_hasty (hw0.mono q1) hm ok)) so H1 (Ex.refl _) _ fun l ys H2 hl q2 hl2 hd => k l ys H2 (fresh_back q1 hl) (q1.trans q2) hl2 hd
end
end Bz

set_option maxHeartbeats 2000000
namespace Bz
open PySem PySem.Spec PyProof.Rows L2 Evl
/-! ### the law's hand and its draws -/
/-- all but a is kept -/
def KX (a : Addr) (H H' : Hp) : Prop := ∀ b o, b ≠ a → H b = some o → H' b = some o
theorem KX.refl {a : Addr} {H : Hp} : KX a H H := fun _ _ _ h => h
theorem KX.trans {a : Addr} {H H1 H2 : Hp} (h : KX a H H1) (k : KX a H1 H2) : KX a H H2 := fun b o n q => k b o n (h b o n q)
theorem KX.of_ex {a : Addr} {H H' : Hp} (h : Ex H H') : KX a H H' := fun b o _ q => h b o q
theorem KX.put {a : Addr} {H : Hp} {o : HO} : KX a H (upd H a o) := fun b _ n q => by rw [upd_ne n]; exact q
/-- the hand at a -/
def HandAt (K : PySem.W.Frag) (H : Hp) (a c : Addr) (cells : List Int) (at_ : Nat) (rest st cnt : Int) : Prop := H a = some (.lst [.ref c, nV at_, .int rest, .int st, .int cnt]) ∧ H c = some (.lst (cells.map V.int)) ∧ c ≠ a
def HandOk (K : PySem.W.Frag) (H : Hp) (a c : Addr) : Prop := ∃ cells at_ rest st cnt, HandAt K H a c cells at_ rest st cnt
theorem sqL_kx {K : PySem.W.Frag} {a b : Addr} {H H' : Hp} {xs : List V} (k : KX a H H') (n : b ≠ a) (h : SqL K H b xs) : SqL K H' b xs := by
  rcases h with (h | ⟨o, h⟩) | h
  · exact .inl (.inl (k _ _ n h))
  · exact .inl (.inr ⟨o, k _ _ n h⟩)
  · exact .inr h
theorem HandAt.ex {K : PySem.W.Frag} {H H' : Hp} {a c : Addr} {cells : List Int} {at_ : Nat} {rest st cnt : Int} (h : HandAt K H a c cells at_ rest st cnt) (e : Ex H H') : HandAt K H' a c cells at_ rest st cnt := ⟨e _ _ h.1, e _ _ h.2.1, h.2.2⟩
theorem HandOk.ex {K : PySem.W.Frag} {H H' : Hp} {a c : Addr} (h : HandOk K H a c) (e : Ex H H') : HandOk K H' a c := by
  obtain ⟨cells, at_, rest, st, cnt, h⟩ := h
  exact ⟨cells, at_, rest, st, cnt, h.ex e⟩
/-- another list is changed -/
theorem HandOk.put {K : PySem.W.Frag} {H : Hp} {a c l : Addr} {o : HO} (h : HandOk K H a c) (h1 : l ≠ a) (h2 : l ≠ c) : HandOk K (upd H l o) a c := by
  obtain ⟨cells, at_, rest, st, cnt, h⟩ := h
  exact ⟨cells, at_, rest, st, cnt, by rw [upd_ne (Ne.symm h1)]; exact h.1, by rw [upd_ne (Ne.symm h2)]; exact h.2.1, h.2.2⟩
theorem HandOk.fresh {K : PySem.W.Frag} {H : Hp} {a c l : Addr} (h : HandOk K H a c) (hl : H l = none) : l ≠ a ∧ l ≠ c := by
  obtain ⟨cells, at_, rest, st, cnt, h⟩ := h
  refine ⟨fun q => ?_, fun q => ?_⟩
  · rw [q, h.1] at hl
    cases hl
  · rw [q, h.2.1] at hl
    cases hl
theorem HandAt.put {K : PySem.W.Frag} {H H1 : Hp} {a c : Addr} {cells : List Int} {at_ at2 : Nat} {rest st cnt rest2 st2 cnt2 : Int} (h : HandAt K H a c cells at_ rest st cnt) (e : Ex H H1) : HandAt K (upd H1 a (.lst [.ref c, nV at2, .int rest2, .int st2, .int cnt2])) a c cells at2 rest2 st2 cnt2 :=
  ⟨upd_same, by rw [upd_ne h.2.2]; exact e _ _ h.2.1, h.2.2⟩
section
variable {K : PySem.W.Frag} {σ : L2.St} {H : Hp} {ta tb te : TE} {x v : V}
theorem ev_int1 {i : Int} (ha : Ev ta σ H (.int i)) : Ev (tCB (fun xs H Q => (∃ i, xs = [.int i] ∧ Q (.int i) H) ∨ ∃ k, xs = [.bl k] ∧ Q (.int (if k then 1 else 0)) H) (tCons ta tNil)) σ H (.int i) :=
  ev_cb (ea_cons ha ea_nil) fun H1 e Q q => .inl ⟨i, rfl, q H1 (Ex.refl _)⟩
theorem ev_abs {i : Int} (ha : Ev ta σ H (.int i)) : Ev (tCB (fun xs H Q => ∃ i, xs = [.int i] ∧ Q (.int (if i < 0 then -i else i)) H) (tCons ta tNil)) σ H (.int (if i < 0 then -i else i)) :=
  ev_cb (ea_cons ha ea_nil) fun H1 e Q q => ⟨i, rfl, q H1 (Ex.refl _)⟩
theorem ev_ixL {p : Addr} {xs : List V} {j : Nat} (ha : Ev ta σ H (.ref p)) (hb : Ev tb σ H (.int (j : Int))) (h : SqL K H p xs) (hv : xs[j]? = some v) : Ev (tOp (rIxL K) ta tb) σ H v := ev_op ha hb (rv_ixL h (atI_nat hv))
theorem ev_ixT {p : Addr} {xs : List V} {j : Nat} (ha : Ev ta σ H (.ref p)) (hb : Ev tb σ H (.int (j : Int))) (h : SqT K H p xs) (hv : xs[j]? = some v) : Ev (tOp (rIxT K) ta tb) σ H v := ev_op ha hb (rv_ixT h (atI_nat hv))
end
def spDraw (K : PySem.W.Frag) : Sp := fun vs H Q _ => ∃ (a c : Addr) (m : Nat), vs = [.ref a, nV m] ∧ HandOk K H a c ∧ 0 < m ∧ m < 1000 ∧ ∀ (d : Nat) (H' : Hp), d < m → KX a H H' → HandOk K H' a c → Q (nV d) H'
abbrev nmDraw : List Str := ["_law_hand_here", "_law_many", "_law_cell", "_law_digit", "_law_number"]
theorem scDraw : FnScope nmDraw ["_law_hand_here", "_law_many"] (defScope sDraw) := ⟨rfl, rfl, rfl, by decide +kernel, rfl, by decide +kernel, by decide +kernel⟩
theorem mod_nat (x : Int) {m : Nat} (hm : 0 < m) : ∃ d : Nat, d < m ∧ x % (m : Int) = (d : Int) := by
  have h1 : 0 ≤ x % (m : Int) := Int.emod_nonneg _ (by omega)
  have h2 : x % (m : Int) < (m : Int) := Int.emod_lt_of_pos _ (by omega)
  exact ⟨(x % (m : Int)).toNat, by omega, by omega⟩
section
variable {P : Program} {w : World} {K : PySem.W.Frag} {mg : Str → Option Value} {base : Heap} {CW CB CN : Addr}
theorem ok_draw {f : Addr} {fd : FuncData} (F : FnP K "_law_draw" sDraw f fd) (T : Txt K mg CW CB CN) : FnOk P w K mg base CX0 1 f fd ["_law_hand_here", "_law_many"] (spDraw K) := by
  refine F.ok scDraw (fun vs H Q E h => ?_) (fun cdv A outer s H vs Q E hr h => ?_)
  · obtain ⟨a, c, m, rfl, _⟩ := h
    rfl
  · obtain ⟨a, c, m, rfl, hh, hm, hm2, k⟩ := h
    refine ⟨_, PSs.nox (pss_cut (ps_if (PW.pt (pw_and (pt_cmpR op_eq (pe_ix ix_list (pv 0) pe_int (fun _ _ => rfl)) pe_int (nomark _)) (pw_and1 (pt_cmpR op_lt (pe_ix ix_list (pv 0) pe_int (fun _ _ => rfl)) (pe_callB call_len rfl T.len (by decide +kernel) (pa_cons (pe_ix ix_list (pv 0) pe_int (fun _ _ => rfl)) pa_nil)) (nomark _)))))
        (pss_cons (ps_asg (pe_ix ix_list (pe_ix ix_list (pv 0) pe_int (fun _ _ => rfl)) (pe_ix ix_list (pv 0) pe_int (fun _ _ => rfl)) (fun _ _ => rfl)) (pg_name (i := 2) scDraw.nd rfl (.inl rfl)))
        (pss_cons (ps_asg (pe_op op_add (pe_ix ix_list (pv 0) pe_int (fun _ _ => rfl)) pe_int) (pg_sub (pv 0) pe_int set_list))
        (pss_cons (ps_asg (pe_op op_mod (pe_callTy call_int1 rfl T.int (by decide +kernel) (pa_cons (pe_op op_add (pe_op op_add (pe_op op_mul (pe_ix ix_list (pv 0) pe_int (fun _ _ => rfl)) pe_int) (pv 2)) pe_int) pa_nil)) pe_int) (pg_sub (pv 0) pe_int set_list))
        (pss_one (ps_if (pt_cmpR op_ge (pv 2) (pe_op op_pow pe_int pe_int) (nomark _)) (pss_one (ps_asg (pv 2) (pg_sub (pv 0) pe_int set_list))) pss_nil))))) pss_nil)
      (pss_cons (ps_if (pt_cmpR op_gt (pe_ix ix_list (pv 0) pe_int (fun _ _ => rfl)) pe_int (nomark _))
        (pss_cons (ps_asg (pe_op op_mod (pe_callTy call_int1 rfl T.int (by decide +kernel) (pa_cons (pe_ix ix_list (pv 0) pe_int (fun _ _ => rfl)) pa_nil)) (pv 1)) (pg_name (i := 3) scDraw.nd rfl (.inl rfl)))
        (pss_cons (ps_asg (pe_op op_fdiv (pe_ix ix_list (pv 0) pe_int (fun _ _ => rfl)) (pv 1)) (pg_sub (pv 0) pe_int set_list))
        (pss_one (ps_ret (pv 3))))) pss_nil)
      (pss_cons (ps_asg (pe_op op_add (pe_ix ix_list (pv 0) pe_int (fun _ _ => rfl)) pe_int) (pg_sub (pv 0) pe_int set_list))
      (pss_cons (ps_asg (pe_op op_mod (pe_callTy call_int1 rfl T.int (by decide +kernel) (pa_cons (pe_op op_mul (pe_callTy call_int1 rfl T.int (by decide +kernel) (pa_cons (pe_op op_add (pe_ix ix_list (pv 0) pe_int (fun _ _ => rfl)) (pe_op op_mul pe_int (pe_ix ix_list (pv 0) pe_int (fun _ _ => rfl)))) pa_nil)) pe_int) pa_nil)) pe_int) (pg_name (i := 4) scDraw.nd rfl (.inl rfl)))
      (pss_cons (ps_asg (pe_op op_mod (pe_callTy call_int1 rfl T.int (by decide +kernel) (pa_cons (pe_op op_mul (pv 4) (pe_op op_add (pe_op op_fdiv (pv 4) pe_int) pe_int)) pa_nil)) pe_int) (pg_name (i := 4) scDraw.nd rfl (.inl rfl)))
      (pss_cons (ps_asg (pe_op op_mod (pe_callTy call_int1 rfl T.int (by decide +kernel) (pa_cons (pe_op op_mul (pv 4) (pe_op op_add (pe_op op_fdiv (pv 4) pe_int) pe_int)) pa_nil)) pe_int) (pg_name (i := 4) scDraw.nd rfl (.inl rfl)))
      (pss_one (ps_ret (pe_op op_mod (pe_callTy call_int1 rfl T.int (by decide +kernel) (pa_cons (pe_op op_fdiv (pv 4) pe_int) pa_nil)) (pv 1)))))))))), ?_⟩
    let Mid : L2.St → Hp → Prop := fun σ' H' => (∃ o2 o3 o4, σ' = [some (.ref a), some (nV m), o2, o3, o4]) ∧ KX a H H' ∧ HandOk K H' a c
    obtain ⟨cells, at_, rest, st, cnt, hA⟩ := hh
    have e0 : (start nmDraw [V.ref a, nV m])[0]? = some (some (.ref a)) := rfl
    refine q_cut (M := Mid) ?_ ?_
    · refine s_when (b := decide (rest = 0) && decide (at_ < cells.length)) ?_ (fun hb H1 q1 => ?_) fun hb H1 q1 => ⟨⟨none, none, none, rfl⟩, .of_ex q1, _, _, _, _, _, hA.ex q1⟩
      · refine et_and (a := decide (rest = 0)) (et_test (ev_is (ev_op (ev_ixL (j := 2) (v := .int rest) (ev_var e0) ev_c (sq_of hA.1) rfl) ev_c (rv_eq rfl)) ?_)) fun _ => et_test (ev_is (ev_op (ev_ixL (j := 1) (v := nV at_) (ev_var e0) ev_c (sq_of hA.1) rfl) (ev_lenL (ev_ixL (j := 0) (v := .ref c) (ev_var e0) ev_c (sq_of hA.1) rfl) (sq_of hA.2.1)) rv_I0) ?_)
        · by_cases h : rest = 0
          · subst h; rfl
          · rw [decide_eq_false h, decide_eq_false (fun q => h (by injection q))]
        · rw [List.length_map]
          by_cases h : at_ < cells.length
          · rw [decide_eq_true h, decide_eq_true (by omega)]
          · rw [decide_eq_false h, decide_eq_false (by omega)]
      · have hat : at_ < cells.length := by simpa using (Bool.and_eq_true_iff.mp hb).2
        have hA1 := hA.ex q1
        refine q_asg (v := .int (cells.getD at_ 0)) (ev_ixL (j := at_) (ev_ixL (j := 0) (v := .ref c) (ev_var e0) ev_c (sq_of hA1.1) rfl) (ev_ixL (j := 1) (v := nV at_) (ev_var e0) ev_c (sq_of hA1.1) rfl) (sq_of hA1.2.1) (by rw [List.getElem?_map, at_getD 0 hat]; rfl)) fun H2 q2 => ?_
        have hA2 := hA1.ex q2
        generalize cells.getD at_ 0 = cell
        show tSeq _ _ _ [some (.ref a), some (nV m), some (.int cell), none, none] H2
        refine q_setL (j := 1) (v := nV (at_ + 1)) hA2.1 (ev_is (ev_op (ev_ixL (j := 1) (v := nV at_) (ev_var rfl) ev_c (sq_of hA2.1) rfl) ev_c rv_I0) rfl) (ev_var rfl) ev_c (by show (1 : Nat) < 5; decide) fun H3 q3 => ?_
        have hA3 := hA2.put (at2 := at_ + 1) (rest2 := rest) (st2 := st) (cnt2 := cnt) q3
        have k3 : KX a H (upd H3 a (.lst [.ref c, nV (at_ + 1), .int rest, .int st, .int cnt])) := (KX.of_ex ((q1.trans q2).trans q3)).trans .put
        show tSeq _ _ _ [some (.ref a), some (nV m), some (.int cell), none, none] (upd H3 a (.lst [.ref c, nV (at_ + 1), .int rest, .int st, .int cnt]))
        generalize upd H3 a (.lst [.ref c, nV (at_ + 1), .int rest, .int st, .int cnt]) = G3 at hA3 k3
        refine q_setL (j := 3) (v := .int ((st * 69621 + cell + 11) % 2147483629)) hA3.1 (ev_op (ev_int1 (ev_op (ev_op (ev_op (ev_ixL (j := 3) (v := .int st) (ev_var rfl) ev_c (sq_of hA3.1) rfl) ev_c (rv_I (.inr ⟨by decide, by decide⟩))) (ev_var rfl) rv_I0) ev_c rv_I0)) ev_c (rv_I (by decide))) (ev_var rfl) ev_c (by show (3 : Nat) < 5; decide) fun H4 q4 => ?_
        generalize (st * 69621 + cell + 11) % 2147483629 = st2
        have hA4 := hA3.put (at2 := at_ + 1) (rest2 := rest) (st2 := st2) (cnt2 := cnt) q4
        have k4 : KX a H (upd H4 a (.lst [.ref c, nV (at_ + 1), .int rest, .int st2, .int cnt])) := (k3.trans (.of_ex q4)).trans .put
        show tIfS _ _ _ _ [some (.ref a), some (nV m), some (.int cell), none, none] (upd H4 a (.lst [.ref c, nV (at_ + 1), .int rest, .int st2, .int cnt]))
        generalize upd H4 a (.lst [.ref c, nV (at_ + 1), .int rest, .int st2, .int cnt]) = G4 at hA4 k4
        refine s_when (b := decide ((10 : Int) ^ 18 ≤ cell)) (et_test (ev_op (ev_var rfl) (ev_op ev_c ev_c (rv_I ⟨by decide, by decide, by decide⟩)) rv_I0)) (fun _ H5 q5 => ?_) fun _ H5 q5 => ⟨⟨_, _, _, rfl⟩, k4.trans (.of_ex q5), _, _, _, _, _, hA4.ex q5⟩
        refine s_setL (j := 2) (v := .int cell) (q5 _ _ hA4.1) (ev_var rfl) (ev_var rfl) ev_c (by show (2 : Nat) < 5; decide) fun H6 q6 => ⟨⟨_, _, _, rfl⟩, (k4.trans (.of_ex (q5.trans q6))).trans .put, _, _, _, _, _, hA4.put (at2 := at_ + 1) (rest2 := cell) (st2 := st2) (cnt2 := cnt) (q5.trans q6)⟩
    · rintro σ' H' ⟨⟨o2, o3, o4, rfl⟩, kx, cells, at_, rest, st, cnt, hA⟩
      refine q_when (b := decide (0 < rest)) (et_test (ev_op (ev_ixL (j := 2) (v := .int rest) (ev_var rfl) ev_c (sq_of hA.1) rfl) ev_c rv_I0)) (fun hb H1 q1 => ?_) fun hb H1 q1 => ?_
      · have hA1 := hA.ex q1
        obtain ⟨d, hd, hde⟩ := mod_nat rest hm
        refine q_asg (v := nV d) (ev_is (ev_op (ev_int1 (ev_ixL (j := 2) (v := .int rest) (ev_var rfl) ev_c (sq_of hA1.1) rfl)) (ev_var rfl) (rv_I (by show (0 : Int) < (m : Int); omega))) (by rw [hde])) fun H2 q2 => ?_
        have hA2 := hA1.ex q2
        show tSeq _ _ _ [some (.ref a), some (nV m), o2, some (nV d), o4] H2
        refine q_setL (j := 2) (v := .int (rest / (m : Int))) hA2.1 (ev_op (ev_ixL (j := 2) (v := .int rest) (ev_var rfl) ev_c (sq_of hA2.1) rfl) (ev_var rfl) (rv_I ⟨by omega, by omega⟩)) (ev_var rfl) ev_c (by show (2 : Nat) < 5; decide) fun H3 q3 => ?_
        refine s_ret (v := nV d) (ev_var rfl) fun H4 q4 => k d H4 hd (((kx.trans (.of_ex ((q1.trans q2).trans q3))).trans .put).trans (.of_ex q4)) ⟨_, _, _, _, _, (hA2.put (at2 := at_) (rest2 := rest / (m : Int)) (st2 := st) (cnt2 := cnt) q3).ex q4⟩
      · have hA1 := hA.ex q1
        refine q_setL (j := 4) (v := .int (cnt + 1)) hA1.1 (ev_op (ev_ixL (j := 4) (v := .int cnt) (ev_var rfl) ev_c (sq_of hA1.1) rfl) ev_c rv_I0) (ev_var rfl) ev_c (by show (4 : Nat) < 5; decide) fun H2 q2 => ?_
        have hA2 := hA1.put (at2 := at_) (rest2 := rest) (st2 := st) (cnt2 := cnt + 1) q2
        have k2 : KX a H (upd H2 a (.lst [.ref c, nV at_, .int rest, .int st, .int (cnt + 1)])) := (kx.trans (.of_ex (q1.trans q2))).trans .put
        show tSeq _ _ _ [some (.ref a), some (nV m), o2, o3, o4] (upd H2 a (.lst [.ref c, nV at_, .int rest, .int st, .int (cnt + 1)]))
        generalize upd H2 a (.lst [.ref c, nV at_, .int rest, .int st, .int (cnt + 1)]) = G2 at hA2 k2
        obtain ⟨n1, hn1, he1⟩ := mod_nat ((st + 7919 * (cnt + 1)) * 48271) (m := 2147483647) (by decide)
        refine q_asg (v := nV n1) (ev_is (ev_op (ev_int1 (ev_op (ev_int1 (ev_op (ev_ixL (j := 3) (v := .int st) (ev_var rfl) ev_c (sq_of hA2.1) rfl) (ev_op ev_c (ev_ixL (j := 4) (v := .int (cnt + 1)) (ev_var rfl) ev_c (sq_of hA2.1) rfl) (rv_I (.inl ⟨by decide, by decide⟩))) rv_I0)) ev_c (rv_I (.inr ⟨by decide, by decide⟩)))) ev_c (rv_I (by decide))) (congrArg V.int he1)) fun H3 q3 => ?_
        show tSeq _ _ _ [some (.ref a), some (nV m), o2, o3, some (nV n1)] H3
        obtain ⟨n2, hn2, he2⟩ := mod_nat ((n1 : Int) * ((n1 : Int) / 1009 + 69621)) (m := 2147483647) (by decide)
        refine q_asg (v := nV n2) (ev_is (ev_op (ev_int1 (ev_op (ev_var rfl) (ev_op (ev_op (ev_var rfl) ev_c (rv_I ⟨by decide, by decide⟩)) ev_c rv_I0) (rv_I (.inl ⟨by omega, by omega⟩)))) ev_c (rv_I (by decide))) (congrArg V.int he2)) fun H4 q4 => ?_
        show tSeq _ _ _ [some (.ref a), some (nV m), o2, o3, some (nV n2)] H4
        obtain ⟨n3, hn3, he3⟩ := mod_nat ((n2 : Int) * ((n2 : Int) / 2003 + 40692)) (m := 2147483399) (by decide)
        refine q_asg (v := nV n3) (ev_is (ev_op (ev_int1 (ev_op (ev_var rfl) (ev_op (ev_op (ev_var rfl) ev_c (rv_I ⟨by decide, by decide⟩)) ev_c rv_I0) (rv_I (.inl ⟨by omega, by omega⟩)))) ev_c (rv_I (by decide))) (congrArg V.int he3)) fun H5 q5 => ?_
        show tRet _ _ [some (.ref a), some (nV m), o2, o3, some (nV n3)] H5
        obtain ⟨d, hd, hde⟩ := mod_nat ((n3 : Int) / 16) hm
        have q35 := (q3.trans q4).trans q5
        refine s_ret (v := nV d) (ev_is (ev_op (ev_int1 (ev_op (ev_var rfl) ev_c (rv_I ⟨by decide, by decide⟩))) (ev_var rfl) (rv_I (by show (0 : Int) < (m : Int); omega))) (congrArg V.int hde)) fun H6 q6 => k d H6 hd (k2.trans (.of_ex (q35.trans q6))) ⟨_, _, _, _, _, hA2.ex (q35.trans q6)⟩
end
end Bz

set_option maxHeartbeats 2000000
namespace Bz
open PySem PySem.Spec PyProof.Rows L2 Evl
theorem room65 {k : Nat} {A : Around} (r : Room k A) : A.units + 65 < cLine := by have := r.un; omega
/-! ### _law_hand -/
def spHand (K : PySem.W.Frag) : Sp := fun vs H Q _ => ∃ (s : Addr) (ns : List Int), vs = [.ref s] ∧ SqL K H s (ns.map V.int) ∧ ns.length ≤ 1000 ∧ ∀ (a c : Addr) (H' : Hp), H a = none → H c = none → Ex H H' → HandOk K H' a c → Q (.ref a) H'
abbrev nmHand : List Str := ["_law_script", "_law_cells", "_law_cell"]
theorem scHand : FnScope nmHand ["_law_script"] (defScope sHand) := ⟨rfl, rfl, rfl, by decide +kernel, rfl, by decide +kernel, by decide +kernel⟩
theorem cut_ints (ns : List Int) (lo hi : Option Int) : ∃ ms : List Int, cutV (ns.map V.int) lo hi = ms.map V.int := ⟨_, by
  unfold cutV
  rw [← List.map_drop, ← List.map_take]⟩
theorem el_slN {K : PySem.W.Frag} {σ : L2.St} {H : Hp} {te : TE} {tl th : TO} {a : Addr} {xs : List V} {lo hi : Option Int} (h : Ev te σ H (.ref a)) (h1 : EvO tl σ H lo) (h2 : EvO th σ H hi) (hs : SqL K H a xs) : EvL (tSl (rSlL K) te tl th) σ H (cutV xs lo hi) := el_sl h h1 h2 hs
/-- one of a list -/
def spSome (K : PySem.W.Frag) : Sp := fun vs H Q _ => ∃ (a c l : Addr) (xs : List V), vs = [.ref a, .ref l] ∧ HandOk K H a c ∧ SqL K H l xs ∧ l ≠ a ∧ 0 < xs.length ∧ xs.length < 1000 ∧ ∀ (v : V) (H' : Hp), v ∈ xs → KX a H H' → HandOk K H' a c → Q v H'
abbrev nmSome : List Str := ["_law_hand_here", "_law_things"]
theorem scSome : FnScope nmSome nmSome (defScope sSome) := ⟨rfl, rfl, rfl, by decide +kernel, rfl, by decide +kernel, by decide +kernel⟩
theorem d_draw {K : PySem.W.Frag} {σ : L2.St} {H : Hp} {E : XK} {ta : TA} {a c : Addr} {m : Nat} {Q : VK} (hA : EvA ta σ H [.ref a, nV m]) (hh : HandOk K H a c) (hm : 0 < m) (hm2 : m < 1000) (k : ∀ (d : Nat) (H' : Hp), d < m → KX a H H' → HandOk K H' a c → Q (nV d) H') : tCall (spDraw K) [] E ta σ H Q :=
  hA H (Ex.refl _) _ fun H1 e1 => ⟨a, c, m, rfl, hh.ex e1, hm, hm2, fun d H' hd kx ho => k d H' hd ((KX.of_ex e1).trans kx) ho⟩
/-- the law's web: people and ties -/
def WpAt (K : PySem.W.Frag) (H : Hp) (v : V) (p : Nat) (es : Rd) : Prop := ∃ b y, v = .ref b ∧ SqT K H b [nV p, y] ∧ RdAt K H y es
theorem WpAt.keep {K : PySem.W.Frag} {H H' : Hp} {v : V} {p : Nat} {es : Rd} (k : TK K H H') (h : WpAt K H v p es) : WpAt K H' v p es := let ⟨b, y, e, q, z⟩ := h; ⟨b, y, e, k _ _ q, z.keep k⟩
def nearL (es : Rd) (i j : Nat) : Bool := decide ((min i j, max i j) ∈ es)
def spNear (K : PySem.W.Frag) : Sp := fun vs H Q _ => ∃ (v : V) (p : Nat) (es : Rd) (i j : Nat), vs = [v, nV i, nV j] ∧ WpAt K H v p es ∧ RetV (.bl (nearL es i j)) H Q
abbrev nmNear : List Str := ["_law_web_here", "_law_one", "_law_other"]
theorem scNear : FnScope nmNear nmNear (defScope sNear) := ⟨rfl, rfl, rfl, by decide +kernel, rfl, by decide +kernel, by decide +kernel⟩
section
variable {K : PySem.W.Frag} {σ : L2.St} {H : Hp} {ta tb te : TE} {x v : V}
theorem ev_max {i j : Nat} (ha : Ev ta σ H (nV i)) (hb : Ev tb σ H (nV j)) : Ev (tCB (fun xs H Q => ∃ i j, xs = [.int i, .int j] ∧ Q (.int (if j > i then j else i)) H) (tCons ta (tCons tb tNil))) σ H (nV (max i j)) :=
  ev_cb (ea_cons ha (ea_cons hb ea_nil)) fun H1 e Q q => ⟨i, j, rfl, by
    have : (if (j : Int) > (i : Int) then (j : Int) else (i : Int)) = ((max i j : Nat) : Int) := by split <;> omega
    rw [this]
    exact q H1 (Ex.refl _)⟩
theorem ev_min {i j : Nat} (ha : Ev ta σ H (nV i)) (hb : Ev tb σ H (nV j)) : Ev (tCB (fun xs H Q => ∃ i j, xs = [.int i, .int j] ∧ Q (.int (if j < i then j else i)) H) (tCons ta (tCons tb tNil))) σ H (nV (min i j)) :=
  ev_cb (ea_cons ha (ea_cons hb ea_nil)) fun H1 e Q q => ⟨i, j, rfl, by
    have : (if (j : Int) < (i : Int) then (j : Int) else (i : Int)) = ((min i j : Nat) : Int) := by split <;> omega
    rw [this]
    exact q H1 (Ex.refl _)⟩
theorem any_eqv (es : Rd) (e : Nat × Nat) : ((es.map prE).any fun z => PyData.eqv z (prE e)) = decide (e ∈ es) := by
  rw [List.any_map]
  induction es with
  | nil => rfl
  | cons f es ih =>
    rw [List.any_cons, ih]
    show (PyData.eqv (prE f) (prE e) || _) = _
    rw [prE_eqv]
    by_cases h : f = e
    · subst h; simp
    · have : ¬ e = f := fun q => h q.symm
      simp [h, this]
/-- a pair in the ties -/
theorem ev_inRd {es : Rd} {e : Nat × Nat} (ha : EvP ta σ H (fun v H' => PrAt K H' v e)) (hb : ∀ H1, Ex H H1 → Ev tb σ H1 x) (hx : RdAt K H x es) : Ev (tOp (rInT K) ta tb) σ H (.bl (decide (e ∈ es))) := fun H1 e1 Q q =>
  ha H1 e1 _ fun v H2 e2 hv => hb H2 (e1.trans e2) H2 (Ex.refl _) _ fun H3 e3 => ⟨prE e, es.map prE, (hv.keep (.of_ex e3)).dp, (hx.keep (.of_ex ((e1.trans e2).trans e3))).dp, prE_shaped e, rdD_shaped es, by
    rw [any_eqv]
    exact q H3 (e2.trans e3)⟩
end
section
variable {P : Program} {w : World} {K : PySem.W.Frag} {mg : Str → Option Value} {base : Heap} {CW CB CN : Addr}
theorem ok_hand {f : Addr} {fd : FuncData} (F : FnP K "_law_hand" sHand f fd) (T : Txt K mg CW CB CN) : FnOk P w K mg base CX0 1 f fd ["_law_script"] (spHand K) := by
  refine F.ok scHand (fun vs H Q E h => ?_) (fun cdv A outer s H vs Q E hr h => ?_)
  · obtain ⟨a, ns, rfl, _⟩ := h
    rfl
  · obtain ⟨a, ns, rfl, hx, hz, k⟩ := h
    refine ⟨_, PSs.nox (pss_cons (ps_setLc (i := 1) (own := [("_law_cell", 2)]) (g := gName 2) (tt := tYes) rfl scHand.nd rfl rfl (sw_true rfl rfl rfl (by decide +kernel)) (pi_list (pe_slice sl_list (pv 0) po_none (po_some pe_int)))
        (blkOk_by (N := nmHand) (sc := defScope sHand) (by decide +kernel)) (fun _ _ _ _ _ => pg_name (i := 2) scHand.nd rfl (Or.inl rfl)) (fun _ _ _ _ _ => pts_nil)
        (fun _ _ _ _ _ => pe_callB call_abs rfl T.abs (by decide +kernel) (pa_cons (pe_callTy call_int1 rfl T.int (by decide +kernel) (pa_cons (pv 2) pa_nil)) pa_nil)))
      (pss_one (ps_ret (pe_lst (pa_cons (pv 1) (pa_cons pe_int (pa_cons pe_int (pa_cons (pe_op op_add pe_int (pe_callB call_len rfl T.len (by decide +kernel) (pa_cons (pv 1) pa_nil))) (pa_cons pe_int pa_nil))))))))), ?_⟩
    obtain ⟨ms, hms⟩ := cut_ints ns none (some 63)
    have hl := cutV_length (ns.map V.int) none (some 63)
    rw [hms, List.length_map, List.length_map] at hl
    refine q_asgL (xs := (ms.map fun i => if i < 0 then -i else i).map V.int) (fun H1 q1 => el_is ?_ (el_lcN (fun _ => true) (fun i => .int (if ms.getD i 0 < 0 then -ms.getD i 0 else ms.getD i 0)) (wi_listN (el_slN (ev_var rfl) eo_none (eo_some ev_c) hx)) (by rw [hms, List.length_map]; omega) (fun _ => rfl) fun i y H2 q2 hi hY => ⟨et_yes, fun _ => ?_⟩) H1 q1) fun c H1 hc q1 hc1 => ?_
    · rw [given_all, hms, List.length_map, map_getD ms 0 (fun i => V.int (if i < 0 then -i else i)), List.map_map]
      rfl
    · rw [hms] at hY hi
      rw [List.length_map] at hi
      rw [List.getElem?_map, at_getD 0 hi] at hY
      have hY : V.int (ms.getD i 0) = y := by injection hY
      subst hY
      exact ev_abs (ev_int1 (ev_var rfl))
    · refine s_retL (xs := [.ref c, nV 0, .int 0, .int (1 + ((ms.map fun i => if i < 0 then -i else i).map V.int).length), .int 0]) (el_lst (ea_cons (ev_var rfl) (ea_cons ev_c (ea_cons ev_c (ea_cons (ev_op ev_c (ev_lenL (ev_var rfl) (sq_of hc1)) rv_I0) (ea_cons ev_c ea_nil))))) (by show (5 : Nat) ≤ 100000; decide)) fun a H2 ha q2 ha2 => ?_
      refine k a c H2 (fresh_back q1 ha) hc (q1.trans q2) ⟨ms.map fun i => if i < 0 then -i else i, 0, 0, _, 0, ha2, q2 _ _ hc1, fun q => ?_⟩
      rw [q, ha] at hc1
      cases hc1
theorem ok_some {f fD : Addr} {fd fdD : FuncData} (F : FnP K "_law_some" sSome f fd) (T : Txt K mg CW CB CN) (FD : FnP K "_law_draw" sDraw fD fdD) (gD : mg "_law_draw" = some (.ref fD)) (GD : FnOk P w K mg base CX0 1 fD fdD ["_law_hand_here", "_law_many"] (spDraw K)) :
    FnOk P w K mg base CX0 2 f fd nmSome (spSome K) := by
  have bD : Binds K fdD ["_law_hand_here", "_law_many"] [] := FD.bindsN fun _ _ _ _ _ _ us hl => match us, hl with | [_, _], _ => rfl
  refine F.ok scSome (fun vs H Q E h => ?_) (fun cdv A outer s H vs Q E hr h => ?_)
  · obtain ⟨a, c, l, xs, rfl, _⟩ := h
    rfl
  · obtain ⟨a, c, l, xs, rfl, hh, hx, hla, h0, hz, k⟩ := h
    refine ⟨_, PSs.nox (pss_one (ps_ret (pe_ix ix_list (pv 1) (pe_call GD hr rfl gD FD.kp bD .nil pass0 (pa_cons (pv 0) (pa_cons (pe_callB call_len rfl T.len (by decide +kernel) (pa_cons (pv 1) pa_nil)) pa_nil))) (fun _ _ => rfl)))), ?_⟩
    refine ⟨_, rfl, d_draw (m := xs.length) (ea_cons (ev_var rfl) (ea_cons (ev_lenL (ev_var rfl) hx) ea_nil)) hh h0 hz fun d H' hd kx ho => ?_⟩
    exact ⟨l, xs, _, xs[d], rfl, rfl, sqL_kx kx hla hx, atI_nat (List.getElem?_eq_getElem hd), k _ _ (List.getElem_mem hd) kx ho⟩
theorem ok_near {f : Addr} {fd : FuncData} (F : FnP K "_law_near" sNear f fd) (T : Txt K mg CW CB CN) : FnOk P w K mg base CX0 1 f fd nmNear (spNear K) := by
  refine F.ok scNear (fun vs H Q E h => ?_) (fun cdv A outer s H vs Q E hr h => ?_)
  · obtain ⟨v, p, es, i, j, rfl, _⟩ := h
    rfl
  · obtain ⟨v, p, es, i, j, rfl, hw, k⟩ := h
    refine ⟨_, PSs.nox (pss_one (ps_ret (pe_cmpR (op_inT (room65 hr)) (pe_tup (pa_cons (pe_callB (call_min2 rfl) rfl T.min (by decide +kernel) (pa_cons (pv 1) (pa_cons (pv 2) pa_nil))) (pa_cons (pe_callB (call_max2 rfl) rfl T.max (by decide +kernel) (pa_cons (pv 1) (pa_cons (pv 2) pa_nil))) pa_nil)))
      (pe_ix ix_tup (pv 0) pe_int (fun _ _ => rfl)) (by rfl)))), ?_⟩
    obtain ⟨b, y, rfl, hb, hy⟩ := hw
    exact s_ret (ev_inRd (x := y) (evp_pr (ev_min (ev_var rfl) (ev_var rfl)) (ev_max (ev_var rfl) (ev_var rfl))) (fun H1 e => ev_ixT (j := 1) (ev_var rfl) ev_c (ex_t e hb) rfl) hy) k
theorem sv_near {H : Hp} {v : V} {p i j : Nat} {es : Rd} (h : WpAt K H v p es) : SpV (spNear K) [v, nV i, nV j] H (.bl (nearL es i j)) := fun H1 e Q q E => ⟨v, p, es, i, j, rfl, h.keep (.of_ex e), q⟩
end
end Bz

set_option maxHeartbeats 2000000
namespace Bz
open PySem PySem.Spec PyProof.Rows L2 Evl
/-! ### _law_is -/
/-- the same data at both, of depth n -/
def IsR (K : PySem.W.Frag) (H : Hp) : Nat → V → V → Prop
  | 0, v, w => ∃ i : Int, v = .int i ∧ w = .int i
  | n + 1, v, w => ∃ (a b : Addr) (xs ys : List V), v = .ref a ∧ w = .ref b ∧ ((H a = some (.lst xs) ∧ H b = some (.lst ys)) ∨ (SqT K H a xs ∧ SqT K H b ys)) ∧ xs.length ≤ 40000 ∧ Al2 (IsR K H n) xs ys
theorem IsR.mono {K : PySem.W.Frag} {H H' : Hp} (e : Ex H H') : ∀ (n : Nat) (v w : V), IsR K H n v w → IsR K H' n v w
  | 0, _, _, h => h
  | n + 1, _, _, ⟨a, b, xs, ys, h1, h2, h3, h4, h5⟩ => ⟨a, b, xs, ys, h1, h2, h3.imp (fun q => ⟨e _ _ q.1, e _ _ q.2⟩) (fun q => ⟨ex_t e q.1, ex_t e q.2⟩), h4, h5.imp fun v w k => IsR.mono e n v w k⟩
def spIs (K : PySem.W.Frag) (n : Nat) : Sp := fun vs H Q _ => ∃ v w, vs = [v, w] ∧ IsR K H n v w ∧ RetV (.bl true) H Q
def spIsP (K : PySem.W.Frag) : Nat → Sp
  | 0 => fun _ _ _ _ => False
  | n + 1 => spIs K n
abbrev nmIs : List Str := ["_law_told_here", "_law_due", "_law_one", "_law_two"]
theorem scIs : FnScope nmIs ["_law_told_here", "_law_due"] (defScope sIs) := ⟨rfl, rfl, rfl, by decide +kernel, rfl, by decide +kernel, by decide +kernel⟩
section
variable {K : PySem.W.Frag} {σ : L2.St} {H : Hp} {ta tb tt te : TE} {x v : V}
theorem ev_isiG {c : V} {t u : Value} {b : Bool} (ha : Ev ta σ H v) (hb : Ev tb σ H c) (hc : ClsV c u) (h : ∀ H1, Ex H H1 → TyX K H1 v t) (k : PySem.W.kitOne K t u = some b) : Ev (tCB (rIsi K) (tCons ta (tCons tb tNil))) σ H (.bl b) :=
  ev_cb (ea_cons ha (ea_cons hb ea_nil)) fun H1 e Q q => ⟨v, c, t, u, b, rfl, hc, h H1 e, k, q H1 (Ex.refl _)⟩
theorem ev_isiT {t : Value} {b : Bool} (ha : Ev ta σ H v) (ht : EvU tt σ H [.ty "tuple", .ty "list"]) (h : ∀ H1, Ex H H1 → TyX K H1 v t) (k : PySem.W.kitAny K t [.type "tuple", .type "list"] = some b) : Ev (tCB (rIsiT K) (tCons ta (tCons tt tNil))) σ H (.bl b) := fun H1 e Q q =>
  ha H1 e _ fun H2 e2 => ht H2 (e.trans e2) _ fun p H3 hp e3 h3 => ⟨v, p, _, t, _, b, rfl, h3, .cons (.ty _) (.cons (.ty _) .nil), h H3 ((e.trans e2).trans e3), k, q H3 (e2.trans e3)⟩
theorem kitA {a : String} {b c : Bool} (h1 : kitB a "tuple" = some b) (h2 : kitB a "list" = some c) : PySem.W.kitAny K (.type a) [.type "tuple", .type "list"] = some (b || c) := by
  have k1 := kit_ty (K := K) h1
  have k2 := kit_ty (K := K) h2
  cases b with
  | true => exact kitAny_cons k1 (fun z => Bool.noConfusion z) fun _ => rfl
  | false =>
    refine kitAny_cons k1 (fun _ => ?_) fun z => Bool.noConfusion z
    cases c with
    | true => exact kitAny_cons k2 (fun z => Bool.noConfusion z) fun _ => rfl
    | false => exact kitAny_cons k2 (fun _ => kitAny_nil) fun z => Bool.noConfusion z
/-- zip of two lists or two tuples of one length -/
theorem wi_zip {tt : TA} {a b : Addr} {xs ys : List V} (h : EvA tt σ H [.ref a, .ref b]) (hx : (H a = some (.lst xs) ∧ H b = some (.lst ys)) ∨ (SqT K H a xs ∧ SqT K H b ys)) (hl : xs.length = ys.length) :
    WI (RZ.iZipA K tt) σ H xs.length (fun i v H' => ∃ T x y, v = .ref T ∧ SqT K H' T [x, y] ∧ xs[i]? = some x ∧ ys[i]? = some y) := fun H1 e R k =>
  h H1 e _ fun H2 e2 => by
    rcases hx with ⟨ha, hb⟩ | ⟨ha, hb⟩
    · refine ⟨a, b, xs, ys, rfl, .inl ⟨sq_of ((e.trans e2) _ _ ha), sq_of ((e.trans e2) _ _ hb), k _ H2 e2 fun H3 e3 => ⟨fun i hi => ?_, ?_, fun i v H4 hi y => ?_⟩⟩⟩
      · exact ⟨xs, ys, xs[i], ys[i], sq_of (((e.trans e2).trans e3) _ _ ha), sq_of (((e.trans e2).trans e3) _ _ hb), List.getElem?_eq_getElem hi, List.getElem?_eq_getElem (by omega)⟩
      · exact ⟨xs, ys, sq_of (((e.trans e2).trans e3) _ _ ha), sq_of (((e.trans e2).trans e3) _ _ hb), .inl (Nat.le_refl _)⟩
      · obtain ⟨T, x, y, rfl, hT, rfl, h1, h2⟩ := y
        exact ⟨Ex.new hT, T, x, y, rfl, st_of upd_same, h1 xs (sq_of (((e.trans e2).trans e3) _ _ ha)), h2 ys (sq_of (((e.trans e2).trans e3) _ _ hb))⟩
    · refine ⟨a, b, xs, ys, rfl, .inr ⟨ex_t (e.trans e2) ha, ex_t (e.trans e2) hb, k _ H2 e2 fun H3 e3 => ⟨fun i hi => ?_, ?_, fun i v H4 hi y => ?_⟩⟩⟩
      · exact ⟨xs, ys, xs[i], ys[i], ex_t ((e.trans e2).trans e3) ha, ex_t ((e.trans e2).trans e3) hb, List.getElem?_eq_getElem hi, List.getElem?_eq_getElem (by omega)⟩
      · exact ⟨xs, ys, ex_t ((e.trans e2).trans e3) ha, ex_t ((e.trans e2).trans e3) hb, .inl (Nat.le_refl _)⟩
      · obtain ⟨T, x, y, rfl, hT, rfl, h1, h2⟩ := y
        exact ⟨Ex.new hT, T, x, y, rfl, st_of upd_same, h1 xs (ex_t ((e.trans e2).trans e3) ha), h2 ys (ex_t ((e.trans e2).trans e3) hb)⟩
end
theorem Al2.get2 {α β : Type} {P : α → β → Prop} {as : List α} {bs : List β} {i : Nat} {a : α} {b : β} (h : Al2 P as bs) (ha : as[i]? = some a) (hb : bs[i]? = some b) : P a b := by
  obtain ⟨c, h1, h2⟩ := h.get ha
  rw [h1] at hb
  injection hb with hb
  exact hb ▸ h2
section
variable {P : Program} {w : World} {K : PySem.W.Frag} {mg : Str → Option Value} {base : Heap} {CW CB CN : Addr}
theorem ok_is1 {f : Addr} {fd : FuncData} (n : Nat) (F : FnP K "_law_is" sIs f fd) (T : Txt K mg CW CB CN) (gI : mg "_law_is" = some (.ref f)) (GI : FnOk P w K mg base CX0 n f fd ["_law_told_here", "_law_due"] (spIsP K n)) :
    FnOk P w K mg base CX0 (n + 1) f fd ["_law_told_here", "_law_due"] (spIs K n) := by
  have bI : Binds K fd ["_law_told_here", "_law_due"] [] := F.bindsN fun _ _ _ _ _ _ us hl => match us, hl with | [_, _], _ => rfl
  refine F.ok scIs (fun vs H Q E h => ?_) (fun cdv A outer s H vs Q E hr h => ?_)
  · obtain ⟨v, w, rfl, _⟩ := h
    rfl
  · obtain ⟨v, w, rfl, hi, k⟩ := h
    refine ⟨_, PSs.nox (pss_cons (ps_if (pt_val (pe_callB call_isiT rfl T.isinstance (by decide +kernel) (pa_cons (pv 1) (pa_cons (pe_tup (pa_cons (pe_bltn (v := .ty "tuple") rfl T.tuple (by decide +kernel) rfl) (pa_cons (pe_bltn (v := .ty "list") rfl T.list (by decide +kernel) rfl) pa_nil))) pa_nil))))
        (pss_cons (ps_if (PW.pt (pw_or (pt_cmpR op_ne (pe_callB call_isi rfl T.isinstance (by decide +kernel) (pa_cons (pv 0) (pa_cons (pe_bltn (v := .ty "tuple") rfl T.tuple (by decide +kernel) rfl) pa_nil))) (pe_callB call_isi rfl T.isinstance (by decide +kernel) (pa_cons (pv 1) (pa_cons (pe_bltn (v := .ty "tuple") rfl T.tuple (by decide +kernel) rfl) pa_nil))) (nomark _))
            (pw_or1 (pt_not (pt_val (pe_callB call_isiT rfl T.isinstance (by decide +kernel) (pa_cons (pv 0) (pa_cons (pe_tup (pa_cons (pe_bltn (v := .ty "tuple") rfl T.tuple (by decide +kernel) rfl) (pa_cons (pe_bltn (v := .ty "list") rfl T.list (by decide +kernel) rfl) pa_nil))) pa_nil))))))))
          (pss_one (ps_ret pe_bl)) pss_nil)
        (pss_one (ps_ret (pe_and (pe_cmpR op_eq (pe_callB call_len rfl T.len (by decide +kernel) (pa_cons (pv 0) pa_nil)) (pe_callB call_len rfl T.len (by decide +kernel) (pa_cons (pv 1) pa_nil)) (nomark _))
          (pe_one (pe_callB (cr_all rfl) rfl T.all (by decide +kernel) (pa_cons
            (pe_lc (own := [("_law_one", 2), ("_law_two", 3)]) (g := gTup K 2 (gCons (gName 2) (gCons (gName 3) gNil))) (tt := tYes) rfl scIs.nd (RZ.pi_zipA rfl T.zip (pa_cons (pv 0) (pa_cons (pv 1) pa_nil))) (blkOk_by (N := nmIs) (sc := defScope sIs) (by decide +kernel))
              (fun _ _ _ _ _ => pg_tup rfl (pgs_cons (pg_name (i := 2) scIs.nd rfl (Or.inl rfl)) (pgs_cons (pg_name (i := 3) scIs.nd rfl (Or.inl rfl)) pgs_nil))) (fun _ _ _ _ _ => pts_nil)
              (fun _ _ _ _ _ => pe_call GI hr rfl gI F.kp bI .nil pass0 (pa_cons (pv 2) (pa_cons (pv 3) pa_nil)))) pa_nil))))))) pss_nil)
      (pss_one (ps_ret (pe_and (pe_cmpR op_eq (pe_callB call_isi rfl T.isinstance (by decide +kernel) (pa_cons (pv 0) (pa_cons (pe_bltn (v := .ty "bool") rfl T.bool (by decide +kernel) rfl) pa_nil))) (pe_callB call_isi rfl T.isinstance (by decide +kernel) (pa_cons (pv 1) (pa_cons (pe_bltn (v := .ty "bool") rfl T.bool (by decide +kernel) rfl) pa_nil))) (nomark _))
        (pe_one (pe_cmpR op_eq (pv 0) (pv 1) (nomark _))))))), ?_⟩
    have et : ∀ (σ : L2.St) (H : Hp), EvU (tTup (tCons (tC (.ty "tuple")) (tCons (tC (.ty "list")) tNil))) σ H [.ty "tuple", .ty "list"] := fun σ H => eu_tup (ea_cons ev_c (ea_cons ev_c ea_nil)) (by show (2 : Nat) ≤ 100000; decide)
    cases n with
    | zero =>
      obtain ⟨i, rfl, rfl⟩ := hi
      refine q_when (b := false) (et_B (ev_isiT (t := .type "int") (ev_var rfl) (et _ _) (fun H1 e => .base (.int i)) (kitA (b := false) (c := false) (by decide +kernel) (by decide +kernel)))) (fun z => Bool.noConfusion z) fun _ H1 q1 => ?_
      refine s_ret (ev_is (ev_andV (a := true) (b := true) (ev_is (ev_op (ev_isiG (b := false) (ev_var rfl) ev_c (.ty _) (fun H1 e => .base (.int i)) (kit_ty (by decide +kernel))) (ev_isiG (b := false) (ev_var rfl) ev_c (.ty _) (fun H1 e => .base (.int i)) (kit_ty (by decide +kernel))) (rv_eq rfl)) rfl) fun _ => ev_is (ev_op (x := .int i) (y := .int i) (ev_var rfl) (ev_var rfl) (rv_eq rfl)) (by rw [decide_eq_true rfl])) rfl) fun H2 q2 => k.go (q1.trans q2)
    | succ n =>
      obtain ⟨a, b, xs, ys, rfl, rfl, hx, hz, hal⟩ := hi
      have hlen := hal.length
      have hty : ∃ T' : String, ∃ bt : Bool, (∀ H1, Ex H H1 → TyX K H1 (.ref a) (.type T') ∧ TyX K H1 (.ref b) (.type T')) ∧ kitB T' "tuple" = some bt ∧ (∃ c, kitB T' "list" = some c ∧ (bt || c) = true) := by
        rcases hx with ⟨ha, hb⟩ | ⟨ha, hb⟩
        · exact ⟨"list", false, fun H1 e => ⟨.base (.lst (e _ _ ha)), .base (.lst (e _ _ hb))⟩, by decide +kernel, true, by decide +kernel, rfl⟩
        · exact ⟨"tuple", true, fun H1 e => ⟨sqT_ty (ex_t e ha), sqT_ty (ex_t e hb)⟩, by decide +kernel, false, by decide +kernel, rfl⟩
      obtain ⟨T', bt, hT, kt, c, kc, hbc⟩ := hty
      have kany := kitA (K := K) kt kc
      rw [hbc] at kany
      refine q_when (b := true) (et_B (ev_isiT (t := .type T') (ev_var rfl) (et _ _) (fun H1 e => (hT H1 e).2) kany)) (fun _ H1 q1 => ?_) fun z => Bool.noConfusion z
      refine q_when (b := false) (et_is (et_or (a := false) (b := false) (et_test (ev_is (ev_op (ev_isiG (t := .type T') (b := bt) (ev_var rfl) ev_c (.ty _) (fun H2 e => (hT H2 (q1.trans e)).1) (kit_ty kt)) (ev_isiG (t := .type T') (b := bt) (ev_var rfl) ev_c (.ty _) (fun H2 e => (hT H2 (q1.trans e)).2) (kit_ty kt)) (rv_ne rfl)) (by rw [decide_eq_true rfl]; rfl)))
        fun _ => et_not (et_B (ev_isiT (t := .type T') (ev_var rfl) (et _ _) (fun H2 e => (hT H2 (q1.trans e)).1) kany))) rfl) (fun z => Bool.noConfusion z) fun _ H2 q2 => ?_
      have q12 := q1.trans q2
      have lenE : ∀ H3, Ex H H3 → Ev (tCB (rLen K) (tCons (tVar 0) tNil)) (start nmIs [V.ref a, .ref b]) H3 (.int (xs.length : Int)) ∧ Ev (tCB (rLen K) (tCons (tVar 1) tNil)) (start nmIs [V.ref a, .ref b]) H3 (.int (ys.length : Int)) := fun H3 e => by
        rcases hx with ⟨ha, hb⟩ | ⟨ha, hb⟩
        · exact ⟨ev_lenL (ev_var rfl) (sq_of (e _ _ ha)), ev_lenL (ev_var rfl) (sq_of (e _ _ hb))⟩
        · exact ⟨ev_lenT (ev_var rfl) (ex_t e ha), ev_lenT (ev_var rfl) (ex_t e hb)⟩
      refine s_ret (ev_is (ev_andV (a := true) (b := true) (ev_is (ev_op (lenE H2 q12).1 (lenE H2 q12).2 (rv_eq rfl)) (by rw [hlen, decide_eq_true rfl])) fun _ => ev_is (ev_all (bs := (List.range xs.length).map fun _ => true) ?_) (by
        congr 1
        rw [List.all_map]
        exact List.all_eq_true.mpr fun _ _ => rfl)) rfl) fun H3 q3 => k.go (q12.trans q3)
      refine fun H3 q3 => el_is ?_ (el_lc (fun _ => true) (fun _ => .bl true) (wi_zip (xs := xs) (ys := ys) (ea_cons (ev_var rfl) (ea_cons (ev_var rfl) ea_nil)) (hx.imp (fun h => ⟨q12 _ _ h.1, q12 _ _ h.2⟩) fun h => ⟨ex_t q12 h.1, ex_t q12 h.2⟩) hlen) hz fun i v H4 q4 hi hY => ?_) H3 q3
      · rw [given_all, List.map_map]
        rfl
      · obtain ⟨T2, x, y, rfl, hT2, h1, h2⟩ := hY
        have hxy := IsR.mono (q12.trans q4) n _ _ (hal.get2 h1 h2)
        refine ⟨[some (.ref a), some (.ref b), some x, some y], fun Q q => ⟨T2, _, rfl, hT2, rfl, _, _, rfl, _, _, rfl, rfl, q⟩, rfl, et_yes, fun _ => ?_⟩
        exact ev_call (ea_cons (ev_var rfl) (ea_cons (ev_var rfl) ea_nil)) fun H5 e Q q E => ⟨x, y, rfl, IsR.mono e n _ _ hxy, q⟩
theorem ok_is {f : Addr} {fd : FuncData} (F : FnP K "_law_is" sIs f fd) (T : Txt K mg CW CB CN) (gI : mg "_law_is" = some (.ref f)) : ∀ n, FnOk P w K mg base CX0 (n + 1) f fd ["_law_told_here", "_law_due"] (spIs K n)
  | 0 => ok_is1 0 F T gI ⟨fun _ _ _ _ h => h.elim, fun _ _ _ _ _ _ _ _ _ _ _ _ _ h => h.elim⟩
  | n + 1 => ok_is1 (n + 1) F T gI (ok_is F T gI n)
end
end Bz

set_option maxHeartbeats 2000000
namespace Bz
open PySem PySem.Spec PyProof.Rows L2 Evl
/-! ### _law_deep -/
def spDeep (K : PySem.W.Frag) (CW : Addr) : Sp := fun vs H Q _ => (vs = [nV 1] ∧ ∀ v H' t, Ex H H' → ThR K CW H' v (.tup [.tup [t]]) → Q v H') ∨ (vs = [nV 2] ∧ ∀ v H', Ex H H' → ThR K CW H' v .lst → Q v H')
abbrev nmDeep : List Str := ["_law_kind", "_law_found", "_law_turn"]
theorem scDeep : FnScope nmDeep ["_law_kind"] (defScope sDeep) := ⟨rfl, rfl, rfl, by decide +kernel, rfl, by decide +kernel, by decide +kernel⟩
section
variable {K : PySem.W.Frag} {CW : Addr} {σ : L2.St} {H : Hp} {ta tb tc te : TE} {P1 P2 P3 : V → Hp → Prop}
theorem mo_th {t : Th} : Mo (fun v H => ThR K CW H v t) := fun _ _ _ e h => h.mono e
theorem mo_true : Mo (fun _ _ => True) := fun _ _ _ _ h => h
/-- [a, b, c] -/
theorem evl_three (h1 : EvP ta σ H P1) (h2 : EvP tb σ H P2) (h3 : EvP tc σ H P3) (m1 : Mo P1) (m2 : Mo P2) (m3 : Mo P3) : EvLP (tLst (tCons ta (tCons tb (tCons tc tNil)))) σ H (fun xs H' => ∃ x y z, xs = [x, y, z] ∧ P1 x H' ∧ P2 y H' ∧ P3 z H') := fun H1 e Q q =>
  h1 H1 e _ fun x H2 e2 p1 => h2 H2 (e.trans e2) _ fun y H3 e3 p2 => h3 H3 ((e.trans e2).trans e3) _ fun z H4 e4 p3 => ⟨sz_of (by show (3 : Nat) ≤ 100000; decide), fun p hp =>
    q p _ _ (fresh_back ((e2.trans e3).trans e4) hp) (((e2.trans e3).trans e4).trans (Ex.new hp)) upd_same ⟨x, y, z, rfl, m1 _ _ _ ((e3.trans e4).trans (Ex.new hp)) p1, m2 _ _ _ (e4.trans (Ex.new hp)) p2, m3 _ _ _ (Ex.new hp) p3⟩⟩
/-- the j-th of a new list -/
theorem evp_pick {Pl : List V → Hp → Prop} {P : V → Hp → Prop} {j : Nat} (h : EvLP ta σ H Pl) (hb : ∀ H1, Ex H H1 → Ev tb σ H1 (nV j)) (hp : ∀ xs H', Pl xs H' → ∃ v, xs[j]? = some v ∧ ∀ H2, Ex H' H2 → P v H2) : EvP (tOp (rIxL K) ta tb) σ H P := fun H1 e Q q =>
  h H1 e _ fun p xs H2 hp0 e2 h2 hP => hb H2 (e.trans e2) H2 (Ex.refl _) _ fun H3 e3 => by
    obtain ⟨v, hv, hpv⟩ := hp xs H2 hP
    exact ⟨p, xs, _, v, rfl, rfl, sq_of (e3 _ _ h2), atI_nat hv, q v H3 (e2.trans e3) (hpv H3 e3)⟩
theorem evp_lst1 (h : EvP ta σ H P1) : EvP (tLst (tCons ta tNil)) σ H (fun v H' => ThR K CW H' v .lst) := fun H1 e Q q =>
  h H1 e _ fun x H2 e2 p1 => ⟨sz_of (by show (1 : Nat) ≤ 100000; decide), fun p hp => q _ _ (e2.trans (Ex.new hp)) (.lst upd_same)⟩
/-- (e,) of a thing -/
theorem evp_th1 {t : Th} (h : EvP ta σ H (fun v H' => ThR K CW H' v t)) : EvP (tTup (tCons ta tNil)) σ H (fun v H' => ThR K CW H' v (.tup [t])) :=
  (evp_one h mo_th).imp fun v H' _ ⟨a, x, e, h, hx⟩ => by
    subst e
    exact .tup (st_of h) (.cons hx .nil) (by show (1 : Nat) ≤ 40000; decide)
/-- (e, f) of things -/
theorem evp_th2 {t u : Th} (h : EvP ta σ H (fun v H' => ThR K CW H' v t)) (h2 : EvP tb σ H (fun v H' => ThR K CW H' v u)) : EvP (tTup (tCons ta (tCons tb tNil))) σ H (fun v H' => ThR K CW H' v (.tup [t, u])) :=
  (evp_two h h2 mo_th mo_th).imp fun v H' _ ⟨a, x, y, e, h, hx, hy⟩ => by
    subst e
    exact .tup (st_of h) (.cons hx (.cons hy .nil)) (by show (2 : Nat) ≤ 40000; decide)
/-- what a slot, a constant is -/
theorem evp_thv {x : V} {t : Th} (h : Ev ta σ H x) (ht : ThR K CW H x t) : EvP ta σ H (fun v H' => ThR K CW H' v t) := (Bz.Ev.p h).imp fun v H' e hv => by
  subst hv
  exact ht.mono e
end
section
variable {P : Program} {w : World} {K : PySem.W.Frag} {mg : Str → Option Value} {base : Heap} {CW CB CN : Addr}
theorem ok_deep {f : Addr} {fd : FuncData} (F : FnP K "_law_deep" sDeep f fd) (T : Txt K mg CW CB CN) : FnOk P w K mg base CX0 1 f fd ["_law_kind"] (spDeep K CW) := by
  refine F.ok scDeep (fun vs H Q E h => ?_) (fun cdv A outer s H vs Q E hr h => ?_)
  · rcases h with ⟨rfl, _⟩ | ⟨rfl, _⟩ <;> rfl
  · refine ⟨_, PSs.nox (pss_cons (ps_asg (pe_tup pa_nil) (pg_name (i := 1) scDeep.nd rfl (.inl rfl)))
      (pss_cons (ps_for PassesOwn.never rfl (pi_range1 rfl T.range (pa_cons pe_int pa_nil)) (pg_name (i := 2) scDeep.nd rfl (.inl rfl))
        (pss_one (ps_asg (pe_ix ix_list (pe_lst (pa_cons (pe_tup (pa_cons pe_str (pa_cons (pe_tup (pa_cons (pv 1) pa_nil)) pa_nil))) (pa_cons (pe_tup (pa_cons (pe_tup (pa_cons (pv 1) pa_nil)) pa_nil)) (pa_cons (pe_lst (pa_cons (pe_lst (pa_cons (pv 1) pa_nil)) pa_nil)) pa_nil)))) (pv 0) (fun _ _ => rfl)) (pg_name (i := 1) scDeep.nd rfl (.inl rfl)))))
      (pss_one (ps_ret (pv 1))))), ?_⟩
    have hk : ∃ k : Nat, vs = [nV k] ∧ k < 3 ∧ ∀ v H' t, Ex H H' → ThR K CW H' v t → ((k = 1 ∧ ∃ u, t = .tup [.tup [u]]) ∨ (k = 2 ∧ t = .lst)) → Q v H' := by
      rcases h with ⟨rfl, k⟩ | ⟨rfl, k⟩
      · refine ⟨1, rfl, by decide, fun v H' t e ht h => ?_⟩
        rcases h with ⟨_, u, rfl⟩ | ⟨h, _⟩
        · exact k v H' u e ht
        · cases h
      · refine ⟨2, rfl, by decide, fun v H' t e ht h => ?_⟩
        rcases h with ⟨h, _⟩ | ⟨_, rfl⟩
        · cases h
        · exact k v H' e ht
    have hk12 : ∃ k : Nat, vs = [nV k] ∧ (k = 1 ∨ k = 2) := by
      rcases h with ⟨rfl, _⟩ | ⟨rfl, _⟩
      · exact ⟨1, rfl, .inl rfl⟩
      · exact ⟨2, rfl, .inr rfl⟩
    obtain ⟨k, hv, hk3, kk⟩ := hk
    obtain ⟨k', hv', hk12⟩ := hk12
    subst hv
    have : k' = k := by
      injection hv' with h1
      injection h1 with h1
      omega
    subst this
    refine q_asgP (P := fun v H' => ThR K CW H' v (.tup [])) (evp_nil.imp fun v H' _ ⟨a, e, h⟩ => by subst e; exact .tup (st_of h) .nil (by show (0 : Nat) ≤ 40000; decide)) fun v H1 q1 hv => ?_
    let Pv : Nat → L2.St → Hp → Prop := fun i σ' H' => ∃ v t o2, σ' = [some (nV k'), some v, o2] ∧ Ex H H' ∧ ThR K CW H' v t ∧ (0 < i → ((k' = 1 ∧ ∃ u, t = .tup [.tup [u]]) ∨ (k' = 2 ∧ t = .lst)))
    refine q_forR1 (n := 18) (ea_cons ev_c ea_nil) ⟨by decide, by decide⟩ Pv (fun H2 q2 => ⟨v, _, _, rfl, q1.trans q2, hv.mono q2, fun z => absurd z (by decide)⟩) (fun i σ' H' hi pv => ?_) fun σ' H' pv => ?_
    · obtain ⟨v, t, o2, rfl, qe, ht, _⟩ := pv
      have ev1 : Ev (tVar 1) ([some (nV k'), some v, o2].set 2 (some (.int (i : Int)))) H' v := ev_var rfl
      have evT := evp_thv ev1 ht
      refine s_asgP (P := fun v' H2 => ∃ t', ThR K CW H2 v' t' ∧ ((k' = 1 ∧ ∃ u, t' = .tup [.tup [u]]) ∨ (k' = 2 ∧ t' = .lst))) (evp_pick (j := k') (evl_three (P1 := fun _ _ => True) ((evp_two (Bz.Ev.p ev_c) (evp_th1 evT) mo_eq mo_th).imp fun _ _ _ _ => trivial) (evp_th1 (evp_th1 evT)) (evp_lst1 (K := K) (CW := CW) (evp_lst1 (K := K) (CW := CW) evT)) mo_true mo_th mo_th) (fun _ _ => ev_var rfl) fun xs H2 hP => ?_) fun v' H2 q2 hv' => ?_
      · obtain ⟨x, y, z, rfl, _, hy, hz⟩ := hP
        rcases hk12 with rfl | rfl
        · exact ⟨y, rfl, fun H3 e => ⟨_, hy.mono e, .inl ⟨rfl, _, rfl⟩⟩⟩
        · exact ⟨z, rfl, fun H3 e => ⟨_, hz.mono e, .inr ⟨rfl, rfl⟩⟩⟩
      · obtain ⟨t', ht', hs⟩ := hv'
        exact ⟨v', t', _, rfl, qe.trans q2, ht', fun _ => hs⟩
    · obtain ⟨v, t, o2, rfl, qe, ht, hs⟩ := pv
      exact s_ret (v := v) (ev_var rfl) fun H2 q2 => kk v H2 t (qe.trans q2) (ht.mono q2) (hs (by decide))
end
end Bz

set_option maxHeartbeats 2000000
namespace Bz
open PySem PySem.Spec PyProof.Rows L2 Evl
/-! ### ascending ties are ties -/
def ltE (e f : Nat × Nat) : Prop := e.1 < f.1 ∨ (e.1 = f.1 ∧ e.2 < f.2)
theorem within_nat {n p : Nat} (h : n < p) : (Th.int (n : Int)).within 0 ((p : Int) - 1) = true := by
  show (decide (0 ≤ (n : Int)) && decide ((n : Int) ≤ (p : Int) - 1)) = true
  rw [decide_eq_true (by omega), decide_eq_true (by omega)]
  rfl
theorem thE_tie {p : Nat} {e : Nat × Nat} (h1 : e.1 < e.2) (h2 : e.2 < p) : (thE e).tie (p : Int) = true := by
  unfold Th.tie thE Th.lot
  rw [Bool.and_eq_true]
  refine ⟨?_, decide_eq_true rfl⟩
  rw [Bool.and_eq_true]
  refine ⟨?_, ?_⟩
  · rw [List.all_cons, List.all_cons, List.all_nil, within_nat (by omega), within_nat h2]
    rfl
  · show ascB 2 _ = true
    unfold ascB
    show ((List.range 1).all _) = true
    rw [show List.range 1 = [0] from rfl, List.all_cons, List.all_nil, Bool.and_true]
    show decide ((e.1 : Int) < (e.2 : Int)) = true
    exact decide_eq_true (by omega)
theorem lexLt_pair {a b c d : Nat} (h : ltE (a, b) (c, d)) : HT.lexLt [(a : Int), (b : Int)] [(c : Int), (d : Int)] = true := by
  rw [HT.lexLt_cons]
  rcases h with h | ⟨h1, h2⟩
  · simp only at h
    rw [if_neg (by omega)]
    exact decide_eq_true (by omega)
  · simp only at h1 h2
    subst h1
    rw [if_pos rfl, HT.lexLt_cons, if_neg (by omega)]
    exact decide_eq_true (by omega)
theorem ties_of {p : Nat} {es : Rd} (hs : es.Pairwise ltE) (ok : EsOk p es) : (thT es).ties (p : Int) = true := by
  unfold thT Th.ties
  rw [Bool.and_eq_true]
  refine ⟨?_, ?_⟩
  · rw [List.all_map]
    exact List.all_eq_true.mpr fun e he => thE_tie (ok e he).1 (ok e he).2
  · unfold ascL ascB
    rw [List.length_map, List.length_map]
    refine List.all_eq_true.mpr fun i hi => ?_
    rw [List.mem_range] at hi
    have h0 : i < es.length := by omega
    have h1 : i + 1 < es.length := by omega
    have e0 : ((es.map thE).map Th.is).getD i [] = [(es[i].1 : Int), (es[i].2 : Int)] := getD_at (by rw [List.getElem?_map, List.getElem?_map, List.getElem?_eq_getElem h0]; rfl)
    have e1 : ((es.map thE).map Th.is).getD (i + 1) [] = [(es[i + 1].1 : Int), (es[i + 1].2 : Int)] := getD_at (by rw [List.getElem?_map, List.getElem?_map, List.getElem?_eq_getElem h1]; rfl)
    rw [e0, e1]
    exact lexLt_pair (List.pairwise_iff_getElem.mp hs i (i + 1) h0 h1 (by omega))
end Bz

set_option maxHeartbeats 2000000
namespace Bz
open PySem PySem.Spec PyProof.Rows L2 Evl
/-! ### _law_web -/
def spLWeb (K : PySem.W.Frag) : Sp := fun vs H Q _ => ∃ (a c : Addr) (m : Nat), vs = [.ref a, nV m] ∧ HandOk K H a c ∧ 1 ≤ m ∧ m ≤ 6 ∧
  ∀ (v : V) (H' : Hp) (p : Nat) (es : Rd), KX a H H' → HandOk K H' a c → 1 ≤ p → p ≤ m → EsOk p es → (thT es).ties (p : Int) = true → es.length ≤ 1000 → WpAt K H' v p es → Q v H'
abbrev nmLWeb : List Str := ["_law_hand_here", "_law_most", "_law_people", "_law_kind", "_law_side", "_law_piece", "_law_share", "_law_found", "_law_one", "_law_other", "_law_tied"]
theorem scLWeb : FnScope nmLWeb ["_law_hand_here", "_law_most"] (defScope sLWeb) := ⟨rfl, rfl, rfl, by decide +kernel, rfl, by decide +kernel, by decide +kernel⟩
section
variable {K : PySem.W.Frag} {σ : L2.St} {H : Hp} {ta tb te : TE} {x v : V}
/-- a new list of n draws -/
theorem dl_draws {tr : TA} {td : TA} {a c : Addr} {n m j : Nat} {vs : List Nat} {E : XK} {Q : VK} (hn : n ≤ 40000) (hh : HandOk K H a c) (hm : 0 < m) (hm2 : m < 1000) (hr : EvA tr σ H [nV n]) (hw : ∀ x, wipe ((wipe σ vs).set j (some x)) vs = wipe σ vs)
    (hd : ∀ x H1, EvA td ((wipe σ vs).set j (some x)) H1 [.ref a, nV m]) (k : ∀ (p : Addr) (ds : List Nat) (H' : Hp), H p = none → KX a H H' → HandOk K H' a c → H' p = some (.lst (ds.map nV)) → ds.length = n → Q (.ref p) H') :
    tLc (iRng1 tr) (gName j) tYes (tCall (spDraw K) [] E td) vs σ H Q :=
  hr H (Ex.refl _) _ fun H1 e1 => ⟨(n : Int), rfl, by omega, by omega, fun D hD => by
    have hDa := (hh.ex e1).fresh hD
    refine lc_walk (n := n) (fun i H' => KX a H H' ∧ HandOk K H' a c ∧ ∃ ds : List Nat, H' D = some (.lst (ds.map nV)) ∧ ds.length = i) ⟨.of_ex (e1.trans (Ex.new hD)), (hh.ex e1).ex (Ex.new hD), [], upd_same, rfl⟩ (fun i H' hi p => ?_) (fun i H' x H4 hi p y => ?_) fun H' p => ?_
    · exact ⟨fun h => by show i < (n : Int).toNat; omega, fun h => by show (n : Int).toNat ≤ i; omega⟩
    · obtain ⟨rfl, rfl⟩ := y
      obtain ⟨kx, ho, ds, hds, hdl⟩ := p
      refine ⟨hw _, ?_⟩
      refine d_draw (hd _ _) ho hm hm2 fun d H5 hdm kx5 ho5 => ⟨ds.map nV, kx5 _ _ hDa.1 hds, sz_lt (by rw [List.length_map]; omega), fun b o hb hbo => ?_, ho5.put hDa.1 hDa.2, ds ++ [d], by rw [upd_same, List.map_append]; rfl, by simp [hdl]⟩
      · have hbD : b ≠ D := fun q => by rw [q, fresh_back e1 hD] at hbo; cases hbo
        rw [upd_ne hbD]
        exact kx5 _ _ hb (kx _ _ hb hbo)
    · obtain ⟨kx, ho, ds, hds, hdl⟩ := p
      exact k D ds H' (fresh_back e1 hD) kx ho hds hdl⟩
theorem HandOk.tk {H' : Hp} {a c : Addr} (h : HandOk K H a c) (k : KX a H H') : TK K H H' := fun b zs q => by
  obtain ⟨cells, at_, rest, st, cnt, h, _⟩ := h
  have ne : ∀ u, H b = some u → (∀ l, u ≠ .lst l) → b ≠ a := fun u h1 h2 q => by
    subst q
    rw [h] at h1
    injection h1 with h1
    exact h2 _ h1.symm
  rcases q with (q | ⟨o, q⟩) | q
  · exact .inl (.inl (k _ _ (ne _ q (by intro _ z; cases z)) q))
  · exact .inl (.inr ⟨o, k _ _ (ne _ q (by intro _ z; cases z)) q⟩)
  · exact .inr q
/-- fresh behind is fresh before -/
theorem HandOk.back {H' : Hp} {a c l : Addr} (h : HandOk K H' a c) (k : KX a H H') (hl : H' l = none) : H l = none := by
  cases hh : H l with
  | none => rfl
  | some o =>
    have := (h.fresh hl).1
    rw [k _ _ this hh] at hl
    cases hl
theorem EvU.p {xs : List V} (h : EvU te σ H xs) : EvP te σ H (fun v H' => ∃ a, v = .ref a ∧ H' a = some (.tup xs)) := fun H1 e Q q => h H1 e Q fun p H2 _ e2 h2 => q _ _ e2 ⟨p, rfl, h2⟩
theorem eu_tupOfL {l : Addr} {xs : List V} (h : Ev ta σ H (.ref l)) (hx : SqL K H l xs) : EvU (tThen ta (kTup K)) σ H xs := fun H1 e Q q =>
  h H1 e _ fun H2 e2 => .inl ⟨l, xs, rfl, ex_l (e.trans e2) hx, fun t ht => q t _ (fresh_back e2 ht) (e2.trans (Ex.new ht)) upd_same⟩
theorem q_draws {tr : TA} {td : TA} {a c : Addr} {n m j i : Nat} {vs : List Nat} {E : XK} {D : Ends} {tz : TS} (hn : n ≤ 40000) (hh : HandOk K H a c) (hm : 0 < m) (hm2 : m < 1000) (hr : EvA tr σ H [nV n]) (hw : ∀ x, wipe ((wipe σ vs).set j (some x)) vs = wipe σ vs)
    (hd : ∀ x H1, EvA td ((wipe σ vs).set j (some x)) H1 [.ref a, nV m]) (k : ∀ (p : Addr) (ds : List Nat) (H' : Hp), H p = none → KX a H H' → HandOk K H' a c → H' p = some (.lst (ds.map nV)) → ds.length = n → tz D (σ.set i (some (.ref p))) H') :
    tSeq (tAsg (tLc (iRng1 tr) (gName j) tYes (tCall (spDraw K) [] E td) vs) (gName i)) tz D σ H := dl_draws (Q := fun v H' => tz D (σ.set i (some v)) H') hn hh hm hm2 hr hw hd k
/-- x = draw(..); x = 1 + draw(..) -/
theorem q_draw {ta : TA} {a c : Addr} {m i : Nat} {E : XK} {D : Ends} {tz : TS} (hA : EvA ta σ H [.ref a, nV m]) (hh : HandOk K H a c) (hm : 0 < m) (hm2 : m < 1000) (k : ∀ (d : Nat) (H' : Hp), d < m → KX a H H' → HandOk K H' a c → tz D (σ.set i (some (nV d))) H') :
    tSeq (tAsg (tCall (spDraw K) [] E ta) (gName i)) tz D σ H := d_draw (Q := fun v H' => tz D (σ.set i (some v)) H') hA hh hm hm2 k
theorem q_draw1 {ta : TA} {a c : Addr} {m i : Nat} {E : XK} {D : Ends} {tz : TS} (hA : EvA ta σ H [.ref a, nV m]) (hh : HandOk K H a c) (hm : 0 < m) (hm2 : m < 1000) (k : ∀ (d : Nat) (H' : Hp), d < m → KX a H H' → HandOk K H' a c → tz D (σ.set i (some (nV (1 + d)))) H') :
    tSeq (tAsg (tOp (rI0 fun i j => .int (i + j)) (tC (.int 1)) (tCall (spDraw K) [] E ta)) (gName i)) tz D σ H := d_draw hA hh hm hm2 fun d H' hd kx ho => ⟨1, d, rfl, rfl, by
    have := k d H' hd kx ho
    show tz D (σ.set i (some (.int (1 + (d : Int))))) H'
    rw [show (1 + (d : Int)) = ((1 + d : Nat) : Int) by omega]
    exact this⟩
theorem q_drawLt {ta : TA} {a c : Addr} {m i sh j : Nat} {E : XK} {D : Ends} {tz : TS} (hA : EvA ta σ H [.ref a, nV m]) (hs : σ[j]? = some (some (nV sh))) (hh : HandOk K H a c) (hm : 0 < m) (hm2 : m < 1000) (k : ∀ (b : Bool) (H' : Hp), KX a H H' → HandOk K H' a c → tz D (σ.set i (some (.bl b))) H') :
    tSeq (tAsg (tOp (rI0 fun i j => .bl (decide (i < j))) (tCall (spDraw K) [] E ta) (tVar j)) (gName i)) tz D σ H := d_draw hA hh hm hm2 fun d H' hd kx ho => ⟨_, hs, _, _, rfl, rfl, k _ H' kx ho⟩
theorem if_val (p : Prop) [Decidable p] (x y : Bool) : ∃ c : Bool, (p → c = x) ∧ (¬ p → c = y) := ⟨if p then x else y, fun h => if_pos h, fun h => if_neg h⟩
theorem dec_nV {i : Nat} (j : Nat) : decide (nV i = V.int (j : Int)) = decide (i = j) := by
  by_cases h : i = j
  · subst h
    rw [decide_eq_true rfl, decide_eq_true rfl]
  · rw [decide_eq_false h, decide_eq_false]
    intro q
    injection q with q
    omega
end
section
variable {P : Program} {w : World} {K : PySem.W.Frag} {mg : Str → Option Value} {base : Heap} {CW CB CN : Addr}
theorem ok_lweb {f fD : Addr} {fd fdD : FuncData} (F : FnP K "_law_web" sLWeb f fd) (T : Txt K mg CW CB CN) (FD : FnP K "_law_draw" sDraw fD fdD) (gD : mg "_law_draw" = some (.ref fD)) (GD : FnOk P w K mg base CX0 1 fD fdD ["_law_hand_here", "_law_many"] (spDraw K)) :
    FnOk P w K mg base CX0 2 f fd ["_law_hand_here", "_law_most"] (spLWeb K) := by
  have bD : Binds K fdD ["_law_hand_here", "_law_many"] [] := FD.bindsN fun _ _ _ _ _ _ us hl => match us, hl with | [_, _], _ => rfl
  refine F.ok scLWeb (fun vs H Q E h => ?_) (fun cdv A outer s H vs Q E hr h => ?_)
  · obtain ⟨a, c, m, rfl, _⟩ := h
    rfl
  · obtain ⟨a, c, m, rfl, hh, h1, h6, k⟩ := h
    refine ⟨_, PSs.nox (pss_cons (ps_asg (pe_op op_add pe_int (pe_call GD hr rfl gD FD.kp bD .nil pass0 (pa_cons (pv 0) (pa_cons (pv 1) pa_nil)))) (pg_name (i := 2) scLWeb.nd rfl (.inl rfl)))
      (pss_cons (ps_asg (pe_call GD hr rfl gD FD.kp bD .nil pass0 (pa_cons (pv 0) (pa_cons pe_int pa_nil))) (pg_name (i := 3) scLWeb.nd rfl (.inl rfl)))
      (pss_cons (ps_setLc (i := 4) (own := [("_law_one", 8)]) (g := gName 8) (tt := tYes) rfl scLWeb.nd rfl rfl (sw_true rfl rfl rfl (by decide +kernel)) (pi_range1 rfl T.range (pa_cons (pv 2) pa_nil)) (blkOk_by (N := nmLWeb) (sc := defScope sLWeb) (by decide +kernel)) (fun _ _ _ _ _ => pg_name (i := 8) scLWeb.nd rfl (Or.inl rfl)) (fun _ _ _ _ _ => pts_nil)
        (fun _ _ _ _ _ => pe_call GD hr rfl gD FD.kp bD .nil pass0 (pa_cons (pv 0) (pa_cons pe_int pa_nil))))
      (pss_cons (ps_setLc (i := 5) (own := [("_law_one", 8)]) (g := gName 8) (tt := tYes) rfl scLWeb.nd rfl rfl (sw_true rfl rfl rfl (by decide +kernel)) (pi_range1 rfl T.range (pa_cons (pv 2) pa_nil)) (blkOk_by (N := nmLWeb) (sc := defScope sLWeb) (by decide +kernel)) (fun _ _ _ _ _ => pg_name (i := 8) scLWeb.nd rfl (Or.inl rfl)) (fun _ _ _ _ _ => pts_nil)
        (fun _ _ _ _ _ => pe_call GD hr rfl gD FD.kp bD .nil pass0 (pa_cons (pv 0) (pa_cons pe_int pa_nil))))
      (pss_cons (ps_asg (pe_op op_add pe_int (pe_call GD hr rfl gD FD.kp bD .nil pass0 (pa_cons (pv 0) (pa_cons pe_int pa_nil)))) (pg_name (i := 6) scLWeb.nd rfl (.inl rfl)))
      (pss_cons (ps_asg (pe_lst pa_nil) (pg_name (i := 7) scLWeb.nd rfl (.inl rfl)))
      (pss_cons (ps_for PassesOwn.never rfl (pi_range1 rfl T.range (pa_cons (pv 2) pa_nil)) (pg_name (i := 8) scLWeb.nd rfl (.inl rfl))
        (pss_one (ps_for PassesOwn.never rfl (pi_range2 rfl T.range (pa_cons (pe_op op_add (pv 8) pe_int) (pa_cons (pv 2) pa_nil))) (pg_name (i := 9) scLWeb.nd rfl (.inl rfl))
          (pss_cons (ps_asg (pe_cmpR op_lt (pe_call GD hr rfl gD FD.kp bD .nil pass0 (pa_cons (pv 0) (pa_cons pe_int pa_nil))) (pv 6) (nomark _)) (pg_name (i := 10) scLWeb.nd rfl (.inl rfl)))
          (pss_cons (ps_if (pt_cmpR op_eq (pv 3) pe_int (nomark _)) (pss_one (ps_asg (pe_cmpR op_eq (pe_ix ix_list (pv 5) (pv 8) (fun _ _ => rfl)) (pe_ix ix_list (pv 5) (pv 9) (fun _ _ => rfl)) (nomark _)) (pg_name (i := 10) scLWeb.nd rfl (.inl rfl)))) pss_nil)
          (pss_cons (ps_if (pt_cmpR op_eq (pv 3) pe_int (nomark _)) (pss_one (ps_asg (pe_cmpR op_ne (pe_ix ix_list (pv 4) (pv 8) (fun _ _ => rfl)) (pe_ix ix_list (pv 4) (pv 9) (fun _ _ => rfl)) (nomark _)) (pg_name (i := 10) scLWeb.nd rfl (.inl rfl)))) pss_nil)
          (pss_cons (ps_if (pt_cmpR op_eq (pv 3) pe_int (nomark _)) (pss_one (ps_asg (pe_and (pe_cmpR op_eq (pe_ix ix_list (pv 5) (pv 8) (fun _ _ => rfl)) (pe_ix ix_list (pv 5) (pv 9) (fun _ _ => rfl)) (nomark _)) (pe_one (pe_or (pe_cmpR op_eq (pe_ix ix_list (pv 5) (pv 8) (fun _ _ => rfl)) pe_int (nomark _)) (pe_one (pe_cmpR op_ne (pe_ix ix_list (pv 4) (pv 8) (fun _ _ => rfl)) (pe_ix ix_list (pv 4) (pv 9) (fun _ _ => rfl)) (nomark _)))))) (pg_name (i := 10) scLWeb.nd rfl (.inl rfl)))) pss_nil)
          (pss_one (ps_if (pt_val (pv 10)) (pss_one (ps_expr (pe_bm PySem.F.plainAttrs_list PySem.F.slot_list_append PySem.F.type_list_append mt_append (pv 7) (pa_cons (pe_tup (pa_cons (pv 8) (pa_cons (pv 9) pa_nil))) pa_nil)))) pss_nil))))))))
      ) (pss_one (ps_ret (pe_tup (pa_cons (pv 2) (pa_cons (pe_tupleOf rfl T.tuple (pv 7)) pa_nil)))))))))))), ?_⟩
    refine q_draw1 (m := m) (ea_cons (ev_var rfl) (ea_cons (ev_var rfl) ea_nil)) hh (by omega) (by omega) fun d H1 hd kx1 ho1 => ?_
    have hp1 : 1 ≤ 1 + d := by omega
    have hpm : 1 + d ≤ m := by omega
    generalize 1 + d = p at hp1 hpm
    clear hd
    refine q_draw (m := 4) (ea_cons (ev_var rfl) (ea_cons ev_c ea_nil)) ho1 (by decide) (by decide) fun kd H2 _ kx2 ho2 => ?_
    refine q_draws (n := p) (m := 2) (by omega) ho2 (by decide) (by decide) (ea_cons (ev_var rfl) ea_nil) (fun _ => rfl) (fun x H' => ea_cons (ev_var rfl) (ea_cons ev_c ea_nil)) fun ls sd H3 hls kx3 ho3 hls3 hsd => ?_
    refine q_draws (n := p) (m := 3) (by omega) ho3 (by decide) (by decide) (ea_cons (ev_var rfl) ea_nil) (fun _ => rfl) (fun x H' => ea_cons (ev_var rfl) (ea_cons ev_c ea_nil)) fun lp pc H4 hlp kx4 ho4 hlp4 hpc => ?_
    refine q_draw1 (m := 4) (ea_cons (ev_var rfl) (ea_cons ev_c ea_nil)) ho4 (by decide) (by decide) fun sh H5 _ kx5 ho5 => ?_
    generalize 1 + sh = share
    refine q_asgL (xs := []) (el_lst ea_nil (by show (0 : Nat) ≤ 100000; decide)) fun lf H6 hlf q6 hlf6 => ?_
    show tSeq _ _ _ [some (.ref a), some (nV m), some (nV p), some (nV kd), some (.ref ls), some (.ref lp), some (nV share), some (.ref lf), none, none, none] H6
    have hlsa := (ho2.fresh hls).1
    have hlpa := (ho3.fresh hlp).1
    have hlfa := ho5.fresh hlf
    have hls5 : H5 ls = some (.lst (sd.map nV)) := kx5 _ _ hlsa (kx4 _ _ hlsa hls3)
    have hlp5 : H5 lp = some (.lst (pc.map nV)) := kx5 _ _ hlpa hlp4
    have hlsf : ls ≠ lf := fun q => by rw [← q, hls5] at hlf; cases hlf
    have hlpf : lp ≠ lf := fun q => by rw [← q, hlp5] at hlf; cases hlf
    have kxH5 : KX a H H5 := (((kx1.trans kx2).trans kx3).trans kx4).trans kx5
    have hlfH : H lf = none := ho5.back kxH5 hlf
    let Fx : Hp → List V → Rd → Prop := fun G acc es => KX a H G ∧ HandOk K G a c ∧ G ls = some (.lst (sd.map nV)) ∧ G lp = some (.lst (pc.map nV)) ∧ G lf = some (.lst acc) ∧ Al2 (PrAt K G) acc es ∧ es.Pairwise ltE ∧ EsOk p es
    have fxE : ∀ {G G' : Hp} {acc es}, Ex G G' → Fx G acc es → Fx G' acc es := fun e ⟨h1, h2, h3, h4, h5, h6, h7, h8⟩ => ⟨h1.trans (.of_ex e), h2.ex e, e _ _ h3, e _ _ h4, e _ _ h5, h6.imp fun _ _ h => h.keep (.of_ex e), h7, h8⟩
    have fxK : ∀ {G G' : Hp} {acc es}, KX a G G' → HandOk K G' a c → Fx G acc es → Fx G' acc es := fun e o ⟨h1, h2, h3, h4, h5, h6, h7, h8⟩ => ⟨h1.trans e, o, e _ _ hlsa h3, e _ _ hlpa h4, e _ _ hlfa.1 h5, h6.imp fun _ _ h => h.keep (h2.tk e), h7, h8⟩
    let Pv : Nat → L2.St → Hp → Prop := fun i σ' G => ∃ o8 o9 o10 acc es, σ' = [some (.ref a), some (nV m), some (nV p), some (nV kd), some (.ref ls), some (.ref lp), some (nV share), some (.ref lf), o8, o9, o10] ∧ Fx G acc es ∧ (∀ e ∈ es, e.1 < i) ∧ es.length ≤ 6 * i
    refine q_forR1 (n := (p : Int)) (ea_cons (ev_var rfl) ea_nil) ⟨by omega, by omega⟩ Pv (fun H7 q7 => ⟨_, _, _, [], [], rfl, fxE q7 ⟨kxH5.trans (.of_ex q6), ho5.ex q6, q6 _ _ hls5, q6 _ _ hlp5, hlf6, .nil, .nil, fun _ h => absurd h (by simp)⟩, fun _ h => absurd h (by simp), Nat.zero_le _⟩) (fun i σ' G hi pv => ?_) fun σ' G pv => ?_
    · obtain ⟨o8, o9, o10, acc, es, rfl, fx, hlt, hle⟩ := pv
      have hip : i < p := by omega
      let Pv2 : Nat → L2.St → Hp → Prop := fun j σ' G => ∃ o9 o10 acc es, σ' = [some (.ref a), some (nV m), some (nV p), some (nV kd), some (.ref ls), some (.ref lp), some (nV share), some (.ref lf), some (nV i), o9, o10] ∧ Fx G acc es ∧ (∀ e ∈ es, e.1 < i ∨ (e.1 = i ∧ e.2 < i + 1 + j)) ∧ es.length ≤ 6 * i + j
      refine s_forR2 (lo := (i : Int) + 1) (n := (p : Int)) (ea_cons (ev_op (ev_var rfl) ev_c rv_I0) (ea_cons (ev_var rfl) ea_nil)) ⟨by omega, by omega, by omega, by omega⟩ Pv2 (fun H7 q7 => ⟨_, _, acc, es, rfl, fxE q7 fx, fun e he => .inl (hlt e he), by omega⟩) (fun j σ' G' hj pv => ?_) fun σ' G' pv => ?_
      · obtain ⟨o9, o10, acc, es, rfl, fx, hlt, hle⟩ := pv
        have hop : i + 1 + j < p := by omega
        rw [show ((i : Int) + 1 + (j : Int)) = ((i + 1 + j : Nat) : Int) by omega]
        generalize ho : i + 1 + j = o at hop
        show tSeq _ _ _ [some (.ref a), some (nV m), some (nV p), some (nV kd), some (.ref ls), some (.ref lp), some (nV share), some (.ref lf), some (nV i), some (nV o), o10] G'
        refine q_drawLt (m := 5) (sh := share) (j := 6) (ea_cons (ev_var rfl) (ea_cons ev_c ea_nil)) rfl fx.2.1 (by decide) (by decide) fun c0 G1 kxx hoo => ?_
        have fx1 := fxK kxx hoo fx
        obtain ⟨c1, hc1, hc1'⟩ := if_val (kd = 1) (decide (nV (pc.getD i 0) = nV (pc.getD o 0))) c0
        refine q_ifAsg (b := decide (kd = 1)) (v := .bl c1) (et_test (ev_is (ev_op (ev_var rfl) ev_c (rv_eq rfl)) (congrArg V.bl (dec_nV 1)))) (fun h => by
          rw [hc1 (by simpa using h)]
          exact ev_op (ev_op (ev_var rfl) (ev_var rfl) (rv_ixLn (sq_of fx1.2.2.2.1) (by omega))) (ev_op (ev_var rfl) (ev_var rfl) (rv_ixLn (sq_of fx1.2.2.2.1) (by omega))) (rv_eq rfl)) (fun h => by rw [hc1' (by simpa using h)]; rfl) fun G2 q2 => ?_
        have fx2 := fxE q2 fx1
        obtain ⟨c2, hc2, hc2'⟩ := if_val (kd = 2) (!decide (nV (sd.getD i 0) = nV (sd.getD o 0))) c1
        refine q_ifAsg (b := decide (kd = 2)) (v := .bl c2) (et_test (ev_is (ev_op (ev_var rfl) ev_c (rv_eq rfl)) (congrArg V.bl (dec_nV 2)))) (fun h => by
          rw [hc2 (by simpa using h)]
          exact ev_op (ev_op (ev_var rfl) (ev_var rfl) (rv_ixLn (sq_of fx2.2.2.1) (by omega))) (ev_op (ev_var rfl) (ev_var rfl) (rv_ixLn (sq_of fx2.2.2.1) (by omega))) (rv_ne rfl)) (fun h => by rw [hc2' (by simpa using h)]; rfl) fun G3 q3 => ?_
        have fx3 := fxE q3 fx2
        obtain ⟨c3, hc3, hc3'⟩ := if_val (kd = 3) (decide (nV (pc.getD i 0) = nV (pc.getD o 0)) && (decide (nV (pc.getD i 0) = V.int 0) || !decide (nV (sd.getD i 0) = nV (sd.getD o 0)))) c2
        refine q_ifAsg (b := decide (kd = 3)) (v := .bl c3) (et_test (ev_is (ev_op (ev_var rfl) ev_c (rv_eq rfl)) (congrArg V.bl (dec_nV 3)))) (fun h => by
          rw [hc3 (by simpa using h)]
          exact ev_andV (ev_op (ev_op (ev_var rfl) (ev_var rfl) (rv_ixLn (sq_of fx3.2.2.2.1) (by omega))) (ev_op (ev_var rfl) (ev_var rfl) (rv_ixLn (sq_of fx3.2.2.2.1) (by omega))) (rv_eq rfl)) fun _ =>
            ev_orV (ev_op (ev_op (ev_var rfl) (ev_var rfl) (rv_ixLn (sq_of fx3.2.2.2.1) (by omega))) ev_c (rv_eq rfl)) fun _ => ev_op (ev_op (ev_var rfl) (ev_var rfl) (rv_ixLn (sq_of fx3.2.2.1) (by omega))) (ev_op (ev_var rfl) (ev_var rfl) (rv_ixLn (sq_of fx3.2.2.1) (by omega))) (rv_ne rfl)) (fun h => by rw [hc3' (by simpa using h)]; rfl) fun G4 q4 => ?_
        have fx4 := fxE q4 fx3
        show tIfS _ _ _ _ [some (.ref a), some (nV m), some (nV p), some (nV kd), some (.ref ls), some (.ref lp), some (nV share), some (.ref lf), some (nV i), some (nV o), some (.bl c3)] G4
        refine s_when (b := c3) (et_B (ev_var rfl)) (fun _ G5 q5 => ?_) fun _ G5 q5 => ⟨_, _, acc, es, rfl, fxE q5 fx4, fun e he => ?_, by omega⟩
        · have fx5 := fxE q5 fx4
          have hal := fx5.2.2.2.2.2.1.length
          refine s_appP (P := fun v H' => PrAt K H' v (i, o)) fx5.2.2.2.2.1 (ev_var rfl) (evp_pr (ev_var rfl) (ev_var rfl)) (by omega) fun v G6 q6' hv => ?_
          have fx6 := fxE q6' fx5
          obtain ⟨g1, g2, g3, g4, g5, g6, g7, g8⟩ := fx6
          have tk : TK K G6 (upd G6 lf (.lst (acc ++ [v]))) := TK.lst g5
          refine ⟨_, _, acc ++ [v], es ++ [(i, o)], rfl, ⟨fun b ob hb h => ?_, g2.put hlfa.1 hlfa.2, by rw [upd_ne hlsf]; exact g3, by rw [upd_ne hlpf]; exact g4, upd_same, (g6.imp fun _ _ h => h.keep tk).append (.one (hv.keep tk)), ?_, fun e he => ?_⟩, fun e he => ?_, by rw [List.length_append]; show es.length + 1 ≤ _; omega⟩
          · have hbl : b ≠ lf := fun q => by rw [q, hlfH] at h; cases h
            rw [upd_ne hbl]
            exact g1 b ob hb h
          · rw [List.pairwise_append]
            refine ⟨g7, List.pairwise_singleton _ _, fun e he f hf => ?_⟩
            rw [List.mem_singleton] at hf
            subst hf
            rcases hlt e he with h | ⟨h1, h2⟩
            · exact .inl h
            · exact .inr ⟨h1, by show e.2 < o; omega⟩
          · rcases List.mem_append.mp he with he | he
            · exact g8 e he
            · rw [List.mem_singleton] at he
              subst he
              exact ⟨by show i < o; omega, hop⟩
          · rcases List.mem_append.mp he with he | he
            · rcases hlt e he with h | ⟨h1, h2⟩
              · exact .inl h
              · exact .inr ⟨h1, by omega⟩
            · rw [List.mem_singleton] at he
              subst he
              exact .inr ⟨rfl, by show o < _; omega⟩
        · rcases hlt e he with h | ⟨h1, h2⟩
          · exact .inl h
          · exact .inr ⟨h1, by omega⟩
      · obtain ⟨o9, o10, acc, es, rfl, fx, hlt, hle⟩ := pv
        refine ⟨_, _, _, acc, es, rfl, fx, fun e he => ?_, ?_⟩
        · rcases hlt e he with h | ⟨h1, h2⟩
          · omega
          · omega
        · have : ((p : Int) - ((i : Int) + 1)).toNat ≤ 5 := by omega
          omega
    · obtain ⟨o8, o9, o10, acc, es, rfl, ⟨g1, g2, g3, g4, g5, g6, g7, g8⟩, hlt, hle⟩ := pv
      have hal := g6.length
      have hle2 : es.length ≤ 36 := by
        have : ((p : Int)).toNat ≤ 6 := by omega
        omega
      refine (evp_two (P := fun v _ => v = nV p) (R := fun v H' => RdAt K H' v es) (Bz.Ev.p (ev_var rfl)) ((EvU.p (eu_tupOfL (ev_var rfl) (sq_of g5))).imp fun v G' e ⟨t, hv, ht⟩ => ⟨t, acc, hv, st_of ht, g6.imp fun _ _ h => h.keep (.of_ex e)⟩) mo_eq mo_rd) G (Ex.refl _) _ fun v G' e hv => ?_
      obtain ⟨b, x, y, rfl, hb, rfl, hy⟩ := hv
      exact k _ G' p es (g1.trans (.of_ex e)) (g2.ex e) hp1 hpm g8 (ties_of g7 g8) (by omega) ⟨b, y, rfl, st_of hb, hy⟩
end
end Bz

set_option maxHeartbeats 4000000
namespace Bz
open PySem PySem.Spec PyProof.Rows L2 Evl
/-! ### _law_hasty -/
def condL (es : Rd) (c : Nat) (r : Rd) (one : Nat) : Bool := nearL es c one && !decide (one ∈ r.map (·.2))
def stepL (es : Rd) (fresh : List Nat) (c : Nat) (r : Rd) : List Rd := r :: (fresh.filter (condL es c r)).map fun one => r ++ [(c, one)]
def callsL (es : Rd) (fresh cs : List Nat) : List Rd := cs.foldl (fun found c => found.flatMap (stepL es fresh c)) [[]]
def freshL (th kn : List Nat) : List Nat := th.filter fun i => !decide (i ∈ kn)
def leftL (fresh : List Nat) (r : Rd) : List Nat := fresh.filter fun one => !decide (one ∈ r.map (·.2))
def idleL (kn : List Nat) (r : Rd) : List Nat := kn.filter fun one => !decide (one ∈ r.map (·.1))
def goodL (es : Rd) (fresh kn : List Nat) (r : Rd) : Bool := !((idleL kn r).any fun i => (leftL fresh r).any fun j => nearL es i j)
def foundL (es : Rd) (th kn : List Nat) : List Rd := (callsL es (freshL th kn) kn).filter (goodL es (freshL th kn) kn)
structure LHOk (es : Rd) (th kn : List Nat) : Prop where
  asc : kn.Pairwise (· < ·)
  kz : kn.length ≤ 16
  tz : th.length ≤ 16
  bd : ∀ i, (callsL es (freshL th kn) (kn.take i)).length ≤ 1000
  so : SortOk (foundL es th kn)
def spLHasty (K : PySem.W.Frag) : Sp := fun vs H Q _ => ∃ (v : V) (k t : Addr) (p : Nat) (es : Rd) (kn th : List Nat), vs = [v, .ref k, .ref t] ∧ WpAt K H v p es ∧ SqT K H k (kn.map nV) ∧ SqL K H t (th.map nV) ∧ LHOk es th kn ∧
  RetLP (fun ys H' => DpAll K H' ys ((sortR (foundL es th kn)).map rdD)) H Q
abbrev nmLH : List Str := ["_law_web_here", "_law_knowing", "_law_there", "_law_one", "_law_fresh", "_law_found", "_law_caller", "_law_longer", "_law_calls", "_law_good", "_law_left", "_law_idle", "_law_call", "_law_other"]
theorem scLH : FnScope nmLH ["_law_web_here", "_law_knowing", "_law_there"] (defScope sLHasty) := ⟨rfl, rfl, rfl, by decide +kernel, rfl, by decide +kernel, by decide +kernel⟩
def scOne : Scope := { kind := ScopeKind.function, names := [(".0", NameKind.local), ("_law_one", NameKind.local), ("_law_calls", NameKind.cell)], isGenerator := false, isCoroutine := false, more := [] }
def scIdle : Scope := { kind := ScopeKind.function, names := [(".0", NameKind.local), ("_law_one", NameKind.cell), ("any", NameKind.globalImplicit), ("_law_left", NameKind.cell), ("_law_web_here", NameKind.cell)], isGenerator := false, isCoroutine := false, more := [] }
theorem callsL_len_go {es : Rd} {fresh : List Nat} : ∀ (cs : List Nat) (n : Nat) (found : List Rd), (∀ r ∈ found, r.length ≤ n) → ∀ r ∈ cs.foldl (fun found c => found.flatMap (stepL es fresh c)) found, r.length ≤ n + cs.length
  | [], n, found, h => by simpa using h
  | c :: cs, n, found, h => by
    intro r hr
    rw [List.foldl_cons] at hr
    have := callsL_len_go cs (n + 1) (found.flatMap (stepL es fresh c)) (fun r' h' => by
      obtain ⟨r0, h0, h1⟩ := List.mem_flatMap.mp h'
      have := h r0 h0
      unfold stepL at h1
      rcases List.mem_cons.mp h1 with rfl | h1
      · omega
      · obtain ⟨one, _, rfl⟩ := List.mem_map.mp h1
        simp
        omega) r hr
    rw [List.length_cons]
    omega
theorem callsL_len {es : Rd} {fresh cs : List Nat} {r : Rd} (h : r ∈ callsL es fresh cs) : r.length ≤ cs.length := by
  have := callsL_len_go (es := es) (fresh := fresh) cs 0 [[]] (fun r h => by simp at h; subst h; simp) r h
  omega
theorem callsL_take {es : Rd} {fresh cs : List Nat} {i c : Nat} (h : cs[i]? = some c) : callsL es fresh (cs.take (i + 1)) = (callsL es fresh (cs.take i)).flatMap (stepL es fresh c) := by
  obtain ⟨hi, h⟩ := List.getElem?_eq_some_iff.mp h
  rw [List.take_succ_eq_append_getElem hi, h]
  unfold callsL
  rw [List.foldl_append]
  rfl
theorem inV_nat (i : Nat) (ns : List Nat) : inV (nV i) (ns.map nV) = decide (i ∈ ns) := by
  unfold inV
  rw [List.any_map]
  induction ns with
  | nil => rfl
  | cons n ns ih =>
    rw [List.any_cons, ih]
    show ((n : Int) == (i : Int) || _) = _
    by_cases h : n = i
    · subst h; simp
    · have h1 : ((n : Int) == (i : Int)) = false := beq_eq_false_iff_ne.mpr (by omega)
      have h2 : ¬ i = n := fun q => h q.symm
      rw [h1]
      simp [h2]
theorem flat_nats (ns : List Nat) : (ns.map nV).all flatV = true := by
  rw [List.all_map]
  exact List.all_eq_true.mpr fun _ _ => rfl
theorem rise_nats {ns' : List Int} {ns : List Nat} (hp : ns'.Perm (ns.map fun n : Nat => (n : Int))) (h1 : ns'.Pairwise (· ≤ ·)) (h2 : ns.Pairwise (· < ·)) : ns' = ns.map fun n : Nat => (n : Int) := by
  refine hp.eq_of_pairwise (le := fun a b => a ≤ b) (fun a b _ _ h k => by omega) h1 ?_
  rw [List.pairwise_map]
  exact h2.imp fun h => by omega
theorem given_filter (ns : List Nat) (f : Nat → Bool) : given ns.length (fun i => f (ns.getD i 0)) (fun i => nV (ns.getD i 0)) = (ns.filter f).map nV := by
  have h : ns = (List.range ns.length).map fun i => ns.getD i 0 := by
    have := map_getD ns 0 id
    simp at this
    exact this.symm
  unfold given
  conv => rhs; rw [h, List.filter_map]
  rw [List.map_map]
  rfl
section
variable {K : PySem.W.Frag} {σ : L2.St} {H : Hp} {ta tb te tl : TE} {x v : V}
theorem el_sortedTI {a : Addr} {ns : List Nat} (h : Ev ta σ H (.ref a)) (hs : SqT K H a (ns.map nV)) (ha : ns.Pairwise (· < ·)) : EvL (tCB (rSortedTI K) (tCons ta tNil)) σ H (ns.map nV) := fun H1 e Q q =>
  h H1 e _ fun H2 e2 => ⟨a, ns.map fun n : Nat => (n : Int), rfl, by rw [List.map_map]; exact ex_t (e.trans e2) hs, fun ns' p hp hr hn => by
    rw [rise_nats hp hr ha]
    refine q p _ (fresh_back e2 hn) (e2.trans (Ex.new hn)) ?_
    rw [upd_same, List.map_map]
    rfl⟩
theorem ev_ninT {a : Addr} {i : Nat} {ns : List Nat} (h1 : Ev ta σ H (nV i)) (h2 : Ev tb σ H (.ref a)) (hs : SqT K H a (ns.map nV)) : Ev (tOp (rIn K true) ta tb) σ H (.bl (!decide (i ∈ ns))) := ev_is (ev_op h1 h2 (rv_niT hs rfl (flat_nats ns))) (by rw [inV_nat])
theorem ev_ninN {i : Nat} {ns : List Nat} (h1 : Ev ta σ H (nV i)) (h2 : EvL tb σ H (ns.map nV)) : Ev (tOp (rIn K true) ta tb) σ H (.bl (!decide (i ∈ ns))) := ev_is (ev_opL h1 h2 fun p H1 hp e => rv_niL (sq_of hp) rfl (flat_nats ns)) (by rw [inV_nat])
/-- [call[0] for call in calls], [call[1] ..] -/
theorem el_parts {a : Addr} {xs : List V} {r : Rd} {j n : Nat} {vs : List Nat} (f : Nat × Nat → Nat) (h : Ev tl σ H (.ref a)) (hs : SqT K H a xs) (hal : Al2 (PrAt K H) xs r) (hz : r.length ≤ 40000) (hw : ∀ x, wipe ((wipe σ vs).set j (some x)) vs = wipe σ vs)
    (hv : ∀ x, ((wipe σ vs).set j (some x))[j]? = some (some x)) (hf : ∀ e, [nV e.1, nV e.2][n]? = some (nV (f e))) : EvL (tLc (iTup K tl) (gName j) tYes (tOp (rIxT K) (tVar j) (tC (.int (n : Int)))) vs) σ H ((r.map f).map nV) := fun H1 q1 => by
  have hl := hal.length
  refine el_is ?_ (el_lcN (fun _ => true) (fun i => nV ((r.map f).getD i 0)) (wi_tup h hs) (by omega) hw fun i x H2 q2 hi hY => ⟨et_yes, fun _ => ?_⟩) H1 q1
  · rw [given_all]
    have : xs.length = (r.map f).length := by rw [List.length_map]; exact hl
    rw [this, map_getD (r.map f) 0 nV]
  · obtain ⟨e, he, b, rfl, hb⟩ := hal.get hY
    rw [getD_at (show (r.map f)[i]? = some (f e) by rw [List.getElem?_map, he]; rfl)]
    exact ev_ixT (ev_var (hv _)) ev_c (ex_t q2 hb) (hf e)
/-- [one for one in a list if ..] -/
theorem el_filter {a : Addr} {ns : List Nat} {j : Nat} {vs : List Nat} {t : TT} (f : Nat → Bool) (h : Ev tl σ H (.ref a)) (hs : SqL K H a (ns.map nV)) (hz : ns.length ≤ 40000) (hw : ∀ x, wipe ((wipe σ vs).set j (some x)) vs = wipe σ vs) (hv : ∀ x, ((wipe σ vs).set j (some x))[j]? = some (some x))
    (ht : ∀ n H1, n ∈ ns → Ex H H1 → EvT t ((wipe σ vs).set j (some (nV n))) H1 (f n)) : EvL (tLc (iList K tl) (gName j) t (tVar j) vs) σ H ((ns.filter f).map nV) := fun H1 q1 => by
  refine el_is ?_ (el_lcN (fun i => f (ns.getD i 0)) (fun i => nV (ns.getD i 0)) (wi_list h hs) (by rw [List.length_map]; omega) hw fun i x H2 q2 hi hY => ?_) H1 q1
  · rw [List.length_map]
    exact given_filter ns f
  · rw [List.length_map] at hi
    rw [List.getElem?_map, at_getD 0 hi] at hY
    have hY : nV (ns.getD i 0) = x := by injection hY
    subst hY
    exact ⟨ht _ H2 (List.mem_of_getElem? (at_getD 0 hi)) q2, fun _ => ev_var (hv _)⟩
theorem el_filterT {a : Addr} {ns : List Nat} {j : Nat} {vs : List Nat} {t : TT} (f : Nat → Bool) (h : Ev tl σ H (.ref a)) (hs : SqT K H a (ns.map nV)) (hz : ns.length ≤ 40000) (hw : ∀ x, wipe ((wipe σ vs).set j (some x)) vs = wipe σ vs) (hv : ∀ x, ((wipe σ vs).set j (some x))[j]? = some (some x))
    (ht : ∀ n H1, n ∈ ns → Ex H H1 → EvT t ((wipe σ vs).set j (some (nV n))) H1 (f n)) : EvL (tLc (iTup K tl) (gName j) t (tVar j) vs) σ H ((ns.filter f).map nV) := fun H1 q1 => by
  refine el_is ?_ (el_lcN (fun i => f (ns.getD i 0)) (fun i => nV (ns.getD i 0)) (wi_tup h hs) (by rw [List.length_map]; omega) hw fun i x H2 q2 hi hY => ?_) H1 q1
  · rw [List.length_map]
    exact given_filter ns f
  · rw [List.length_map] at hi
    rw [List.getElem?_map, at_getD 0 hi] at hY
    have hY : nV (ns.getD i 0) = x := by injection hY
    subst hY
    exact ⟨ht _ H2 (List.mem_of_getElem? (at_getD 0 hi)) q2, fun _ => ev_var (hv _)⟩
end
end Bz

set_option maxHeartbeats 4000000
namespace Bz
open PySem PySem.Spec PyProof.Rows L2 Evl
theorem elp_sortedV {K : PySem.W.Frag} {σ : L2.St} {H : Hp} {ta : TE} {l : Addr} {xs : List V} {rs : List Rd} (h : Ev ta σ H (.ref l)) (hl : SqL K H l xs) (hal : Al2 (RdAt K H) xs rs) (hs : SortOk rs) : EvLP (tCB (rSortedD K) (tCons ta tNil)) σ H (fun ys H' => DpAll K H' ys ((sortR rs).map rdD)) := fun H1 e Q q =>
  h H1 e _ fun H2 e2 => ⟨l, xs, rs.map rdD, rfl, ex_l (e.trans e2) hl, RdAt.dpAll (hal.imp fun _ _ h => h.keep (.of_ex (e.trans e2))), alike_rds rs, hs.able, rds_depth, fun ys p hp hd _ => by
    refine q p ys _ (fresh_back e2 hp) (e2.trans (Ex.new hp)) upd_same ?_
    rw [sortR_data] at hd
    exact DpAll.go (Ex.new hp) hd⟩
section
variable {P : Program} {w : World} {K : PySem.W.Frag} {mg : Str → Option Value} {base : Heap} {CW CB CN : Addr}
theorem ok_lhasty {f fN : Addr} {fd fdN : FuncData} (F : FnP K "_law_hasty" sLHasty f fd) (T : Txt K mg CW CB CN) (FN : FnP K "_law_near" sNear fN fdN) (gN : mg "_law_near" = some (.ref fN)) (GN : FnOk P w K mg base CX0 1 fN fdN nmNear (spNear K)) :
    FnOk P w K mg base CX0 2 f fd ["_law_web_here", "_law_knowing", "_law_there"] (spLHasty K) := by
  have bN : Binds K fdN nmNear [] := FN.bindsN fun _ _ _ _ _ _ us hl => match us, hl with | [_, _, _], _ => rfl
  refine F.ok scLH (fun vs H Q E h => ?_) (fun cdv A outer s H vs Q E hr h => ?_)
  · obtain ⟨v, k, t, p, es, kn, th, rfl, _⟩ := h
    rfl
  · obtain ⟨v, ka, ta, p, es, kn, th, rfl, hw, hk, ht, ok, k⟩ := h
    refine ⟨_, PSs.nox (pss_cons (ps_setLc (i := 4) (own := [("_law_one", 3)]) (g := gName 3) rfl scLH.nd rfl rfl (sw_true rfl rfl rfl (by decide +kernel)) (pi_list (pv 2)) (blkOk_by (N := nmLH) (sc := defScope sLHasty) (by decide +kernel)) (fun _ _ _ _ _ => pg_name (i := 3) scLH.nd rfl (Or.inl rfl))
          (fun _ _ _ _ _ => pts_one (pt_cmpR (r := rIn K true) op_notIn_seq (pv 3) (pv 1) (by rfl))) (fun _ _ _ _ _ => pv 3))
      (pss_cons (ps_asg (pe_lst (pa_cons (pe_tup pa_nil) pa_nil)) (pg_name (i := 5) scLH.nd rfl (.inl rfl)))
      (pss_cons (ps_for PassesOwn.never rfl (pi_list (pe_callB cr_sortedTI rfl T.sorted (by decide +kernel) (pa_cons (pv 1) pa_nil))) (pg_name (i := 6) scLH.nd rfl (.inl rfl))
        (pss_cons (ps_asg (pe_lst pa_nil) (pg_name (i := 7) scLH.nd rfl (.inl rfl)))
        (pss_cons (ps_for PassesOwn.never rfl (pi_list (pv 5)) (pg_name (i := 8) scLH.nd rfl (.inr rfl))
          (pss_cons (ps_expr (pe_bm PySem.F.plainAttrs_list PySem.F.slot_list_append PySem.F.type_list_append mt_append (pv 7) (pa_cons (pv 8) pa_nil)))
          (pss_one (ps_for PassesOwn.never rfl (pi_list (pv 4)) (pg_name (i := 3) scLH.nd rfl (.inl rfl))
            (pss_one (ps_if (PW.pt (pw_and (pt_val (pe_call GN hr rfl gN FN.kp bN .nil pass0 (pa_cons (pv 0) (pa_cons (pv 6) (pa_cons (pv 3) pa_nil)))))
                (pw_and1 (pt_cmpR op_notIn_seq (pv 3) (pe_lc (own := [("_law_call", 12)]) (g := gName 12) (tt := tYes) rfl scLH.nd (pi_tup (pv 8)) (blkOk_by (N := nmLH) (sc := defScope sLHasty) (by decide +kernel)) (fun _ _ _ _ _ => pg_name (i := 12) scLH.nd rfl (Or.inl rfl)) (fun _ _ _ _ _ => pts_nil)
                  (fun _ _ _ _ _ => pe_ix (r := rIxT K) ix_tup (pv 12) pe_int (fun _ _ => rfl))) (by rfl)))))
              (pss_one (ps_expr (pe_bm PySem.F.plainAttrs_list PySem.F.slot_list_append PySem.F.type_list_append mt_append (pv 7) (pa_cons (pe_op op_catA (pv 8) (pe_tup (pa_cons (pe_tup (pa_cons (pv 6) (pa_cons (pv 3) pa_nil))) pa_nil))) pa_nil)))) pss_nil))))))
        (pss_one (ps_asg (pv 7) (pg_name (i := 5) scLH.nd rfl (.inl rfl))))))
        )
      (pss_cons (ps_asg (pe_lst pa_nil) (pg_name (i := 9) scLH.nd rfl (.inl rfl)))
      (pss_cons (ps_for PassesOwn.never rfl (pi_list (pv 5)) (pg_name (i := 8) scLH.nd rfl (.inr rfl))
        (pss_cons (ps_asg (pe_lc (own := [("_law_one", 3)]) (g := gName 3) rfl scLH.nd (pi_list (pv 4)) (blkOk_by (N := nmLH) (sc := defScope sLHasty) (by decide +kernel)) (fun _ _ _ _ _ => pg_name (i := 3) scLH.nd rfl (Or.inl rfl))
          (fun _ _ _ _ _ => pts_one (pt_cmpR (r := rIn K true) (tb := tLc (iTup K (tVar 8)) (gName 12) tYes (tOp (rIxT K) (tVar 12) (tC (.int 1))) [12]) op_notIn_seq (pv 3) (pe_lc (own := [("_law_call", 12)]) (g := gName 12) (tt := tYes) rfl scLH.nd (pi_tup (pv 8)) (blkOk_by (N := nmLH) (sc := scOne) (by decide +kernel)) (fun _ _ _ _ _ => pg_name (i := 12) scLH.nd rfl (Or.inl rfl)) (fun _ _ _ _ _ => pts_nil)
                  (fun _ _ _ _ _ => pe_ix (r := rIxT K) ix_tup (pv 12) pe_int (fun _ _ => rfl))) (by rfl))) (fun _ _ _ _ _ => pv 3)) (pg_name (i := 10) scLH.nd rfl (.inr rfl)))
        (pss_cons (ps_setLc (i := 11) (own := [("_law_one", 3)]) (g := gName 3) rfl scLH.nd rfl rfl (sw_true rfl rfl rfl (by decide +kernel)) (pi_tup (pv 1)) (blkOk_by (N := nmLH) (sc := defScope sLHasty) (by decide +kernel)) (fun _ _ _ _ _ => pg_name (i := 3) scLH.nd rfl (Or.inl rfl))
          (fun _ _ _ _ _ => pts_one (pt_cmpR (r := rIn K true) (tb := tLc (iTup K (tVar 8)) (gName 12) tYes (tOp (rIxT K) (tVar 12) (tC (.int 0))) [12]) op_notIn_seq (pv 3) (pe_lc (own := [("_law_call", 12)]) (g := gName 12) (tt := tYes) rfl scLH.nd (pi_tup (pv 8)) (blkOk_by (N := nmLH) (sc := scOne) (by decide +kernel)) (fun _ _ _ _ _ => pg_name (i := 12) scLH.nd rfl (Or.inl rfl)) (fun _ _ _ _ _ => pts_nil)
                  (fun _ _ _ _ _ => pe_ix (r := rIxT K) ix_tup (pv 12) pe_int (fun _ _ => rfl))) (by rfl))) (fun _ _ _ _ _ => pv 3))
        (pss_one (ps_if (pt_not (pt_val (pe_callB (cr_any rfl) rfl T.any (by decide +kernel) (pa_cons
            (pe_lc (own := [("_law_one", 3)]) (g := gName 3) (tt := tYes) (te := tCB (rAny K) (tCons (tLc (iList K (tVar 10)) (gName 13) tYes (tCall (spNear K) [] E0 (tCons (tVar 0) (tCons (tVar 3) (tCons (tVar 13) tNil)))) [13]) tNil)) rfl scLH.nd (pi_list (pv 11)) (blkOk_by (N := nmLH) (sc := defScope sLHasty) (by decide +kernel)) (fun _ _ _ _ _ => pg_name (i := 3) scLH.nd rfl (Or.inr rfl)) (fun _ _ _ _ _ => pts_nil)
              (fun _ _ _ _ _ => pe_callB (r := rAny K) (cr_any rfl) rfl T.any (by decide +kernel) (pa_cons
                (pe_lc (own := [("_law_other", 13)]) (g := gName 13) (tt := tYes) rfl scLH.nd (pi_list (pv 10)) (blkOk_by (N := nmLH) (sc := scIdle) (by decide +kernel)) (fun _ _ _ _ _ => pg_name (i := 13) scLH.nd rfl (Or.inl rfl)) (fun _ _ _ _ _ => pts_nil)
                  (fun _ _ _ _ _ => pe_call GN hr rfl gN FN.kp bN .nil pass0 (pa_cons (pv 0) (pa_cons (pv 3) (pa_cons (pv 13) pa_nil))))) pa_nil))) pa_nil))))
          (pss_one (ps_expr (pe_bm PySem.F.plainAttrs_list PySem.F.slot_list_append PySem.F.type_list_append mt_append (pv 9) (pa_cons (pv 8) pa_nil)))) pss_nil)))))
      (pss_one (ps_ret (pe_callB (cr_sortedD hr.units) rfl T.sorted (by decide +kernel) (pa_cons (pv 9) pa_nil))))))))), ?_⟩
    have hok := ok
    generalize hfrd : freshL th kn = fr at hok
    have hfz : fr.length ≤ 16 := by
      rw [← hfrd]
      exact Nat.le_trans (List.length_filter_le _ _) ok.tz
    have hbd : ∀ i, (callsL es fr (kn.take i)).length ≤ 1000 := by
      have := ok.bd
      rwa [hfrd] at this
    have hfd : foundL es th kn = (callsL es fr kn).filter (goodL es fr kn) := by unfold foundL; rw [hfrd]
    have hso := ok.so
    rw [hfd] at hso k
    refine q_asgL (xs := fr.map nV) (hfrd ▸ el_filter (fun i => !decide (i ∈ kn)) (ev_var rfl) ht (by have := ok.tz; omega) (fun _ => rfl) (fun _ => rfl) fun n H1 _ e => et_test (ev_ninT (ev_var rfl) (ev_var rfl) (ex_t e hk))) fun fl H1 hfl q1 hfl1 => ?_
    show tSeq _ _ _ [some v, some (.ref ka), some (.ref ta), none, some (.ref fl), none, none, none, none, none, none, none, none, none] H1
    refine q_asgLP (Pl := fun xs H' => ∃ y, xs = [y] ∧ RdAt K H' y []) (evl_one (P := fun y H' => RdAt K H' y []) evp_rd0 mo_rd) fun l0 xs0 H2 hl0 q2 hl02 hP => ?_
    obtain ⟨y0, rfl, hy0⟩ := hP
    show tSeq _ _ _ [some v, some (.ref ka), some (.ref ta), none, some (.ref fl), some (.ref l0), none, none, none, none, none, none, none, none] H2
    have q12 := q1.trans q2
    let Pv : Addr → Nat → L2.St → Hp → Prop := fun sp i σ' H' => ∃ l xs o3 o6 o7 o8, σ' = [some v, some (.ref ka), some (.ref ta), o3, some (.ref fl), some (.ref l), o6, o7, o8, none, none, none, none, none] ∧ Ex H H' ∧ H l = none ∧ H' l = some (.lst xs) ∧ H' fl = some (.lst (fr.map nV)) ∧ (sp = sp → H' sp = some (.lst (kn.map nV)) ∨ i = kn.length + 1) ∧ Al2 (RdAt K H') xs (callsL es fr (kn.take i))
    refine q_forNLn (xs := kn.map nV) (el_sortedTI (ev_var rfl) (ex_t q12 hk) ok.asc) Pv (fun sp H3 hsp q3 hsp3 => ⟨l0, [y0], _, _, _, _, rfl, q12.trans q3, fresh_back q1 hl0, q3 _ _ hl02, (q2.trans q3) _ _ hfl1, fun _ => .inl hsp3, .one (hy0.keep (.of_ex q3))⟩) (fun sp i σ' H' hi pv => ?_) (fun sp i y σ' H' hy pv => ?_) fun sp σ' H' pv => ?_
    · obtain ⟨l, xs, o3, o6, o7, o8, rfl, qe, _, _, _, hsp, _⟩ := pv
      rw [List.length_map] at hi
      rcases hsp rfl with h | h
      · exact sq_of h
      · omega
    · obtain ⟨l, xs, o3, o6, o7, o8, rfl, qe, hlH, hlx, hfl', hsp, hal⟩ := pv
      rw [List.getElem?_map] at hy
      cases hc : kn[i]? with
      | none => rw [hc] at hy; cases hy
      | some c =>
      rw [hc] at hy
      have hy : nV c = y := by injection hy
      subst hy
      have hik : i < kn.length := (List.getElem?_eq_some_iff.mp hc).1
      have hsp : H' sp = some (.lst (kn.map nV)) := by
        rcases hsp rfl with h | h
        · exact h
        · omega
      have hb0 := hbd i
      have hb1 := hbd (i + 1)
      have htake := callsL_take (es := es) (fresh := fr) hc
      rw [htake] at hb1
      have hrl : ∀ r ∈ callsL es fr (kn.take i), r.length ≤ 16 := fun r h => by
        have h1 := callsL_len h
        have h2 : (kn.take i).length ≤ kn.length := by rw [List.length_take]; omega
        have h3 := ok.kz
        omega
      generalize hfd0 : callsL es fr (kn.take i) = fd0 at hal hb0 hb1 hrl htake
      have hlen := hal.length
      show tSeq _ _ _ [some v, some (.ref ka), some (.ref ta), o3, some (.ref fl), some (.ref l), some (nV c), o7, o8, none, none, none, none, none] H'
      refine q_asgL (xs := []) (el_lst ea_nil (by show (0 : Nat) ≤ 100000; decide)) fun l2 G0 hl2 q3 hl2x => ?_
      show tSeq _ _ _ [some v, some (.ref ka), some (.ref ta), o3, some (.ref fl), some (.ref l), some (nV c), some (.ref l2), o8, none, none, none, none, none] G0
      have hl2H : H l2 = none := fresh_back qe hl2
      have hl2l : l2 ≠ l := fun q => by rw [q, hlx] at hl2; cases hl2
      have hl2f : l2 ≠ fl := fun q => by rw [q, hfl'] at hl2; cases hl2
      let Pv2 : Nat → L2.St → Hp → Prop := fun j σ'' G => ∃ acc o3 o8, σ'' = [some v, some (.ref ka), some (.ref ta), o3, some (.ref fl), some (.ref l), some (nV c), some (.ref l2), o8, none, none, none, none, none] ∧ Ex H' G ∧ G l2 = some (.lst acc) ∧ Al2 (RdAt K G) acc ((fd0.take j).flatMap (stepL es fr c))
      refine q_forLn (a := l) (xs := xs) (ev_var rfl) (ex_l q3 (sq_of hlx)) Pv2 (fun G1 q4 => ⟨[], _, _, rfl, q3.trans q4, q4 _ _ hl2x, .nil⟩) (fun j σ'' G hj pv => ?_) (fun j y σ'' G hy pv => ?_) fun σ'' G pv => ?_
      · obtain ⟨acc, o3, o8, rfl, qq, _⟩ := pv
        exact ex_l qq (sq_of hlx)
      · obtain ⟨acc, o3, o8, rfl, qq, hacc, haccl⟩ := pv
        obtain ⟨r, hr0, hyr0⟩ := hal.get hy
        have hyr := hyr0.keep (.of_ex qq)
        have hrz := hrl r (List.mem_of_getElem? hr0)
        have hstep : (fd0.take (j + 1)).flatMap (stepL es fr c) = (fd0.take j).flatMap (stepL es fr c) ++ stepL es fr c r := by
          obtain ⟨hj, he⟩ := List.getElem?_eq_some_iff.mp hr0
          rw [List.take_succ_eq_append_getElem hj, he, List.flatMap_append]
          simp
        have hle : ((fd0.take (j + 1)).flatMap (stepL es fr c)).length ≤ 1000 := by
          have : fd0 = fd0.take (j + 1) ++ fd0.drop (j + 1) := (List.take_append_drop _ _).symm
          rw [this, List.flatMap_append, List.length_append] at hb1
          omega
        rw [hstep, List.length_append] at hle
        have hacl := haccl.length
        show tSeq _ _ _ [some v, some (.ref ka), some (.ref ta), o3, some (.ref fl), some (.ref l), some (nV c), some (.ref l2), some y, none, none, none, none, none] G
        refine q_app (v := y) hacc (ev_var rfl) (ev_var rfl) (by omega) fun G1 q4 => ?_
        have h1l2 : G1 l2 = some (.lst acc) := q4 _ _ hacc
        have tk1 : TK K G1 (upd G1 l2 (.lst (acc ++ [y]))) := TK.lst h1l2
        have ex1 : Ex H' (upd G1 l2 (.lst (acc ++ [y]))) := Ex.mut (qq.trans q4) hl2
        have hacc1 : Al2 (RdAt K (upd G1 l2 (.lst (acc ++ [y])))) (acc ++ [y]) ((fd0.take j).flatMap (stepL es fr c) ++ [r]) := (haccl.imp fun _ _ h => h.keep ((TK.of_ex q4).trans tk1)).append (.one (hyr.keep ((TK.of_ex q4).trans tk1)))
        have h1s : upd G1 l2 (.lst (acc ++ [y])) l2 = some (.lst (acc ++ [y])) := upd_same
        generalize upd G1 l2 (.lst (acc ++ [y])) = G2 at ex1 hacc1 h1s
        let Pv3 : Nat → L2.St → Hp → Prop := fun m σ3 G3 => ∃ acc3 o3, σ3 = [some v, some (.ref ka), some (.ref ta), o3, some (.ref fl), some (.ref l), some (nV c), some (.ref l2), some y, none, none, none, none, none] ∧ Ex H' G3 ∧ G3 l2 = some (.lst acc3) ∧ Al2 (RdAt K G3) acc3 ((fd0.take j).flatMap (stepL es fr c) ++ r :: ((fr.take m).filter (condL es c r)).map fun one => r ++ [(c, one)])
        refine s_forLn (a := fl) (xs := fr.map nV) (ev_var rfl) (ex_l ex1 (sq_of hfl')) Pv3 (fun G3 q5 => ⟨_, _, rfl, ex1.trans q5, q5 _ _ h1s, hacc1.imp fun _ _ h => h.keep (.of_ex q5)⟩) (fun m σ3 G3 hm pv => ?_) (fun m z σ3 G3 hz pv => ?_) fun σ3 G3 pv => ?_
        · obtain ⟨_, _, rfl, qq3, _⟩ := pv
          exact ex_l qq3 (sq_of hfl')
        · obtain ⟨acc3, o3', rfl, qq3, hacc3, hal3⟩ := pv
          rw [List.getElem?_map] at hz
          cases hone : fr[m]? with
          | none => rw [hone] at hz; cases hz
          | some one =>
          rw [hone] at hz
          have hz : nV one = z := by injection hz
          subst hz
          have hal3l := hal3.length
          have hmz : ((fr.take m).filter (condL es c r)).length ≤ 16 := by
            refine Nat.le_trans (List.length_filter_le _ _) ?_
            rw [List.length_take]
            omega
          rw [List.length_append, List.length_cons, List.length_map] at hal3l
          have hyr3 := hyr0.keep (.of_ex qq3)
          have htk : (fr.take (m + 1)).filter (condL es c r) = (fr.take m).filter (condL es c r) ++ [one].filter (condL es c r) := by
            obtain ⟨hj, he⟩ := List.getElem?_eq_some_iff.mp hone
            rw [List.take_succ_eq_append_getElem hj, he, List.filter_append]
          show tIfS _ _ _ _ [some v, some (.ref ka), some (.ref ta), some (nV one), some (.ref fl), some (.ref l), some (nV c), some (.ref l2), some y, none, none, none, none, none] G3
          obtain ⟨ya, ys, rfl, hya, hyl⟩ := id hyr3
          refine s_when (b := condL es c r one) (et_and (et_B (ev_call (ea_cons (ev_var rfl) (ea_cons (ev_var rfl) (ea_cons (ev_var rfl) ea_nil))) (sv_near (hw.keep (.of_ex (qe.trans qq3)))))) fun _ => et_test (ev_ninN (ev_var rfl) (el_parts (·.2) (ev_var rfl) hya hyl (by omega) (fun _ => rfl) (fun _ => rfl) fun e => rfl))) (fun hg G4 q6 => ?_) fun hg G4 q6 => ?_
          · refine s_appP (P := fun v' H2 => RdAt K H2 v' (r ++ [(c, one)])) (q6 _ _ hacc3) (ev_var rfl) (evp_cat ((Bz.Ev.p (v := .ref ya) (ev_var rfl)).imp fun v' G5 e hv => by subst hv; exact hyr3.keep (.of_ex (q6.trans e))) (evp_rd1 (evp_pr (ev_var rfl) (ev_var rfl))) (by simp; omega)) (by omega) fun v' G5 q7 hv' => ?_
            have h5 : G5 l2 = some (.lst acc3) := (q6.trans q7) _ _ hacc3
            have tk5 : TK K G5 (upd G5 l2 (.lst (acc3 ++ [v']))) := TK.lst h5
            refine ⟨acc3 ++ [v'], _, rfl, Ex.mut ((qq3.trans q6).trans q7) hl2, upd_same, ?_⟩
            have : [one].filter (condL es c r) = [one] := by simp [hg]
            rw [htk, this, List.map_append]
            have e2 : (fd0.take j).flatMap (stepL es fr c) ++ r :: (((fr.take m).filter (condL es c r)).map (fun one => r ++ [(c, one)]) ++ [one].map fun one => r ++ [(c, one)]) = ((fd0.take j).flatMap (stepL es fr c) ++ r :: ((fr.take m).filter (condL es c r)).map (fun one => r ++ [(c, one)])) ++ [r ++ [(c, one)]] := by simp
            rw [e2]
            exact (hal3.imp fun _ _ h => h.keep ((TK.of_ex (q6.trans q7)).trans tk5)).append (.one (hv'.keep tk5))
          · refine ⟨acc3, _, rfl, qq3.trans q6, q6 _ _ hacc3, ?_⟩
            have : [one].filter (condL es c r) = [] := by simp [hg]
            rw [htk, this, List.append_nil]
            exact hal3.imp fun _ _ h => h.keep (.of_ex q6)
        · obtain ⟨acc3, o3', rfl, qq3, hacc3, hal3⟩ := pv
          rw [List.length_map, List.take_length] at hal3
          refine ⟨acc3, _, _, rfl, qq3, hacc3, ?_⟩
          rw [hstep]
          exact hal3
      · obtain ⟨acc, o3', o8', rfl, qq, hacc, haccl⟩ := pv
        rw [hlen, List.take_length] at haccl
        refine s_asg (v := .ref l2) (ev_var rfl) fun G1 q4 => ⟨l2, acc, _, _, _, _, rfl, (qe.trans qq).trans q4, hl2H, q4 _ _ hacc, (qq.trans q4) _ _ hfl', fun _ => .inl ((qq.trans q4) _ _ hsp), ?_⟩
        rw [htake]
        exact haccl.imp fun _ _ h => h.keep (.of_ex q4)
    · obtain ⟨l, xs, o3, o6, o7, o8, rfl, qe, hlH, hlx, hfl', _, hal⟩ := pv
      rw [List.length_map, List.take_length] at hal
      have hb0 : (callsL es fr kn).length ≤ 1000 := by
        have := hbd kn.length
        rwa [List.take_length] at this
      have hrl : ∀ r ∈ callsL es fr kn, r.length ≤ 16 := fun r h => by
        have h1 := callsL_len h
        have h3 := ok.kz
        omega
      generalize hfd0 : callsL es fr kn = fd0 at hal hb0 hrl k hso
      have hlen := hal.length
      refine q_asgL (xs := []) (el_lst ea_nil (by show (0 : Nat) ≤ 100000; decide)) fun lg G0 hlg q3 hlgx => ?_
      show tSeq _ _ _ [some v, some (.ref ka), some (.ref ta), o3, some (.ref fl), some (.ref l), o6, o7, o8, some (.ref lg), none, none, none, none] G0
      have hlgH : H lg = none := fresh_back qe hlg
      let Pv2 : Nat → L2.St → Hp → Prop := fun j σ'' G => ∃ acc o3 o8 o10 o11, σ'' = [some v, some (.ref ka), some (.ref ta), o3, some (.ref fl), some (.ref l), o6, o7, o8, some (.ref lg), o10, o11, none, none] ∧ Ex H' G ∧ G lg = some (.lst acc) ∧ Al2 (RdAt K G) acc ((fd0.take j).filter (goodL es fr kn))
      refine q_forLn (a := l) (xs := xs) (ev_var rfl) (ex_l q3 (sq_of hlx)) Pv2 (fun G1 q4 => ⟨[], _, _, _, _, rfl, q3.trans q4, q4 _ _ hlgx, .nil⟩) (fun j σ'' G hj pv => ?_) (fun j y σ'' G hy pv => ?_) fun σ'' G pv => ?_
      · obtain ⟨acc, o3, o8, o10, o11, rfl, qq, _⟩ := pv
        exact ex_l qq (sq_of hlx)
      · obtain ⟨acc, o3, o8, o10, o11, rfl, qq, hacc, haccl⟩ := pv
        obtain ⟨r, hr0, hyr0⟩ := hal.get hy
        have hyr := hyr0.keep (.of_ex qq)
        have hrz := hrl r (List.mem_of_getElem? hr0)
        have hacl := haccl.length
        have hfz2 : ((fd0.take j).filter (goodL es fr kn)).length ≤ 1000 := by
          refine Nat.le_trans (List.length_filter_le _ _) ?_
          rw [List.length_take]
          omega
        have htk : (fd0.take (j + 1)).filter (goodL es fr kn) = (fd0.take j).filter (goodL es fr kn) ++ [r].filter (goodL es fr kn) := by
          obtain ⟨hj, he⟩ := List.getElem?_eq_some_iff.mp hr0
          rw [List.take_succ_eq_append_getElem hj, he, List.filter_append]
        obtain ⟨ya, ys, rfl, hya, hyl⟩ := id hyr
        show tSeq _ _ _ [some v, some (.ref ka), some (.ref ta), o3, some (.ref fl), some (.ref l), o6, o7, some (.ref ya), some (.ref lg), o10, o11, none, none] G
        refine q_asgL (xs := (leftL fr r).map nV) (el_filter (fun one => !decide (one ∈ r.map (·.2))) (ev_var rfl) (sq_of (qq _ _ hfl')) (by omega) (fun _ => rfl) (fun _ => rfl) fun n G1 _ e => et_test (ev_ninN (ev_var rfl) (el_parts (·.2) (ev_var rfl) (ex_t e hya) (hyl.imp fun _ _ h => h.keep (.of_ex e)) (by omega) (fun _ => rfl) (fun _ => rfl) fun e => rfl))) fun ll G1 _ q4 hll => ?_
        show tSeq _ _ _ [some v, some (.ref ka), some (.ref ta), o3, some (.ref fl), some (.ref l), o6, o7, some (.ref ya), some (.ref lg), some (.ref ll), o11, none, none] G1
        refine q_asgL (xs := (idleL kn r).map nV) (el_filterT (fun one => !decide (one ∈ r.map fun e : Nat × Nat => e.1)) (ev_var rfl) (ex_t ((qe.trans qq).trans q4) hk) (by have := ok.kz; omega) (fun _ => rfl) (fun _ => rfl) fun n G2 _ e => et_test (ev_ninN (ev_var rfl) (el_parts (n := 0) (·.1) (ev_var rfl) (ex_t (q4.trans e) hya) (hyl.imp fun _ _ h => h.keep (.of_ex (q4.trans e))) (by omega) (fun _ => rfl) (fun _ => rfl) fun e => rfl))) fun li G2 _ q5 hli => ?_
        show tIfS _ _ _ _ [some v, some (.ref ka), some (.ref ta), o3, some (.ref fl), some (.ref l), o6, o7, some (.ref ya), some (.ref lg), some (.ref ll), some (.ref li), none, none] G2
        have hzl : (leftL fr r).length ≤ 16 := Nat.le_trans (List.length_filter_le _ _) hfz
        have hzi : (idleL kn r).length ≤ 16 := Nat.le_trans (List.length_filter_le _ _) ok.kz
        refine s_when (b := goodL es fr kn r) ?_ (fun hg G3 q6 => ?_) fun hg G3 q6 => ?_
        · unfold goodL
          refine et_not (et_B (ev_is (ev_any (bs := (idleL kn r).map fun i => (leftL fr r).any fun j => nearL es i j) ?_) (by rw [List.any_map]; rfl)))
          refine fun G3 q6 => el_is ?_ (el_lcN (fun _ => true) (fun i => .bl ((leftL fr r).any fun j => nearL es ((idleL kn r).getD i 0) j)) (wi_list (xs := (idleL kn r).map nV) (ev_var rfl) (sq_of hli)) (by rw [List.length_map]; omega) (fun _ => rfl) fun i z G4 q7 hi hY => ⟨et_yes, fun _ => ?_⟩) G3 q6
          · rw [given_all, List.length_map, map_getD (idleL kn r) 0 (fun i => V.bl ((leftL fr r).any fun j => nearL es i j)), List.map_map]
            rfl
          · rw [List.length_map] at hi
            rw [List.getElem?_map, at_getD 0 hi] at hY
            generalize (idleL kn r).getD i 0 = one at hY
            have hY : nV one = z := by injection hY
            subst hY
            refine ev_is (ev_any (bs := (leftL fr r).map fun j => nearL es one j) ?_) (by rw [List.any_map]; rfl)
            refine fun G5 q8 => el_is ?_ (el_lcN (fun _ => true) (fun j => .bl (nearL es one ((leftL fr r).getD j 0))) (wi_list (xs := (leftL fr r).map nV) (ev_var rfl) (sq_of ((q5.trans q7) _ _ hll))) (by rw [List.length_map]; omega) (fun _ => rfl) fun j z G6 q9 hj hY => ⟨et_yes, fun _ => ?_⟩) G5 q8
            · rw [given_all, List.length_map, map_getD (leftL fr r) 0 (fun j => V.bl (nearL es one j)), List.map_map]
              rfl
            · rw [List.length_map] at hj
              rw [List.getElem?_map, at_getD 0 hj] at hY
              generalize (leftL fr r).getD j 0 = other at hY
              have hY : nV other = z := by injection hY
              subst hY
              exact ev_call (ea_cons (ev_var rfl) (ea_cons (ev_var rfl) (ea_cons (ev_var rfl) ea_nil))) (sv_near (hw.keep (.of_ex (((((qe.trans qq).trans q4).trans q5).trans q7).trans q9))))
        · refine s_app (v := .ref ya) ((q4.trans (q5.trans q6)) _ _ hacc) (ev_var rfl) (ev_var rfl) (by omega) fun G4 q7 => ?_
          have q47 : Ex G G4 := (q4.trans (q5.trans q6)).trans q7
          have h4 : G4 lg = some (.lst acc) := q47 _ _ hacc
          have tk4 : TK K G4 (upd G4 lg (.lst (acc ++ [.ref ya]))) := TK.lst h4
          refine ⟨acc ++ [.ref ya], _, _, _, _, rfl, Ex.mut (qq.trans q47) hlg, upd_same, ?_⟩
          have : [r].filter (goodL es fr kn) = [r] := by simp [hg]
          rw [htk, this]
          exact (haccl.imp fun _ _ h => h.keep ((TK.of_ex q47).trans tk4)).append (.one (hyr.keep ((TK.of_ex q47).trans tk4)))
        · have q46 : Ex G G3 := q4.trans (q5.trans q6)
          refine ⟨acc, _, _, _, _, rfl, qq.trans q46, q46 _ _ hacc, ?_⟩
          have : [r].filter (goodL es fr kn) = [] := by simp [hg]
          rw [htk, this, List.append_nil]
          exact haccl.imp fun _ _ h => h.keep (.of_ex q46)
      · obtain ⟨acc, o3', o8', o10, o11, rfl, qq, hacc, haccl⟩ := pv
        rw [hlen, List.take_length] at haccl
        exact elp_sortedV (ev_var rfl) (sq_of hacc) haccl hso G (Ex.refl _) _ fun p ys G1 hp q4 hp1 hd => k p ys G1 (fresh_back (qe.trans qq) hp) ((qe.trans qq).trans q4) hp1 hd
end
end Bz

set_option maxHeartbeats 2000000
namespace Bz
open PySem PySem.Spec PyProof.Rows L2 Evl
/-! ### _law_told, _law_part -/
def spTold (K : PySem.W.Frag) (CW : Addr) : Sp := fun vs H Q _ => ∃ (x : Addr) (v : V) (t : Th) (p : Nat) (es : Rd), vs = [.ref x, v] ∧ WebAt K CW H x p es ∧ ThR K CW H v t ∧ p ≤ 16 ∧ (t.lot (p : Int) = false ∨ t = .tup []) ∧ RetV (.str "lot") H Q
abbrev nmTold : List Str := ["_law_web_here", "_law_knowing", "_law_told_here"]
theorem scTold : FnScope nmTold ["_law_web_here", "_law_knowing"] (defScope sTold) := ⟨rfl, rfl, rfl, by decide +kernel, rfl, by decide +kernel, by decide +kernel⟩
def spPart (K : PySem.W.Frag) (CW : Addr) : Sp := fun vs H Q _ => ∃ (vp vt : V) (tp tt : Th) (z : Str), vs = [vp, vt] ∧ ThR K CW H vp tp ∧ ThR K CW H vt tt ∧ ((tp.within 1 9 = false ∧ z = "people") ∨ (tp.within 1 9 = true ∧ tt.ties tp.i = false ∧ z = "ties")) ∧ RetV (.str z) H Q
abbrev nmPart : List Str := ["_law_people", "_law_ties", "_law_told_here", "e"]
theorem scPart : FnScope nmPart ["_law_people", "_law_ties"] (defScope sPart) := ⟨rfl, rfl, rfl, by decide +kernel, rfl, by decide +kernel, by decide +kernel⟩
theorem q_tryS {sp : Sp} {E : Ends → L2.St → XK} {ta : TA} {i : Nat} {D : Ends} {tz : TS} {σ : L2.St} {H : Hp} {vs : List V} (hA : EvA ta σ H vs) (h : ∀ H1, Ex H H1 → sp vs H1 (fun v H2 => tz D (σ.set i (some v)) H2) (E { D with nx := tz D } σ)) :
    tSeq (fun D σ H => tAsg (tCallS sp (E D) ta) (gName i) D σ H) tz D σ H := hA H (Ex.refl _) _ h
theorem q_tryM {C : Addr} {sp : Sp} {E : Ends → L2.St → XK} {ta : TA} {D : Ends} {tz : TS} {σ : L2.St} {H : Hp} {vs : List V} (hA : EvA ta σ H vs)
    (h : ∀ H1, Ex H H1 → ∀ x dx, H1 x = none → H1 dx = none → dx ≠ x → sp (.ref x :: vs) (upd (upd H1 dx (.own x)) x (.ins C dx [])) (fun v H2 => v = .non ∧ tz D σ H2) (E { D with nx := tz D } σ)) :
    tSeq (fun D σ H => tDrop (tMakeS C sp (E D) ta) D σ H) tz D σ H := hA H (Ex.refl _) _ h
section
variable {w : World} {K : PySem.W.Frag} {mg : Str → Option Value} {base : Heap} {CW CB CN : Addr}
theorem ok_told {f fR : Addr} {fd fdR : FuncData} (F : FnP K "_law_told" sTold f fd) (T : Txt K mg CW CB CN) (FR : FnP K "rounds_from" sRounds fR fdR) (gR : mg "rounds_from" = some (.ref fR)) (GR : FnOk pwB w K mg base (L2.CX pwB w) 4 fR fdR ["web", "knowing"] (spRounds K CW CN)) :
    FnOk pwB w K mg base CX0 5 f fd ["_law_web_here", "_law_knowing"] (spTold K CW) := by
  have bR : Binds K fdR ["web", "knowing"] [] := FR.bindsN fun _ _ _ _ _ _ us hl => match us, hl with | [_, _], _ => rfl
  refine F.ok scTold (fun vs H Q E h => ?_) (fun cdv A outer s H vs Q E hr h => ?_)
  · obtain ⟨x, v, t, p, es, rfl, _⟩ := h
    rfl
  · obtain ⟨x, v, t, p, es, rfl, hw, ht, hp, hbad, k⟩ := h
    refine ⟨_, PSs.nox (pss_cons (ps_asg pe_str (pg_name (i := 2) scTold.nd rfl (.inl rfl)))
      (pss_cons (ps_try_only rfl rfl ⟨rfl, by decide, .inl T.gN⟩ takes0 (fun W pn xe tk _ => pss_one (ps_asg (pe_callS GR hr rfl gR FR.kp bR (fun σ => passAt tk σ) (pa_cons (pv 0) (pa_cons (pv 1) pa_nil))) (pg_name (i := 2) scTold.nd rfl (.inl rfl))))
        (fun a oe cls d pn _ _ => pss_one (ps_asg pe_str (pg_name (i := 2) scTold.nd rfl (.inl rfl)))))
      (pss_one (ps_ret (pv 2))))), ?_⟩
    refine q_asg (v := .str "lot") ev_c fun H1 q1 => ?_
    have hA : EvA (tCons (tVar 0) (tCons (tVar 1) tNil)) [some (.ref x), some v, some (.str "lot")] H1 [.ref x, v] := ea_cons (ev_var rfl) (ea_cons (ev_var rfl) ea_nil)
    refine q_tryS hA fun H2 q2 => ⟨x, v, t, p, es, rfl, hw.mono (q1.trans q2), ht.mono (q1.trans q2), hp, .inl ⟨hbad, fun H3 q3 => ⟨true, T.exmN, fun _ a ha => ?_, fun z => Bool.noConfusion z⟩⟩⟩
    refine s_asg (v := .str "lot") ev_c fun H4 q4 => ?_
    exact s_ret (v := .str "lot") (ev_var rfl) fun H5 q5 => k.go ((((q1.trans q2).trans q3).trans q4).trans q5)
theorem ok_part {f fI : Addr} {fd fdI : FuncData} (F : FnP K "_law_part" sPart f fd) (T : Txt K mg CW CB CN) (M : Mk K CW fI) (FI : FnM K "__init__" "Web.__init__" sWeb fI fdI) (GI : FnOk pwB w K mg base (L2.CX pwB w) 5 fI fdI ["self", "people", "ties"] (spWeb K CW CB)) :
    FnOk pwB w K mg base CX0 7 f fd ["_law_people", "_law_ties"] (spPart K CW) := by
  have bI : Binds K fdI ["self", "people", "ties"] [] := FI.bindsN fun _ _ _ _ _ _ us hl => match us, hl with | [_, _, _], _ => rfl
  refine F.ok scPart (fun vs H Q E h => ?_) (fun cdv A outer s H vs Q E hr h => ?_)
  · obtain ⟨vp, vt, tp, tt, z, rfl, _⟩ := h
    rfl
  · obtain ⟨vp, vt, tp, tt, z, rfl, hp, ht, hbad, k⟩ := h
    refine ⟨_, PSs.nox (pss_cons (ps_asg pe_str (pg_name (i := 2) scPart.nd rfl (.inl rfl)))
      (pss_cons (ps_try_as (i := 3) rfl rfl scPart.nd rfl rfl ⟨rfl, by decide, .inl T.gB⟩ takes0 (fun W pn xe tk _ => pss_one (ps_expr (pe_makeS M GI hr rfl T.gW bI (fun σ => passAt tk σ) (pa_cons (pv 0) (pa_cons (pv 1) pa_nil)))))
        (fun a oe cls d pn hz hf => pss_one (ps_asg (pe_xf T.xfB T.nPart hz hf (pv 3)) (pg_name (i := 2) scPart.nd rfl (.inl rfl)))))
      (pss_one (ps_ret (pv 2))))), ?_⟩
    refine q_asg (v := .str "let") ev_c fun H1 q1 => ?_
    have hA : EvA (tCons (tVar 0) (tCons (tVar 1) tNil)) [some vp, some vt, some (.str "let"), none] H1 [vp, vt] := ea_cons (ev_var rfl) (ea_cons (ev_var rfl) ea_nil)
    refine q_tryM hA fun H2 q2 x dx hx hdx hne => ?_
    have eN : Ex H (upd (upd H2 dx (.own x)) x (.ins CW dx [])) := (q1.trans q2).trans ((Ex.new hdx).trans (Ex.new (by rw [upd_ne (Ne.symm hne)]; exact hx)))
    have fin : RaiseP CB z (upd (upd H2 dx (.own x)) x (.ins CW dx [])) (fun cls d H' => ∃ b, PySem.W.exmOne K cls (.ref CB) = some b ∧ (b = true → ∀ a, H' a = none → tAsg (tXf a cls d CB "part" (tVar 3)) (gName 2) { nx := fun σ' H' => tRet (tVar 2) { nx := fun _ H' => Q .non H', rt := Q } (σ'.set 3 none) H', rt := Q } [some vp, some vt, some (.str "let"), some (.ref a)] H') ∧ (b = false → False)) := fun d H3 q3 hd => by
      refine ⟨true, T.exmB, fun _ a ha => ?_, fun z => Bool.noConfusion z⟩
      refine ⟨.ref a, rfl, rfl, rfl, d, _, .str z, rfl, hd, rfl, ?_⟩
      exact s_ret (v := .str z) (ev_var rfl) fun H4 q4 => k.go ((eN.trans q3).trans q4)
    refine ⟨x, dx, vp, vt, tp, tt, rfl, upd_same, hp.mono eN, ht.mono eN, ?_⟩
    rcases hbad with ⟨hb, rfl⟩ | ⟨hb1, hb2, rfl⟩
    · exact .inl ⟨hb, fin⟩
    · exact .inr (.inl ⟨hb1, hb2, fin⟩)
end
end Bz

set_option maxHeartbeats 2000000
namespace Bz
open PySem PySem.Spec PyProof.Rows L2 Evl
/-! ### plain: what rounds_from gives and what the law's own search gives -/
theorem asc_ext {l m : List Nat} (hl : l.Pairwise (· < ·)) (hm : m.Pairwise (· < ·)) (h : ∀ x, x ∈ l ↔ x ∈ m) : l = m := by
  have nl : l.Nodup := hl.imp fun h q => by omega
  have nm : m.Nodup := hm.imp fun h q => by omega
  have hp : l.Perm m := (List.perm_ext_iff_of_nodup nl nm).mpr h
  exact hp.eq_of_pairwise (le := fun a b => a < b) (fun a b _ _ h k => by omega) hl hm
theorem bitsN_asc (m : Nat) : (bitsN m).Pairwise (· < ·) := List.Pairwise.filter _ (List.pairwise_lt_range)
theorem asc_nodup {l : List Nat} (h : l.Pairwise (· < ·)) : l.Nodup := h.imp fun h q => by omega
theorem set_getD (l : List Nat) (a i v : Nat) (ha : a < l.length) : (l.set a v).getD i 0 = if i = a then v else l.getD i 0 := by
  rw [List.getD_eq_getElem?_getD, List.getD_eq_getElem?_getD, List.getElem?_set]
  by_cases h : a = i
  · subst h
    rw [if_pos rfl, if_pos rfl, if_pos ha]
    rfl
  · rw [if_neg h, if_neg (fun q => h q.symm)]
theorem keptStep_bit {p : Nat} {ks : List Nat} {e : Nat × Nat} (hk : ks.length = p) (h1 : e.1 < e.2) (h2 : e.2 < p) (i j : Nat) : ((keptStep ks e).getD i 0).testBit j = ((ks.getD i 0).testBit j || decide ((min i j, max i j) = e)) := by
  obtain ⟨a, b⟩ := e
  simp only at h1 h2
  unfold keptStep
  simp only
  rw [set_getD _ b i _ (by rw [List.length_set]; omega), set_getD ks a b _ (by omega), set_getD ks a i _ (by omega), if_neg (by omega : ¬ b = a)]
  by_cases hb : i = b
  · subst hb
    rw [if_pos rfl, Nat.testBit_or, pow_bit]
    congr 1
    by_cases hj : j = a
    · subst hj
      rw [decide_eq_true rfl, decide_eq_true]
      rw [Nat.min_eq_right (by omega), Nat.max_eq_left (by omega)]
    · rw [decide_eq_false hj, decide_eq_false]
      intro q
      have q1 := (Prod.mk.inj q).1
      have q2 := (Prod.mk.inj q).2
      omega
  · rw [if_neg hb]
    by_cases ha : i = a
    · subst ha
      rw [if_pos rfl, Nat.testBit_or, pow_bit]
      congr 1
      by_cases hj : j = b
      · subst hj
        rw [decide_eq_true rfl, decide_eq_true]
        rw [Nat.min_eq_left (by omega), Nat.max_eq_right (by omega)]
      · rw [decide_eq_false hj, decide_eq_false]
        intro q
        have q1 := (Prod.mk.inj q).1
        have q2 := (Prod.mk.inj q).2
        omega
    · rw [if_neg ha, decide_eq_false, Bool.or_false]
      intro q
      have q1 := (Prod.mk.inj q).1
      have q2 := (Prod.mk.inj q).2
      omega
theorem kept_bit_go {p : Nat} (i j : Nat) : ∀ (es : Rd) (ks : List Nat), ks.length = p → EsOk p es → ((es.foldl keptStep ks).getD i 0).testBit j = ((ks.getD i 0).testBit j || nearL es i j)
  | [], ks, _, _ => by simp [nearL]
  | e :: es, ks, hk, ok => by
    have h := ok e (List.mem_cons_self ..)
    rw [List.foldl_cons, kept_bit_go i j es (keptStep ks e) (by rw [keptStep_len]; exact hk) (fun f hf => ok f (List.mem_cons_of_mem _ hf)), keptStep_bit hk h.1 h.2, Bool.or_assoc]
    congr 1
    unfold nearL
    rw [← Bool.decide_or]
    congr 1
    simp
theorem kept_bit {p : Nat} {es : Rd} (ok : EsOk p es) (i j : Nat) : ((keptOf p es).getD i 0).testBit j = nearL es i j := by
  unfold keptOf
  rw [kept_bit_go i j es _ (by simp) ok]
  have : (List.replicate p 0).getD i 0 = 0 := by
    rw [List.getD_eq_getElem?_getD, List.getElem?_replicate]
    split <;> rfl
  rw [this, Nat.zero_testBit, Bool.false_or]
theorem keptOf_len (p : Nat) (es : Rd) : (keptOf p es).length = p := by
  unfold keptOf
  rw [kept_len, List.length_replicate]
section
variable {p : Nat} {es : Rd} {kn : List Nat}
/-- who knows: ascending, of the web's people -/
structure Kn (p : Nat) (kn : List Nat) : Prop where
  asc : kn.Pairwise (· < ·)
  lt : ∀ n ∈ kn, n < p
theorem Kn.mask_bit (h : Kn p kn) (i : Nat) : (maskN kn).testBit i = decide (i ∈ kn) := maskN_bit (asc_nodup h.asc) i
theorem Kn.mask_lt (h : Kn p kn) (hp : p ≤ 16) : maskN kn < 2 ^ 16 := lt_of_bits fun i hi => by
  rw [h.mask_bit] at hi
  have := h.lt i (by simpa using hi)
  omega
theorem Kn.bits (h : Kn p kn) (hp : p ≤ 16) : bitsN (maskN kn) = kn := asc_ext (bitsN_asc _) h.asc fun x => by
  rw [mem_bitsN (h.mask_lt hp), h.mask_bit]
  simp
theorem mem_fresh {th : List Nat} {i : Nat} : i ∈ freshL th kn ↔ i ∈ th ∧ i ∉ kn := by
  unfold freshL
  rw [List.mem_filter]
  simp
theorem fresh_asc (p : Nat) (kn : List Nat) : (freshL (List.range p) kn).Pairwise (· < ·) := List.Pairwise.filter _ (List.pairwise_lt_range)
theorem full_bit (p i : Nat) : (2 ^ p - 1).testBit i = decide (i < p) := Nat.testBit_two_pow_sub_one p i
theorem full_lt (hp : p ≤ 16) (a : Nat) : lessN (2 ^ p - 1) a < 2 ^ 16 := by
  have h1 := lessN_le (2 ^ p - 1) a
  have h2 : 2 ^ p ≤ 2 ^ 16 := Nat.pow_le_pow_right (by decide) hp
  have h3 : 1 ≤ 2 ^ p := Nat.one_le_two_pow
  omega
/-- the mask tells who is left -/
def LeftIs (fr : List Nat) (cl : Cl) : Prop := ∀ j, cl.2.testBit j = (decide (j ∈ fr) && !decide (j ∈ cl.1.map (·.2)))
theorem Kn.left0 (h : Kn p kn) : LeftIs (freshL (List.range p) kn) ([], lessN (2 ^ p - 1) (maskN kn)) := fun j => by
  show (lessN (2 ^ p - 1) (maskN kn)).testBit j = _
  rw [lessN_bit, full_bit, h.mask_bit]
  simp only [List.map_nil, List.not_mem_nil, decide_false, Bool.not_false, Bool.and_true]
  by_cases h1 : j < p <;> by_cases h2 : j ∈ kn <;> simp [mem_fresh, h1, h2]
theorem left_lt {fr : List Nat} {cl : Cl} (hf : ∀ j ∈ fr, j < 16) (h : LeftIs fr cl) : cl.2 < 2 ^ 16 := lt_of_bits fun j hj => by
  rw [h j] at hj
  exact hf j (by simpa using (Bool.and_eq_true_iff.mp hj).1)
theorem some_is (ok : EsOk p es) {fr : List Nat} (hf : ∀ j ∈ fr, j < 16) (fa : fr.Pairwise (· < ·)) {c : Nat} {cl : Cl} (h : LeftIs fr cl) : bitsN ((keptOf p es).getD c 0 &&& cl.2) = fr.filter (condL es c cl.1) :=
  asc_ext (bitsN_asc _) (List.Pairwise.filter _ fa) fun x => by
    rw [mem_bitsN (Nat.lt_of_le_of_lt Nat.and_le_right (left_lt hf h)), Nat.testBit_and, kept_bit ok, h x, List.mem_filter]
    unfold condL
    by_cases h1 : x ∈ fr <;> by_cases h2 : x ∈ cl.1.map (·.2) <;> simp [h1, h2]
theorem step_is (ok : EsOk p es) {fr : List Nat} (hf : ∀ j ∈ fr, j < 16) (fa : fr.Pairwise (· < ·)) {c : Nat} {cl : Cl} (h : LeftIs fr cl) :
    (stepP (keptOf p es) c cl).map (·.1) = stepL es fr c cl.1 ∧ ∀ cl' ∈ stepP (keptOf p es) c cl, LeftIs fr cl' := by
  unfold stepP stepL
  rw [some_is ok hf fa h]
  refine ⟨by rw [List.map_cons, List.map_map]; rfl, fun cl' hc => ?_⟩
  rcases List.mem_cons.mp hc with rfl | hc
  · exact h
  · obtain ⟨one, _, rfl⟩ := List.mem_map.mp hc
    intro j
    show (lessN cl.2 (2 ^ one)).testBit j = _
    rw [lessN_bit, pow_bit, h j]
    simp only [List.map_append, List.map_cons, List.map_nil, List.mem_append, List.mem_singleton]
    by_cases h1 : j ∈ cl.1.map (·.2) <;> by_cases h2 : j = one <;> by_cases h3 : j ∈ fr <;> simp [h1, h2, h3]
theorem flat_is (ok : EsOk p es) {fr : List Nat} (hf : ∀ j ∈ fr, j < 16) (fa : fr.Pairwise (· < ·)) (c : Nat) : ∀ found : List Cl, (∀ cl ∈ found, LeftIs fr cl) →
    (found.flatMap (stepP (keptOf p es) c)).map (·.1) = (found.map (·.1)).flatMap (stepL es fr c) ∧ ∀ cl ∈ found.flatMap (stepP (keptOf p es) c), LeftIs fr cl
  | [], _ => ⟨rfl, fun _ h => absurd h (by simp)⟩
  | cl :: found, h => by
    obtain ⟨h1, h2⟩ := step_is ok hf fa (c := c) (h cl (List.mem_cons_self ..))
    obtain ⟨h3, h4⟩ := flat_is ok hf fa c found fun cl h' => h cl (List.mem_cons_of_mem _ h')
    refine ⟨by rw [List.flatMap_cons, List.map_append, h1, h3, List.map_cons, List.flatMap_cons], fun cl' hc => ?_⟩
    rw [List.flatMap_cons] at hc
    rcases List.mem_append.mp hc with hc | hc
    · exact h2 _ hc
    · exact h4 _ hc
theorem calls_go (ok : EsOk p es) {fr : List Nat} (hf : ∀ j ∈ fr, j < 16) (fa : fr.Pairwise (· < ·)) : ∀ (cs : List Nat) (found : List Cl), (∀ cl ∈ found, LeftIs fr cl) →
    (cs.foldl (fun found c => found.flatMap (stepP (keptOf p es) c)) found).map (·.1) = cs.foldl (fun found c => found.flatMap (stepL es fr c)) (found.map (·.1)) ∧ ∀ cl ∈ cs.foldl (fun found c => found.flatMap (stepP (keptOf p es) c)) found, LeftIs fr cl
  | [], found, h => ⟨rfl, h⟩
  | c :: cs, found, h => by
    obtain ⟨h1, h2⟩ := flat_is ok hf fa c found h
    obtain ⟨h3, h4⟩ := calls_go ok hf fa cs _ h2
    exact ⟨by rw [List.foldl_cons, h3, h1, List.foldl_cons], by rw [List.foldl_cons]; exact h4⟩
theorem fresh_lt (hp : p ≤ 16) : ∀ j ∈ freshL (List.range p) kn, j < 16 := fun j hj => by
  have := List.mem_range.mp (mem_fresh.mp hj).1
  omega
theorem calls_is (ok : EsOk p es) (h : Kn p kn) (hp : p ≤ 16) (cs : List Nat) :
    (callsP (keptOf p es) cs (lessN (2 ^ p - 1) (maskN kn))).map (·.1) = callsL es (freshL (List.range p) kn) cs ∧ ∀ cl ∈ callsP (keptOf p es) cs (lessN (2 ^ p - 1) (maskN kn)), LeftIs (freshL (List.range p) kn) cl :=
  calls_go ok (fresh_lt hp) (fresh_asc p kn) cs _ fun cl hc => by
    rw [List.mem_singleton] at hc
    subst hc
    exact h.left0
/-- who calls: each once -/
theorem callers_go {ks : List Nat} : ∀ (cs : List Nat) (found : List Cl), cs.Nodup → (∀ cl ∈ found, (cl.1.map (·.1)).Nodup ∧ ∀ x ∈ cl.1.map (·.1), x ∉ cs) → ∀ cl ∈ cs.foldl (fun found c => found.flatMap (stepP ks c)) found, (cl.1.map (·.1)).Nodup
  | [], found, _, h => fun cl hc => (h cl hc).1
  | c :: cs, found, hn, h => by
    rw [List.foldl_cons]
    have hn2 := List.nodup_cons.mp hn
    refine callers_go cs _ hn2.2 fun cl hc => ?_
    obtain ⟨cl0, h0, h1⟩ := List.mem_flatMap.mp hc
    obtain ⟨g1, g2⟩ := h cl0 h0
    unfold stepP at h1
    rcases List.mem_cons.mp h1 with rfl | h1
    · exact ⟨g1, fun x hx q => g2 x hx (List.mem_cons_of_mem _ q)⟩
    · obtain ⟨one, _, rfl⟩ := List.mem_map.mp h1
      simp only [List.map_append, List.map_cons, List.map_nil]
      refine ⟨?_, fun x hx q => ?_⟩
      · rw [List.nodup_append]
        refine ⟨g1, by simp, fun x hx y hy q => ?_⟩
        rw [List.mem_singleton] at hy
        exact g2 x hx (by rw [q, hy]; exact List.mem_cons_self ..)
      · rcases List.mem_append.mp hx with hx | hx
        · exact g2 x hx (List.mem_cons_of_mem _ q)
        · rw [List.mem_singleton] at hx
          rw [hx] at q
          exact hn2.1 q
theorem and_any {a : Nat} {fr : List Nat} {cl : Cl} (h : LeftIs fr cl) {q : Nat → Bool} (ha : ∀ j, a.testBit j = q j) : decide (a &&& cl.2 ≠ 0) = (leftL fr cl.1).any q := by
  by_cases h0 : a &&& cl.2 = 0
  · rw [decide_eq_false (fun k => k h0)]
    refine (List.any_eq_false.mpr fun j hj k => ?_).symm
    unfold leftL at hj
    rw [List.mem_filter] at hj
    have : (a &&& cl.2).testBit j = true := by
      rw [Nat.testBit_and, ha, k, h j, hj.2]
      simp [hj.1]
    rw [h0, Nat.zero_testBit] at this
    cases this
  · rw [decide_eq_true h0]
    obtain ⟨j, hj⟩ := Nat.exists_testBit_of_ne_zero h0
    rw [Nat.testBit_and, ha, h j] at hj
    obtain ⟨h1, h2⟩ := Bool.and_eq_true_iff.mp hj
    obtain ⟨h3, h4⟩ := Bool.and_eq_true_iff.mp h2
    refine (List.any_eq_true.mpr ⟨j, ?_, h1⟩).symm
    unfold leftL
    rw [List.mem_filter]
    exact ⟨by simpa using h3, h4⟩
theorem good_is (ok : EsOk p es) (h : Kn p kn) (hp : p ≤ 16) {fr : List Nat} {cl : Cl} (hl : LeftIs fr cl) (hn : (cl.1.map (·.1)).Nodup) : goodP (keptOf p es) (maskN kn) cl = goodL es fr kn cl.1 := by
  unfold goodP goodL
  have e : bitsN (lessN (maskN kn) (maskN (cl.1.map (·.1)))) = idleL kn cl.1 := asc_ext (bitsN_asc _) (List.Pairwise.filter _ h.asc) fun x => by
    rw [mem_bitsN (Nat.lt_of_le_of_lt (lessN_le _ _) (h.mask_lt hp)), lessN_bit, h.mask_bit, maskN_bit hn]
    unfold idleL
    rw [List.mem_filter]
    by_cases h1 : x ∈ kn <;> simp [h1]
  rw [e]
  congr 1
  congr 1
  funext c
  exact and_any hl fun j => kept_bit ok c j
theorem filter_map_eq {α β : Type} (f : α → β) (g : α → Bool) (q : β → Bool) : ∀ l : List α, (∀ a ∈ l, g a = q (f a)) → (l.filter g).map f = (l.map f).filter q
  | [], _ => rfl
  | a :: l, h => by
    have ih := filter_map_eq f g q l fun b hb => h b (List.mem_cons_of_mem _ hb)
    have ha := h a (List.mem_cons_self ..)
    rw [List.map_cons, List.filter_cons, List.filter_cons, ← ha]
    cases g a <;> simp [ih]
theorem hasty_is (ok : EsOk p es) (h : Kn p kn) (hp : p ≤ 16) : hastyP (keptOf p es) (maskN kn) (2 ^ p - 1) = foundL es (List.range p) kn := by
  unfold hastyP foundL
  rw [h.bits hp]
  obtain ⟨h1, h2⟩ := calls_is ok h hp kn
  rw [filter_map_eq (·.1) _ (goodL es (freshL (List.range p) kn) kn) _ fun cl hc => good_is ok h hp (h2 cl hc) ?_, h1]
  exact callers_go kn [([], lessN (2 ^ p - 1) (maskN kn))] (asc_nodup h.asc) (fun cl hc => by
    rw [List.mem_singleton] at hc
    subst hc
    simp) cl hc
end
end Bz

set_option maxHeartbeats 2000000
namespace Bz
open PySem PySem.Spec PyProof.Rows L2 Evl
section
variable {p : Nat} {es : Rd} {kn : List Nat}
theorem stepL_len (fr : List Nat) (c : Nat) (r : Rd) : (stepL es fr c r).length ≤ 1 + fr.length := by
  unfold stepL
  rw [List.length_cons, List.length_map]
  have := List.length_filter_le (condL es c r) fr
  omega
theorem flat_len (fr : List Nat) (c : Nat) : ∀ found : List Rd, (found.flatMap (stepL es fr c)).length ≤ found.length * (1 + fr.length)
  | [] => by simp
  | r :: found => by
    have h1 := flat_len fr c found
    have h2 := stepL_len (es := es) fr c r
    rw [List.flatMap_cons, List.length_append, List.length_cons, Nat.add_mul]
    omega
theorem calls_len_go (fr : List Nat) : ∀ (cs : List Nat) (found : List Rd), (cs.foldl (fun found c => found.flatMap (stepL es fr c)) found).length ≤ found.length * (1 + fr.length) ^ cs.length
  | [], found => by simp
  | c :: cs, found => by
    rw [List.foldl_cons]
    have h1 := calls_len_go fr cs (found.flatMap (stepL es fr c))
    have h2 := flat_len (es := es) fr c found
    refine Nat.le_trans h1 ?_
    rw [List.length_cons, Nat.pow_succ, Nat.mul_comm ((1 + fr.length) ^ cs.length), ← Nat.mul_assoc]
    exact Nat.mul_le_mul_right _ h2
theorem fresh_len (h : Kn p kn) : (freshL (List.range p) kn).length + kn.length = p := by
  have e : (List.range p).filter (fun i => decide (i ∈ kn)) = kn := asc_ext (List.Pairwise.filter _ List.pairwise_lt_range) h.asc fun x => by
    rw [List.mem_filter, List.mem_range]
    exact ⟨fun q => by simpa using q.2, fun q => ⟨h.lt x q, by simpa using q⟩⟩
  have hc := List.length_eq_countP_add_countP (fun i => decide (i ∈ kn)) (l := List.range p)
  rw [List.countP_eq_length_filter, List.countP_eq_length_filter, e, List.length_range] at hc
  have : (List.range p).filter (fun a => decide ¬ (decide (a ∈ kn)) = true) = freshL (List.range p) kn := by
    unfold freshL
    congr 1
    funext i
    by_cases hi : i ∈ kn <;> simp [hi]
  rw [this] at hc
  omega
theorem pow_bound : ∀ f k : Fin 7, f.val + k.val ≤ 6 → (1 + f.val) ^ k.val ≤ 1000 := by decide
theorem callsL_bd (h : Kn p kn) (hp : p ≤ 6) (i : Nat) : (callsL es (freshL (List.range p) kn) (kn.take i)).length ≤ 1000 := by
  have h1 := calls_len_go (es := es) (freshL (List.range p) kn) (kn.take i) [[]]
  have h2 := fresh_len h
  have h3 : (kn.take i).length ≤ kn.length := by rw [List.length_take]; omega
  have h4 : (1 + (freshL (List.range p) kn).length) ^ (kn.take i).length ≤ (1 + (freshL (List.range p) kn).length) ^ kn.length := Nat.pow_le_pow_right (by omega) h3
  have h5 := pow_bound ⟨(freshL (List.range p) kn).length, by omega⟩ ⟨kn.length, by omega⟩ (by show (freshL (List.range p) kn).length + kn.length ≤ 6; omega)
  simp only at h5
  have h6 : (callsL es (freshL (List.range p) kn) (kn.take i)).length ≤ 1 * (1 + (freshL (List.range p) kn).length) ^ (kn.take i).length := h1
  omega
/-- where nobody near is fresh, nobody is called -/
theorem callsL_none {fr : List Nat} : ∀ cs : List Nat, (∀ c ∈ cs, ∀ j ∈ fr, nearL es c j = false) → callsL es fr cs = [[]] := by
  intro cs
  unfold callsL
  induction cs with
  | nil => intro _; rfl
  | cons c cs ih =>
    intro h
    have e : ([[]] : List Rd).flatMap (stepL es fr c) = [[]] := by
      have : fr.filter (condL es c []) = [] := by
        rw [List.filter_eq_nil_iff]
        intro j hj q
        unfold condL at q
        rw [h c (List.mem_cons_self ..) j hj] at q
        cases q
      show stepL es fr c [] ++ [] = _
      unfold stepL
      rw [this]
      rfl
    rw [List.foldl_cons, e]
    exact ih fun d hd => h d (List.mem_cons_of_mem _ hd)
theorem sort_ok (th kn : List Nat) : SortOk (foundL es th kn) := fun h2 r hr q => by
  subst q
  unfold foundL at hr h2
  rw [List.mem_filter] at hr
  have hg := hr.2
  have hnone : ∀ c ∈ kn, ∀ j ∈ freshL th kn, nearL es c j = false := fun c hc j hj => by
    unfold goodL at hg
    have h1 := List.any_eq_false.mp (by simpa using hg : ((idleL kn []).any fun i => (leftL (freshL th kn) []).any fun j => nearL es i j) = false) c (by unfold idleL; rw [List.mem_filter]; exact ⟨hc, by simp⟩)
    have h2 := List.any_eq_false.mp (by simpa using h1 : ((leftL (freshL th kn) []).any fun j => nearL es c j) = false) j (by unfold leftL; rw [List.mem_filter]; exact ⟨hj, by simp⟩)
    simpa using h2
  rw [callsL_none kn hnone] at h2
  have := List.length_filter_le (goodL es (freshL th kn) kn) [[]]
  simp at this
  omega
theorem lh_ok (h : Kn p kn) (hp : p ≤ 6) : LHOk es (List.range p) kn := ⟨h.asc, by have := fresh_len h; omega, by rw [List.length_range]; omega, callsL_bd h hp, sort_ok _ _⟩
theorem calls_ok (ok : EsOk p es) (h : Kn p kn) (hp : p ≤ 6) : CallsOk p (keptOf p es) (bitsN (maskN kn)) (lessN (2 ^ p - 1) (maskN kn)) := by
  rw [h.bits (by omega)]
  refine ⟨h.lt, keptOf_len p es, by omega, full_lt (by omega) _, by have := fresh_len h; omega, fun i => ?_⟩
  have := (calls_is ok h (by omega) (kn.take i)).1
  have h2 := callsL_bd (es := es) h hp i
  rw [← this, List.length_map] at h2
  exact h2
/-- all know -/
theorem full_kn (p : Nat) : Kn p (List.range p) := ⟨List.pairwise_lt_range, fun n hn => List.mem_range.mp hn⟩
theorem full_found (p : Nat) (es : Rd) : foundL es (List.range p) (List.range p) = [[]] := by
  have hf : freshL (List.range p) (List.range p) = [] := by
    unfold freshL
    rw [List.filter_eq_nil_iff]
    intro i hi q
    simp [hi] at q
  unfold foundL
  rw [hf, callsL_none _ fun c _ j hj => absurd hj (by simp)]
  have : goodL es [] (List.range p) [] = true := by
    unfold goodL leftL
    simp
  simp [this]
theorem sort_one (r : Rd) : sortR [r] = [r] := by
  unfold sortR
  simp
/-- an ascending tuple is a lot -/
theorem kn_lot (h : Kn p kn) : (Th.tup (kn.map fun n : Nat => Th.int (n : Int))).lot (p : Int) = true := by
  unfold Th.lot
  rw [Bool.and_eq_true]
  refine ⟨?_, ?_⟩
  · rw [List.all_map]
    exact List.all_eq_true.mpr fun n hn => within_nat (h.lt n hn)
  · unfold ascI ascB
    refine List.all_eq_true.mpr fun i hi => ?_
    rw [List.mem_range, List.length_map, List.length_map] at hi
    have h0 : i < kn.length := by omega
    have h1 : i + 1 < kn.length := by omega
    have e0 : ((kn.map fun n : Nat => Th.int (n : Int)).map Th.i).getD i 0 = (kn[i] : Int) := getD_at (by rw [List.getElem?_map, List.getElem?_map, List.getElem?_eq_getElem h0]; rfl)
    have e1 : ((kn.map fun n : Nat => Th.int (n : Int)).map Th.i).getD (i + 1) 0 = (kn[i + 1] : Int) := getD_at (by rw [List.getElem?_map, List.getElem?_map, List.getElem?_eq_getElem h1]; rfl)
    rw [e0, e1]
    have := List.pairwise_iff_getElem.mp h.asc i (i + 1) h0 h1 (by omega)
    exact decide_eq_true (by omega)
end
end Bz

set_option maxHeartbeats 2000000
namespace Bz
open PySem PySem.Spec PyProof.Rows L2 Evl
/-! ### for the law itself -/
theorem passF {P : Program} {w : World} {X : Cx} (hp : X.prog = P := by rfl) (hw : X.w = w := by rfl) : Passes (L2.CX P w) X E0 := fun _ _ _ _ _ _ _ ⟨_, _, _, _, _, _, _, _, _, _, _, _, h⟩ => h.elim
/-- a thing of which P holds -/
def ItP (K : PySem.W.Frag) (CW : Addr) (P : Th → Prop) (v : V) (H : Hp) : Prop := ∃ t, ThR K CW H v t ∧ P t
/-- arguments, each such a thing -/
def EvAP (K : PySem.W.Frag) (CW : Addr) (ta : TA) (σ : L2.St) (H : Hp) (P : Th → Prop) (n : Nat) : Prop := ∀ H1, Ex H H1 → ∀ Q : List V → Hp → Prop, (∀ vs H2, Ex H1 H2 → vs.length = n → (∀ v ∈ vs, ItP K CW P v H2) → Q vs H2) → ta σ H1 Q
/-- arguments, told one by one -/
def EvTA (K : PySem.W.Frag) (CW : Addr) (ta : TA) (σ : L2.St) (H : Hp) (ts : List Th) : Prop := ∀ H1, Ex H H1 → ∀ Q : List V → Hp → Prop, (∀ vs H2, Ex H1 H2 → ThAll K CW H2 vs ts → Q vs H2) → ta σ H1 Q
section
variable {K : PySem.W.Frag} {CW : Addr} {σ : L2.St} {H : Hp} {ta tb te : TE} {tr : TA} {P : Th → Prop}
theorem mo_it : Mo (ItP K CW P) := fun _ _ _ e ⟨t, h, p⟩ => ⟨t, h.mono e, p⟩
theorem EvP.it {t : Th} (h : EvP te σ H (fun v H' => ThR K CW H' v t)) (p : P t) : EvP te σ H (ItP K CW P) := h.imp fun v H' _ q => ⟨t, q, p⟩
theorem eap_nil : EvAP K CW tNil σ H P 0 := fun H1 e Q q => q [] H1 (Ex.refl _) rfl fun _ h => absurd h (by simp)
theorem eap_cons {n : Nat} (h : EvP te σ H (ItP K CW P)) (hr : EvAP K CW tr σ H P n) : EvAP K CW (tCons te tr) σ H P (n + 1) := fun H1 e Q q =>
  h H1 e _ fun v H2 e2 hv => hr H2 (e.trans e2) _ fun vs H3 e3 hl hvs => q (v :: vs) H3 (e2.trans e3) (by simp [hl]) fun u hu => by
    rcases List.mem_cons.mp hu with rfl | hu
    · exact mo_it _ _ _ e3 hv
    · exact hvs u hu
theorem eta_nil : EvTA K CW tNil σ H [] := fun H1 e Q q => q [] H1 (Ex.refl _) .nil
theorem eta_cons {t : Th} {ts : List Th} (h : EvP te σ H (fun v H' => ThR K CW H' v t)) (hr : EvTA K CW tr σ H ts) : EvTA K CW (tCons te tr) σ H (t :: ts) := fun H1 e Q q =>
  h H1 e _ fun v H2 e2 hv => hr H2 (e.trans e2) _ fun vs H3 e3 hvs => q (v :: vs) H3 (e2.trans e3) (.cons (hv.mono e3) hvs)
/-- a tuple of things -/
theorem evp_thT {ts : List Th} (h : EvTA K CW tr σ H ts) (hz : ts.length ≤ 1000) : EvP (tTup tr) σ H (fun v H' => ThR K CW H' v (.tup ts)) := fun H1 e Q q =>
  h H1 e _ fun vs H2 e2 hvs => ⟨sz_of (by have := hvs.length; omega), fun p hp => q _ _ (e2.trans (Ex.new hp)) (.tup (st_of upd_same) (hvs.mono (Ex.new hp)) (by omega))⟩
theorem evp_thL {ts : List Th} (h : EvTA K CW tr σ H ts) (hz : ts.length ≤ 1000) : EvP (tLst tr) σ H (fun v H' => ThR K CW H' v .lst) := fun H1 e Q q =>
  h H1 e _ fun vs H2 e2 hvs => ⟨sz_of (by have := hvs.length; omega), fun p hp => q _ _ (e2.trans (Ex.new hp)) (.lst upd_same)⟩
theorem evp_thD : EvP tDNewK σ H (fun v H' => ThR K CW H' v .dic) := fun H1 e Q q p hp => q _ _ (Ex.new hp) (.dic upd_same)
/-- a list of such things -/
theorem evl_it {n : Nat} (h : EvAP K CW tr σ H P n) (hz : n ≤ 1000) : EvLP (tLst tr) σ H (fun xs H' => xs.length = n ∧ ∀ v ∈ xs, ItP K CW P v H') := fun H1 e Q q =>
  h H1 e _ fun vs H2 e2 hl hvs => ⟨sz_of (by omega), fun p hp => q p vs _ (fresh_back e2 hp) (e2.trans (Ex.new hp)) upd_same ⟨hl, fun v hv => mo_it _ _ _ (Ex.new hp) (hvs v hv)⟩⟩
theorem evl_catIt {n m : Nat} {l : Addr} {xs : List V} (ha : Ev ta σ H (.ref l)) (hl : H l = some (.lst xs)) (hn : xs.length = n) (hx : ∀ v ∈ xs, ItP K CW P v H) (hb : EvLP tb σ H (fun xs H' => xs.length = m ∧ ∀ v ∈ xs, ItP K CW P v H')) (hz : n + m ≤ 1000) :
    EvLP (tOp rCat ta tb) σ H (fun xs H' => xs.length = n + m ∧ ∀ v ∈ xs, ItP K CW P v H') := fun H1 e Q q =>
  ha H1 e _ fun H2 e2 => hb H2 (e.trans e2) _ fun b zs H3 hb e3 hb3 ⟨hzl, hzs⟩ => ⟨l, b, xs, zs, rfl, rfl, ((e.trans e2).trans e3) _ _ hl, hb3, sz_of (by omega), fun p hp =>
    q p _ _ (fresh_back e2 (fresh_back e3 hp)) ((e2.trans e3).trans (Ex.new hp)) upd_same ⟨by rw [List.length_append]; omega, fun v hv => by
      rcases List.mem_append.mp hv with hv | hv
      · exact mo_it _ _ _ (((e.trans e2).trans e3).trans (Ex.new hp)) (hx v hv)
      · exact mo_it _ _ _ (Ex.new hp) (hzs v hv)⟩⟩
/-- list(a tuple) -/
theorem evp_listOfT {a : Addr} {xs : List V} (h : Ev ta σ H (.ref a)) (hx : SqT K H a xs) : EvP (tCB (fun xs H Q => ∃ p ys, xs = [.ref p] ∧ (SqL K H p ys ∨ SqT K H p ys) ∧ ∀ l, H l = none → Q (.ref l) (upd H l (.lst ys))) (tCons ta tNil)) σ H (fun v H' => ThR K CW H' v .lst) := fun H1 e Q q =>
  h H1 e _ fun H2 e2 => ⟨a, xs, rfl, .inr (ex_t (e.trans e2) hx), fun l hl => q _ _ (e2.trans (Ex.new hl)) (.lst upd_same)⟩
/-- list(range(n)) -/
theorem el_listRg {n : Nat} (h : Ev ta σ H (nV n)) (hn : n ≤ 1000) : EvL (tLstRg (tRg1 ta)) σ H ((List.range n).map nV) := fun H1 e Q q =>
  h H1 e _ fun H2 e2 => ⟨(n : Int), rfl, RgOk.of_le (by decide) (by omega) (by decide) (by omega), fun l hl => by
    refine q l _ (fresh_back e2 hl) (e2.trans (Ex.new hl)) ?_
    rw [upd_same]
    unfold rgV
    rw [Int.sub_zero, Int.toNat_natCast]
    congr 2
    exact List.map_congr_left fun i _ => by rw [Int.zero_add]⟩
/-! what the hand's draws leave -/
theorem HandOk.kp {H' : Hp} {a c : Addr} (h : HandOk K H a c) (h' : HandOk K H' a c) (k : KX a H H') : Kp K CW H H' := by
  obtain ⟨cells, at_, rest, st, cnt, g1, _, _⟩ := id h
  obtain ⟨cells', at', rest', st', cnt', g1', _, _⟩ := id h'
  refine ⟨h.tk k, fun b xs q => ?_, fun b l q => ?_, fun b dx fs q => ?_⟩
  · by_cases hb : b = a
    · subst hb
      exact ⟨_, g1'⟩
    · exact ⟨xs, k _ _ hb q⟩
  · by_cases hb : b = a
    · subst hb
      rw [g1] at q
      cases q
    · exact ⟨l, k _ _ hb q⟩
  · by_cases hb : b = a
    · subst hb
      rw [g1] at q
      cases q
    · exact ⟨dx, fs, k _ _ hb q⟩
theorem ItP.kx {H' : Hp} {a c : Addr} {v : V} (h : HandOk K H a c) (h' : HandOk K H' a c) (k : KX a H H') (q : ItP K CW P v H) : ItP K CW P v H' := let ⟨t, r, p⟩ := q; ⟨t, r.keep (h.kp h' k), p⟩
/-- a web stands through the draws -/
theorem WebAt.kx {H' : Hp} {a c x : Addr} {p : Nat} {es : Rd} (h : HandOk K H a c) (h' : HandOk K H' a c) (k : KX a H H') (q : WebAt K CW H x p es) : WebAt K CW H' x p es := by
  obtain ⟨cells, at_, rest, st, cnt, g1, _, _⟩ := id h
  obtain ⟨dx, t, l, q1, q2, q3⟩ := q
  have hx : x ≠ a := fun z => by rw [z, g1] at q1; cases q1
  have hl : l ≠ a := fun z => by
    rw [z, g1] at q3
    injection q3 with q3
    injection q3 with q3
    cases hk : keptOf p es with
    | nil => rw [hk] at q3; cases q3
    | cons n ns =>
      rw [hk] at q3
      injection q3 with q3 _
      cases q3
  exact ⟨dx, t, l, k _ _ hx q1, q2.keep (h.kp h' k), k _ _ hl q3⟩
/-- Web(people, ties) of a drawn pair -/
theorem evp_web {CB : Addr} {p : Nat} {es : Rd} {y : V} (hA : EvA tr σ H [nV p, y]) (hy : RdAt K H y es) (h1 : 1 ≤ p) (h9 : p ≤ 9) (hes : EsOk p es) (ht : (thT es).ties (p : Int) = true) (hz : es.length ≤ 1000) :
    EvP (tMake CW (spWeb K CW CB) [] E0 tr) σ H (fun v H' => ∃ x, v = .ref x ∧ WebAt K CW H' x p es) := fun H1 e Q q =>
  hA H1 e _ fun H2 e2 x dx hx hdx hne => by
    have eN : Ex H2 (upd (upd H2 dx (.own x)) x (.ins CW dx [])) := (Ex.new hdx).trans (Ex.new (by rw [upd_ne (Ne.symm hne)]; exact hx))
    have hyN := hy.keep (TK.of_ex ((e.trans e2).trans eN))
    refine ⟨x, dx, nV p, y, .int (p : Int), thT es, rfl, upd_same, .int _, hyN.th (by omega), .inr (.inr ⟨p, es, rfl, h1, h9, rfl, ht, hes, fun H' hk hw => ⟨rfl, q _ H' (e2.trans fun b o hb => ?_) ⟨x, rfl, hw⟩⟩⟩)⟩
    have hbx : b ≠ x := fun z => by rw [z, hx] at hb; cases hb
    exact hk b o hbx (eN _ _ hb)
/-! == of webs, of parts -/
theorem sp_eqW {a b : Addr} {p q : Nat} {es fs : Rd} (ha : WebAt K CW H a p es) (hb : WebAt K CW H b q fs) {Q : VK} (k : RetV (.bl (decide (p = q) && decide (es = fs))) H Q) : spEq K CW [.ref a, .ref b] H Q E0 := ⟨a, b, p, es, rfl, ha, .inl ⟨q, fs, hb, k⟩⟩
theorem sp_eqT {a b : Addr} {p : Nat} {es : Rd} {ys : List V} (ha : WebAt K CW H a p es) (hb : SqT K H b ys) {Q : VK} (k : RetV (.bl false) H Q) : spEq K CW [.ref a, .ref b] H Q E0 := ⟨a, b, p, es, rfl, ha, .inr ⟨ys, hb, k⟩⟩
theorem ev_eqWW {neg : Bool} {a : Addr} {p q : Nat} {es fs : Rd} (h1 : Ev ta σ H (.ref a)) (ha : WebAt K CW H a p es) (h2 : EvP tb σ H (fun v H' => ∃ x, v = .ref x ∧ WebAt K CW H' x q fs)) :
    Ev (tOp (rEqOwn CW K (spEq K CW) E0 neg) ta tb) σ H (.bl (if neg then !(decide (p = q) && decide (es = fs)) else (decide (p = q) && decide (es = fs)))) := fun H1 e Q k =>
  h1 H1 e _ fun H2 e2 => h2 H2 (e.trans e2) _ fun v H3 e3 ⟨x, hv, hx⟩ => by
    subst hv
    have hA := ha.mono ((e.trans e2).trans e3)
    obtain ⟨dx, t, l, g1, _⟩ := id hA
    obtain ⟨dy, t', l', g2, _⟩ := id hx
    exact ⟨a, dx, _, rfl, g1, .inl ⟨x, dy, _, rfl, g2⟩, sp_eqW hA hx fun H4 e4 => ⟨_, rfl, k H4 ((e2.trans e3).trans e4)⟩⟩
theorem ev_eqWT {neg : Bool} {a b : Addr} {p : Nat} {es : Rd} {ys : List V} (h1 : Ev ta σ H (.ref a)) (ha : WebAt K CW H a p es) (h2 : ∀ H1, Ex H H1 → Ev tb σ H1 (.ref b)) (hb : SqT K H b ys) :
    Ev (tOp (rEqOwn CW K (spEq K CW) E0 neg) ta tb) σ H (.bl (if neg then !false else false)) := fun H1 e Q k =>
  h1 H1 e _ fun H2 e2 => h2 H2 (e.trans e2) H2 (Ex.refl _) _ fun H3 e3 => by
    have hA := ha.mono ((e.trans e2).trans e3)
    obtain ⟨dx, t, l, g1, _⟩ := id hA
    exact ⟨a, dx, _, rfl, g1, .inr ⟨b, ys, rfl, ex_t ((e.trans e2).trans e3) hb⟩, sp_eqT hA (ex_t ((e.trans e2).trans e3) hb) fun H4 e4 => ⟨_, rfl, k H4 ((e2.trans e3).trans e4)⟩⟩
def wpD (p : Nat) (es : Rd) : PyData := .tuple [.int (p : Int), rdD es]
theorem WpAt.dp {v : V} {p : Nat} {es : Rd} (h : WpAt K H v p es) : Dp K H v (wpD p es) := by
  obtain ⟨b, y, rfl, hb, hy⟩ := h
  exact .tup hb (.cons (.int _) (.cons hy.dp .nil))
theorem wpD_shaped (p : Nat) (es : Rd) : SeqAt.shaped (wpD p es) = true := by
  have h1 := rdD_depth es
  have h2 := rdD_lay es
  refine shaped_of (n := 3) ?_ ?_ (by decide)
  · simp [wpD, PyData.canLay0, PyData.canLayAll0, h2]
  · simp only [wpD, PyData.depth, PyData.depthAll]
    omega
theorem wpD_eqv (p q : Nat) (es fs : Rd) : PyData.eqv (wpD p es) (wpD q fs) = (decide (p = q) && decide (es = fs)) := by
  have : PyData.eqv (wpD p es) (wpD q fs) = (((p : Int) == (q : Int)) && (PyData.eqv (rdD es) (rdD fs) && true)) := by simp only [wpD, PyData.eqv, PyData.eqvAll]
  rw [this, rdD_eqv, Bool.and_true]
  congr 1
  by_cases h : p = q
  · subst h; simp
  · rw [decide_eq_false h]
    exact beq_eq_false_iff_ne.mpr (by omega)
/-! told and due -/
theorem dp_pr {v : V} {e : Nat × Nat} (h : Dp K H v (prE e)) : PrAt K H v e := by
  cases h with
  | tup hs hall =>
    cases hall with
    | cons h1 h2 =>
      cases h2 with
      | cons h3 h4 =>
        cases h1
        cases h3
        cases h4
        exact ⟨_, rfl, hs⟩
theorem dpa_prs : ∀ {vs : List V} {r : Rd}, DpAll K H vs (r.map prE) → Al2 (PrAt K H) vs r
  | _, [], h => by cases h; exact .nil
  | _, e :: r, h => by
    cases h with
    | cons h1 h2 => exact .cons (dp_pr h1) (dpa_prs h2)
theorem dp_rd {v : V} {r : Rd} (h : Dp K H v (rdD r)) : RdAt K H v r := by
  cases h with
  | tup hs hall => exact ⟨_, _, rfl, hs, dpa_prs hall⟩
theorem dpa_rds : ∀ {vs : List V} {rs : List Rd}, DpAll K H vs (rs.map rdD) → Al2 (RdAt K H) vs rs
  | _, [], h => by cases h; exact .nil
  | _, r :: rs, h => by
    cases h with
    | cons h1 h2 => exact .cons (dp_rd h1) (dpa_rds h2)
theorem Al2.join {α β γ : Type} {P : α → γ → Prop} {Q : β → γ → Prop} {R : α → β → Prop} (f : ∀ a b c, P a c → Q b c → R a b) : ∀ {as : List α} {bs : List β} {cs : List γ}, Al2 P as cs → Al2 Q bs cs → Al2 R as bs
  | _, _, _, .nil, .nil => .nil
  | _, _, _, .cons h r, .cons h' r' => .cons (f _ _ _ h h') (Al2.join f r r')
theorem PrAt.isr {v w : V} {e : Nat × Nat} (h : PrAt K H v e) (k : PrAt K H w e) : IsR K H 1 v w := by
  obtain ⟨a, rfl, ha⟩ := h
  obtain ⟨b, rfl, hb⟩ := k
  exact ⟨a, b, _, _, rfl, rfl, .inr ⟨ha, hb⟩, by show (2 : Nat) ≤ 40000; decide, .cons ⟨_, rfl, rfl⟩ (.cons ⟨_, rfl, rfl⟩ .nil)⟩
theorem RdAt.isr {v w : V} {r : Rd} (h : RdAt K H v r) (k : RdAt K H w r) (hz : r.length ≤ 40000) : IsR K H 2 v w := by
  obtain ⟨a, xs, rfl, ha, hx⟩ := h
  obtain ⟨b, ys, rfl, hb, hy⟩ := k
  exact ⟨a, b, xs, ys, rfl, rfl, .inr ⟨ha, hb⟩, by rw [hx.length]; exact hz, Al2.join (P := PrAt K H) (Q := PrAt K H) (R := IsR K H 1) (fun _ _ _ p q => PrAt.isr p q) hx hy⟩
theorem Al2.and {α β : Type} {P Q : α → β → Prop} : ∀ {as : List α} {bs : List β}, Al2 P as bs → (∀ b ∈ bs, ∀ a, P a b → Q a b) → Al2 Q as bs
  | _, _, .nil, _ => .nil
  | _, _, .cons h r, f => .cons (f _ (List.mem_cons_self ..) _ h) (Al2.and r fun b hb => f b (List.mem_cons_of_mem _ hb))
theorem rds_isr {l m : Addr} {xs ys : List V} {rs : List Rd} (hl : H l = some (.lst xs)) (hm : H m = some (.lst ys)) (hx : DpAll K H xs (rs.map rdD)) (hy : DpAll K H ys (rs.map rdD)) (hz : rs.length ≤ 40000) (hr : ∀ r ∈ rs, r.length ≤ 40000) : IsR K H 3 (.ref l) (.ref m) := by
  have h1 : Al2 (fun v r => RdAt K H v r ∧ r.length ≤ 40000) xs rs := (dpa_rds hx).and fun b hb a h => ⟨h, hr b hb⟩
  exact ⟨l, m, xs, ys, rfl, rfl, .inl ⟨hl, hm⟩, by rw [h1.length]; exact hz, Al2.join (P := fun v r => RdAt K H v r ∧ r.length ≤ 40000) (Q := RdAt K H) (R := IsR K H 2) (fun _ _ _ p q => RdAt.isr p.1 q p.2) h1 (dpa_rds hy)⟩
theorem ev_neLP {rs ss : List Rd} (h1 : EvLP ta σ H (fun xs H' => DpAll K H' xs (rs.map rdD))) (h2 : EvP tb σ H (fun v H' => ∃ l xs, v = .ref l ∧ H' l = some (.lst xs) ∧ DpAll K H' xs (ss.map rdD))) : Ev (tOp (rNeD K) ta tb) σ H (.bl (!decide (rs = ss))) := fun H1 e Q q =>
  h1 H1 e _ fun l xs H2 hl e2 hl2 hd => h2 H2 (e.trans e2) _ fun v H3 e3 ⟨m, ys, hv, hm, hd2⟩ => by
    subst hv
    refine ⟨rsD rs, rsD ss, .lst (sq_of (e3 _ _ hl2)) (Bz.DpAll.go e3 hd), .lst (sq_of hm) hd2, rsD_shaped _, rsD_shaped _, ?_⟩
    rw [rsD_eqv]
    exact q H3 (e2.trans e3)
end
end Bz

set_option maxHeartbeats 2000000
namespace Bz
open PySem PySem.Spec PyProof.Rows L2 Evl
section
variable {K : PySem.W.Frag} {CW CN : Addr} {σ : L2.St} {H : Hp} {ta tb te tl tp : TE} {tr : TA} {P : Th → Prop} {D : Ends} {tz tu : TS} {a c : Addr}
theorem q_call {sp : Sp} {dvs vs : List V} {E : XK} {i : Nat} (hA : EvA tr σ H vs) (h : ∀ H1, Ex H H1 → sp (vs ++ dvs) H1 (fun v H2 => tz D (σ.set i (some v)) H2) E) : tSeq (tAsg (tCall sp dvs E tr) (gName i)) tz D σ H := hA H (Ex.refl _) _ h
/-- a drawn web -/
theorem q_lweb {m i : Nat} {E : XK} (hA : EvA tr σ H [.ref a, nV m]) (hh : HandOk K H a c) (h1 : 1 ≤ m) (h6 : m ≤ 6)
    (k : ∀ (v : V) (H' : Hp) (p : Nat) (es : Rd), KX a H H' → HandOk K H' a c → 1 ≤ p → p ≤ m → EsOk p es → (thT es).ties (p : Int) = true → es.length ≤ 1000 → WpAt K H' v p es → tz D (σ.set i (some v)) H') : tSeq (tAsg (tCall (spLWeb K) [] E tr) (gName i)) tz D σ H :=
  q_call hA fun H1 e1 => ⟨a, c, m, rfl, hh.ex e1, h1, h6, fun v H' p es kx ho hp1 hpm hes ht hz hw => k v H' p es ((KX.of_ex e1).trans kx) ho hp1 hpm hes ht hz hw⟩
/-- who knows: those of whom 0 is drawn, else a drawn one -/
theorem dl_know {td : TA} {l : Addr} {p j : Nat} {vs : List Nat} {E : XK} {Q : VK} (hp : p ≤ 1000) (hh : HandOk K H a c) (hl : H l = some (.lst ((List.range p).map nV))) (hla : l ≠ a) (ht : ∀ H1, Ex H H1 → Ev tl σ H1 (.ref l)) (hw : ∀ x, wipe ((wipe σ vs).set j (some x)) vs = wipe σ vs) (hv : ∀ x, ((wipe σ vs).set j (some x))[j]? = some (some x))
    (hd : ∀ x H1, EvA td ((wipe σ vs).set j (some x)) H1 [.ref a, nV 2]) (k : ∀ (q : Addr) (ns : List Nat) (H' : Hp), H q = none → KX a H H' → HandOk K H' a c → H' q = some (.lst (ns.map nV)) → Kn p ns → ns.length ≤ p → Q (.ref q) H') :
    tLc (iList K tl) (gName j) (tTest (tOp rEq (tCall (spDraw K) [] E td) (tC (.int 0)))) (tVar j) vs σ H Q :=
  ht H (Ex.refl _) H (Ex.refl _) _ fun H1 e1 => ⟨l, rfl, ⟨_, sq_of (e1 _ _ hl)⟩, fun q hq => by
    have hqa := (hh.ex e1).fresh hq
    refine lc_walk (n := p) (fun i H' => KX a H H' ∧ HandOk K H' a c ∧ ∃ ns : List Nat, H' q = some (.lst (ns.map nV)) ∧ ns.Pairwise (· < ·) ∧ (∀ n ∈ ns, n < i) ∧ ns.length ≤ i ∧ H' l = some (.lst ((List.range p).map nV))) ⟨.of_ex (e1.trans (Ex.new hq)), (hh.ex e1).ex (Ex.new hq), [], upd_same, .nil, fun _ h => absurd h (by simp), Nat.zero_le _, (e1.trans (Ex.new hq)) _ _ hl⟩ (fun i H' hi pv => ?_) (fun i H' x H4 hi pv y => ?_) fun H' pv => ?_
    · obtain ⟨_, _, ns, _, _, _, _, hl'⟩ := pv
      exact ⟨fun h => ⟨_, nV i, sq_of hl', by rw [List.getElem?_map, List.getElem?_range h]; rfl⟩, fun h => ⟨_, sq_of hl', by rw [List.length_map, List.length_range]; exact h⟩⟩
    · obtain ⟨kx, ho, ns, hns, asc, lt, hz, hl'⟩ := pv
      obtain ⟨rfl, y⟩ := y
      have hx := y _ (sq_of hl')
      rw [List.getElem?_map, List.getElem?_range hi] at hx
      have hx : nV i = x := by injection hx
      subst hx
      refine ⟨hw _, ?_⟩
      refine d_draw (hd _ _) ho (by decide) (by decide) fun d H5 hdm kx5 ho5 => ⟨rfl, _, rfl, ?_⟩
      have ql : q ≠ l := fun z => by rw [z, e1 _ _ hl] at hq; cases hq
      have hns5 : H5 q = some (.lst (ns.map nV)) := kx5 _ _ hqa.1 hns
      have hl5 : H5 l = some (.lst ((List.range p).map nV)) := kx5 _ _ hla hl'
      cases hb : decide (nV d = V.int 0) with
      | false => exact ⟨kx.trans kx5, ho5, ns, hns5, asc, fun n h => by have := lt n h; omega, by omega, hl5⟩
      | true =>
        show (if (true : Bool) = true then _ else _)
        rw [if_pos rfl]
        refine ⟨_, hv _, ns.map nV, hns5, sz_lt (by rw [List.length_map]; omega), fun b o hb hbo => ?_, ho5.put hqa.1 hqa.2, ns ++ [i], by rw [upd_same, List.map_append]; rfl, ?_, fun n h => ?_, by rw [List.length_append]; show ns.length + 1 ≤ _; omega, by rw [upd_ne (Ne.symm ql)]; exact hl5⟩
        · have hbq : b ≠ q := fun z => by rw [z, fresh_back e1 hq] at hbo; cases hbo
          rw [upd_ne hbq]
          exact kx5 _ _ hb (kx _ _ hb hbo)
        · rw [List.pairwise_append]
          refine ⟨asc, List.pairwise_singleton _ _, fun n h m hm => ?_⟩
          rw [List.mem_singleton] at hm
          have := lt n h
          omega
        · rcases List.mem_append.mp h with h | h
          · have := lt n h
            omega
          · rw [List.mem_singleton] at h
            omega
    · obtain ⟨kx, ho, ns, hns, asc, lt, hz, _⟩ := pv
      exact k q ns H' (fresh_back e1 hq) kx ho hns ⟨asc, lt⟩ hz⟩
theorem q_know {td td2 : TA} {l : Addr} {p j i : Nat} {vs : List Nat} {E E2 : XK} (h1 : 1 ≤ p) (hp : p < 1000) (hh : HandOk K H a c) (hl : H l = some (.lst ((List.range p).map nV))) (hla : l ≠ a) (ht : ∀ H1, Ex H H1 → Ev tl σ H1 (.ref l)) (hw : ∀ x, wipe ((wipe σ vs).set j (some x)) vs = wipe σ vs) (hv : ∀ x, ((wipe σ vs).set j (some x))[j]? = some (some x))
    (hd : ∀ x H1, EvA td ((wipe σ vs).set j (some x)) H1 [.ref a, nV 2]) (hd2 : ∀ H1, KX a H H1 → TK K H H1 → EvA td2 σ H1 [.ref a, nV p])
    (k : ∀ (q : Addr) (kn : List Nat) (H' : Hp), KX a H H' → HandOk K H' a c → SqT K H' q (kn.map nV) → Kn p kn → kn ≠ [] → tz D (σ.set i (some (.ref q))) H') :
    tSeq (tAsg (tOrT K (tThen (tLc (iList K tl) (gName j) (tTest (tOp rEq (tCall (spDraw K) [] E td) (tC (.int 0)))) (tVar j) vs) (kTup K)) (tTup (tCons (tCall (spDraw K) [] E2 td2) tNil))) (gName i)) tz D σ H := by
  refine dl_know (Q := fun x H1 => kTup K x H1 _) (by omega) hh hl hla ht hw hv hd fun q ns H1 hq kx ho hns kn hz => .inl ⟨q, ns.map nV, rfl, sq_of hns, fun t ht => ?_⟩
  refine ⟨!(ns.map nV).isEmpty, .inr (.inl ⟨ns.map nV, st_of upd_same, rfl⟩), ?_⟩
  have kx1 : KX a H (upd H1 t (.tup (ns.map nV))) := kx.trans (.of_ex (Ex.new ht))
  have ho1 : HandOk K (upd H1 t (.tup (ns.map nV))) a c := ho.ex (Ex.new ht)
  cases hb : (!(ns.map nV).isEmpty) with
  | true =>
    refine k t ns _ kx1 ho1 (st_of upd_same) kn fun z => ?_
    rw [z] at hb
    cases hb
  | false =>
    rw [if_neg (by decide)]
    refine d_draw (hd2 _ kx1 (hh.tk kx1)) ho1 (by omega) (by omega) fun d H2 hdp kx2 ho2 => ⟨sz_of (by show (1 : Nat) ≤ 100000; decide), fun u hu => ?_⟩
    refine k u [d] _ ((kx1.trans kx2).trans (.of_ex (Ex.new hu))) (ho2.ex (Ex.new hu)) (st_of upd_same) ⟨List.pairwise_singleton _ _, fun n hn => ?_⟩ (by simp)
    rw [List.mem_singleton] at hn
    omega
/-- one of a list of things -/
theorem d_some {n : Nat} {E : XK} {Q : VK} (h1 : Ev ta σ H (.ref a)) (hl : EvLP tl σ H (fun xs H' => xs.length = n ∧ ∀ v ∈ xs, ItP K CW P v H')) (hn : 0 < n) (hn2 : n < 1000) (hh : HandOk K H a c) (k : ∀ v H', KX a H H' → HandOk K H' a c → ItP K CW P v H' → Q v H') :
    tCall (spSome K) [] E (tCons ta (tCons tl tNil)) σ H Q :=
  h1 H (Ex.refl _) _ fun H1 e1 => hl H1 e1 _ fun l xs H2 hl2 e2 hlx ⟨hxn, hxi⟩ => ⟨a, c, l, xs, rfl, hh.ex (e1.trans e2), sq_of hlx, ((hh.ex e1).fresh hl2).1, by omega, by omega, fun v H' hv kx ho => k v H' ((KX.of_ex (e1.trans e2)).trans kx) ho ((hxi v hv).kx (hh.ex (e1.trans e2)) ho kx)⟩
theorem d_someV {l : Addr} {xs : List V} {E : XK} {Q : VK} (h1 : Ev ta σ H (.ref a)) (hl : ∀ H1, Ex H H1 → Ev tl σ H1 (.ref l)) (hlx : H l = some (.lst xs)) (hla : l ≠ a) (hxi : ∀ v ∈ xs, ItP K CW P v H) (hn : 0 < xs.length) (hn2 : xs.length < 1000) (hh : HandOk K H a c) (k : ∀ v H', KX a H H' → HandOk K H' a c → ItP K CW P v H' → Q v H') :
    tCall (spSome K) [] E (tCons ta (tCons tl tNil)) σ H Q :=
  h1 H (Ex.refl _) _ fun H1 e1 => hl H1 e1 H1 (Ex.refl _) _ fun H2 e2 => ⟨a, c, l, xs, rfl, hh.ex (e1.trans e2), sq_of ((e1.trans e2) _ _ hlx), hla, hn, hn2, fun v H' hv kx ho => k v H' ((KX.of_ex (e1.trans e2)).trans kx) ho ((mo_it _ _ _ (e1.trans e2) (hxi v hv)).kx (hh.ex (e1.trans e2)) ho kx)⟩
/-- a test that is passed by, something drawn on the way -/
theorem q_skip {t : TT} {R : Hp → Prop} (h : ∀ Q : Bool → Hp → Prop, (∀ H1, R H1 → Q false H1) → t σ H Q) (k : ∀ H1, R H1 → tz D σ H1) : tSeq (tIfS t tu tNext) tz D σ H := h _ fun H1 r => k H1 r
theorem d_told {x l : Addr} {xs : List V} {p : Nat} {es : Rd} {E E2 : XK} {Q : Bool → Hp → Prop} (hx : ∀ H1, Ex H H1 → Ev tp σ H1 (.ref x)) (h1 : ∀ H1, Ex H H1 → Ev ta σ H1 (.ref a)) (hl : ∀ H1, Ex H H1 → Ev tl σ H1 (.ref l)) (hlx : H l = some (.lst xs)) (hla : l ≠ a) (hxi : ∀ v ∈ xs, ItP K CW (fun t => t.lot (p : Int) = false ∨ t = .tup []) v H)
    (hn : 0 < xs.length) (hn2 : xs.length < 1000) (hh : HandOk K H a c) (hw : WebAt K CW H x p es) (hp : p ≤ 16) (k : ∀ H', KX a H H' → HandOk K H' a c → Q false H') :
    tTest (tOp rNe (tCall (spTold K CW) [] E (tCons tp (tCons (tCall (spSome K) [] E2 (tCons ta (tCons tl tNil))) tNil))) (tC (.str "lot"))) σ H Q :=
  hx H (Ex.refl _) H (Ex.refl _) _ fun H1 e1 => d_someV (h1 H1 e1) (fun H2 e => hl H2 (e1.trans e)) (e1 _ _ hlx) hla (fun v hv => mo_it _ _ _ e1 (hxi v hv)) hn hn2 (hh.ex e1) fun v H2 kx ho hv => by
    obtain ⟨t, ht, hbad⟩ := hv
    refine ⟨x, v, t, p, es, rfl, (hw.mono e1).kx (hh.ex e1) ho kx, ht, hp, hbad, fun H3 e3 => ⟨rfl, _, rfl, ?_⟩⟩
    rw [decide_eq_true rfl]
    exact k H3 (((KX.of_ex e1).trans kx).trans (.of_ex e3)) (ho.ex e3)
theorem d_part {l : Addr} {xs : List V} {vp : V} {z : Str} {Pp : Th → Prop} {E E2 : XK} {Q : Bool → Hp → Prop} (hx : ∀ H1, Ex H H1 → Ev tp σ H1 vp) (hvp : ItP K CW Pp vp H) (h1 : ∀ H1, Ex H H1 → Ev ta σ H1 (.ref a)) (hl : ∀ H1, Ex H H1 → Ev tl σ H1 (.ref l)) (hlx : H l = some (.lst xs)) (hla : l ≠ a)
    (hxi : ∀ v ∈ xs, ItP K CW P v H) (hn : 0 < xs.length) (hn2 : xs.length < 1000) (hh : HandOk K H a c) (hbad : ∀ tp tt, Pp tp → P tt → (tp.within 1 9 = false ∧ z = "people") ∨ (tp.within 1 9 = true ∧ tt.ties tp.i = false ∧ z = "ties")) (k : ∀ H', KX a H H' → HandOk K H' a c → Q false H') :
    tTest (tOp rNe (tCall (spPart K CW) [] E (tCons tp (tCons (tCall (spSome K) [] E2 (tCons ta (tCons tl tNil))) tNil))) (tC (.str z))) σ H Q :=
  hx H (Ex.refl _) H (Ex.refl _) _ fun H1 e1 => d_someV (h1 H1 e1) (fun H2 e => hl H2 (e1.trans e)) (e1 _ _ hlx) hla (fun v hv => mo_it _ _ _ e1 (hxi v hv)) hn hn2 (hh.ex e1) fun v H2 kx ho hv => by
    obtain ⟨tt, ht, hP⟩ := hv
    obtain ⟨tq, hq, hPp⟩ := (mo_it _ _ _ e1 hvp).kx (hh.ex e1) ho kx
    refine ⟨vp, v, tq, tt, z, rfl, hq, ht, hbad tq tt hPp hP, fun H3 e3 => ⟨rfl, _, rfl, ?_⟩⟩
    rw [decide_eq_true rfl]
    exact k H3 (((KX.of_ex e1).trans kx).trans (.of_ex e3)) (ho.ex e3)
/-- rounds_from where somebody knows -/
theorem nats_th : ∀ ns : List Nat, ThAll K CW H (ns.map nV) (ns.map fun n : Nat => Th.int (n : Int))
  | [] => .nil
  | n :: ns => .cons (.int _) (nats_th ns)
theorem slp_rounds {x ka p : Nat} {es : Rd} {kn : List Nat} (hw : WebAt K CW H x p es) (hk : SqT K H ka (kn.map nV)) (hkn : Kn p kn) (hne : kn ≠ []) (hp : p ≤ 6) (ok : EsOk p es) : SpLP (spRounds K CW CN) [.ref x, .ref ka] H (fun ys H' => DpAll K H' ys ((sortR (foundL es (List.range p) kn)).map rdD)) := fun H1 e Q q E => by
  have hl := fresh_len hkn
  have key := hasty_is ok hkn (by omega)
  refine ⟨x, .ref ka, .tup (kn.map fun n : Nat => Th.int (n : Int)), p, es, rfl, hw.mono e, .tup (ex_t e hk) (nats_th kn) (by rw [List.length_map]; omega), by omega, .inr ⟨kn, rfl, kn_lot hkn, hne, by omega, fun n hn => by have := hkn.lt n hn; omega, hkn.mask_lt (by omega), calls_ok ok hkn hp, ?_, ?_⟩⟩
  · rw [key]
    exact sort_ok _ _
  · rw [key]
    exact q
theorem elp_call2 {sp : Sp} {dvs xs : List V} {x : V} {E : XK} {R : List V → Hp → Prop} (ha : Ev ta σ H x) (hb : EvU tb σ H xs) (hs : ∀ q H1, Ex H H1 → H1 q = some (.tup xs) → SpLP sp ([x, .ref q] ++ dvs) H1 R) : EvLP (tCall sp dvs E (tCons ta (tCons tb tNil))) σ H R := fun H1 e Q k =>
  ha H1 e _ fun H2 e2 => hb H2 (e.trans e2) _ fun q H3 hq e3 h3 => hs q H3 ((e.trans e2).trans e3) h3 H3 (Ex.refl _) Q (fun p ys H4 hp e4 h4 hR => k p ys H4 (fresh_back e2 (fresh_back e3 hp)) ((e2.trans e3).trans e4) h4 hR) E
/-- an existing list of rounds; the list of the empty round -/
theorem evp_rdsV {l : Addr} {xs : List V} {rs : List Rd} (h : Ev ta σ H (.ref l)) (hl : H l = some (.lst xs)) (hd : DpAll K H xs (rs.map rdD)) : EvP ta σ H (fun v H' => ∃ l xs, v = .ref l ∧ H' l = some (.lst xs) ∧ DpAll K H' xs (rs.map rdD)) := (Bz.Ev.p h).imp fun v H' e hv => ⟨l, xs, hv, e _ _ hl, Bz.DpAll.go e hd⟩
theorem evp_rds1 (h : EvP ta σ H (fun v H' => RdAt K H' v [])) : EvP (tLst (tCons ta tNil)) σ H (fun v H' => ∃ l xs, v = .ref l ∧ H' l = some (.lst xs) ∧ DpAll K H' xs (([[]] : List Rd).map rdD)) := fun H1 e Q q =>
  evl_one h mo_rd H1 e Q fun p xs H2 hp e2 h2 ⟨y, hy, hr⟩ => by
    subst hy
    exact q _ H2 e2 ⟨p, _, rfl, h2, .cons hr.dp .nil⟩
end
end Bz

set_option maxHeartbeats 4000000
namespace Bz
open PySem PySem.Spec PyProof.Rows L2 Evl
/-! ### the law -/
def spLaw (K : PySem.W.Frag) : Sp := fun vs H Q _ => ∃ (s : Addr) (ns : List Int), vs = [.ref s] ∧ SqL K H s (ns.map V.int) ∧ ns.length ≤ 1000 ∧ ∀ H', Q (.bl true) H'
abbrev nmLaw : List Str := ["_law_script", "_law_hand_here", "_law_turn", "_law_parts", "_law_web_here", "_law_every", "_law_knowing", "_law_due", "_law_told_here", "_law_odd", "_law_wrong", "_law_bad", "_law_other", "_law_one"]
theorem scLaw : FnScope nmLaw ["_law_script"] (defScope sLaw) := ⟨rfl, rfl, rfl, by decide +kernel, rfl, by decide +kernel, by decide +kernel⟩
/-- the defs that the law calls -/
structure LawFns (w : World) (K : PySem.W.Frag) (mg : Str → Option Value) (base : Heap) (CW CB CN : Addr) (fH fD fLW fLH fI fR fQ fIs fS fDe fT fP : Addr) (dH dD dLW dLH dI dR dQ dIs dS dDe dT dP : FuncData) : Prop where
  FH : FnP K "_law_hand" sHand fH dH
  gH : mg "_law_hand" = some (.ref fH)
  GH : FnOk pwB w K mg base CX0 1 fH dH ["_law_script"] (spHand K)
  FD : FnP K "_law_draw" sDraw fD dD
  gD : mg "_law_draw" = some (.ref fD)
  GD : FnOk pwB w K mg base CX0 1 fD dD ["_law_hand_here", "_law_many"] (spDraw K)
  FLW : FnP K "_law_web" sLWeb fLW dLW
  gLW : mg "_law_web" = some (.ref fLW)
  GLW : FnOk pwB w K mg base CX0 2 fLW dLW ["_law_hand_here", "_law_most"] (spLWeb K)
  FLH : FnP K "_law_hasty" sLHasty fLH dLH
  gLH : mg "_law_hasty" = some (.ref fLH)
  GLH : FnOk pwB w K mg base CX0 2 fLH dLH ["_law_web_here", "_law_knowing", "_law_there"] (spLHasty K)
  M : Mk K CW fI
  FI : FnM K "__init__" "Web.__init__" sWeb fI dI
  GI : FnOk pwB w K mg base (L2.CX pwB w) 5 fI dI ["self", "people", "ties"] (spWeb K CW CB)
  FR : FnP K "rounds_from" sRounds fR dR
  gR : mg "rounds_from" = some (.ref fR)
  GR : FnOk pwB w K mg base (L2.CX pwB w) 4 fR dR ["web", "knowing"] (spRounds K CW CN)
  hQ : PySem.W.findIn K (.ref CW) "__eq__" = some (some (.ref fQ))
  nQ : PySem.W.isFn K (.ref fQ) = true
  FQ : FnM K "__eq__" "Web.__eq__" sEq fQ dQ
  GQ : FnOk pwB w K mg base CX0 1 fQ dQ ["self", "other"] (spEq K CW)
  FIs : FnP K "_law_is" sIs fIs dIs
  gIs : mg "_law_is" = some (.ref fIs)
  GIs : FnOk pwB w K mg base CX0 4 fIs dIs ["_law_told_here", "_law_due"] (spIs K 3)
  FS : FnP K "_law_some" sSome fS dS
  gS : mg "_law_some" = some (.ref fS)
  GS : FnOk pwB w K mg base CX0 2 fS dS nmSome (spSome K)
  FDe : FnP K "_law_deep" sDeep fDe dDe
  gDe : mg "_law_deep" = some (.ref fDe)
  GDe : FnOk pwB w K mg base CX0 1 fDe dDe ["_law_kind"] (spDeep K CW)
  FT : FnP K "_law_told" sTold fT dT
  gT : mg "_law_told" = some (.ref fT)
  GT : FnOk pwB w K mg base CX0 5 fT dT ["_law_web_here", "_law_knowing"] (spTold K CW)
  FP : FnP K "_law_part" sPart fP dP
  gP : mg "_law_part" = some (.ref fP)
  GP : FnOk pwB w K mg base CX0 7 fP dP ["_law_people", "_law_ties"] (spPart K CW)
section
variable {K : PySem.W.Frag} {CW : Addr} {σ : L2.St} {H : Hp} {E : XK} {P : Th → Prop}
theorem evp_deep1 (hP : ∀ t, P (.tup [.tup [t]])) : EvP (tCall (spDeep K CW) [] E (tCons (tC (.int 1)) tNil)) σ H (ItP K CW P) := fun H1 e Q q => .inl ⟨rfl, fun v H' t e' ht => q v H' e' ⟨_, ht, hP t⟩⟩
theorem evp_deep2 (hP : P .lst) : EvP (tCall (spDeep K CW) [] E (tCons (tC (.int 2)) tNil)) σ H (ItP K CW P) := fun H1 e Q q => .inr ⟨rfl, fun v H' e' ht => q v H' e' ⟨_, ht, hP⟩⟩
theorem evp_i {te : TE} {i : Int} (h : Ev te σ H (.int i)) : EvP te σ H (fun v H' => ThR K CW H' v (.int i)) := evp_thv h (.int i)
theorem evp_ci {i : Int} : EvP (tC (.int i)) σ H (fun v H' => ThR K CW H' v (.int i)) := evp_thv ev_c (.int i)
theorem evp_cb {b : Bool} : EvP (tC (.bl b)) σ H (fun v H' => ThR K CW H' v (.bl b)) := evp_thv ev_c (.bl b)
theorem evp_cn : EvP (tC .non) σ H (fun v H' => ThR K CW H' v .non) := evp_thv ev_c .non
theorem evp_cs {z : Str} : EvP (tC (.str z)) σ H (fun v H' => ThR K CW H' v (.str z)) := evp_thv ev_c (.str z)
theorem evp_neg : EvP (tUn (rU fun i => .int (-i)) (tC (.int 1))) σ H (fun v H' => ThR K CW H' v (.int (-1))) := evp_thv (ev_un ev_c ru_neg) (.int (-1))
theorem WebAt.th {x p : Nat} {es : Rd} (h : WebAt K CW H x p es) : ThR K CW H (.ref x) .web := let ⟨_, _, _, h, _⟩ := h; .web h
/-- (a,), (a, b) .. with few items -/
theorem evp_t0 : EvP (tTup tNil) σ H (fun v H' => ThR K CW H' v (.tup [])) := evp_thT eta_nil (by show (0 : Nat) ≤ 1000; decide)
theorem evp_t1 {ta : TE} {t : Th} (h : EvP ta σ H (fun v H' => ThR K CW H' v t)) : EvP (tTup (tCons ta tNil)) σ H (fun v H' => ThR K CW H' v (.tup [t])) := evp_thT (eta_cons h eta_nil) (by show (1 : Nat) ≤ 1000; decide)
theorem evp_t2 {ta tb : TE} {t u : Th} (h : EvP ta σ H (fun v H' => ThR K CW H' v t)) (h2 : EvP tb σ H (fun v H' => ThR K CW H' v u)) : EvP (tTup (tCons ta (tCons tb tNil))) σ H (fun v H' => ThR K CW H' v (.tup [t, u])) := evp_thT (eta_cons h (eta_cons h2 eta_nil)) (by show (2 : Nat) ≤ 1000; decide)
theorem evp_t3 {ta tb tc : TE} {t u w : Th} (h : EvP ta σ H (fun v H' => ThR K CW H' v t)) (h2 : EvP tb σ H (fun v H' => ThR K CW H' v u)) (h3 : EvP tc σ H (fun v H' => ThR K CW H' v w)) : EvP (tTup (tCons ta (tCons tb (tCons tc tNil)))) σ H (fun v H' => ThR K CW H' v (.tup [t, u, w])) := evp_thT (eta_cons h (eta_cons h2 (eta_cons h3 eta_nil))) (by show (3 : Nat) ≤ 1000; decide)
end
theorem lot00 (m : Int) : (Th.tup [.int 0, .int 0]).lot m = false := by
  show (_ && ascI [0, 0]) = false
  rw [show ascI [0, 0] = false by decide, Bool.and_false]
theorem lot10 (m : Int) : (Th.tup [.int 1, .int 0]).lot m = false := by
  show (_ && ascI [1, 0]) = false
  rw [show ascI [1, 0] = false by decide, Bool.and_false]
theorem lotp (p : Nat) : (Th.tup [.int (p : Int)]).lot (p : Int) = false := by
  have : (Th.int (p : Int)).within 0 ((p : Int) - 1) = false := by
    show (decide (0 ≤ (p : Int)) && decide ((p : Int) ≤ (p : Int) - 1)) = false
    rw [decide_eq_false (p := (p : Int) ≤ (p : Int) - 1) (by omega), Bool.and_false]
  show ((List.all [Th.int (p : Int)] _) && _) = false
  rw [List.all_cons, this]
  rfl
theorem pw_sorted {es : Rd} {th kn : List Nat} {r : Rd} (h : r ∈ sortR (foundL es th kn)) : r ∈ callsL es (freshL th kn) kn := by
  unfold sortR at h
  rw [List.mem_mergeSort] at h
  unfold foundL at h
  exact (List.mem_filter.mp h).1
section
variable {w : World} {K : PySem.W.Frag} {mg : Str → Option Value} {base : Heap} {CW CB CN : Addr}
theorem ok_law {fH fD fLW fLH fI fR fQ fIs fS fDe fT fP f : Addr} {dH dD dLW dLH dI dR dQ dIs dS dDe dT dP fd : FuncData} (F : FnP K "law" sLaw f fd) (T : Txt K mg CW CB CN) (L : LawFns w K mg base CW CB CN fH fD fLW fLH fI fR fQ fIs fS fDe fT fP dH dD dLW dLH dI dR dQ dIs dS dDe dT dP) :
    FnOk pwB w K mg base CX0 8 f fd ["_law_script"] (spLaw K) := by
  obtain ⟨FH, gH, GH, FD, gD, GD, FLW, gLW, GLW, FLH, gLH, GLH, M, FI, GI, FR, gR, GR, hQ, nQ, FQ, GQ, FIs, gIs, GIs, FS, gS, GS, FDe, gDe, GDe, FT, gT, GT, FP, gP, GP⟩ := L
  have bH : Binds K dH ["_law_script"] [] := FH.bindsN fun _ _ _ _ _ _ us hl => match us, hl with | [_], _ => rfl
  have bD : Binds K dD ["_law_hand_here", "_law_many"] [] := FD.bindsN fun _ _ _ _ _ _ us hl => match us, hl with | [_, _], _ => rfl
  have bLW : Binds K dLW ["_law_hand_here", "_law_most"] [] := FLW.bindsN fun _ _ _ _ _ _ us hl => match us, hl with | [_, _], _ => rfl
  have bLH : Binds K dLH ["_law_web_here", "_law_knowing", "_law_there"] [] := FLH.bindsN fun _ _ _ _ _ _ us hl => match us, hl with | [_, _, _], _ => rfl
  have bI : Binds K dI ["self", "people", "ties"] [] := FI.bindsN fun _ _ _ _ _ _ us hl => match us, hl with | [_, _, _], _ => rfl
  have bR : Binds K dR ["web", "knowing"] [] := FR.bindsN fun _ _ _ _ _ _ us hl => match us, hl with | [_, _], _ => rfl
  have bQ : Binds K dQ ["self", "other"] [] := FQ.bindsN fun _ _ _ _ _ _ us hl => match us, hl with | [_, _], _ => rfl
  have bIs : Binds K dIs ["_law_told_here", "_law_due"] [] := FIs.bindsN fun _ _ _ _ _ _ us hl => match us, hl with | [_, _], _ => rfl
  have bS : Binds K dS nmSome [] := FS.bindsN fun _ _ _ _ _ _ us hl => match us, hl with | [_, _], _ => rfl
  have bDe : Binds K dDe ["_law_kind"] [] := FDe.bindsN fun _ _ _ _ _ _ us hl => match us, hl with | [_], _ => rfl
  have bT : Binds K dT ["_law_web_here", "_law_knowing"] [] := FT.bindsN fun _ _ _ _ _ _ us hl => match us, hl with | [_, _], _ => rfl
  have bP : Binds K dP ["_law_people", "_law_ties"] [] := FP.bindsN fun _ _ _ _ _ _ us hl => match us, hl with | [_, _], _ => rfl
  have tW := sub_of_kit T.tupW
  refine F.ok scLaw (fun vs H Q E h => ?_) (fun cdv A outer s H vs Q E hr h => ?_)
  · obtain ⟨a, ns, rfl, _⟩ := h
    rfl
  · obtain ⟨sa, ns, rfl, hs, hz, k⟩ := h
    refine ⟨_, PSs.nox (pss_cons (ps_asg (pe_call GH (hr.mono (by decide)) rfl gH FH.kp bH .nil pass0 (pa_cons (pv 0) pa_nil)) (pg_name (i := 1) scLaw.nd rfl (.inr rfl)))
      (pss_cons (ps_for PassesOwn.never rfl (pi_range1 rfl T.range (pa_cons pe_int pa_nil)) (pg_name (i := 2) scLaw.nd rfl (.inl rfl))
        (pss_cons (ps_asg (pe_call GLW (hr.mono (by decide)) rfl gLW FLW.kp bLW .nil pass0 (pa_cons (pv 1) (pa_cons pe_int pa_nil))) (pg_name (i := 3) scLaw.nd rfl (.inl rfl)))
        (pss_cons (ps_asg (pe_make M GI (hr.mono (by decide)) rfl T.gW bI .nil passF (pa_cons (pe_ix ix_tup (pv 3) pe_int (fun _ _ => rfl)) (pa_cons (pe_ix ix_tup (pv 3) pe_int (fun _ _ => rfl)) pa_nil))) (pg_name (i := 4) scLaw.nd rfl (.inl rfl)))
        (pss_cons (ps_asg (pe_listRg rfl rfl T.list (prg_1 rfl T.range (pe_ix ix_tup (pv 3) pe_int (fun _ _ => rfl)))) (pg_name (i := 5) scLaw.nd rfl (.inl rfl)))
        (pss_cons (ps_asg (pe_orT (pe_tupleOf rfl T.tuple (pe_lc (own := [("_law_one", 13)]) (g := gName 13) rfl scLaw.nd (pi_list (pv 5)) (blkOk_by (N := nmLaw) (sc := defScope sLaw) (by decide +kernel)) (fun _ _ _ _ _ => pg_name (i := 13) scLaw.nd rfl (Or.inl rfl))
              (fun _ _ _ _ _ => pts_one (pt_cmpR op_eq (pe_call GD (hr.mono (by decide)) rfl gD FD.kp bD .nil pass0 (pa_cons (pv 1) (pa_cons pe_int pa_nil))) pe_int (nomark _))) (fun _ _ _ _ _ => pv 13)))
            (pe_one (pe_tup (pa_cons (pe_call GD (hr.mono (by decide)) rfl gD FD.kp bD .nil pass0 (pa_cons (pv 1) (pa_cons (pe_ix ix_tup (pv 3) pe_int (fun _ _ => rfl)) pa_nil))) pa_nil)))) (pg_name (i := 6) scLaw.nd rfl (.inl rfl)))
        (pss_cons (ps_asg (pe_call GLH (hr.mono (by decide)) rfl gLH FLH.kp bLH .nil pass0 (pa_cons (pv 3) (pa_cons (pv 6) (pa_cons (pv 5) pa_nil)))) (pg_name (i := 7) scLaw.nd rfl (.inl rfl)))
        (pss_cons (ps_asg (pe_call GR (hr.mono (by decide)) rfl gR FR.kp bR .nil passF (pa_cons (pv 4) (pa_cons (pv 6) pa_nil))) (pg_name (i := 8) scLaw.nd rfl (.inl rfl)))
        (pss_cons (ps_if (PW.pt (pw_or (pt_not (pt_val (pe_callB call_isi rfl T.isinstance (by decide +kernel) (pa_cons (pv 8) (pa_cons (pe_bltn (v := .ty "list") rfl T.list (by decide +kernel) rfl) pa_nil)))))
            (pw_or1 (pt_not (pt_val (pe_call GIs (hr.mono (by decide)) rfl gIs FIs.kp bIs .nil pass0 (pa_cons (pv 8) (pa_cons (pv 7) pa_nil)))))))) (pss_one (ps_ret pe_bl)) pss_nil)
        (pss_cons (ps_expr (pe_bm PySem.F.plainAttrs_list PySem.F.slot_list_append PySem.F.type_list_append mt_append (pv 8) (pa_cons pe_non pa_nil)))
        (pss_cons (ps_if (PW.pt (pw_or (pt_cmpR (op_neD hr.units) (pe_call GR (hr.mono (by decide)) rfl gR FR.kp bR .nil passF (pa_cons (pv 4) (pa_cons (pv 6) pa_nil))) (pv 7) (nomark _))
            (pw_or1 (pt_cmpR (op_neD hr.units) (pe_call GR (hr.mono (by decide)) rfl gR FR.kp bR .nil passF (pa_cons (pv 4) (pa_cons (pe_tupleOf rfl T.tuple (pv 5)) pa_nil))) (pe_lst (pa_cons (pe_tup pa_nil) pa_nil)) (nomark _))))) (pss_one (ps_ret pe_bl)) pss_nil)
        (pss_cons (ps_asg (pe_lst (pa_cons (pe_tup pa_nil) (pa_cons (pe_tup (pa_cons pe_int (pa_cons pe_int pa_nil))) (pa_cons (pe_tup (pa_cons (pe_ix ix_tup (pv 3) pe_int (fun _ _ => rfl)) pa_nil)) (pa_cons (pe_tup (pa_cons (pe_un un_neg pe_int) pa_nil)) (pa_cons (pe_tup (pa_cons pe_bl pa_nil)) (pa_cons (pe_lst (pa_cons pe_int pa_nil)) (pa_cons pe_int (pa_cons pe_non (pa_cons pe_str
            (pa_cons pe_dnewK (pa_cons (pv 4) (pa_cons (pe_call GDe (hr.mono (by decide)) rfl gDe FDe.kp bDe .nil pass0 (pa_cons pe_int pa_nil)) (pa_cons (pe_tup (pa_cons pe_int (pa_cons pe_int pa_nil))) (pa_cons (pe_tup (pa_cons pe_non pa_nil)) pa_nil))))))))))))))) (pg_name (i := 9) scLaw.nd rfl (.inl rfl)))
        (pss_cons (ps_if (pt_cmpR op_ne (pe_call GT (hr.mono (by decide)) rfl gT FT.kp bT .nil pass0 (pa_cons (pv 4) (pa_cons (pe_call GS (hr.mono (by decide)) rfl gS FS.kp bS .nil pass0 (pa_cons (pv 1) (pa_cons (pv 9) pa_nil))) pa_nil))) pe_str (nomark _)) (pss_one (ps_ret pe_bl)) pss_nil)
        (pss_cons (ps_asg (pe_call GS (hr.mono (by decide)) rfl gS FS.kp bS .nil pass0 (pa_cons (pv 1) (pa_cons (pe_lst (pa_cons pe_int (pa_cons pe_int (pa_cons (pe_un un_neg pe_int) (pa_cons pe_bl (pa_cons pe_non (pa_cons pe_str (pa_cons (pe_tup (pa_cons pe_int pa_nil)) (pa_cons (pv 4) (pa_cons (pe_call GDe (hr.mono (by decide)) rfl gDe FDe.kp bDe .nil pass0 (pa_cons pe_int pa_nil)) pa_nil)))))))))) pa_nil))) (pg_name (i := 10) scLaw.nd rfl (.inl rfl)))
        (pss_cons (ps_asg (pe_lst (pa_cons pe_non (pa_cons (pe_callTy call_list_of rfl T.list (by decide +kernel) (pa_cons (pe_ix ix_tup (pv 3) pe_int (fun _ _ => rfl)) pa_nil)) (pa_cons (pe_tup (pa_cons (pe_tup (pa_cons pe_int (pa_cons pe_int pa_nil))) pa_nil)) (pa_cons (pe_tup (pa_cons (pe_tup (pa_cons pe_int (pa_cons pe_int pa_nil))) pa_nil)) (pa_cons (pe_tup (pa_cons (pe_tup (pa_cons pe_int (pa_cons pe_int pa_nil))) pa_nil))
            (pa_cons (pe_tup (pa_cons (pe_tup (pa_cons pe_int (pa_cons pe_bl pa_nil))) pa_nil)) (pa_cons (pe_tup (pa_cons (pe_tup (pa_cons pe_int (pa_cons pe_int (pa_cons pe_int pa_nil)))) pa_nil)) (pa_cons (pe_tup (pa_cons (pe_lst (pa_cons pe_int (pa_cons pe_int pa_nil))) pa_nil)) pa_nil))))))))) (pg_name (i := 11) scLaw.nd rfl (.inl rfl)))
        (pss_cons (ps_asg (pe_op op_cat (pv 11) (pe_lst (pa_cons (pe_tup (pa_cons (pe_tup (pa_cons pe_int (pa_cons pe_int pa_nil))) (pa_cons (pe_tup (pa_cons pe_int (pa_cons pe_int pa_nil))) pa_nil))) (pa_cons pe_str (pa_cons (pv 4) pa_nil))))) (pg_name (i := 11) scLaw.nd rfl (.inl rfl)))
        (pss_cons (ps_if (PW.pt (pw_or (pt_cmpR op_ne (pe_call GP hr rfl gP FP.kp bP .nil pass0 (pa_cons (pv 10) (pa_cons (pe_call GS (hr.mono (by decide)) rfl gS FS.kp bS .nil pass0 (pa_cons (pv 1) (pa_cons (pv 11) pa_nil))) pa_nil))) pe_str (nomark _))
            (pw_or1 (pt_cmpR op_ne (pe_call GP hr rfl gP FP.kp bP .nil pass0 (pa_cons pe_int (pa_cons (pe_call GS (hr.mono (by decide)) rfl gS FS.kp bS .nil pass0 (pa_cons (pv 1) (pa_cons (pv 11) pa_nil))) pa_nil))) pe_str (nomark _))))) (pss_one (ps_ret pe_bl)) pss_nil)
        (pss_cons (ps_asg (pe_call GLW (hr.mono (by decide)) rfl gLW FLW.kp bLW .nil pass0 (pa_cons (pv 1) (pa_cons pe_int pa_nil))) (pg_name (i := 12) scLaw.nd rfl (.inl rfl)))
        (pss_one (ps_if (PW.pt (pw_or (pt_cmpR op_ne (pe_cmpR (op_eqOwn GQ (hr.mono (by decide)) hQ nQ bQ pass0 tW) (pv 4) (pe_make M GI (hr.mono (by decide)) rfl T.gW bI .nil passF (pa_cons (pe_ix ix_tup (pv 12) pe_int (fun _ _ => rfl)) (pa_cons (pe_ix ix_tup (pv 12) pe_int (fun _ _ => rfl)) pa_nil))) (nomark _)) (pe_cmpR (op_eqD hr.units) (pv 3) (pv 12) (nomark _)) (nomark _))
            (pw_or (pt_cmpR (op_eqOwn GQ (hr.mono (by decide)) hQ nQ bQ pass0 tW) (pv 4) (pv 3) (nomark _))
            (pw_or1 (pt_cmpR (op_neOwn GQ (hr.mono (by decide)) hQ nQ bQ pass0 T.neW T.w4 tW) (pv 4) (pe_make M GI (hr.mono (by decide)) rfl T.gW bI .nil passF (pa_cons (pe_ix ix_tup (pv 3) pe_int (fun _ _ => rfl)) (pa_cons (pe_ix ix_tup (pv 3) pe_int (fun _ _ => rfl)) pa_nil))) (nomark _)))))) (pss_one (ps_ret pe_bl)) pss_nil)))))))))))))))))))
      (pss_one (ps_ret pe_bl)))), ?_⟩
    refine q_call (ea_cons (ev_var rfl) ea_nil) fun H0 e0 => ⟨sa, ns, rfl, ex_l e0 hs, hz, fun a c G0 ha hc q0 ho0 => ?_⟩
    let Pv : Nat → L2.St → Hp → Prop := fun _ σ' G => (∃ o2 o3 o4 o5 o6 o7 o8 o9 o10 o11 o12 o13, σ' = [some (.ref sa), some (.ref a), o2, o3, o4, o5, o6, o7, o8, o9, o10, o11, o12, o13]) ∧ HandOk K G a c
    refine q_forR1 (n := 4) (ea_cons ev_c ea_nil) ⟨by decide, by decide⟩ Pv (fun H1 e => ⟨⟨_, _, _, _, _, _, _, _, _, _, _, _, rfl⟩, ho0.ex e⟩) (fun i σ' G hi pv => ?_) fun σ' G pv => s_ret (v := .bl true) ev_c fun H1 _ => k H1
    obtain ⟨⟨o2, o3, o4, o5, o6, o7, o8, o9, o10, o11, o12, o13, rfl⟩, hh⟩ := pv
    show tSeq _ _ _ [some (.ref sa), some (.ref a), some (.int (i : Int)), o3, o4, o5, o6, o7, o8, o9, o10, o11, o12, o13] G
    generalize V.int (i : Int) = vi
    -- the web's parts
    refine q_lweb (m := 6) (ea_cons (ev_var rfl) (ea_cons ev_c ea_nil)) hh (by decide) (by decide) fun v3 G1 p es kx1 ho1 hp1 hp6 hes hties hez hwp => ?_
    obtain ⟨b3, y3, rfl, hb3, hy3⟩ := id hwp
    show tSeq _ _ _ [some (.ref sa), some (.ref a), some vi, some (.ref b3), o4, o5, o6, o7, o8, o9, o10, o11, o12, o13] G1
    -- the web
    refine q_asgP (evp_web (CB := CB) (ea_cons (ev_ixT (j := 0) (ev_var rfl) ev_c hb3 rfl) (ea_cons (ev_ixT (j := 1) (ev_var rfl) ev_c hb3 rfl) ea_nil)) hy3 hp1 (by omega) hes hties hez) fun v4 G2 q2 hv4 => ?_
    obtain ⟨x, rfl, hw2⟩ := hv4
    show tSeq _ _ _ [some (.ref sa), some (.ref a), some vi, some (.ref b3), some (.ref x), o5, o6, o7, o8, o9, o10, o11, o12, o13] G2
    -- everybody
    refine q_asgL (xs := (List.range p).map nV) (el_listRg (ev_ixT (j := 0) (ev_var rfl) ev_c (ex_t q2 hb3) rfl) (by omega)) fun le G3 hle q3 hle3 => ?_
    have ho2 := ho1.ex q2
    have ho3 := ho2.ex q3
    have hlea := (ho2.fresh hle).1
    show tSeq _ _ _ [some (.ref sa), some (.ref a), some vi, some (.ref b3), some (.ref x), some (.ref le), o6, o7, o8, o9, o10, o11, o12, o13] G3
    -- who knows
    refine q_know (K := K) (vs := [13]) (j := 13) (td := tCons (tVar 1) (tCons (tC (.int 2)) tNil)) (td2 := tCons (tVar 1) (tCons (tOp (rIxT K) (tVar 3) (tC (.int 0))) tNil)) hp1 (by omega) ho3 hle3 hlea (fun _ _ => ev_var rfl) (fun _ => rfl) (fun _ => rfl) (fun _ _ => ea_cons (ev_var rfl) (ea_cons ev_c ea_nil)) (fun H1 kx tk => ea_cons (ev_var rfl) (ea_cons (ev_ixT (j := 0) (ev_var rfl) ev_c (tk _ _ (ex_t (q2.trans q3) hb3)) rfl) ea_nil)) fun ka kn G4 kx4 ho4 hka hkn hne => ?_
    show tSeq _ _ _ [some (.ref sa), some (.ref a), some vi, some (.ref b3), some (.ref x), some (.ref le), some (.ref ka), o7, o8, o9, o10, o11, o12, o13] G4
    have hw4 : WebAt K CW G4 x p es := (hw2.mono q3).kx ho3 ho4 kx4
    have hwp4 : WpAt K G4 (.ref b3) p es := (hwp.keep (.of_ex (q2.trans q3))).keep (ho3.tk kx4)
    have hle4 : G4 le = some (.lst ((List.range p).map nV)) := kx4 _ _ hlea hle3
    clear hw2 hwp hb3 hy3
    obtain ⟨b3', y3', e3, hb4, hy4⟩ := id hwp4
    have : b3' = b3 := by injection e3 with e3; exact e3.symm
    subst this
    -- what is due
    have lok := lh_ok (es := es) hkn hp6
    refine q_asgLP (elp_call (ea_cons (ev_var rfl) (ea_cons (ev_var rfl) (ea_cons (ev_var rfl) ea_nil))) (P := fun ys H' => DpAll K H' ys ((sortR (foundL es (List.range p) kn)).map rdD)) fun H1 e Q q E => ⟨_, ka, le, p, es, kn, List.range p, rfl, hwp4.keep (.of_ex e), ex_t e hka, ex_l e (sq_of hle4), lok, q⟩) fun ld ysd G5 hld q5 hld5 hd5 => ?_
    show tSeq _ _ _ [some (.ref sa), some (.ref a), some vi, some (.ref b3'), some (.ref x), some (.ref le), some (.ref ka), some (.ref ld), o8, o9, o10, o11, o12, o13] G5
    -- what is told
    have slp : ∀ G', Ex G4 G' → SpLP (spRounds K CW CN) [.ref x, .ref ka] G' (fun ys H' => DpAll K H' ys ((sortR (foundL es (List.range p) kn)).map rdD)) := fun G' e => slp_rounds (hw4.mono e) (ex_t e hka) hkn hne hp6 hes
    refine q_asgLP (elp_call (ea_cons (ev_var rfl) (ea_cons (ev_var rfl) ea_nil)) (slp G5 q5)) fun lt yst G6 hlt q6 hlt6 hd6 => ?_
    show tSeq _ _ _ [some (.ref sa), some (.ref a), some vi, some (.ref b3'), some (.ref x), some (.ref le), some (.ref ka), some (.ref ld), some (.ref lt), o9, o10, o11, o12, o13] G6
    have hrl : ∀ r ∈ sortR (foundL es (List.range p) kn), r.length ≤ 40000 := fun r hr => by
      have h1 := callsL_len (pw_sorted hr)
      have h2 := lok.kz
      omega
    have hrz : (sortR (foundL es (List.range p) kn)).length ≤ 40000 := by
      have h1 := lok.bd kn.length
      rw [List.take_length] at h1
      have h2 : (sortR (foundL es (List.range p) kn)).length = (foundL es (List.range p) kn).length := by
        unfold sortR
        exact List.length_mergeSort _
      have h3 : (foundL es (List.range p) kn).length ≤ (callsL es (freshL (List.range p) kn) kn).length := List.length_filter_le _ _
      omega
    generalize hrs : sortR (foundL es (List.range p) kn) = rs at hd5 hd6 hrl hrz slp
    have hyl6 := (dpa_rds hd6).length
    -- told is due
    refine q_when (b := false) (et_is (et_or (a := false) (b := false) (et_not (et_B (ev_isiG (t := .type "list") (b := true) (ev_var rfl) ev_c (.ty _) (fun H1 e => .base (.lst (e _ _ hlt6))) (kit_ty (by decide +kernel))))) fun _ => et_not (et_B (ev_call (z := .bl true) (ea_cons (ev_var rfl) (ea_cons (ev_var rfl) ea_nil)) fun H1 e Q q E =>
      ⟨_, _, rfl, IsR.mono e 3 _ _ (rds_isr hlt6 (q6 _ _ hld5) hd6 (Bz.DpAll.go q6 hd5) hrz hrl), q⟩))) rfl) (fun z => Bool.noConfusion z) fun _ G7 q7 => ?_
    refine q_app (v := .non) (q7 _ _ hlt6) (ev_var rfl) ev_c (by omega) fun G7' q7' => ?_
    have ex8 : Ex G5 (upd G7' lt (.lst (yst ++ [.non]))) := Ex.mut ((q6.trans q7).trans q7') hlt
    generalize upd G7' lt (.lst (yst ++ [.non])) = G8 at ex8
    have ex48 : Ex G4 G8 := q5.trans ex8
    -- told again; all know
    have slpF : ∀ (q : Addr) (G' : Hp), Ex G8 G' → G' q = some (.tup ((List.range p).map nV)) → SpLP (spRounds K CW CN) [.ref x, .ref q] G' (fun ys H' => DpAll K H' ys (([[]] : List Rd).map rdD)) := fun q G' e hq => by
      have h1 := slp_rounds (CN := CN) (hw4.mono (ex48.trans e)) (st_of hq) (full_kn p) (fun z => by
        have := congrArg List.length z
        rw [List.length_range] at this
        simp at this
        omega) hp6 hes
      rwa [full_found, sort_one] at h1
    refine q_when (b := false) (et_is (et_or (a := false) (b := false) (et_test (ev_is (ev_neLP (elp_call (ea_cons (ev_var rfl) (ea_cons (ev_var rfl) ea_nil)) (slp G8 ex48)) (evp_rdsV (ev_var rfl) (ex8 _ _ hld5) (Bz.DpAll.go ex8 hd5))) (by rw [decide_eq_true rfl]; rfl)))
      fun _ => et_test (ev_is (ev_neLP (elp_call2 (ev_var rfl) (eu_tupOfL (ev_var rfl) (sq_of (ex48 _ _ hle4))) slpF) (evp_rds1 evp_rd0)) (by rw [decide_eq_true rfl]; rfl))) rfl) (fun z => Bool.noConfusion z) fun _ G9 q9 => ?_
    have ex49 : Ex G4 G9 := ex48.trans q9
    have hw9 := hw4.mono ex49
    have ho9 := ho4.ex ex49
    have hwp9 : WpAt K G9 (.ref b3') p es := hwp4.keep (.of_ex ex49)
    have hb9 := ex_t ex49 hb4
    clear slp slpF
    -- no lots
    refine q_asgLP (evl_it (CW := CW) (n := 14) (P := fun t => t.lot (p : Int) = false ∨ t = .tup []) (eap_cons (evp_t0.it (.inr rfl)) (eap_cons ((evp_t2 evp_ci evp_ci).it (.inl (lot00 _))) (eap_cons ((evp_t1 (evp_i (ev_ixT (j := 0) (ev_var rfl) ev_c hb9 rfl))).it (.inl (lotp p))) (eap_cons ((evp_t1 evp_neg).it (.inl rfl)) (eap_cons ((evp_t1 evp_cb).it (.inl rfl)) (eap_cons ((evp_thL (eta_cons evp_ci eta_nil) (by show (1 : Nat) ≤ 1000; decide)).it (.inl rfl)) (eap_cons (evp_ci.it (.inl rfl)) (eap_cons (evp_cn.it (.inl rfl)) (eap_cons (evp_cs.it (.inl rfl))
      (eap_cons (evp_thD.it (.inl rfl)) (eap_cons ((evp_thv (x := .ref x) (ev_var rfl) hw9.th).it (.inl rfl)) (eap_cons (evp_deep1 fun _ => .inl rfl) (eap_cons ((evp_t2 evp_ci evp_ci).it (.inl (lot10 _))) (eap_cons ((evp_t1 evp_cn).it (.inl rfl)) eap_nil)))))))))))))) (by decide)) fun lo xo G10 hlo q10 hlo10 hxo => ?_
    show tSeq _ _ _ [some (.ref sa), some (.ref a), some vi, some (.ref b3'), some (.ref x), some (.ref le), some (.ref ka), some (.ref ld), some (.ref lt), some (.ref lo), o10, o11, o12, o13] G10
    have ho10 := ho9.ex q10
    refine q_skip (R := fun H' => KX a G10 H' ∧ HandOk K H' a c) (fun Q q => d_told (fun _ _ => ev_var rfl) (fun _ _ => ev_var rfl) (fun _ _ => ev_var rfl) hlo10 (ho9.fresh hlo).1 hxo.2 (by omega) (by omega) ho10 (hw9.mono q10) (by omega) fun H' kx ho => q H' ⟨kx, ho⟩) fun G11 ⟨kx11, ho11⟩ => ?_
    have hw11 := (hw9.mono q10).kx ho10 ho11 kx11
    have hwp11 : WpAt K G11 (.ref b3') p es := (hwp9.keep (.of_ex q10)).keep (ho10.tk kx11)
    -- no number of people
    refine d_some (P := fun t => t.within 1 9 = false) (n := 9) (ev_var rfl) (evl_it (CW := CW) (eap_cons (evp_ci.it rfl) (eap_cons (evp_ci.it rfl) (eap_cons (evp_neg.it rfl) (eap_cons (evp_cb.it rfl) (eap_cons (evp_cn.it rfl) (eap_cons (evp_cs.it rfl) (eap_cons ((evp_t1 evp_ci).it rfl) (eap_cons ((evp_thv (x := .ref x) (ev_var rfl) hw11.th).it rfl) (eap_cons (evp_deep2 rfl) eap_nil))))))))) (by decide)) (by decide) (by decide) ho11 fun vw G12 kx12 ho12 hvw => ?_
    show tSeq _ _ _ [some (.ref sa), some (.ref a), some vi, some (.ref b3'), some (.ref x), some (.ref le), some (.ref ka), some (.ref ld), some (.ref lt), some (.ref lo), some vw, o11, o12, o13] G12
    have hw12 := hw11.kx ho11 ho12 kx12
    have hwp12 : WpAt K G12 (.ref b3') p es := hwp11.keep (ho11.tk kx12)
    obtain ⟨b4, y4, e4, hb12, hy12⟩ := id hwp12
    have : b4 = b3' := by injection e4 with e4; exact e4.symm
    subst this
    obtain ⟨ty, ys12, rfl, hty, _⟩ := id hy12
    -- no ties
    refine q_asgLP (evl_it (CW := CW) (n := 8) (P := fun t => t.ties 9 = false) (eap_cons (evp_cn.it rfl) (eap_cons ((evp_listOfT (ev_ixT (j := 1) (v := .ref ty) (ev_var rfl) ev_c hb12 rfl) hty).it rfl) (eap_cons ((evp_t1 (evp_t2 evp_ci evp_ci)).it (by decide)) (eap_cons ((evp_t1 (evp_t2 evp_ci evp_ci)).it (by decide)) (eap_cons ((evp_t1 (evp_t2 evp_ci evp_ci)).it (by decide)) (eap_cons ((evp_t1 (evp_t2 evp_ci evp_cb)).it (by decide)) (eap_cons ((evp_t1 (evp_t3 evp_ci evp_ci evp_ci)).it (by decide))
      (eap_cons ((evp_t1 (evp_thL (eta_cons evp_ci (eta_cons evp_ci eta_nil)) (by show (2 : Nat) ≤ 1000; decide))).it (by decide)) eap_nil)))))))) (by decide)) fun lb xb G13 hlb q13 hlb13 hxb => ?_
    show tSeq _ _ _ [some (.ref sa), some (.ref a), some vi, some (.ref b4), some (.ref x), some (.ref le), some (.ref ka), some (.ref ld), some (.ref lt), some (.ref lo), some vw, some (.ref lb), o12, o13] G13
    refine q_asgLP (evl_catIt (CW := CW) (n := 8) (m := 3) (P := fun t => t.ties 9 = false) (ev_var rfl) hlb13 hxb.1 hxb.2 (evl_it (CW := CW) (n := 3) (eap_cons ((evp_t2 (evp_t2 evp_ci evp_ci) (evp_t2 evp_ci evp_ci)).it (by decide)) (eap_cons (evp_cs.it rfl) (eap_cons ((evp_thv (x := .ref x) (ev_var rfl) (hw12.mono q13).th).it rfl) eap_nil))) (by decide)) (by decide)) fun lc xc G14 hlc q14 hlc14 hxc => ?_
    show tSeq _ _ _ [some (.ref sa), some (.ref a), some vi, some (.ref b4), some (.ref x), some (.ref le), some (.ref ka), some (.ref ld), some (.ref lt), some (.ref lo), some vw, some (.ref lc), o12, o13] G14
    have ho13 := ho12.ex q13
    have ho14 := ho13.ex q14
    have hlca := (ho13.fresh hlc).1
    have hvw14 := mo_it _ _ _ (q13.trans q14) hvw
    have hw14 := hw12.mono (q13.trans q14)
    have hwp14 : WpAt K G14 (.ref b4) p es := hwp12.keep (.of_ex (q13.trans q14))
    refine q_skip (R := fun H' => KX a G14 H' ∧ HandOk K H' a c) (fun Q q => ?_) fun G15 ⟨kx15, ho15⟩ => ?_
    · refine d_part (Pp := fun t => t.within 1 9 = false) (P := fun t => t.ties 9 = false) (fun _ _ => ev_var rfl) hvw14 (fun _ _ => ev_var rfl) (fun _ _ => ev_var rfl) hlc14 hlca hxc.2 (by omega) (by omega) ho14 (fun tp tt h _ => .inl ⟨h, rfl⟩) fun H1 kxa hoa => ?_
      show (if false = true then _ else _)
      rw [if_neg (by decide)]
      exact d_part (vp := .int 9) (Pp := fun t => t = .int 9) (P := fun t => t.ties 9 = false) (fun _ _ => ev_c) ⟨.int 9, .int 9, rfl⟩ (fun _ _ => ev_var rfl) (fun _ _ => ev_var rfl) (kxa _ _ hlca hlc14) hlca (fun v hv => (hxc.2 v hv).kx ho14 hoa kxa) (by omega) (by omega) hoa (fun tp tt h h2 => by subst h; exact .inr ⟨rfl, h2, rfl⟩) fun H2 kxb hob => q H2 ⟨kxa.trans kxb, hob⟩
    have hw15 := hw14.kx ho14 ho15 kx15
    have hwp15 : WpAt K G15 (.ref b4) p es := hwp14.keep (ho14.tk kx15)
    -- another web
    refine q_lweb (m := 6) (ea_cons (ev_var rfl) (ea_cons ev_c ea_nil)) ho15 (by decide) (by decide) fun v12 G16 p' es' kx16 ho16 hp1' hp6' hes' hties' hez' hwp' => ?_
    have hw16 := hw15.kx ho15 ho16 kx16
    have hwp16 : WpAt K G16 (.ref b4) p es := hwp15.keep (ho15.tk kx16)
    obtain ⟨b5, y5, rfl, hb5, hy5⟩ := id hwp'
    obtain ⟨b6, y6, e6, hb16, hy16⟩ := id hwp16
    have : b6 = b4 := by injection e6 with e6; exact e6.symm
    subst this
    show tIfS _ _ _ _ [some (.ref sa), some (.ref a), some vi, some (.ref b6), some (.ref x), some (.ref le), some (.ref ka), some (.ref ld), some (.ref lt), some (.ref lo), some vw, some (.ref lc), some (.ref b5), o13] G16
    refine s_when (b := false) (et_is (et_or (a := false) (b := false) (et_test (ev_is (ev_op (ev_eqWW (neg := false) (ev_var rfl) hw16 (evp_web (CB := CB) (ea_cons (ev_ixT (j := 0) (ev_var rfl) ev_c hb5 rfl) (ea_cons (ev_ixT (j := 1) (ev_var rfl) ev_c hb5 rfl) ea_nil)) hy5 hp1' (by omega) hes' hties' hez'))
        (ev_is (ev_op (x := .ref b6) (y := .ref b5) (ev_var rfl) (ev_var rfl) (rv_eqD hwp16.dp hwp'.dp (wpD_shaped p es) (wpD_shaped p' es'))) (by rw [wpD_eqv])) (rv_ne rfl)) (by rw [decide_eq_true]; rfl; rfl)))
      fun _ => et_or (a := false) (b := false) (et_test (ev_eqWT (neg := false) (ev_var rfl) hw16 (fun _ _ => ev_var rfl) hb16))
        fun _ => et_test (ev_is (ev_eqWW (neg := true) (ev_var rfl) hw16 (evp_web (CB := CB) (ea_cons (ev_ixT (j := 0) (ev_var rfl) ev_c hb16 rfl) (ea_cons (ev_ixT (j := 1) (ev_var rfl) ev_c hb16 rfl) ea_nil)) hy16 hp1 (by omega) hes hties hez)) (by simp))) rfl) (fun z => Bool.noConfusion z) fun _ G17 q17 => ⟨⟨_, _, _, _, _, _, _, _, _, _, _, _, rfl⟩, ho16.ex q17⟩
end
end Bz

set_option maxHeartbeats 0
namespace Bz
open PySem PySem.Spec PyProof.Rows L2
abbrev R : PySem.W.OpenRow := PySem.W.OpenLaw.row PySem.Challenge.rw_busyfloor_k74_whole_hasty_rounds
def fn : List He.DefD := [dG "is_integer" sIsInt, dG "is_within" sWithin, dG "are_ascending" sAsc, dG "is_lot_of" sLot, dG "bits" sBits, dG "lot_of" sLotOf, dG "are_ties" sTies,
  dM "Web" "__init__" "Web.__init__" sWeb, dM "Web" "__eq__" "Web.__eq__" sEq, dG "calls_by" sCalls, dG "hasty" sHasty, dG "rounds_from" sRounds,
  dG "_law_hand" sHand, dG "_law_draw" sDraw, dG "_law_is" sIs, dG "_law_some" sSome, dG "_law_deep" sDeep, dG "_law_web" sLWeb, dG "_law_near" sNear, dG "_law_hasty" sLHasty, dG "_law_told" sTold, dG "_law_part" sPart, dG "law" sLaw]
def gl : List Str := ["is_integer", "is_within", "are_ascending", "is_lot_of", "bits", "lot_of", "are_ties", "calls_by", "hasty", "rounds_from", "_law_hand", "_law_draw", "_law_is", "_law_some", "_law_deep", "_law_web", "_law_near", "_law_hasty", "_law_told", "_law_part", "law", "Web", "NoLot", "BadWeb", "HallError"]
def fr : List Str := ["isinstance", "int", "bool", "all", "range", "len", "tuple", "sum", "any", "sorted", "list", "zip", "abs", "min", "max", "super", "ValueError"]
def fc : List He.Fa := [.int "MOST_PEOPLE" 9, .cls "Web", .noat "Web" "people", .noat "Web" "ties", .noat "Web" "kept_ties", .mkr "Web", .meth "Web" "__eq__", .exc "NoLot", .exm "NoLot" "NoLot" true, .exm "BadWeb" "BadWeb" true, .keep "BadWeb", .keep "Web"]
def fa : List He.Fa := gl.map .glo ++ (fr.map .free ++ fc)
/-! ### one more Bool -/
def oexB (K : PySem.W.Frag) (C : Addr) : Bool := match K.lookup C with
  | some ⟨.type "type", _, .cls cd, sl⟩ => (match cd.mro, sl.toList with
    | .ref C' :: bm, [_, _, _, _, some (.builtin n), _] => C' == C && n == "ValueError.__new__" && !cd.hasDel && cd.hasDict && PySem.HandSPX.refsVE bm
    | _, _ => false)
  | _ => false
theorem oexB_ok {K : PySem.W.Frag} {C : Addr} (q : oexB K C = true) : ∃ nm q N bs bm sn sub ab col dd k0 k1 k2 k3 k5, K.lookup C = some (excClassObj nm q C N bs bm true sn sub ab col dd k0 k1 k2 k3 k5 "ValueError.__new__") ∧ PySem.HandSPX.refsVE bm = true := by
  unfold oexB at q
  split at q
  · rename_i dd cd sl ho
    split at q
    · rename_i C' bm k0 k1 k2 k3 n k5 hm hs
      simp only [Bool.and_eq_true, beq_iff_eq, Bool.not_eq_true'] at q
      obtain ⟨⟨⟨⟨rfl, rfl⟩, hdel⟩, hdi⟩, ht⟩ := q
      obtain ⟨nm, bs, mro, ns, qn, hd, sn, sub, ab, col, del⟩ := cd
      dsimp only at hm hdel hdi
      subst hm hdel hdi
      have hsl : sl = #[k0, k1, k2, k3, some (.builtin "ValueError.__new__"), k5] := by
        obtain ⟨l⟩ := sl
        simp only at hs
        rw [hs]
      subst hsl
      exact ⟨nm, qn, ns, bs, bm, sn, sub, ab, col, dd, k0, k1, k2, k3, k5, ho, ht⟩
    · cases q
  · cases q
def exB (K : PySem.W.Frag) : Bool :=
  let CW := He.ga K "Web"
  let CB := He.ga K "BadWeb"
  He.eqO (PySem.W.findIn K (.ref CW) "__class__") (some (some (.builtin "object.__class__"))) && (
  He.eqO (PySem.W.specialIn K (.builtin "object.__class__") "__get__") (some (some (.builtin "getset_descriptor.__get__"))) && (
  decide (PySem.W.takesIn K (.builtin "object.__class__") = some true) && (
  decide (PySem.W.mroIn K CW (.type "object") = some true) && (
  decide (PySem.W.kitOne K (.ref CW) (.type "int") = some false) && (
  decide (PySem.W.kitOne K (.ref CW) (.type "bool") = some false) && (
  decide (PySem.W.kitOne K (.ref CW) (.type "tuple") = some false) && (
  decide (PySem.W.kitOne K (.ref CW) (.type "list") = some false) && (
  decide (PySem.W.kitOne K (.ref CW) (.ref CW) = some true) && (
  decide (PySem.W.kitOne K (.type "tuple") (.ref CW) = some false) && (
  He.eqO (PySem.W.findIn K (.ref CW) "__ne__") (some (some (.builtin "object.__ne__"))) && (
  oexB K CB && (
  He.eqO (PySem.W.findIn K (.ref CB) "__setattr__") (some (some (.builtin "object.__setattr__"))) && (
  decide (PySem.W.subIn K (.ref CB) (.type "BaseException") = some true) && (
  decide (PySem.W.typeIn K (.ref CB) = some (.type "type")) && (
  PySem.W.keepIn K (.ref CB) && (
  L2.xfB K CB && (
  He.eqO (PySem.W.findIn K (.ref CB) "part") (some none))))))))))))))))))
/-- BadWeb's __init__: it closes over __class__ -/
def badB (K : PySem.W.Frag) : Bool :=
  let CB := He.ga K "BadWeb"
  let fI := He.ma K CB "__init__"
  He.eqO (PySem.W.findIn K (.ref CB) "__init__") (some (some (.ref fI))) && (
  decide (PySem.W.typeIn K (.ref fI) = some (.type "function")) && (
  He.eqO (PySem.W.nsIn K cStatics "thirdparty.any") (some none) && (
  decide (PySem.W.ks_superIn K CB CB "__init__" = some (some (.builtin "ValueError.__init__"))) && (
  decide (PySem.W.mroIn K CB (.ref CB) = some true) && (
  decide (PySem.W.subIn K (.ref CB) (.type "ValueError") = some true) && (
  match K.lookup fI with
  | some ⟨_, _, .func fd, _⟩ => PySem.W.codeIn K fd.code "BadWeb.__init__" && (
    (match fd.closure with
      | [(n, cc)] => decide (n = "__class__") && (match K.lookup cc with
        | some ⟨_, _, .cell (some (.ref D)), _⟩ => decide (D = CB)
        | _ => false)
      | _ => false) &&
    (match fd.code with
      | .ref c => (match K.lookup c with
        | some ⟨_, _, .fields vs, _⟩ => (match (vs[2]? : Option Value) with
          | some (Value.str file _) => PySem.Challenge.pw_busyfloor_k74_whole_hasty_rounds.main.file == file
          | _ => false)
        | _ => false)
      | _ => false))
  | _ => false))))))
abbrev FnZ : Type := Option (Str × Str × Arguments × FuncBody × Scope × Addr × Addr × Value)
def badV (K : PySem.W.Frag) : FnZ := match K.lookup (He.ma K (He.ga K "BadWeb") "__init__") with
  | some ⟨_, _, .func fd, _⟩ => some (fd.name, fd.qualname, fd.params, fd.body, fd.scope, fd.globals, fd.builtins, fd.defaults)
  | _ => none
def badW : FnZ := some ("__init__", "BadWeb.__init__", defArgs sBad, .stmts (defBody sBad), defScope sBad, mainGlobals, builtinsNs, .none)
abbrev AlB : Type := (He.AlD × Bool) × FnZ
def obsK (K : PySem.W.Frag) : AlB := ((He.obsD fa fn K, exB K && badB K), badV K)
def valB : AlB := ((He.valD fn, true), badW)
def obsB (g : Addr → Option Obj) : AlB := obsK (He.frG g (cStatics :: He.asD g 6))
def hk : PySem.W.Hook where
  α := AlB
  obs := fun s => obsB s.heap.get?
  val := fun _ => valB
  says := fun _ h => ∃ K : PySem.W.Frag, K.In h ∧ obsK K = valB
  of := fun _ _ e => ⟨_, He.frG_in, e⟩
  keeps := fun _ _ _ ⟨K, hK, c⟩ k => ⟨K, PySem.W.Frag.In.keeps hK k, c⟩
def ob (s : PySem.W.SharedT) : AlB := obsB (HandSHeadRun.getT s)
theorem ob_eq (s : PySem.W.SharedT) : ob s = hk.obs s.abs := by
  have e : HandSHeadRun.getT s = s.abs.heap.get? := funext (HandSHeadRun.getT_eq s)
  show obsB (HandSHeadRun.getT s) = obsB s.abs.heap.get?
  rw [e]
def names : List Str := ["__name__", "HallError", "NoLot", "BadWeb", "is_integer", "is_within", "are_ascending", "is_lot_of", "bits", "lot_of", "MOST_PEOPLE", "are_ties", "Web", "calls_by", "hasty", "rounds_from", "_law_hand", "_law_draw", "_law_is", "_law_some", "_law_deep", "_law_web", "_law_near", "_law_hasty", "_law_told", "_law_part"]
theorem run (w : World) : HandSHeadRun.RunEq R (PySem.W.view R.prog [29]) hk ob 4000 names w := by
  intro os
  kernel_rfl
end Bz

set_option maxHeartbeats 2000000
namespace Bz
open PySem PySem.Spec PyProof.Rows L2
/-! ### what the run's end says -/
section
variable {K : PySem.W.Frag} {h : Heap} {mg : Str → Option Value}
theorem txt_of (X : K.In h) (G : h.Ns mainGlobals mg) (c : obsK K = valB) : Txt K mg (He.ga K "Web") (He.ga K "BadWeb") (He.ga K "NoLot") := by
  have c1 : He.SaysD fa fn K := congrArg (fun z : AlB => z.1.1) c
  have c2 : (exB K && badB K) = true := congrArg (fun z : AlB => z.1.2) c
  obtain ⟨e0, _⟩ := He.ba c2
  unfold exB at e0
  obtain ⟨e1, e0⟩ := He.ba e0
  obtain ⟨e2, e0⟩ := He.ba e0
  obtain ⟨e3, e0⟩ := He.ba e0
  obtain ⟨e4, e0⟩ := He.ba e0
  obtain ⟨e5, e0⟩ := He.ba e0
  obtain ⟨e6, e0⟩ := He.ba e0
  obtain ⟨e7, e0⟩ := He.ba e0
  obtain ⟨e8, e0⟩ := He.ba e0
  obtain ⟨e9, e0⟩ := He.ba e0
  obtain ⟨e10, e0⟩ := He.ba e0
  obtain ⟨e11, e0⟩ := He.ba e0
  obtain ⟨e12, e0⟩ := He.ba e0
  obtain ⟨e13, e0⟩ := He.ba e0
  obtain ⟨e14, e0⟩ := He.ba e0
  obtain ⟨e15, e0⟩ := He.ba e0
  obtain ⟨e16, e0⟩ := He.ba e0
  obtain ⟨e17, e18⟩ := He.ba e0
  obtain ⟨n1, n2, n3, n4⟩ := He.exc_ok (c1.fact 49 (f := .exc "NoLot") rfl)
  exact {
    isinstance := He.free_ok X G (c1.fact 25 (f := .free "isinstance") rfl)
    int := He.free_ok X G (c1.fact 26 (f := .free "int") rfl)
    bool := He.free_ok X G (c1.fact 27 (f := .free "bool") rfl)
    all := He.free_ok X G (c1.fact 28 (f := .free "all") rfl)
    range := He.free_ok X G (c1.fact 29 (f := .free "range") rfl)
    len := He.free_ok X G (c1.fact 30 (f := .free "len") rfl)
    tuple := He.free_ok X G (c1.fact 31 (f := .free "tuple") rfl)
    sum := He.free_ok X G (c1.fact 32 (f := .free "sum") rfl)
    any := He.free_ok X G (c1.fact 33 (f := .free "any") rfl)
    sorted := He.free_ok X G (c1.fact 34 (f := .free "sorted") rfl)
    list := He.free_ok X G (c1.fact 35 (f := .free "list") rfl)
    zip := He.free_ok X G (c1.fact 36 (f := .free "zip") rfl)
    abs := He.free_ok X G (c1.fact 37 (f := .free "abs") rfl)
    min := He.free_ok X G (c1.fact 38 (f := .free "min") rfl)
    max := He.free_ok X G (c1.fact 39 (f := .free "max") rfl)
    most := He.int_ok X G (c1.fact 42 (f := .int "MOST_PEOPLE" 9) rfl)
    gW := He.glo_ok X G (c1.fact 21 (f := .glo "Web") rfl)
    clW := He.cls_ok (c1.fact 43 (f := .cls "Web") rfl)
    nPe := He.noat_ok (c1.fact 44 (f := .noat "Web" "people") rfl)
    nTi := He.noat_ok (c1.fact 45 (f := .noat "Web" "ties") rfl)
    nKe := He.noat_ok (c1.fact 46 (f := .noat "Web" "kept_ties") rfl)
    kpW := He.keep_ok (c1.fact 53 (f := .keep "Web") rfl)
    w1 := He.eqO_ok e1
    w2 := He.eqO_ok e2
    w3 := of_decide_eq_true e3
    w4 := of_decide_eq_true e4
    wInt := of_decide_eq_true e5
    wBool := of_decide_eq_true e6
    wTup := of_decide_eq_true e7
    wList := of_decide_eq_true e8
    wSelf := of_decide_eq_true e9
    tupW := of_decide_eq_true e10
    neW := He.eqO_ok e11
    gN := He.glo_ok X G (c1.fact 22 (f := .glo "NoLot") rfl)
    xN := n1
    kpN := n2
    bN := n3
    tN := n4
    exmN := He.exm_ok (c1.fact 50 (f := .exm "NoLot" "NoLot" true) rfl)
    gB := He.glo_ok X G (c1.fact 23 (f := .glo "BadWeb") rfl)
    oxB := ⟨oexB_ok e12, He.eqO_ok e13, of_decide_eq_true e14, of_decide_eq_true e15, e16⟩
    xfB := xfB_ok e17
    nPart := He.eqO_ok e18
    exmB := He.exm_ok (c1.fact 51 (f := .exm "BadWeb" "BadWeb" true) rfl)
    kpB := He.keep_ok (c1.fact 52 (f := .keep "BadWeb") rfl) }
theorem bad_of (c : obsK K = valB) : ∃ fd, BadF K (He.ga K "BadWeb") (He.ma K (He.ga K "BadWeb") "__init__") fd := by
  have c2 : (exB K && badB K) = true := congrArg (fun z : AlB => z.1.2) c
  have c3 : badV K = badW := congrArg (fun z : AlB => z.2) c
  obtain ⟨_, e0⟩ := He.ba c2
  unfold badB at e0
  obtain ⟨e1, e0⟩ := He.ba e0
  obtain ⟨e2, e0⟩ := He.ba e0
  obtain ⟨e3, e0⟩ := He.ba e0
  obtain ⟨e4, e0⟩ := He.ba e0
  obtain ⟨e5, e0⟩ := He.ba e0
  obtain ⟨e6, e0⟩ := He.ba e0
  unfold badV at c3
  cases q : K.lookup (He.ma K (He.ga K "BadWeb") "__init__") with
  | none => rw [q] at c3; cases c3
  | some o =>
    obtain ⟨oc, od, dt, osl⟩ := o
    rw [q] at c3
    simp only [q] at e0
    cases dt with
    | func fd =>
      obtain ⟨n1, n2, n3, n4, n5, n6, n7, n8, n9, n10, n11, n12, n13, n14, n15⟩ := fd
      have e7 : (some (n1, n2, n3, n4, n5, n6, n15, n8) : FnZ) = badW := c3
      unfold badW at e7
      simp only [Option.some.injEq, Prod.mk.injEq] at e7
      obtain ⟨h1, h2, h3, h4, h5, h6, h7, h8⟩ := e7
      subst h1 h2 h3 h4 h5 h6 h7 h8
      simp only at e0
      obtain ⟨k1, e0⟩ := He.ba e0
      obtain ⟨k2, k3⟩ := He.ba e0
      have k2' : ∃ cc, n7 = [(("__class__" : Str), cc)] ∧ ∃ x y z, K.lookup cc = some ⟨x, y, .cell (some (.ref (He.ga K "BadWeb"))), z⟩ := by
        split at k2
        · rename_i n cc _
          obtain ⟨a1, a2⟩ := He.ba k2
          have h1 : n = ("__class__" : Str) := of_decide_eq_true a1
          subst h1
          split at a2
          · rename_i x y D z hl
            have h2 : D = He.ga K "BadWeb" := of_decide_eq_true a2
            subst h2
            exact ⟨cc, rfl, _, _, _, hl⟩
          · cases a2
        · cases k2
      have k3' : ∃ c, n13 = .ref c ∧ ∃ x y vs z file tf, K.lookup c = some ⟨x, y, .fields vs, z⟩ ∧ vs[2]? = some (Value.str file tf) ∧ (PySem.Challenge.pw_busyfloor_k74_whole_hasty_rounds.main.file == file) = true := by
        split at k3
        · rename_i c0 _
          split at k3
          · rename_i x y vs z hl
            split at k3
            · rename_i file tf hv
              exact ⟨c0, rfl, _, _, vs, _, file, tf, hl, hv, k3⟩
            · cases k3
          · cases k3
        · cases k3
      obtain ⟨cc, rfl, hcc⟩ := k2'
      obtain ⟨c0, rfl, hc0⟩ := k3'
      exact ⟨_, ⟨oc, od, osl, n9, n10, n11, n14, n12, cc, c0, rfl, q, k1, hcc, hc0⟩, He.eqO_ok e1, of_decide_eq_true e2, He.eqO_ok e3, of_decide_eq_true e4, of_decide_eq_true e5, of_decide_eq_true e6⟩
    | _ => cases c3
end
end Bz

set_option maxHeartbeats 4000000
namespace Bz
open PySem PySem.Spec PyProof.Rows L2
theorem facts {w : World} {K : PySem.W.Frag} {h : Heap} {mg : Str → Option Value} {f : Addr} (X : K.In h) (G : h.Ns mainGlobals mg) (hfa : mg ("law" : Str) = some (.ref f)) (c : obsK K = valB) :
    ∃ fd : FuncData, (∀ (s : Shared) (v : Value), BindsTo s fd ⟨[v], []⟩ [("_law_script", v)]) ∧ ∀ base : Heap, K.In base → base.Ns mainGlobals mg → FnOk pwB w K mg base CX0 8 f fd ["_law_script"] (spLaw K) := by
  have c1 : He.SaysD fa fn K := congrArg (fun z : AlB => z.1.1) c
  have T := txt_of X G c
  obtain ⟨dBad, B⟩ := bad_of c
  have gsuper : mg "super" = none := He.free_ok X G (c1.fact 40 (f := .free "super") rfl)
  have gInt := He.glo_ok X G (c1.fact 0 (f := .glo "is_integer") rfl)
  have gWithin := He.glo_ok X G (c1.fact 1 (f := .glo "is_within") rfl)
  have gAsc := He.glo_ok X G (c1.fact 2 (f := .glo "are_ascending") rfl)
  have gLot := He.glo_ok X G (c1.fact 3 (f := .glo "is_lot_of") rfl)
  have gBits := He.glo_ok X G (c1.fact 4 (f := .glo "bits") rfl)
  have gLotOf := He.glo_ok X G (c1.fact 5 (f := .glo "lot_of") rfl)
  have gTies := He.glo_ok X G (c1.fact 6 (f := .glo "are_ties") rfl)
  have gCalls := He.glo_ok X G (c1.fact 7 (f := .glo "calls_by") rfl)
  have gHasty := He.glo_ok X G (c1.fact 8 (f := .glo "hasty") rfl)
  have gRounds := He.glo_ok X G (c1.fact 9 (f := .glo "rounds_from") rfl)
  have gHand := He.glo_ok X G (c1.fact 10 (f := .glo "_law_hand") rfl)
  have gDraw := He.glo_ok X G (c1.fact 11 (f := .glo "_law_draw") rfl)
  have gIs := He.glo_ok X G (c1.fact 12 (f := .glo "_law_is") rfl)
  have gSome := He.glo_ok X G (c1.fact 13 (f := .glo "_law_some") rfl)
  have gDeep := He.glo_ok X G (c1.fact 14 (f := .glo "_law_deep") rfl)
  have gLWeb := He.glo_ok X G (c1.fact 15 (f := .glo "_law_web") rfl)
  have gNear := He.glo_ok X G (c1.fact 16 (f := .glo "_law_near") rfl)
  have gLHasty := He.glo_ok X G (c1.fact 17 (f := .glo "_law_hasty") rfl)
  have gTold := He.glo_ok X G (c1.fact 18 (f := .glo "_law_told") rfl)
  have gPart := He.glo_ok X G (c1.fact 19 (f := .glo "_law_part") rfl)
  have e := hfa.symm.trans (He.glo_ok X G (c1.fact 20 (f := .glo "law") rfl))
  cases e
  have M := He.mkr_ok (c1.fact 47 (f := .mkr "Web") rfl)
  have Me := He.meth_ok (c1.fact 48 (f := .meth "Web" "__eq__") rfl)
  obtain ⟨dInt, FInt⟩ := c1.def_ 0 (d := dG "is_integer" sIsInt) rfl
  obtain ⟨dWithin, FWithin⟩ := c1.def_ 1 (d := dG "is_within" sWithin) rfl
  obtain ⟨dAsc, FAsc⟩ := c1.def_ 2 (d := dG "are_ascending" sAsc) rfl
  obtain ⟨dLot, FLot⟩ := c1.def_ 3 (d := dG "is_lot_of" sLot) rfl
  obtain ⟨dBits, FBits⟩ := c1.def_ 4 (d := dG "bits" sBits) rfl
  obtain ⟨dLotOf, FLotOf⟩ := c1.def_ 5 (d := dG "lot_of" sLotOf) rfl
  obtain ⟨dTies, FTies⟩ := c1.def_ 6 (d := dG "are_ties" sTies) rfl
  obtain ⟨dWeb, FWeb⟩ := c1.def_ 7 (d := dM "Web" "__init__" "Web.__init__" sWeb) rfl
  obtain ⟨dEq, FEq⟩ := c1.def_ 8 (d := dM "Web" "__eq__" "Web.__eq__" sEq) rfl
  obtain ⟨dCalls, FCalls⟩ := c1.def_ 9 (d := dG "calls_by" sCalls) rfl
  obtain ⟨dHasty, FHasty⟩ := c1.def_ 10 (d := dG "hasty" sHasty) rfl
  obtain ⟨dRounds, FRounds⟩ := c1.def_ 11 (d := dG "rounds_from" sRounds) rfl
  obtain ⟨dHand, FHand⟩ := c1.def_ 12 (d := dG "_law_hand" sHand) rfl
  obtain ⟨dDraw, FDraw⟩ := c1.def_ 13 (d := dG "_law_draw" sDraw) rfl
  obtain ⟨dIs, FIs⟩ := c1.def_ 14 (d := dG "_law_is" sIs) rfl
  obtain ⟨dSome, FSome⟩ := c1.def_ 15 (d := dG "_law_some" sSome) rfl
  obtain ⟨dDeep, FDeep⟩ := c1.def_ 16 (d := dG "_law_deep" sDeep) rfl
  obtain ⟨dLWeb, FLWeb⟩ := c1.def_ 17 (d := dG "_law_web" sLWeb) rfl
  obtain ⟨dNear, FNear⟩ := c1.def_ 18 (d := dG "_law_near" sNear) rfl
  obtain ⟨dLHasty, FLHasty⟩ := c1.def_ 19 (d := dG "_law_hasty" sLHasty) rfl
  obtain ⟨dTold, FTold⟩ := c1.def_ 20 (d := dG "_law_told" sTold) rfl
  obtain ⟨dPart, FPart⟩ := c1.def_ 21 (d := dG "_law_part" sPart) rfl
  obtain ⟨fd, F⟩ := c1.def_ 22 (d := dG "law" sLaw) rfl
  have b := FunD.bindsA (ps := ["_law_script"]) F fun _ _ _ _ _ _ us hl => match us, hl with | [_], _ => rfl
  refine ⟨fd, fun s v => b s [v] rfl, fun base _ _ => ?_⟩
  have KWithin := ok_within (P := pwB) (w := w) (base := base) FWithin T FInt gInt
  have KAsc := ok_asc (P := pwB) (w := w) (base := base) FAsc T
  have KLot := ok_lot FLot T FWithin gWithin KWithin FAsc gAsc KAsc
  have KTies := ok_ties FTies T FLot gLot KLot FAsc gAsc KAsc
  have KBits := ok_bits (P := pwB) (w := w) (base := base) FBits T
  have KLotOf := ok_lotOf (P := pwB) (w := w) (base := base) FLotOf T
  have KWeb := ok_web FWeb T FWithin gWithin KWithin FTies gTies KTies B gsuper
  have KEq := ok_eq (P := pwB) (w := w) (base := base) FEq T
  have KCalls := ok_calls FCalls T FLotOf gLotOf KLotOf
  have KHasty := ok_hasty FHasty T FLotOf gLotOf KLotOf FBits gBits KBits FCalls gCalls KCalls
  have KRounds := ok_rounds FRounds T FLot gLot KLot FBits gBits KBits FHasty gHasty KHasty
  have KDraw := ok_draw (P := pwB) (w := w) (base := base) FDraw T
  have KNear := ok_near (P := pwB) (w := w) (base := base) FNear T
  exact ok_law F T {
    FH := FHand, gH := gHand, GH := ok_hand FHand T
    FD := FDraw, gD := gDraw, GD := KDraw
    FLW := FLWeb, gLW := gLWeb, GLW := ok_lweb FLWeb T FDraw gDraw KDraw
    FLH := FLHasty, gLH := gLHasty, GLH := ok_lhasty FLHasty T FNear gNear KNear
    M := M, FI := FWeb, GI := KWeb
    FR := FRounds, gR := gRounds, GR := KRounds
    hQ := Me.at_, nQ := Me.fn, FQ := FEq, GQ := KEq
    FIs := FIs, gIs := gIs, GIs := ok_is FIs T gIs 3
    FS := FSome, gS := gSome, GS := ok_some FSome T FDraw gDraw KDraw
    FDe := FDeep, gDe := gDeep, GDe := ok_deep FDeep T
    FT := FTold, gT := gTold, GT := ok_told FTold T FRounds gRounds KRounds
    FP := FPart, gP := gPart, GP := ok_part FPart T M FWeb KWeb }
end Bz
open PySem PySem.W PySem.Calls PyProof.Rows
set_option maxRecDepth 100000 in
set_option maxHeartbeats 0 in
theorem PySem.Challenge.cw_busyfloor_k74_whole_hasty_rounds_holds : PySem.Challenge.rw_busyfloor_k74_whole_hasty_rounds.Holds := by
  w_on; o_law
  refine HandSHeadRun.head_any (r := OpenLaw.row PySem.Challenge.rw_busyfloor_k74_whole_hasty_rounds) (q := view (OpenLaw.row PySem.Challenge.rw_busyfloor_k74_whole_hasty_rounds).prog [29]) (H := Bz.hk) (ob := Bz.ob) (M := 4000) (loose := Bz.names) (d := HandSHeadRun.topDef (OpenLaw.row PySem.Challenge.rw_busyfloor_k74_whole_hasty_rounds).prog 29) (kwd := []) Bz.ob_eq
    (by kernel_rfl) (fun s => by kernel_rfl) Bz.run (by kernel_rfl) (by kernel_rfl) (by kernel_rfl) (by rfl) (by first | assumption | decide +kernel) (by decide +kernel) ⟨rfl, rfl, rfl, rfl, rfl, by decide +kernel⟩ ?hw ?hc
  case hw => w_witness2
  case hc =>
    refine L2.walk_ofE (l := PySem.Challenge.rw_busyfloor_k74_whole_hasty_rounds) (n := 63) (k := 8) (x := "_law_script") (CX := L2.CX0) rfl (by decide) (by kernel_rfl) ⟨rfl, by decide, by decide⟩ ?F (fun _ _ _ _ z => z)
    intro w mg fa h Y G hmg0
    obtain ⟨K, KX, c⟩ := Y
    have hmg : mg ("law" : PySem.Str) = some (.ref fa) := by
      have e : (HandSHeadRun.topDef (OpenLaw.row PySem.Challenge.rw_busyfloor_k74_whole_hasty_rounds).prog 29).name = ("law" : PySem.Str) := by kernel_rfl
      rw [← e]
      exact hmg0
    obtain ⟨fd, hb, hF⟩ := Bz.facts (w := w) KX G hmg c
    exact ⟨K, fd, Bz.spLaw K, KX, hb, fun H a ns hl _ hS => ⟨a, ns, rfl, hS, Nat.le_trans hl (by decide), fun _ => rfl⟩, hF⟩

