import PyProof.Rows.All
import Wide.All
import OpenK.AllK
import Wide.FinOn
import KE.KExcSuper
import HandS.ExcInit
import HandS.ExcSuper
import HandS.NestedK
import HandS.ForMost
import HandS.Exc
import HandS.TryOnly
import HandS.TryMany
import HandS.ExcOwn
import HandS.ExcField
import HandS.ExcIs
import HandS.WordsExc
import HandS.TupAny
import HandS.TupLe
import HandS.TupMul
import HandS.Conv
import HandS.Deep
import HandS.Wide
import HandS.IsInst
import HandS.DictTup
import HandS.Walk
import HandS.Zip
import KE.KExcIs
import PyProof.P3In
import PyProof.ReprRoads
import HandS.HotCalls
import HandS.EndBits
import PySem.Challenge.RW_manyunknowns_k00_errors_and_limits
section
set_option Elab.async false
set_option linter.all false
set_option maxRecDepth 100000
set_option maxHeartbeats 4000000
/-! super().__init__(..) within the __init__ of an own exception class over ValueError, in a context of HandS; and the promise of such a def. -/
namespace EXS
open PySem PySem.Spec PyProof.Rows L2 NdefX PySem.Calls

section
variable {X : Cx} {pins : List (Addr × Obj)} {σ : L2.St} {H : Hp} {s : Shared}
/-- the bound ValueError.__init__, called -/
theorem call_ve {a u C : Addr} {us : List Value} {Q : Value → Shared → Prop} (T : OexC X.K C) (I : Inv X pins σ H s) (e : H a = some (exo a C none)) (hu : s.heap.get? u = some (PySem.W.kxs_mw "ValueError.__init__" a)) (hl : us.length ≤ sizeLine)
    (h : ∀ s', Inv X pins σ H s' → Q .none s') : wpAny (model X.prog X.w) X.A (call (.ref u) us) Q X.xe s := by
  obtain ⟨nm, q, N, bs, bm, sn, sub, ab, col, dd, k0, k1, k2, k3, k5, hC, hbm⟩ := T.cls
  obtain ⟨t1, ho⟩ := exo_at I.hok e
  obtain ⟨hp, g, d, t, os⟩ := s
  refine wpAny_call (codeAny_of_tree ?_)
  show wpAny _ X.A.in1 (callAny (.ref u) ⟨us, []⟩) _ _ _
  simp only [callAny]
  refine wpAny_bind (wpAny_load hu ?_)
  simp only [PySem.W.kxs_mw, show (Value.type "method-wrapper" == Value.type "method" || Value.type "method-wrapper" == Value.type "builtin_function_or_method" || Value.type "method-wrapper" == Value.type "method-wrapper") = true by decide, if_true]
  refine PySem.W.KFB.if_so (by decide) ?_
  refine wpAny_bind (PySem.ESX.check_bound F.excBase_ValueError (I.kIn _ _ hC) ho rfl ?_)
  refine wpAny_bind (wpAny_pure (wpAny_pure ?_))
  refine ⟨plainId_quiet F.excBase_ValueError.init.plain _, codeAny_builtin F.excBase_ValueError.initEntry ?_⟩
  refine PySem.W.exc_init_tree (cls := .ref C) (t0 := t1) (dv := none) (c2 := .none) (c3 := .none) (b4 := .bool false) ho hl fun h' k hx _ => ?_
  have J := I.write (t' := t) (x := a) (e := a) (o := exo a C none) (by rw [e]; exact True.intro) (.inl rfl) k ⟨_, hx⟩ (exo_ok hx)
  have eu : upd H a (exo a C none) = H := by
    funext b
    by_cases hb : b = a
    · rw [hb, upd_same, e]
    · rw [upd_ne hb]
  rw [eu] at J
  exact h _ J
end

/-- what the text and the written part say of a def f whose closure holds the class D -/
structure SupC (X : Cx) (f cc D : Addr) (ar : Arg) : Prop where
  ks : X.env.kindOf "super" = some .globalImplicit
  kc : X.env.kindOf "__class__" = some .free
  fu : X.env.func = some f
  lk : ∃ oc od fd osl, X.K.lookup f = some ⟨oc, od, .func fd, osl⟩ ∧ (fd.params.posonlyargs ++ fd.params.args).head? = some ar
  code : ∃ cda ccl cdd vs ccs file tf, X.env.code = .ref cda ∧ X.K.lookup cda = some ⟨ccl, cdd, .fields vs, ccs⟩ ∧ vs[2]? = some (.str file tf) ∧ ((X.prog.main.file : Str) == file) = true
  cell : X.env.cells.lookup ("__class__" : Str) = some cc
  cellK : ∃ cl cld csl, X.K.lookup cc = some ⟨cl, cld, .cell (some (.ref D)), csl⟩
  clsD : ∃ cdD, PySem.W.clsIn X.K D = some cdD
  nosup : X.mg "super" = none
  top : (X.prog.main.scope.names.lookup ("super" : Str)).isSome = false
  any : PySem.W.nsIn X.K cStatics "thirdparty.any" = some none
/-- .. and of a class C below D -/
structure SupD (K : PySem.W.Frag) (C D : Addr) : Prop where
  sub : PySem.W.mroIn K C (.ref D) = some true
  meth : PySem.W.ks_superIn K C D "__init__" = some (some (.builtin "ValueError.__init__"))
  ve : PySem.W.subIn K (.ref C) (.type "ValueError") = some true
section
open PySem.W PySem.Calls
variable {X : Cx} {σ : L2.St} {H : Hp} {s : Shared}
theorem sup_first {a C D f cc : Addr} {ar : Arg} {i : Nat} {body : List Stmt} {p0 p1 p2 p3 p4 : Pos} {e : Expr} {es : List Expr} {ta : TA} {R : Hp → Prop}
    (S : SupC X f cc D ar) (T : OexC X.K C) (TD : SupD X.K C D) (I : Inv X [] σ H s) (hN : X.N[i]? = some ar.arg) (hl : X.env.kindOf ar.arg = some .local) (hi : σ[i]? = some (some (.ref a))) (ea : H a = some (exo a C none))
    (hA : X.stack = X.env :: X.outer) (ha : PA X (e :: es) ta) (h : ta σ H fun vs H1 => vs.length ≤ 1000 ∧ H1 a = some (exo a C none) ∧ R H1)
    (hs : swapsWith (.Call (.Attribute (.Call (.Name "super" p0) [] [] p1) "__init__" p2) (e :: es) [] p3) none p4.line X.env = pure false := by rfl)
    {pl : Sem Bool} (hc : eval (.Call (.Attribute (.Call (.Name "super" p0) [] [] p1) "__init__" p2) (e :: es) [] p3) X.env = (do
      let ov ← attributeBase (.Call (.Name "super" p0) [] [] p1) "__init__" X.env (eval (.Call (.Name "super" p0) [] [] p1) X.env)
      standAt p2.atName
      let (f, first) ← holding [ov] (getMethod ov "__init__" pl)
      callWith p3 f first (backTo p3 (starEach (e :: es) X.env)) []) := by rfl)
    (he : starEach (e :: es) X.env = (false, eval e X.env) :: starEach es X.env := by rfl) (hpl : (backTo p3 (starEach es X.env)).any (·.1) = false := by rfl) :
    _root_.PySem.wpAt (model X.prog X.w) X.A (.func body X.env) (exec (.Expr (.Call (.Attribute (.Call (.Name "super" p0) [] [] p1) "__init__" p2) (e :: es) [] p3) p4) X.env) (fun fl s' => fl = .next ∧ ∃ H', Inv X [] σ H' s' ∧ R H') X.xe s := by
  obtain ⟨oc, od, fd, osl, hlk, hp⟩ := S.lk
  obtain ⟨cda, ccl, cdd, vs, ccs, file, tf, hco, hcode, hvs, hfile⟩ := S.code
  obtain ⟨cl, cld, csl, hcell⟩ := S.cellK
  obtain ⟨cdD, hD⟩ := S.clsD
  have XK := I.kIn
  obtain ⟨oD, hD1, hD2⟩ : ∃ oD, s.heap.get? D = some oD ∧ oD.data = .cls cdD := by
    unfold PySem.W.clsIn at hD
    split at hD
    · rename_i c d cd' sl ho
      cases hD
      exact ⟨_, XK _ _ ho, rfl⟩
    · cases hD
  obtain ⟨t1, hoa⟩ := exo_at I.hok ea
  obtain ⟨mb, hb1, hb2⟩ := I.mod.blt
  obtain ⟨m, hn, hlk2⟩ := I.loc
  obtain ⟨ua, rua, look⟩ := hlk2 i ar.arg _ hN hi (.inl hl)
  obtain rfl : ua = Value.ref a := rua
  have hself : m ar.arg = some (.ref a) := by
    rcases look with ⟨_, z⟩ | ⟨k, _⟩
    · exact z
    · rcases k with k | k <;> (rw [hl] at k; cases k)
  have hnl : ∀ {so : Addr}, s.heap.objs.size ≤ so → H so = none := fun z => I.hok.fresh z
  refine ks_wpAt_Expr_any (ks_wpAt_MethodCall (pl := pl) ?_ hc) I.quiet hs
  refine ks_wpAt_super_base S.ks S.kc (by decide) S.fu (XK _ _ hlk) rfl hp hco (XK _ _ hcode) rfl hvs hfile S.top ?_
  refine PySem.W.ks_loadName_global I.ok.kind S.ks (loadGlobal_builtin (by rw [I.ok.glob]; exact I.mod.glob.keeps I.bk) S.nosup (by rw [I.ok.blt]; exact hb1.keeps I.bk) ((hb2 "super" (by decide)).trans (c := some (.type "super")) (by with_unfolding_all rfl)) ⟨rfl, ?_⟩)
  refine wpAny_loadName_free I.ok.kind S.kc S.cell ⟨_, XK _ _ hcell, rfl⟩ ?_
  refine wpAny_loadName_local I.ok.kind hl hn hself ?_
  obtain ⟨hp0, g, d, tk, os⟩ := s
  refine ks_wpAny_isType_cls hD1 hD2 ⟨rfl, ?_⟩
  refine ks_wpAny_call_super hD1 hD2 hoa rfl (fun c z => by cases z) (PySem.W.looks_mroIn XK TD.sub) (fun h1 e1 k1 => ?_)
  have I1 : Inv X [] σ H ⟨h1, g, d, tk, os⟩ := I.kept (t' := tk) k1
  -- the method
  have hm := TD.meth
  cases hcC : PySem.W.clsIn X.K C with
  | none => unfold PySem.W.ks_superIn at hm; rw [hcC] at hm; cases hm
  | some cd =>
    unfold PySem.W.ks_superIn at hm
    rw [hcC] at hm
    have J : PySem.W.InstAt h1 a _ C none := ⟨k1 _ _ hoa, rfl, rfl, trivial⟩
    have hI : PySem.W.Looks (model X.prog X.w) h1 (isInstance (.ref a) (.type "ValueError")) true := J.type.andThen (PySem.W.looks_subIn I1.kIn TD.ve)
    refine PySem.W.kxs_getMethod PySem.W.kxs_ValueError e1 (PySem.W.looks_opaque I1.kIn S.any) (l₀ := cd.mro) ?_ rfl I1.kIn hm hI (PySem.W.ks_ne I1.kIn J hcC) (by decide) ?_
    · exact fun A Q E s k q => wpAny_bind ((PySem.W.looks_clsIn I1.kIn hcC) A _ E s k (wpAny_pure q))
    have k2 : ∀ b o, h1.get? b = some o → (h1.push (PySem.W.kxs_mw "ValueError.__init__" a)).get? b = some o := fun b o z => Heap.get?_push_of_some _ z
    have hu : (h1.push (PySem.W.kxs_mw "ValueError.__init__" a)).get? h1.objs.size = some (PySem.W.kxs_mw "ValueError.__init__" a) := Heap.get?_push_at rfl rfl
    have I2 : Inv X [] σ H ⟨h1.push (PySem.W.kxs_mw "ValueError.__init__" a), g, d, tk + 1, os⟩ := I1.kept (t' := tk + 1) k2
    have nu : H h1.objs.size = none := I1.hok.fresh (Nat.le_refl _)
    have I3 : Inv X [(h1.objs.size, PySem.W.kxs_mw "ValueError.__init__" a)] σ H ⟨h1.push (PySem.W.kxs_mw "ValueError.__init__" a), g, d, tk + 1, os⟩ := I2.pins_of fun p hp => by
      have e : p = (h1.objs.size, PySem.W.kxs_mw "ValueError.__init__" a) := by simpa using hp
      subst e
      exact ⟨hu, nu, fun z => absurd I1.lt (by rw [← z]; exact Nat.lt_irrefl _), I1.nofs (Nat.le_refl _), fun v z => by cases z⟩
    show wpAny _ _ (callWith p3 (.ref h1.objs.size) [] (backTo p3 (starEach (e :: es) X.env)) []) _ _ _
    rw [he]
    refine PySem.W.kxs_callWith (i := "ValueError.__init__") (x := a) (by show (false || (backTo p3 (starEach es X.env)).any (·.1)) = false; rw [hpl]; rfl) ?_
    refine evalArgs_plain ?_
    have hrun := ha.run p3 [(h1.objs.size, PySem.W.kxs_mw "ValueError.__init__" a)] _ σ H _ I3 h
    rw [he] at hrun
    refine wpAny_mono hrun (fun us s4 hq => ?_) fun _ _ z => z
    obtain ⟨vs4, H4, I4, r4, l4, ea4, q4⟩ := hq
    have hu4 := (I4.pin (h1.objs.size, PySem.W.kxs_mw "ValueError.__init__" a) (List.mem_append_right _ (by simp))).1
    refine ⟨hu4, ?_⟩
    refine call_ve T I4 ea4 hu4 (by show us.length ≤ sizeLine; rw [← r4.length, sizeLine_eq]; omega) fun s5 I5 => ?_
    exact ⟨rfl, H4, I5.pins_of fun p hp => absurd hp (by simp), q4⟩
end

section
variable {P : Program} {w : World} {K : PySem.W.Frag} {mg : Str → Option Value} {base : Heap} {N ps : List Str} {k : Nat} {f cc cda D : Addr} {name qual : Str} {params : Arguments} {scope : Scope} {dV kV doc pm ct oc : Value} {an od : Option Addr} {osl : Array (Option Value)} {sp : Sp} {CX : CXT}
  {p0 p1 p2 p3 p4 : Pos} {e : Expr} {es : List Expr} {rest : List Stmt} {ar : Arg}
/-- the def whose first statement is super().__init__(e, ..) -/
theorem fn_sup (lk : K.lookup f = some ⟨oc, od, .func (PySem.W.fnX name qual params (.Expr (.Call (.Attribute (.Call (.Name "super" p0) [] [] p1) "__init__" p2) (e :: es) [] p3) p4 :: rest) scope [("__class__", cc)] dV kV doc pm an (.ref cda) ct), osl⟩)
    (hcd : PySem.W.codeIn K (.ref cda) qual = true) (S : NScope N ps [("__class__" : Str)] scope) (len : ∀ vs H Q E, sp vs H Q E → vs.length = ps.length)
    (hcell : ∃ cl cld csl, K.lookup cc = some ⟨cl, cld, .cell (some (.ref D)), csl⟩)
    (hS : ∀ (A : Around) (outer : List Env) (s : Shared) (H : Hp) (E : XK), SupC (ncx CX P w K mg base N ⟨name, qual, params, (.Expr (.Call (.Attribute (.Call (.Name "super" p0) [] [] p1) "__init__" p2) (e :: es) [] p3) p4 :: rest), scope, [("__class__", cc)], cda⟩ f A outer s H E) f cc D ar)
    (hN : N[0]? = some ar.arg) (hl : scope.names.lookup ar.arg = some .local)
    (hs : ∀ env : Env, swapsWith (.Call (.Attribute (.Call (.Name "super" p0) [] [] p1) "__init__" p2) (e :: es) [] p3) none p4.line env = pure false)
    {pl : Sem Bool} (hc : ∀ env : Env, eval (.Call (.Attribute (.Call (.Name "super" p0) [] [] p1) "__init__" p2) (e :: es) [] p3) env = (do
      let ov ← attributeBase (.Call (.Name "super" p0) [] [] p1) "__init__" env (eval (.Call (.Name "super" p0) [] [] p1) env)
      standAt p2.atName
      let (f, first) ← holding [ov] (getMethod ov "__init__" pl)
      callWith p3 f first (backTo p3 (starEach (e :: es) env)) []))
    (he : ∀ env : Env, starEach (e :: es) env = (false, eval e env) :: starEach es env) (hpl : ∀ env : Env, (backTo p3 (starEach es env)).any (·.1) = false)
    (hbody : ∀ (X : Cx), X.N = N → X.K = K → X.env.scope = scope → X.calm = true → ∃ ta t, PA X (e :: es) ta ∧ PSs X rest t ∧ ∀ (H : Hp) (vs : List V) (Q : VK) (E : XK), sp vs H Q E → ∃ (a C : Addr) (ys : List V), vs = .ref a :: ys ∧ H a = some (exo a C none) ∧ OexC K C ∧ SupD K C D ∧
      ta (startF N vs [none]) H fun us H1 => us.length ≤ 1000 ∧ H1 a = some (exo a C none) ∧ t { nx := fun _ H' => Q .non H', rt := Q } (startF N vs [none]) H1) :
    FnOk P w K mg base CX (k + 1) f (PySem.W.fnX name qual params (.Expr (.Call (.Attribute (.Call (.Name "super" p0) [] [] p1) "__init__" p2) (e :: es) [] p3) p4 :: rest) scope [("__class__", cc)] dV kV doc pm an (.ref cda) ct) ps sp := by
  refine ⟨len, fun A outer s H args us vs Q E hr e0 hb r hsp => ?_⟩
  have hl' := len _ _ _ _ hsp
  have KX : K.In s.heap := e0.mod.kin.keeps fun b o e => (e0.bs b o e).1
  have lim : s.heap.NoLimit := e0.mod.nolimit.keeps fun b o e => (e0.bs b o e).1
  refine ks_codeAny_call_defAt (binds := ps.zip us) hr.depth (KX _ _ lk) rfl lim (PySem.W.codeRec_of KX hcd) rfl hb S.nocell (fun ⟨n, _⟩ hy => S.par n (List.of_mem_zip hy).1) (fun h₁ hns kp => ?_) S.co S.gen S.kind
  let F : NF := ⟨name, qual, params, (.Expr (.Call (.Attribute (.Call (.Name "super" p0) [] [] p1) "__init__" p2) (e :: es) [] p3) p4 :: rest), scope, [("__class__", cc)], cda⟩
  obtain ⟨cl, cld, csl, hce⟩ := hcell
  have hbcc : base.get? cc = some ⟨cl, cld, .cell (some (.ref D)), csl⟩ := e0.mod.kin _ _ hce
  have hlk : ∀ {y : Str} {c : Addr}, ([(("__class__" : Str), cc)] : List (Str × Addr)).lookup y = some c → y = ("__class__" : Str) ∧ c = cc := fun {y c} z => by
    simp only [List.lookup] at z
    split at z
    · rename_i q
      exact ⟨by simpa using q, (Option.some.inj z).symm⟩
    · cases z
  have CA : CellsAt F.cl [("__class__" : Str)] [none] s.heap H := ⟨rfl, fun y c z => by
      obtain ⟨_, rfl⟩ := hlk z
      exact ⟨(e0.bs _ _ hbcc).2, _, _, (e0.bs _ _ hbcc).1, rfl⟩, fun x y c z1 z2 => by rw [(hlk z1).1, (hlk z2).1], fun i y z => by
      have z1 : y = ("__class__" : Str) := by
        cases i with
        | zero => simpa using z.symm
        | succ i => simp at z
      subst z1
      refine ⟨cc, by simp [F, List.lookup], fun v q => ?_⟩
      cases i with
      | zero => simp at q
      | succ i => simp at q⟩
  have I : Inv (ncx CX P w K mg base N F f A outer s H E) [] (startF N vs [none]) H { s with heap := h₁, toks := s.toks + (ps.zip us).length } := inv_startN S hr.hd e0 hl' r CA hns kp
  obtain ⟨ta, t, pa, pr, hq⟩ := hbody (ncx CX P w K mg base N F f A outer s H E) rfl rfl rfl rfl
  obtain ⟨a, C, ys, rfl, ea, T, TD, h1⟩ := hq H vs Q E hsp
  have fin : ∀ {σ' : L2.St} {H' : Hp} {v : V} {u : Value} {s' : Shared}, Inv (ncx CX P w K mg base N F f A outer s H E) [] σ' H' s' → L2.RelV v u → Q v H' → CE outer P w H s Q u s' :=
    fun {σ' H' v u s'} J rv q => ⟨v, H', J.os, J.bare, J.base, J.hok, rv, q⟩
  show _root_.PySem.wpAt (model P w) (A.deeper (envF F f s.heap.objs.size)) (.func F.body (envF F f s.heap.objs.size)) (execs F.body (envF F f s.heap.objs.size)) _ _ _
  refine ks_wpAt_execs_cons ?_
  refine ks_wpAt_mono (sup_first (hS A outer s H E) T TD I hN hl (by simp [startF]) ea rfl pa h1 (hs _) (hc _) (he _) (hpl _)) (fun fl s' hfl => ?_) (fun er s' z => z)
  obtain ⟨rfl, H', J, q⟩ := hfl
  refine wpAt_of_wpAny (wpAny_mono (pr.run [] s' _ H' _ J q) (fun fl s'' hs' => ?_) fun _ _ z => z)
  cases fl with
  | ret u =>
    obtain ⟨v, σ', H', J, rv, q⟩ := hs'
    exact fin J rv q
  | next =>
    obtain ⟨σ', H', J, q⟩ := hs'
    exact fin (v := V.non) (u := Value.none) J rfl q
  | brk =>
    obtain ⟨_, _, _, q⟩ := hs'
    exact False.elim q
  | cont =>
    obtain ⟨_, _, _, q⟩ := hs'
    exact False.elim q
end
end EXS
end

section
set_option Elab.async false
set_option linter.all false
set_option maxRecDepth 100000
set_option maxHeartbeats 4000000
/-! The layer of plain data over HandS: values as trees, what may change in a store. -/
namespace DL
open PySem PySem.Spec PyProof.Rows L2

/-- plain data; lst: a list that nobody changes any more; glo x: what the module's name x holds (a def, a class) -/
inductive D where
  | non | bl (b : Bool) | int (i : Int) | str (x : Str) | tup (xs : List D) | lst (xs : List D) | glo (x : Str)
/-- an expression's value: plain data, what stands at the place k of the store, the exception that a suite holds, or the law's script -/
inductive Va where
  | val (d : D) | obj (k : Nat) | exc (c : Str) (fs : List (Str × D)) | scr (ns : List Int)
/-- what may change -/
inductive Ob where
  | lst (xs : List D) | dK (kvs : List (Key × D)) | dT (kvs : List (List Key × D)) | dead
abbrev Sto := List Ob
/-- where the store's objects are (none: it is dead) -/
abbrev Mu := List (Option Addr)
structure Ks where
  K : PySem.W.Frag
  mg : Str → Option Value
  /-- the exception of a suite: where it is, its class, its dict -/
  ex : Option (Addr × Value × Option Addr)

mutual
def DV (S : Ks) (μ : Mu) (H : Hp) : D → V → Prop
  | .non, v => v = .non
  | .bl b, v => v = .bl b
  | .int i, v => v = .int i
  | .str x, v => v = .str x
  | .tup ds, v => ∃ a xs, v = .ref a ∧ SqT S.K H a xs ∧ DVs S μ H ds xs
  | .lst ds, v => ∃ a xs, v = .ref a ∧ some a ∉ μ ∧ Rd H a (.lst xs) ∧ DVs S μ H ds xs
  | .glo x, v => ∃ a, v = .ref a ∧ S.mg x = some (.ref a)
def DVs (S : Ks) (μ : Mu) (H : Hp) : List D → List V → Prop
  | [], vs => vs = []
  | d :: ds, vs => ∃ v r, vs = v :: r ∧ DV S μ H d v ∧ DVs S μ H ds r
end
def KVs (S : Ks) (μ : Mu) (H : Hp) {κ : Type} : List (κ × D) → List (κ × V) → Prop
  | [], ys => ys = []
  | (k, d) :: r, ys => ∃ v t, ys = (k, v) :: t ∧ DV S μ H d v ∧ KVs S μ H r t
/-- an exception of the class c with these fields -/
def XR (S : Ks) (μ : Mu) (H : Hp) (c : Str) (fs : List (Str × D)) (cv : Value) (dx : Option Addr) : Prop :=
  (∃ C, cv = .ref C ∧ S.mg c = some (.ref C)) ∧ ∃ d ys, dx = some d ∧ some d ∉ μ ∧ H d = some (.xd ys) ∧ KVs S μ H fs ys
/-- the law's script -/
def LS (S : Ks) (μ : Mu) (H : Hp) (a : Addr) (xs : List V) : Prop := (some a ∉ μ ∧ Rd H a (.lst xs)) ∨
  ∃ (o : Obj) (its : Array Value) (n : Nat), S.K.lookup a = some o ∧ o.cls = .type "list" ∧ o.dict = none ∧ o.data = .seq its n ∧ its.size ≤ sizeLine ∧ Vals xs its.toList
def AV (S : Ks) (μ : Mu) (H : Hp) : Va → V → Prop
  | .val d, v => DV S μ H d v
  | .obj k, v => ∃ a, v = .ref a ∧ k < μ.length ∧ ∀ b, μ[k]? = some (some b) → b = a
  | .exc c fs, v => ∃ a cv dx, S.ex = some (a, cv, dx) ∧ v = .ref a ∧ XR S μ H c fs cv dx
  | .scr ns, v => ∃ a, v = .ref a ∧ LS S μ H a (ns.map V.int)
def AVs (S : Ks) (μ : Mu) (H : Hp) : List Va → List V → Prop
  | [], vs => vs = []
  | d :: ds, vs => ∃ v r, vs = v :: r ∧ AV S μ H d v ∧ AVs S μ H ds r
def OV (S : Ks) (μ : Mu) (H : Hp) (a : Addr) : Ob → Prop
  | .lst ds => ∃ xs, H a = some (.lst xs) ∧ DVs S μ H ds xs
  | .dK kvs => ∃ ys, H a = some (.dK ys) ∧ KVs S μ H kvs ys
  | .dT kvs => ∃ ys, H a = some (.dT ys) ∧ KVs S μ H kvs ys
  | .dead => False
structure SV (S : Ks) (μ : Mu) (H : Hp) (st : Sto) : Prop where
  len : μ.length = st.length
  inj : ∀ (i j : Nat) (a : Addr), μ[i]? = some (some a) → μ[j]? = some (some a) → i = j
  here : ∀ (k : Nat) (o : Ob), st[k]? = some o → (∃ a, μ[k]? = some (some a) ∧ OV S μ H a o) ∨ (μ[k]? = some none ∧ o = .dead)
/-- how things go on -/
structure Ev (μ : Mu) (H : Hp) (μ' : Mu) (H' : Hp) : Prop where
  tups : ∀ a xs, H a = some (.tup xs) → H' a = some (.tup xs)
  frzs : ∀ a o u, H a = some (.frz o u) → H' a = some (.frz o u)
  keep : ∀ a o, H a = some o → some a ∉ μ → H' a = some o
  len : μ.length ≤ μ'.length
  pre : ∀ k : Nat, k < μ.length → μ'[k]? = μ[k]? ∨ μ'[k]? = some none
  new : ∀ a : Addr, some a ∈ μ' → some a ∈ μ ∨ H a = none

theorem Ev.refl (μ : Mu) (H : Hp) : Ev μ H μ H := ⟨fun _ _ h => h, fun _ _ _ h => h, fun _ _ h _ => h, Nat.le_refl _, fun _ _ => .inl rfl, fun _ h => .inl h⟩
theorem Ev.trans {μ μ1 μ2 : Mu} {H H1 H2 : Hp} (x : Ev μ H μ1 H1) (y : Ev μ1 H1 μ2 H2) : Ev μ H μ2 H2 := by
  refine ⟨fun a xs h => y.tups a xs (x.tups a xs h), fun a o u h => y.frzs a o u (x.frzs a o u h), fun a o h n => ?_, Nat.le_trans x.len y.len, fun k hk => ?_, fun a h => ?_⟩
  · refine y.keep a o (x.keep a o h n) fun z => ?_
    rcases x.new a z with q | q
    · exact n q
    · rw [h] at q; cases q
  · rcases y.pre k (Nat.lt_of_lt_of_le hk x.len) with q | q
    · rcases x.pre k hk with p | p
      · exact .inl (q.trans p)
      · exact .inr (q.trans p)
    · exact .inr q
  · rcases y.new a h with q | q
    · exact x.new a q
    · by_cases n : some a ∈ μ
      · exact .inl n
      · refine .inr ?_
        cases e : H a with
        | none => rfl
        | some o =>
          have := x.keep a o e n
          rw [q] at this; cases this
theorem Ev.ix {μ μ' : Mu} {H H' : Hp} (x : Ev μ H μ' H') {k : Nat} {a : Addr} (hk : k < μ.length) (h : μ'[k]? = some (some a)) : μ[k]? = some (some a) := by
  rcases x.pre k hk with q | q
  · rw [← q]; exact h
  · rw [q] at h; cases h
theorem Rd.go {μ μ' : Mu} {H H' : Hp} (x : Ev μ H μ' H') {a : Addr} {u : HO} (n : some a ∉ μ) (h : Rd H a u) : Rd H' a u := by
  rcases h with h | ⟨o, h⟩
  · exact .inl (x.keep a _ h n)
  · exact .inr ⟨o, x.frzs a o u h⟩
theorem SqT.go {K : PySem.W.Frag} {μ μ' : Mu} {H H' : Hp} (x : Ev μ H μ' H') {a : Addr} {xs : List V} (h : SqT K H a xs) : SqT K H' a xs := by
  rcases h with (h | ⟨o, h⟩) | h
  · exact .inl (.inl (x.tups a _ h))
  · exact .inl (.inr ⟨o, x.frzs a o _ h⟩)
  · exact .inr h
theorem Rd.some {H : Hp} {a : Addr} {u : HO} (h : Rd H a u) : ∃ o, H a = some o := by
  rcases h with h | ⟨o, h⟩ <;> exact ⟨_, h⟩
theorem Ev.out {μ μ' : Mu} {H H' : Hp} (x : Ev μ H μ' H') {a : Addr} {u : HO} (n : some a ∉ μ) (h : Rd H a u) : some a ∉ μ' := fun z => by
  rcases x.new a z with q | q
  · exact n q
  · obtain ⟨o, e⟩ := Rd.some h
    rw [e] at q; cases q
section
variable {S : Ks} {μ μ' : Mu} {H H' : Hp}
mutual
theorem DV.go (x : Ev μ H μ' H') : ∀ (d : D) {v : V}, DV S μ H d v → DV S μ' H' d v
  | .non, v, h => by simpa only [DV] using h
  | .bl b, v, h => by simpa only [DV] using h
  | .int i, v, h => by simpa only [DV] using h
  | .str s, v, h => by simpa only [DV] using h
  | .tup ds, v, h => by
    simp only [DV] at h ⊢
    obtain ⟨a, xs, e, q, r⟩ := h
    exact ⟨a, xs, e, SqT.go x q, DVs.go x ds r⟩
  | .lst ds, v, h => by
    simp only [DV] at h ⊢
    obtain ⟨a, xs, e, n, q, r⟩ := h
    exact ⟨a, xs, e, x.out n q, Rd.go x n q, DVs.go x ds r⟩
  | .glo g, v, h => by simpa only [DV] using h
theorem DVs.go (x : Ev μ H μ' H') : ∀ (ds : List D) {vs : List V}, DVs S μ H ds vs → DVs S μ' H' ds vs
  | [], vs, h => by simpa only [DVs] using h
  | d :: ds, vs, h => by
    simp only [DVs] at h ⊢
    obtain ⟨v, r, e, q, t⟩ := h
    exact ⟨v, r, e, DV.go x d q, DVs.go x ds t⟩
end
theorem KVs.go {κ : Type} (x : Ev μ H μ' H') : ∀ (kvs : List (κ × D)) {ys : List (κ × V)}, KVs S μ H kvs ys → KVs S μ' H' kvs ys
  | [], ys, h => h
  | (k, d) :: r, ys, h => by
    obtain ⟨v, t, e, q, w⟩ := h
    exact ⟨v, t, e, DV.go x d q, KVs.go x r w⟩
theorem XR.go (x : Ev μ H μ' H') {c : Str} {fs : List (Str × D)} {cv : Value} {dx : Option Addr} (h : XR S μ H c fs cv dx) : XR S μ' H' c fs cv dx := by
  obtain ⟨h1, d, ys, e1, n, e2, q⟩ := h
  exact ⟨h1, d, ys, e1, x.out n (.inl e2), x.keep _ _ e2 n, KVs.go x fs q⟩
theorem AV.go (x : Ev μ H μ' H') : ∀ (d : Va) {v : V}, AV S μ H d v → AV S μ' H' d v
  | .val d, v, h => DV.go x d h
  | .obj k, v, h => let ⟨a, e, l, q⟩ := h; ⟨a, e, Nat.lt_of_lt_of_le l x.len, fun b hb => q b (x.ix l hb)⟩
  | .exc c fs, v, h => let ⟨a, cv, dx, e1, e2, q⟩ := h; ⟨a, cv, dx, e1, e2, XR.go x q⟩
  | .scr ns, v, h => let ⟨a, e1, q⟩ := h; ⟨a, e1, q.imp (fun ⟨n, r⟩ => ⟨x.out n r, Rd.go x n r⟩) id⟩
theorem AVs.go (x : Ev μ H μ' H') : ∀ (ds : List Va) {vs : List V}, AVs S μ H ds vs → AVs S μ' H' ds vs
  | [], vs, h => h
  | d :: ds, vs, h => let ⟨v, r, e, q, t⟩ := h; ⟨v, r, e, AV.go x d q, AVs.go x ds t⟩
theorem DVs.length : ∀ {ds : List D} {vs : List V}, DVs S μ H ds vs → vs.length = ds.length
  | [], vs, h => by simp only [DVs] at h; subst h; rfl
  | d :: ds, vs, h => by
    simp only [DVs] at h
    obtain ⟨v, r, e, _, t⟩ := h
    subst e
    simp [DVs.length t]
theorem DVs.nil : DVs S μ H [] [] := by simp only [DVs]
theorem DVs.cons {d : D} {ds : List D} {v : V} {vs : List V} (h : DV S μ H d v) (t : DVs S μ H ds vs) : DVs S μ H (d :: ds) (v :: vs) := by
  simp only [DVs]; exact ⟨v, vs, rfl, h, t⟩
theorem DVs.append : ∀ {ds es : List D} {vs ws : List V}, DVs S μ H ds vs → DVs S μ H es ws → DVs S μ H (ds ++ es) (vs ++ ws)
  | [], es, vs, ws, h, t => by simp only [DVs] at h; subst h; exact t
  | d :: ds, es, vs, ws, h, t => by
    simp only [DVs] at h
    obtain ⟨v, r, e, q, w⟩ := h
    subst e
    exact DVs.cons q (DVs.append w t)
theorem DVs.get : ∀ {ds : List D} {vs : List V} {i : Nat} {d : D}, DVs S μ H ds vs → ds[i]? = some d → ∃ v, vs[i]? = some v ∧ DV S μ H d v
  | [], vs, i, d, h, e => by simp at e
  | d :: ds, vs, 0, d', h, e => by
    simp only [DVs] at h
    obtain ⟨v, r, e1, q, w⟩ := h
    subst e1
    simp at e; subst e
    exact ⟨v, rfl, q⟩
  | d :: ds, vs, i + 1, d', h, e => by
    simp only [DVs] at h
    obtain ⟨v, r, e1, q, w⟩ := h
    subst e1
    simp at e
    obtain ⟨v', e2, q2⟩ := DVs.get (i := i) w e
    exact ⟨v', by simpa using e2, q2⟩
theorem DVs.get' {ds : List D} {vs : List V} {i : Nat} {v : V} (h : DVs S μ H ds vs) (e : vs[i]? = some v) : ∃ d, ds[i]? = some d ∧ DV S μ H d v := by
  have hi : i < ds.length := by rw [← h.length]; exact (List.getElem?_eq_some_iff.mp e).1
  obtain ⟨v', e2, q⟩ := h.get (d := ds[i]) (List.getElem?_eq_getElem hi)
  rw [e] at e2; cases e2
  exact ⟨_, List.getElem?_eq_getElem hi, q⟩
theorem DVs.take : ∀ {ds : List D} {vs : List V} (n : Nat), DVs S μ H ds vs → DVs S μ H (ds.take n) (vs.take n)
  | ds, vs, 0, h => by simp only [List.take_zero]; exact DVs.nil
  | [], vs, n + 1, h => by simp only [DVs] at h; subst h; simp; exact DVs.nil
  | d :: ds, vs, n + 1, h => by
    simp only [DVs] at h
    obtain ⟨v, r, e, q, w⟩ := h
    subst e
    exact DVs.cons q (DVs.take n w)
theorem DVs.drop : ∀ {ds : List D} {vs : List V} (n : Nat), DVs S μ H ds vs → DVs S μ H (ds.drop n) (vs.drop n)
  | ds, vs, 0, h => h
  | [], vs, n + 1, h => by simp only [DVs] at h; subst h; simp; exact DVs.nil
  | d :: ds, vs, n + 1, h => by
    simp only [DVs] at h
    obtain ⟨v, r, e, q, w⟩ := h
    subst e
    exact DVs.drop n w
theorem DVs.set : ∀ {ds : List D} {vs : List V} (i : Nat) {d : D} {v : V}, DVs S μ H ds vs → DV S μ H d v → DVs S μ H (ds.set i d) (vs.set i v)
  | [], vs, i, d, v, h, q => by simp only [DVs] at h; subst h; simp; exact DVs.nil
  | d :: ds, vs, 0, d', v', h, q => by
    simp only [DVs] at h
    obtain ⟨v, r, e, q', w⟩ := h
    subst e
    exact DVs.cons q w
  | d :: ds, vs, i + 1, d', v', h, q => by
    simp only [DVs] at h
    obtain ⟨v, r, e, q', w⟩ := h
    subst e
    exact DVs.cons q' (DVs.set i w q)
theorem DVs.reverse : ∀ {ds : List D} {vs : List V}, DVs S μ H ds vs → DVs S μ H ds.reverse vs.reverse
  | [], vs, h => by simp only [DVs] at h; subst h; exact DVs.nil
  | d :: ds, vs, h => by
    simp only [DVs] at h
    obtain ⟨v, r, e, q', w⟩ := h
    subst e
    simp only [List.reverse_cons]
    exact DVs.append (DVs.reverse w) (DVs.cons q' DVs.nil)
theorem AVs.length : ∀ {ds : List Va} {vs : List V}, AVs S μ H ds vs → vs.length = ds.length
  | [], vs, h => by cases h; rfl
  | d :: ds, vs, h => by
    obtain ⟨v, r, e, _, t⟩ := h
    subst e
    simp [AVs.length t]
theorem AVs.nil : AVs S μ H [] [] := rfl
theorem AVs.cons {d : Va} {ds : List Va} {v : V} {vs : List V} (h : AV S μ H d v) (t : AVs S μ H ds vs) : AVs S μ H (d :: ds) (v :: vs) := ⟨v, vs, rfl, h, t⟩
theorem AVs.get : ∀ {ds : List Va} {vs : List V} {i : Nat} {d : Va}, AVs S μ H ds vs → ds[i]? = some d → ∃ v, vs[i]? = some v ∧ AV S μ H d v
  | [], vs, i, d, h, e => by simp at e
  | d :: ds, vs, 0, d', h, e => by
    obtain ⟨v, r, e1, q, w⟩ := h
    subst e1
    simp at e; subst e
    exact ⟨v, rfl, q⟩
  | d :: ds, vs, i + 1, d', h, e => by
    obtain ⟨v, r, e1, q, w⟩ := h
    subst e1
    simp at e
    obtain ⟨v', e2, q2⟩ := AVs.get (i := i) w e
    exact ⟨v', by simpa using e2, q2⟩
theorem OV.here {a : Addr} : ∀ {o : Ob}, OV S μ H a o → ∃ u, H a = some u ∧ (∀ xs, u ≠ .tup xs) ∧ (∀ o' u', u ≠ .frz o' u')
  | .lst ds, h => by obtain ⟨xs, e, _⟩ := h; exact ⟨_, e, fun _ z => (nomatch z), fun _ _ z => (nomatch z)⟩
  | .dK kvs, h => by obtain ⟨xs, e, _⟩ := h; exact ⟨_, e, fun _ z => (nomatch z), fun _ _ z => (nomatch z)⟩
  | .dT kvs, h => by obtain ⟨xs, e, _⟩ := h; exact ⟨_, e, fun _ z => (nomatch z), fun _ _ z => (nomatch z)⟩
theorem OV.go {b : Addr} (x : Ev μ H μ' H') (k : ∀ u, H b = some u → H' b = some u) : ∀ {o : Ob}, OV S μ H b o → OV S μ' H' b o
  | .lst ds, h => let ⟨xs, e, q⟩ := h; ⟨xs, k _ e, DVs.go x ds q⟩
  | .dK kvs, h => let ⟨xs, e, q⟩ := h; ⟨xs, k _ e, KVs.go x kvs q⟩
  | .dT kvs, h => let ⟨xs, e, q⟩ := h; ⟨xs, k _ e, KVs.go x kvs q⟩
/-- what stands at a place of the store is no tuple, nothing locked -/
theorem SV.mem {st : Sto} (s : SV S μ H st) {a : Addr} (h : some a ∈ μ) : ∃ u, H a = some u ∧ (∀ xs, u ≠ .tup xs) ∧ (∀ o' u', u ≠ .frz o' u') := by
  obtain ⟨k, hk, e⟩ := List.mem_iff_getElem.mp h
  have hs : k < st.length := by rw [← s.len]; exact hk
  rcases s.here k st[k] (List.getElem?_eq_getElem hs) with ⟨a', e1, o1⟩ | ⟨e1, _⟩
  · rw [List.getElem?_eq_getElem hk, e] at e1
    cases e1
    exact OV.here o1
  · rw [List.getElem?_eq_getElem hk, e] at e1
    cases e1
/-- the object that an A names -/
theorem SV.at {st : Sto} (s : SV S μ H st) {k : Nat} {o : Ob} {v : V} (e : st[k]? = some o) (hd : o ≠ .dead) (h : AV S μ H (.obj k) v) : ∃ a, v = .ref a ∧ μ[k]? = some (some a) ∧ some a ∈ μ ∧ OV S μ H a o := by
  obtain ⟨a, e1, _, q⟩ := h
  rcases s.here k o e with ⟨b, e2, o2⟩ | ⟨_, z⟩
  · have := q b e2
    subst this
    exact ⟨b, e1, e2, List.mem_of_getElem? e2, o2⟩
  · exact absurd z hd
theorem Ev.made {p : Addr} {o : HO} (hp : H p = none) : Ev μ H μ (upd H p o) :=
  ⟨fun a xs h => by rw [upd_ne (ne_of_none h hp)]; exact h, fun a u w h => by rw [upd_ne (ne_of_none h hp)]; exact h, fun a u h _ => by rw [upd_ne (ne_of_none h hp)]; exact h, Nat.le_refl _, fun _ _ => .inl rfl, fun _ h => .inl h⟩
theorem SV.made {st : Sto} {p : Addr} {o : HO} (sv : SV S μ H st) (hp : H p = none) : SV S μ (upd H p o) st :=
  ⟨sv.len, sv.inj, fun k ob e => (sv.here k ob e).imp (fun ⟨b, e1, q⟩ => ⟨b, e1, OV.go (Ev.made hp) (fun u h => by rw [upd_ne (ne_of_none h hp)]; exact h) q⟩) id⟩
theorem SV.out {st : Sto} {p : Addr} (sv : SV S μ H st) (hp : H p = none) : some p ∉ μ := fun h => by
  obtain ⟨u, e, _⟩ := sv.mem h
  rw [hp] at e; cases e
/-- a new object of the store -/
theorem Ev.newOb {p : Addr} {o : HO} (hp : H p = none) : Ev μ H (μ ++ [some p]) (upd H p o) :=
  ⟨(Ev.made (μ := μ) hp).tups, (Ev.made (μ := μ) hp).frzs, (Ev.made (μ := μ) hp).keep, by simp, fun k hk => .inl (List.getElem?_append_left hk), fun a h => by
    rcases List.mem_append.mp h with q | q
    · exact .inl q
    · simp at q; subst q; exact .inr hp⟩
theorem SV.newOb {st : Sto} {p : Addr} {o : HO} {ob : Ob} (sv : SV S μ H st) (hp : H p = none) (h : OV S (μ ++ [some p]) (upd H p o) p ob) : SV S (μ ++ [some p]) (upd H p o) (st ++ [ob]) := by
  have hn := sv.out hp
  refine ⟨by simp [sv.len], fun i j a h1 h2 => ?_, fun k o' e => ?_⟩
  · have key : ∀ {i : Nat}, (μ ++ [some p])[i]? = some (some a) → (i < μ.length ∧ μ[i]? = some (some a)) ∨ (i = μ.length ∧ a = p) := fun {i} h => by
      by_cases hi : i < μ.length
      · rw [List.getElem?_append_left hi] at h; exact .inl ⟨hi, h⟩
      · rw [List.getElem?_append_right (by omega)] at h
        have : i - μ.length = 0 := by
          cases z : i - μ.length with
          | zero => rfl
          | succ n => rw [z] at h; simp at h
        rw [this] at h
        simp at h
        exact .inr ⟨by omega, h.symm⟩
    rcases key h1 with ⟨l1, e1⟩ | ⟨l1, e1⟩ <;> rcases key h2 with ⟨l2, e2⟩ | ⟨l2, e2⟩
    · exact sv.inj i j a e1 e2
    · subst e2; exact absurd (List.mem_of_getElem? e1) hn
    · subst e1; exact absurd (List.mem_of_getElem? e2) hn
    · omega
  · by_cases hk : k < st.length
    · rw [List.getElem?_append_left hk] at e
      have hk' : k < μ.length := by rw [sv.len]; exact hk
      rw [List.getElem?_append_left hk']
      exact (sv.here k o' e).imp (fun ⟨b, e1, q⟩ => ⟨b, e1, OV.go (Ev.newOb hp) (fun u h => by rw [upd_ne (ne_of_none h hp)]; exact h) q⟩) id
    · rw [List.getElem?_append_right (by omega)] at e
      have : k - st.length = 0 := by
        cases z : k - st.length with
        | zero => rfl
        | succ n => rw [z] at e; simp at e
      rw [this] at e
      simp at e
      subst e
      have ek : k = μ.length := by rw [sv.len]; omega
      subst ek
      exact .inl ⟨p, by simp, h⟩
/-- an object of the store is written anew -/
theorem Ev.wr {k : Nat} {a : Addr} {o : HO} {st : Sto} (sv : SV S μ H st) (e : μ[k]? = some (some a)) : Ev μ H μ (upd H a o) := by
  obtain ⟨u, hu, n1, n2⟩ := sv.mem (List.mem_of_getElem? e)
  refine ⟨fun b xs h => ?_, fun b w x h => ?_, fun b w h n => ?_, Nat.le_refl _, fun _ _ => .inl rfl, fun _ h => .inl h⟩
  · rw [upd_ne (fun z => by subst z; rw [hu] at h; cases h; exact n1 _ rfl)]; exact h
  · rw [upd_ne (fun z => by subst z; rw [hu] at h; cases h; exact n2 _ _ rfl)]; exact h
  · rw [upd_ne (fun z => by subst z; exact n (List.mem_of_getElem? e))]; exact h
theorem SV.wr {k : Nat} {a : Addr} {o : HO} {ob : Ob} {st : Sto} (sv : SV S μ H st) (e : μ[k]? = some (some a)) (h : OV S μ (upd H a o) a ob) : SV S μ (upd H a o) (st.set k ob) := by
  refine ⟨by simp [sv.len], sv.inj, fun j o' ej => ?_⟩
  by_cases hj : k = j
  · subst hj
    have hk : k < st.length := by rw [← sv.len]; exact (List.getElem?_eq_some_iff.mp e).1
    rw [List.getElem?_set_self hk] at ej
    cases ej
    exact .inl ⟨a, e, h⟩
  · rw [List.getElem?_set_ne hj] at ej
    refine (sv.here j o' ej).imp (fun ⟨b, e1, q⟩ => ⟨b, e1, OV.go (Ev.wr sv e) (fun u h => ?_) q⟩) id
    rw [upd_ne (fun z => hj (by subst z; exact (sv.inj _ _ _ e e1)))]
    exact h
/-- an object of the store is let go -/
theorem mem_set_none {k : Nat} {a : Addr} (h : some a ∈ μ.set k none) : some a ∈ μ := by
  rcases List.mem_or_eq_of_mem_set h with q | q
  · exact q
  · cases q
theorem get_set_none {k j : Nat} {a : Addr} (h : (μ.set k none)[j]? = some (some a)) : j ≠ k ∧ μ[j]? = some (some a) := by
  by_cases hj : k = j
  · subst hj
    by_cases hk : k < μ.length
    · rw [List.getElem?_set_self hk] at h; cases h
    · rw [List.getElem?_eq_none (by simpa using hk)] at h; cases h
  · rw [List.getElem?_set_ne hj] at h
    exact ⟨fun z => hj z.symm, h⟩
theorem Ev.gone (k : Nat) : Ev μ H (μ.set k none) H :=
  ⟨fun _ _ h => h, fun _ _ _ h => h, fun _ _ h _ => h, by simp, fun j hj => by
    by_cases h : k = j
    · subst h; exact .inr (List.getElem?_set_self hj)
    · exact .inl (List.getElem?_set_ne h), fun a h => .inl (mem_set_none h)⟩
theorem SV.gone {st : Sto} (sv : SV S μ H st) (k : Nat) : SV S (μ.set k none) H (st.set k .dead) := by
  refine ⟨by simp [sv.len], fun i j a h1 h2 => sv.inj i j a (get_set_none h1).2 (get_set_none h2).2, fun j o e => ?_⟩
  by_cases hj : k = j
  · subst hj
    by_cases hk : k < st.length
    · rw [List.getElem?_set_self hk] at e
      cases e
      exact .inr ⟨List.getElem?_set_self (by rw [sv.len]; exact hk), rfl⟩
    · rw [List.getElem?_eq_none (by simpa using hk)] at e; cases e
  · rw [List.getElem?_set_ne hj] at e ⊢
    exact (sv.here j o e).imp (fun ⟨b, e1, q⟩ => ⟨b, e1, OV.go (Ev.gone k) (fun u h => h) q⟩) id
/-- a live address is at one place alone: it is not live any more -/
theorem SV.notin {st : Sto} (sv : SV S μ H st) {k : Nat} {a : Addr} (e : μ[k]? = some (some a)) : some a ∉ μ.set k none := fun h => by
  obtain ⟨j, hj⟩ := List.mem_iff_getElem?.mp h
  obtain ⟨n, q⟩ := get_set_none hj
  exact n (sv.inj _ _ _ q e)
/-- what is younger than n is forgotten -/
theorem Ev.cut {μ1 : Mu} {H1 : Hp} (x : Ev μ H μ1 H1) : Ev μ H (μ1.take μ.length) H1 :=
  ⟨x.tups, x.frzs, x.keep, by simp [x.len], fun k hk => by rw [List.getElem?_take_of_lt hk]; exact x.pre k hk, fun a h => x.new a (List.mem_of_mem_take h)⟩
/-- what a smaller map of the store leaves true -/
structure Le (μ μ' : Mu) : Prop where
  sub : ∀ a : Addr, some a ∈ μ' → some a ∈ μ
mutual
theorem DV.le (x : Le μ μ') : ∀ (d : D) {v : V}, DV S μ H d v → DV S μ' H d v
  | .non, v, h => by simpa only [DV] using h
  | .bl b, v, h => by simpa only [DV] using h
  | .int i, v, h => by simpa only [DV] using h
  | .str s, v, h => by simpa only [DV] using h
  | .tup ds, v, h => by
    simp only [DV] at h ⊢
    obtain ⟨a, xs, e, q, r⟩ := h
    exact ⟨a, xs, e, q, DVs.le x ds r⟩
  | .lst ds, v, h => by
    simp only [DV] at h ⊢
    obtain ⟨a, xs, e, n, q, r⟩ := h
    exact ⟨a, xs, e, fun z => n (x.sub a z), q, DVs.le x ds r⟩
  | .glo g, v, h => by simpa only [DV] using h
theorem DVs.le (x : Le μ μ') : ∀ (ds : List D) {vs : List V}, DVs S μ H ds vs → DVs S μ' H ds vs
  | [], vs, h => by simpa only [DVs] using h
  | d :: ds, vs, h => by
    simp only [DVs] at h ⊢
    obtain ⟨v, r, e, q, t⟩ := h
    exact ⟨v, r, e, DV.le x d q, DVs.le x ds t⟩
end
theorem KVs.le {κ : Type} (x : Le μ μ') : ∀ (kvs : List (κ × D)) {ys : List (κ × V)}, KVs S μ H kvs ys → KVs S μ' H kvs ys
  | [], ys, h => h
  | (k, d) :: r, ys, h => by
    obtain ⟨v, t, e, q, w⟩ := h
    exact ⟨v, t, e, DV.le x d q, KVs.le x r w⟩
theorem XR.le (x : Le μ μ') {c : Str} {fs : List (Str × D)} {cv : Value} {dx : Option Addr} (h : XR S μ H c fs cv dx) : XR S μ' H c fs cv dx := by
  obtain ⟨h1, d, ys, e1, n, e2, q⟩ := h
  exact ⟨h1, d, ys, e1, fun z => n (x.sub d z), e2, KVs.le x fs q⟩
theorem OV.le {b : Addr} (x : Le μ μ') : ∀ {o : Ob}, OV S μ H b o → OV S μ' H b o
  | .lst ds, h => let ⟨xs, e, q⟩ := h; ⟨xs, e, DVs.le x ds q⟩
  | .dK kvs, h => let ⟨xs, e, q⟩ := h; ⟨xs, e, KVs.le x kvs q⟩
  | .dT kvs, h => let ⟨xs, e, q⟩ := h; ⟨xs, e, KVs.le x kvs q⟩
theorem Le.take (n : Nat) : Le μ (μ.take n) := ⟨fun a h => List.mem_of_mem_take h⟩
theorem SV.cut {st : Sto} (sv : SV S μ H st) (n : Nat) : SV S (μ.take n) H (st.take n) := by
  refine ⟨by simp [sv.len], fun i j a h1 h2 => ?_, fun k o e => ?_⟩
  · have key : ∀ {i : Nat}, (μ.take n)[i]? = some (some a) → μ[i]? = some (some a) := fun {i} h => by
      by_cases hi : i < n
      · rw [List.getElem?_take_of_lt hi] at h; exact h
      · rw [List.getElem?_take_eq_none (by omega)] at h; cases h
    exact sv.inj i j a (key h1) (key h2)
  · by_cases hi : k < n
    · rw [List.getElem?_take_of_lt hi] at e ⊢
      exact (sv.here k o e).imp (fun ⟨b, e1, q⟩ => ⟨b, e1, OV.le (Le.take n) q⟩) id
    · rw [List.getElem?_take_eq_none (by omega)] at e; cases e
end
end DL
end

section
set_option Elab.async false
set_option linter.all false
set_option maxRecDepth 100000
set_option maxHeartbeats 4000000
/-! Computations over plain data, and what they promise of an expression, a test, a statement. -/
namespace DL
open PySem PySem.Spec PyProof.Rows L2

inductive R (α : Type) where
  | ok (a : α) | ex (c : Str) (fs : List (Str × D))
def M (α : Type) := Sto → Option (R α × Sto)
def M.bind {α β : Type} (m : M α) (f : α → M β) : M β := fun st => match m st with
  | none => none
  | some (.ok a, st') => f a st'
  | some (.ex c fs, st') => some (.ex c fs, st')
def M.pure {α : Type} (a : α) : M α := fun st => some (.ok a, st)
instance : Monad M where
  pure := M.pure
  bind := M.bind
def stuck {α : Type} : M α := fun _ => none
def raise {α : Type} (c : Str) (fs : List (Str × D)) : M α := fun st => some (.ex c fs, st)
abbrev En := List (Option Va)

/-- what is to be shown of a computation's end -/
def Fin {α : Type} (S : Ks) (E : XK) (μ : Mu) (H : Hp) (K : α → Sto → Mu → Hp → Prop) : Option (R α × Sto) → Prop
  | none => False
  | some (.ok a, st') => ∀ μ' H', Ev μ H μ' H' → SV S μ' H' st' → K a st' μ' H'
  | some (.ex c fs, st') => ∀ cv dx μ' H', Ev μ H μ' H' → SV S μ' H' st' → XR S μ' H' c fs cv dx → E cv dx H'
section
variable {S : Ks} {E : XK} {μ μ1 : Mu} {H H1 : Hp} {α β : Type}
theorem Fin.go (x : Ev μ H μ1 H1) {K : α → Sto → Mu → Hp → Prop} : ∀ {r : Option (R α × Sto)}, Fin S E μ H K r → Fin S E μ1 H1 K r
  | none, h => h
  | some (.ok a, st'), h => fun μ' H' e s => h μ' H' (x.trans e) s
  | some (.ex c fs, st'), h => fun cv dx μ' H' e s => h cv dx μ' H' (x.trans e) s
theorem Fin.map {K K' : α → Sto → Mu → Hp → Prop} (f : ∀ a st1 μ1 H1, Ev μ H μ1 H1 → SV S μ1 H1 st1 → K a st1 μ1 H1 → K' a st1 μ1 H1) : ∀ {r : Option (R α × Sto)}, Fin S E μ H K r → Fin S E μ H K' r
  | none, h => h
  | some (.ok a, st'), h => fun μ' H' e s => f a st' μ' H' e s (h μ' H' e s)
  | some (.ex c fs, st'), h => h
theorem Fin.bind {m : M α} {f : α → M β} {st : Sto} {K : β → Sto → Mu → Hp → Prop} (h : Fin S E μ H K (M.bind m f st)) :
    Fin S E μ H (fun a st1 μ1 H1 => Fin S E μ1 H1 K (f a st1)) (m st) := by
  unfold M.bind at h
  cases e : m st with
  | none => rw [e] at h; exact h
  | some p =>
    obtain ⟨r, st'⟩ := p
    rw [e] at h
    cases r with
    | ok a => exact fun μ' H' ev sv => Fin.go ev h
    | ex c fs => exact h
theorem Fin.pure {a : α} {st : Sto} {K : α → Sto → Mu → Hp → Prop} (sv : SV S μ H st) (h : Fin S E μ H K (M.pure a st)) : K a st μ H := h μ H (Ev.refl μ H) sv
end
/-- the slots hold the data -/
structure EV (S : Ks) (μ : Mu) (H : Hp) (ρ : En) (σ : L2.St) : Prop where
  len : ρ.length = σ.length
  here : ∀ (i : Nat) (d : Va), ρ[i]? = some (some d) → ∃ v, σ[i]? = some (some v) ∧ AV S μ H d v
theorem EV.go {S : Ks} {μ μ1 : Mu} {H H1 : Hp} {ρ : En} {σ : L2.St} (x : Ev μ H μ1 H1) (h : EV S μ H ρ σ) : EV S μ1 H1 ρ σ :=
  ⟨h.len, fun i d e => let ⟨v, a, b⟩ := h.here i d e; ⟨v, a, AV.go x d b⟩⟩
theorem EV.set {S : Ks} {μ : Mu} {H : Hp} {ρ : En} {σ : L2.St} (h : EV S μ H ρ σ) (i : Nat) {d : Va} {v : V} (q : AV S μ H d v) : EV S μ H (ρ.set i (some d)) (σ.set i (some v)) := by
  refine ⟨by simp [h.len], fun j d' e => ?_⟩
  by_cases hj : i = j
  · subst hj
    have hi : i < ρ.length := by
      by_cases z : i < ρ.length
      · exact z
      · rw [List.getElem?_eq_none (by simpa using z)] at e; cases e
    rw [List.getElem?_set_self hi] at e
    cases e
    exact ⟨v, List.getElem?_set_self (by rw [← h.len]; exact hi), q⟩
  · rw [List.getElem?_set_ne hj] at e
    obtain ⟨v', e1, q1⟩ := h.here j d' e
    exact ⟨v', by rw [List.getElem?_set_ne hj]; exact e1, q1⟩
/-- a slot's data forgotten -/
theorem EV.drop {S : Ks} {μ : Mu} {H : Hp} {ρ : En} {σ : L2.St} (h : EV S μ H ρ σ) (i : Nat) (v : Option V) : EV S μ H (ρ.set i none) (σ.set i v) := by
  refine ⟨by simp [h.len], fun j d' e => ?_⟩
  by_cases hj : i = j
  · subst hj
    by_cases z : i < ρ.length
    · rw [List.getElem?_set_self z] at e; cases e
    · rw [List.getElem?_eq_none (by simpa using z)] at e; cases e
  · rw [List.getElem?_set_ne hj] at e
    obtain ⟨v', e1, q1⟩ := h.here j d' e
    exact ⟨v', by rw [List.getElem?_set_ne hj]; exact e1, q1⟩
def wipeE (ρ : En) : List Nat → En
  | [] => ρ
  | v :: vs => (wipeE ρ vs).set v none
theorem EV.wipe {S : Ks} {μ : Mu} {H : Hp} {ρ : En} {σ : L2.St} (h : EV S μ H ρ σ) : ∀ vs : List Nat, EV S μ H (wipeE ρ vs) (L2.wipe σ vs)
  | [] => h
  | v :: vs => (EV.wipe h vs).drop v none

abbrev ExI := Option (Addr × Value × Option Addr)
abbrev ks (X : Cx) (x : ExI) : Ks := ⟨X.K, X.mg, x⟩
abbrev WE (W : WX) (σ : L2.St) : XK := fun c d H => W c d σ H
/-- the readings that a computation gives -/
def tD (S : Ks) (W : WX) (m : En → M Va) : TE := fun σ H Q => ∃ μ st ρ, EV S μ H ρ σ ∧ SV S μ H st ∧ Fin S (WE W σ) μ H (fun d _ μ' H' => ∀ v, AV S μ' H' d v → Q v H') (m ρ st)
def tDT (S : Ks) (W : WX) (m : En → M Bool) : TT := fun σ H Q => ∃ μ st ρ, EV S μ H ρ σ ∧ SV S μ H st ∧ Fin S (WE W σ) μ H (fun b _ _ H' => Q b H') (m ρ st)
def tDA (S : Ks) (W : WX) (m : En → M (List Va)) : TA := fun σ H Q => ∃ μ st ρ, EV S μ H ρ σ ∧ SV S μ H st ∧ Fin S (WE W σ) μ H (fun ds _ μ' H' => ∀ vs, AVs S μ' H' ds vs → Q vs H') (m ρ st)
/-- an expression, a test, arguments compute m -/
def ED (X : Cx) (x : ExI) (W : WX) (e : Expr) (m : En → M Va) : Prop := PE X e (tD (ks X x) W m)
def TD (X : Cx) (x : ExI) (W : WX) (e : Expr) (m : En → M Bool) : Prop := PT X e (tDT (ks X x) W m)
def WD (X : Cx) (x : ExI) (W : WX) (e : Expr) (m : En → M Bool) : Prop := PW X e (tDT (ks X x) W m)
def AD (X : Cx) (x : ExI) (W : WX) (es : List Expr) (m : En → M (List Va)) : Prop := PA X es (tDA (ks X x) W m)
theorem PE.imp {X : Cx} {e : Expr} {t t' : TE} (h : PE X e t) (f : ∀ σ H Q, t' σ H Q → t σ H Q) : PE X e t' := ⟨fun pins s σ H Q I q => h.run pins s σ H Q I (f σ H Q q)⟩
theorem PT.imp {X : Cx} {e : Expr} {t t' : TT} (h : PT X e t) (f : ∀ σ H Q, t' σ H Q → t σ H Q) : PT X e t' := ⟨fun pins s σ H Q I q => h.run pins s σ H Q I (f σ H Q q)⟩
theorem PW.imp {X : Cx} {e : Expr} {t t' : TT} (h : PW X e t) (f : ∀ σ H Q, t' σ H Q → t σ H Q) : PW X e t' := ⟨fun whole pins s σ H Q I q => h.run whole pins s σ H Q I (f σ H Q q)⟩
theorem PA.imp {X : Cx} {e : List Expr} {t t' : TA} (h : PA X e t) (f : ∀ σ H Q, t' σ H Q → t σ H Q) : PA X e t' := ⟨fun pos pins s σ H Q I q => h.run pos pins s σ H Q I (f σ H Q q)⟩
theorem PS.imp {X : Cx} {e : Stmt} {t t' : TS} (h : PS X e t) (f : ∀ D σ H, t' D σ H → t D σ H) : PS X e t' := ⟨fun pins s σ H D I q => h.run pins s σ H D I (f D σ H q)⟩
theorem PSs.imp {X : Cx} {e : List Stmt} {t t' : TS} (h : PSs X e t) (f : ∀ D σ H, t' D σ H → t D σ H) : PSs X e t' := ⟨fun pins s σ H D I q => h.run pins s σ H D I (f D σ H q)⟩
theorem ED.of {X : Cx} {x : ExI} {W : WX} {e : Expr} {m : En → M Va} {t : TE} (h : PE X e t)
    (f : ∀ (σ : L2.St) (H : Hp) (Q : VK) (μ : Mu) (st : Sto) (ρ : En), EV (ks X x) μ H ρ σ → SV (ks X x) μ H st → Fin (ks X x) (WE W σ) μ H (fun d _ μ' H' => ∀ v, AV (ks X x) μ' H' d v → Q v H') (m ρ st) → t σ H Q) : ED X x W e m :=
  PE.imp h fun σ H Q ⟨μ, st, ρ, ev, sv, h⟩ => f σ H Q μ st ρ ev sv h
theorem TD.of {X : Cx} {x : ExI} {W : WX} {e : Expr} {m : En → M Bool} {t : TT} (h : PT X e t)
    (f : ∀ (σ : L2.St) (H : Hp) (Q : Bool → Hp → Prop) (μ : Mu) (st : Sto) (ρ : En), EV (ks X x) μ H ρ σ → SV (ks X x) μ H st → Fin (ks X x) (WE W σ) μ H (fun b _ _ H' => Q b H') (m ρ st) → t σ H Q) : TD X x W e m :=
  PT.imp h fun σ H Q ⟨μ, st, ρ, ev, sv, h⟩ => f σ H Q μ st ρ ev sv h
theorem WD.of {X : Cx} {x : ExI} {W : WX} {e : Expr} {m : En → M Bool} {t : TT} (h : PW X e t)
    (f : ∀ (σ : L2.St) (H : Hp) (Q : Bool → Hp → Prop) (μ : Mu) (st : Sto) (ρ : En), EV (ks X x) μ H ρ σ → SV (ks X x) μ H st → Fin (ks X x) (WE W σ) μ H (fun b _ _ H' => Q b H') (m ρ st) → t σ H Q) : WD X x W e m :=
  PW.imp h fun σ H Q ⟨μ, st, ρ, ev, sv, h⟩ => f σ H Q μ st ρ ev sv h
theorem AD.of {X : Cx} {x : ExI} {W : WX} {e : List Expr} {m : En → M (List Va)} {t : TA} (h : PA X e t)
    (f : ∀ (σ : L2.St) (H : Hp) (Q : List V → Hp → Prop) (μ : Mu) (st : Sto) (ρ : En), EV (ks X x) μ H ρ σ → SV (ks X x) μ H st → Fin (ks X x) (WE W σ) μ H (fun d _ μ' H' => ∀ v, AVs (ks X x) μ' H' d v → Q v H') (m ρ st) → t σ H Q) : AD X x W e m :=
  PA.imp h fun σ H Q ⟨μ, st, ρ, ev, sv, h⟩ => f σ H Q μ st ρ ev sv h

/-! ### names, constants -/
def mVar (i : Nat) : En → M Va := fun ρ => match ρ[i]? with
  | some (some d) => M.pure d
  | _ => stuck
def mC (d : D) : En → M Va := fun _ => M.pure (.val d)
/-- an answer that is plain data -/
def asVal : Va → M D
  | .val d => M.pure d
  | _ => stuck
section
variable {X : Cx} {x : ExI} {W : WX} {pos : Pos}
theorem ed_var (i : Nat) {y : Str} (hN : X.N[i]? = some y := by rfl) (hv : Vis X.env.scope y := by first | exact Or.inl rfl | exact Or.inr (Or.inl rfl) | exact Or.inr (Or.inr rfl)) (hd : (y == ("__debug__" : Str)) = false := by decide)
    (hcd : (y == ("__classdict__" : Str)) = false := by decide) : ED X x W (.Name y pos) (mVar i) := by
  refine ED.of (pe_var hN hv hd hcd) fun σ H Q μ st ρ ev sv h => ?_
  unfold mVar at h
  cases e : ρ[i]? with
  | none => rw [e] at h; exact h.elim
  | some o =>
    rw [e] at h
    cases o with
    | none => exact h.elim
    | some d =>
      obtain ⟨v, e1, q⟩ := ev.here i d e
      exact ⟨v, e1, Fin.pure sv h v q⟩
theorem ed_c {e : Expr} {v : V} {d : D} (h : PE X e (tC v)) (q : ∀ S μ H, DV S μ H d v) : ED X x W e (mC d) :=
  ED.of h fun σ H Q μ st ρ ev sv h => Fin.pure sv h v (q _ _ _)
theorem ed_int {i : Int} {j} : ED X x W (.Constant (.int i) j pos) (mC (.int i)) := ed_c pe_int fun _ _ _ => by simp only [DV]
theorem ed_bl {b : Bool} {j} : ED X x W (.Constant (.bool b) j pos) (mC (.bl b)) := ed_c pe_bl fun _ _ _ => by simp only [DV]
theorem ed_non {j} : ED X x W (.Constant .none j pos) (mC .non) := ed_c pe_non fun _ _ _ => by simp only [DV]
theorem ed_str {y : Str} {j} : ED X x W (.Constant (.str y) j pos) (mC (.str y)) := ed_c pe_str fun _ _ _ => by simp only [DV]
/-- a def's or a class's name as a value -/
theorem ed_glo {y : Str} {f : Addr} (hm : X.mg y = some (.ref f)) (hg : Gl X y := by rfl) (hd : (y == ("__debug__" : Str)) = false := by decide) : ED X x W (.Name y pos) (mC (.glo y)) :=
  ED.of (pe_glob (v := .ref f) hg hm rfl hd) fun σ H Q μ st ρ ev sv h => Fin.pure sv h _ (by simp only [AV, DV]; exact ⟨f, rfl, hm⟩)
/-- a module's number, text -/
theorem ed_gint {y : Str} {i : Int} {t : Tok} (hm : X.mg y = some (.int i t)) (hg : Gl X y := by rfl) (hd : (y == ("__debug__" : Str)) = false := by decide) : ED X x W (.Name y pos) (mC (.int i)) :=
  ed_c (pe_glob (v := .int i) hg hm ⟨t, rfl⟩ hd) fun _ _ _ => by simp only [DV]
theorem ed_gstr {y : Str} {z : Str} {t : Tok} (hm : X.mg y = some (.str z t)) (hg : Gl X y := by rfl) (hd : (y == ("__debug__" : Str)) = false := by decide) : ED X x W (.Name y pos) (mC (.str z)) :=
  ed_c (pe_glob (v := .str z) hg hm ⟨t, rfl⟩ hd) fun _ _ _ => by simp only [DV]
end

/-! ### operators -/
def OpD (X : Cx) (x : ExI) (f : Value → Value → Sem Value) (g : Va → Va → M Va) : Prop :=
  OpR X f fun x1 y H Q => ∃ (E : XK) (μ : Mu) (st : Sto) (a b : Va), SV (ks X x) μ H st ∧ AV (ks X x) μ H a x1 ∧ AV (ks X x) μ H b y ∧ (∀ c d H, ¬ E c d H) ∧ Fin (ks X x) E μ H (fun d _ μ' H' => ∀ v, AV (ks X x) μ' H' d v → Q v H') (g a b st)
def mBin (g : Va → Va → M Va) (ma mb : En → M Va) : En → M Va := fun ρ => M.bind (ma ρ) fun a => M.bind (mb ρ) fun b => g a b
/-- a computation that raises nothing (and where it would, it is stuck) -/
def calm {α : Type} (m : M α) : M α := fun st => match m st with
  | some (.ok a, st') => some (.ok a, st')
  | _ => none
theorem Fin.calm {S : Ks} {E : XK} {μ : Mu} {H : Hp} {α : Type} {K : α → Sto → Mu → Hp → Prop} {m : M α} {st : Sto} (h : Fin S E μ H K (DL.calm m st)) : Fin S (fun _ _ _ => False) μ H K (m st) := by
  unfold DL.calm at h
  cases e : m st with
  | none => rw [e] at h; exact h
  | some p =>
    obtain ⟨r, st'⟩ := p
    rw [e] at h
    cases r with
    | ok a => exact h
    | ex c fs => exact h.elim
/-- a rule for a value's operation, by cases of data -/
theorem OpD.of {X : Cx} {x : ExI} {f : Value → Value → Sem Value} {g : Va → Va → M Va} {r : R2} (h : OpR X f r)
    (k : ∀ (E : XK) (H : Hp) (μ : Mu) (st : Sto) (a b : Va) (x1 y : V) (Q : VK), SV (ks X x) μ H st → AV (ks X x) μ H a x1 → AV (ks X x) μ H b y →
      Fin (ks X x) E μ H (fun d _ μ' H' => ∀ v, AV (ks X x) μ' H' d v → Q v H') (g a b st) → (∀ c d H, ¬ E c d H) → r x1 y H Q) : OpD X x f g :=
  fun pins s σ H x1 y v u Q I rx ry ⟨E, μ, st, a, b, sv, ha, hb, hE, h1⟩ => h pins s σ H x1 y v u Q I rx ry (k E H μ st a b x1 y Q sv ha hb h1 hE)
section
variable {X : Cx} {x : ExI} {W : WX} {pos : Pos} {a b : Expr} {ma mb : En → M Va} {g : Va → Va → M Va}
theorem bin_fin {σ : L2.St} {H : Hp} {μ : Mu} {st : Sto} {ρ : En} {Q : VK} {r : R2}
    (hr : ∀ (H : Hp) (μ : Mu) (st : Sto) (a b : Va) (x1 y : V) (Q : VK), SV (ks X x) μ H st → AV (ks X x) μ H a x1 → AV (ks X x) μ H b y → Fin (ks X x) (fun _ _ _ => False) μ H (fun d _ μ' H' => ∀ v, AV (ks X x) μ' H' d v → Q v H') (g a b st) → r x1 y H Q)
    (ev : EV (ks X x) μ H ρ σ) (sv : SV (ks X x) μ H st) (h : Fin (ks X x) (WE W σ) μ H (fun d _ μ' H' => ∀ v, AV (ks X x) μ' H' d v → Q v H') (mBin (fun a b => calm (g a b)) ma mb ρ st)) :
    tOp r (tD (ks X x) W ma) (tD (ks X x) W mb) σ H Q := by
  refine ⟨μ, st, ρ, ev, sv, Fin.map (fun a st1 μ1 H1 e1 s1 h1 v hv => ?_) (Fin.bind h)⟩
  refine ⟨μ1, st1, ρ, ev.go e1, s1, Fin.map (fun b st2 μ2 H2 e2 s2 h2 w hw => ?_) (Fin.bind h1)⟩
  exact hr H2 μ2 st2 a b v w Q s2 (AV.go e2 a hv) hw (Fin.calm h2)
theorem ed_op {op : Operator} (ho : OpD X x (binaryOp op) g) (ha : ED X x W a ma) (hb : ED X x W b mb) : ED X x W (.BinOp a op b pos) (mBin (fun a b => calm (g a b)) ma mb) :=
  ED.of (pe_op ho ha hb) fun σ H Q μ st ρ ev sv h => bin_fin (fun H μ st a b x1 y Q sv ha hb h => ⟨_, μ, st, a, b, sv, ha, hb, fun _ _ _ z => z, h⟩) ev sv h
theorem ed_cmp {op : CmpOp} (ho : OpD X x (compareOp op) g) (ha : ED X x W a ma) (hb : ED X x W b mb) (hm : behindInMarks op b = false := by first | exact nomark _ | with_unfolding_all rfl) : ED X x W (.Compare a [op] [b] pos) (mBin (fun a b => calm (g a b)) ma mb) :=
  ED.of (pe_cmpR ho ha hb hm) fun σ H Q μ st ρ ev sv h => bin_fin (fun H μ st a b x1 y Q sv ha hb h => ⟨_, μ, st, a, b, sv, ha, hb, fun _ _ _ z => z, h⟩) ev sv h
/-- an expression that is a truth value, as a test -/
def asBool : Va → M Bool
  | .val (.bl b) => M.pure b
  | _ => stuck
def mT (m : En → M Va) : En → M Bool := fun ρ => M.bind (m ρ) asBool
theorem asBool_fin {S : Ks} {E : XK} {μ : Mu} {H : Hp} {K : Bool → Sto → Mu → Hp → Prop} {d : Va} {st : Sto} {v : V} (sv : SV S μ H st) (h : Fin S E μ H K (asBool d st)) (hv : AV S μ H d v) : ∃ b, v = .bl b ∧ K b st μ H := by
  cases d with
  | obj k => exact h.elim
  | exc c fs => exact h.elim
  | scr ns => exact h.elim
  | val d =>
    cases d with
    | bl b =>
      simp only [AV, DV] at hv
      subst hv
      exact ⟨b, rfl, Fin.pure sv h⟩
    | non | int | str | tup | lst | glo => exact h.elim
theorem td_val {e : Expr} {m : En → M Va} (h : ED X x W e m) (he : ∀ whole, isTrue e X.env whole = (do let v ← whole; standAt e.pos; holding [v] (truthy v)) := by intro _; rfl) : TD X x W e (mT m) := by
  refine TD.of (pt_val h he) fun σ H Q μ st ρ ev sv hf => ?_
  exact ⟨μ, st, ρ, ev, sv, Fin.map (fun d st1 μ1 H1 e1 s1 h1 v hv => asBool_fin (d := d) (K := fun b _ _ H' => Q b H') s1 h1 hv) (Fin.bind (m := m ρ) (f := asBool) hf)⟩
theorem td_cmp {op : CmpOp} (ho : OpD X x (compareOp op) g) (ha : ED X x W a ma) (hb : ED X x W b mb) (hm : behindInMarks op b = false := by first | exact nomark _ | with_unfolding_all rfl) : TD X x W (.Compare a [op] [b] pos) (mT (mBin (fun a b => calm (g a b)) ma mb)) := by
  refine TD.of (pt_cmpR ho ha hb hm) fun σ H Q μ st ρ ev sv h => ?_
  exact bin_fin (fun H μ st a b x1 y Q sv ha hb h => ⟨_, μ, st, a, b, sv, ha, hb, fun _ _ _ z => z, h⟩) ev sv (Fin.map (fun d st1 μ1 H1 e1 s1 h1 v hv => asBool_fin (d := d) (K := fun b _ _ H' => Q b H') s1 h1 hv) (Fin.bind (m := mBin (fun a b => calm (g a b)) ma mb ρ) (f := asBool) h))
/-! ### and, or, not, if -/
def mAnd (ta tb : En → M Bool) : En → M Bool := fun ρ => M.bind (ta ρ) fun b => if b = true then tb ρ else M.pure false
def mOr (ta tb : En → M Bool) : En → M Bool := fun ρ => M.bind (ta ρ) fun b => if b = true then M.pure true else tb ρ
def mNot (ta : En → M Bool) : En → M Bool := fun ρ => M.bind (ta ρ) fun b => M.pure (!b)
variable {m1 m2 : En → M Bool} {rest : List Expr}
theorem td_w {e : Expr} (h : WD X x W e m1) : TD X x W e m1 := L2.PW.pt h
theorem wd_and1 (ha : TD X x W a m1) : WD X x W (.BoolOp .And [a] pos) m1 := pw_and1 ha
theorem wd_or1 (ha : TD X x W a m1) : WD X x W (.BoolOp .Or [a] pos) m1 := pw_or1 ha
theorem wd_and (ha : TD X x W a m1) (hb : WD X x W (.BoolOp .And (b :: rest) pos) m2) : WD X x W (.BoolOp .And (a :: b :: rest) pos) (mAnd m1 m2) := by
  refine WD.of (pw_and ha hb) fun σ H Q μ st ρ ev sv hf => ?_
  refine ⟨μ, st, ρ, ev, sv, Fin.map (fun d st1 μ1 H1 e1 s1 h1 => ?_) (Fin.bind hf)⟩
  cases d with
  | true => exact iteT ⟨μ1, st1, ρ, ev.go e1, s1, h1⟩
  | false => exact iteF (Fin.pure s1 h1)
theorem wd_or (ha : TD X x W a m1) (hb : WD X x W (.BoolOp .Or (b :: rest) pos) m2) : WD X x W (.BoolOp .Or (a :: b :: rest) pos) (mOr m1 m2) := by
  refine WD.of (pw_or ha hb) fun σ H Q μ st ρ ev sv hf => ?_
  refine ⟨μ, st, ρ, ev, sv, Fin.map (fun d st1 μ1 H1 e1 s1 h1 => ?_) (Fin.bind hf)⟩
  cases d with
  | true => exact iteT (Fin.pure s1 h1)
  | false => exact iteF ⟨μ1, st1, ρ, ev.go e1, s1, h1⟩
theorem td_not (ha : TD X x W a m1) : TD X x W (.UnaryOp .Not a pos) (mNot m1) := by
  refine TD.of (pt_not ha) fun σ H Q μ st ρ ev sv hf => ?_
  exact ⟨μ, st, ρ, ev, sv, Fin.map (fun d st1 μ1 H1 e1 s1 h1 => Fin.pure s1 h1) (Fin.bind (m := m1 ρ) (f := fun b => M.pure (!b)) hf)⟩
def mIf {α : Type} (c : En → M Bool) (ma mb : En → M α) : En → M α := fun ρ => M.bind (c ρ) fun b => if b = true then ma ρ else mb ρ
theorem ed_if {c : Expr} (hc : TD X x W c m1) (ha : ED X x W a ma) (hb : ED X x W b mb) : ED X x W (.IfExp c a b pos) (mIf m1 ma mb) := by
  refine ED.of (pe_ifExp hc ha hb) fun σ H Q μ st ρ ev sv hf => ?_
  refine ⟨μ, st, ρ, ev, sv, Fin.map (fun d st1 μ1 H1 e1 s1 h1 => ?_) (Fin.bind hf)⟩
  cases d with
  | true => exact iteT ⟨μ1, st1, ρ, ev.go e1, s1, h1⟩
  | false => exact iteF ⟨μ1, st1, ρ, ev.go e1, s1, h1⟩
/-- not e, a truth value, as a value; a and b, a or b of truth values -/
def mNotV (m : En → M Va) : En → M Va := fun ρ => M.bind (mT m ρ) fun b => M.pure (.val (.bl (!b)))
theorem ed_not (h : ED X x W a ma) : ED X x W (.UnaryOp .Not a pos) (mNotV ma) := by
  refine ED.of (pe_not h) fun σ H Q μ st ρ ev sv hf => ?_
  refine ⟨μ, st, ρ, ev, sv, Fin.map (fun d st1 μ1 H1 e1 s1 h1 v hv => ?_) (Fin.bind (Fin.bind hf))⟩
  obtain ⟨b, e, h2⟩ := asBool_fin s1 h1 hv
  exact ⟨b, e, Fin.pure s1 h2 _ (by simp only [AV, DV])⟩
def mAndV (ma mb : En → M Va) : En → M Va := fun ρ => M.bind (mT ma ρ) fun b => if b = true then mb ρ else M.pure (.val (.bl false))
def mOrV (ma mb : En → M Va) : En → M Va := fun ρ => M.bind (mT ma ρ) fun b => if b = true then M.pure (.val (.bl true)) else mb ρ
theorem ed_one {op} (h : ED X x W a ma) : ED X x W (.BoolOp op [a] pos) ma := pe_one h
theorem ed_and (ha : ED X x W a ma) (hb : ED X x W (.BoolOp .And (b :: rest) pos) mb) : ED X x W (.BoolOp .And (a :: b :: rest) pos) (mAndV ma mb) := by
  refine ED.of (pe_and ha hb) fun σ H Q μ st ρ ev sv hf => ?_
  refine ⟨μ, st, ρ, ev, sv, Fin.map (fun d st1 μ1 H1 e1 s1 h1 v hv => ?_) (Fin.bind (Fin.bind hf))⟩
  obtain ⟨c, e, h2⟩ := asBool_fin s1 h1 hv
  refine ⟨c, e, ?_⟩
  cases c with
  | true => exact iteT ⟨μ1, st1, ρ, ev.go e1, s1, h2⟩
  | false => exact iteF (Fin.pure s1 h2 _ (by simp only [AV, DV]))
theorem ed_or (ha : ED X x W a ma) (hb : ED X x W (.BoolOp .Or (b :: rest) pos) mb) : ED X x W (.BoolOp .Or (a :: b :: rest) pos) (mOrV ma mb) := by
  refine ED.of (pe_or ha hb) fun σ H Q μ st ρ ev sv hf => ?_
  refine ⟨μ, st, ρ, ev, sv, Fin.map (fun d st1 μ1 H1 e1 s1 h1 v hv => ?_) (Fin.bind (Fin.bind hf))⟩
  obtain ⟨c, e, h2⟩ := asBool_fin s1 h1 hv
  refine ⟨c, e, ?_⟩
  cases c with
  | true => exact iteT (Fin.pure s1 h2 _ (by simp only [AV, DV]))
  | false => exact iteF ⟨μ1, st1, ρ, ev.go e1, s1, h2⟩

/-! ### arguments -/
def mNil : En → M (List Va) := fun _ => M.pure []
def mCons (ma : En → M Va) (mr : En → M (List Va)) : En → M (List Va) := fun ρ => M.bind (ma ρ) fun d => M.bind (mr ρ) fun ds => M.pure (d :: ds)
variable {es : List Expr} {mr : En → M (List Va)}
theorem ad_nil : AD X x W [] mNil := AD.of pa_nil fun σ H Q μ st ρ ev sv h => Fin.pure sv h [] AVs.nil
theorem ad_cons (ha : ED X x W a ma) (hr : AD X x W es mr) (hs : starEach (a :: es) X.env = (false, eval a X.env) :: starEach es X.env := by rfl) : AD X x W (a :: es) (mCons ma mr) := by
  refine AD.of (pa_cons ha hr hs) fun σ H Q μ st ρ ev sv hf => ?_
  refine ⟨μ, st, ρ, ev, sv, Fin.map (fun d st1 μ1 H1 e1 s1 h1 v hv => ?_) (Fin.bind hf)⟩
  refine ⟨μ1, st1, ρ, ev.go e1, s1, Fin.map (fun ds st2 μ2 H2 e2 s2 h2 vs hvs => ?_) (Fin.bind h1)⟩
  exact Fin.pure s2 h2 _ (AVs.cons (AV.go e2 d hv) hvs)
/-! ### new tuples, new lists -/
def vals : List Va → Option (List D)
  | [] => some []
  | .val d :: r => (vals r).map (d :: ·)
  | _ :: _ => none
theorem vals_dvs {S : Ks} {μ : Mu} {H : Hp} : ∀ {as : List Va} {ds : List D} {vs : List V}, vals as = some ds → AVs S μ H as vs → DVs S μ H ds vs
  | [], ds, vs, e, h => by cases e; cases h; exact DVs.nil
  | .val d :: r, ds, vs, e, h => by
    obtain ⟨v, t, ev, q, w⟩ := h
    subst ev
    unfold vals at e
    cases er : vals r with
    | none => rw [er] at e; cases e
    | some ds' => rw [er] at e; cases e; exact DVs.cons q (vals_dvs er w)
  | .obj k :: r, ds, vs, e, h => by unfold vals at e; cases e
  | .exc c fs :: r, ds, vs, e, h => by unfold vals at e; cases e
  | .scr ns :: r, ds, vs, e, h => by unfold vals at e; cases e
def mkTup (as : List Va) : M Va := match vals as with
  | some ds => if ds.length ≤ sizeLine then M.pure (.val (.tup ds)) else stuck
  | none => stuck
def mkLst (as : List Va) : M Va := match vals as with
  | some ds => if ds.length ≤ sizeLine then M.pure (.val (.lst ds)) else stuck
  | none => stuck
/-- a new list that will be changed -/
def mkObj (as : List Va) : M Va := fun st => match vals as with
  | some ds => if ds.length ≤ sizeLine then some (.ok (.obj st.length), st ++ [.lst ds]) else none
  | none => none
def mTup (m : En → M (List Va)) : En → M Va := fun ρ => M.bind (m ρ) mkTup
def mLst (m : En → M (List Va)) : En → M Va := fun ρ => M.bind (m ρ) mkLst
def mObj (m : En → M (List Va)) : En → M Va := fun ρ => M.bind (m ρ) mkObj
theorem ed_tup {k : Nat} (h : AD X x W es mr) : ED X x W (.Tuple es k pos) (mTup mr) := by
  refine ED.of (pe_tup h) fun σ H Q μ st ρ ev sv hf => ?_
  refine ⟨μ, st, ρ, ev, sv, Fin.map (fun as st1 μ1 H1 e1 s1 h1 vs hv => ?_) (Fin.bind hf)⟩
  unfold mkTup at h1
  cases e : vals as with
  | none => rw [e] at h1; exact h1.elim
  | some ds =>
    rw [e] at h1
    have hd := vals_dvs e hv
    by_cases z : ds.length ≤ sizeLine
    · simp only [if_pos z] at h1
      refine ⟨by rw [hd.length]; exact z, fun q hq => ?_⟩
      exact h1 μ1 _ (Ev.made hq) (s1.made hq) _ (by simp only [AV, DV]; exact ⟨q, vs, rfl, SqT.of upd_same, DVs.go (Ev.made hq) ds hd⟩)
    · simp only [if_neg z] at h1; exact h1.elim
theorem ed_lst (h : AD X x W es mr) : ED X x W (.List es pos) (mLst mr) := by
  refine ED.of (pe_lst h) fun σ H Q μ st ρ ev sv hf => ?_
  refine ⟨μ, st, ρ, ev, sv, Fin.map (fun as st1 μ1 H1 e1 s1 h1 vs hv => ?_) (Fin.bind hf)⟩
  unfold mkLst at h1
  cases e : vals as with
  | none => rw [e] at h1; exact h1.elim
  | some ds =>
    rw [e] at h1
    have hd := vals_dvs e hv
    by_cases z : ds.length ≤ sizeLine
    · simp only [if_pos z] at h1
      refine ⟨by rw [hd.length]; exact z, fun q hq => ?_⟩
      exact h1 μ1 _ (Ev.made hq) (s1.made hq) _ (by simp only [AV, DV]; exact ⟨q, vs, rfl, s1.out hq, .inl upd_same, DVs.go (Ev.made hq) ds hd⟩)
    · simp only [if_neg z] at h1; exact h1.elim
theorem AV.newOb {S : Ks} {μ : Mu} {H : Hp} {st : Sto} {q : Addr} (len : μ.length = st.length) : AV S (μ ++ [some q]) H (.obj st.length) (.ref q) :=
  ⟨q, rfl, by simp [len], fun b hb => by rw [← len] at hb; simp at hb; exact hb.symm⟩
theorem ed_obj (h : AD X x W es mr) : ED X x W (.List es pos) (mObj mr) := by
  refine ED.of (pe_lst h) fun σ H Q μ st ρ ev sv hf => ?_
  refine ⟨μ, st, ρ, ev, sv, Fin.map (fun as st1 μ1 H1 e1 s1 h1 vs hv => ?_) (Fin.bind hf)⟩
  unfold mkObj at h1
  cases e : vals as with
  | none => rw [e] at h1; exact h1.elim
  | some ds =>
    rw [e] at h1
    have hd := vals_dvs e hv
    by_cases z : ds.length ≤ sizeLine
    · simp only [if_pos z] at h1
      refine ⟨by rw [hd.length]; exact z, fun q hq => ?_⟩
      refine h1 _ _ (Ev.newOb hq) (s1.newOb (o := .lst vs) (ob := .lst ds) hq ⟨vs, upd_same, DVs.go (Ev.newOb hq) ds hd⟩) _ ?_
      exact AV.newOb s1.len
    · simp only [if_neg z] at h1; exact h1.elim
/-- a list that nobody will change any more -/
def freeze : Va → M Va
  | .val d => M.pure (.val d)
  | .obj k => fun st => match st[k]? with
    | some (.lst ds) => some (.ok (.val (.lst ds)), st.set k .dead)
    | _ => none
  | _ => stuck
def mFrz (m : En → M Va) : En → M Va := fun ρ => M.bind (m ρ) freeze
theorem ed_frz (h : ED X x W a ma) : ED X x W a (mFrz ma) := by
  refine PE.imp h fun σ H Q ⟨μ, st, ρ, ev, sv, hf⟩ => ⟨μ, st, ρ, ev, sv, Fin.map (fun d st1 μ1 H1 e1 s1 h1 v hv => ?_) (Fin.bind hf)⟩
  cases d with
  | val d => exact Fin.pure s1 h1 v hv
  | exc c fs => exact h1.elim
  | scr ns => exact h1.elim
  | obj k =>
    unfold freeze at h1
    cases e : st1[k]? with
    | none => simp only [e] at h1; exact h1.elim
    | some o =>
      simp only [e] at h1
      cases o with
      | lst ds =>
        obtain ⟨a, ev1, hk, hm, ho⟩ := s1.at e (fun z => nomatch z) hv
        obtain ⟨xs, hx, hd⟩ := ho
        subst ev1
        exact h1 _ _ (Ev.gone k) (s1.gone k) _ (by simp only [AV, DV]; exact ⟨a, xs, rfl, s1.notin hk, .inl hx, DVs.go (Ev.gone k) ds hd⟩)
      | dK _ | dT _ | dead => exact h1.elim
end
end DL
end

section
set_option Elab.async false
set_option linter.all false
set_option maxRecDepth 100000
set_option maxHeartbeats 4000000
/-! Statements, defs, calls over plain data. -/
namespace DL
open PySem PySem.Spec PyProof.Rows L2

/-- how statements end -/
inductive Fl where
  | nx (ρ : En) | rt (d : Va) | bk (ρ : En) | ct (ρ : En) | ex (ρ : En) (c : Str) (fs : List (Str × D))
abbrev MS := Sto → Option (Fl × Sto)
def FinS (S : Ks) (W : WX) (Ds : Ends) (μ : Mu) (H : Hp) : Option (Fl × Sto) → Prop
  | none => False
  | some (.nx ρ, st) => ∀ μ' H' σ, Ev μ H μ' H' → SV S μ' H' st → EV S μ' H' ρ σ → Ds.nx σ H'
  | some (.rt d, st) => ∀ μ' H' v, Ev μ H μ' H' → SV S μ' H' st → AV S μ' H' d v → Ds.rt v H'
  | some (.bk ρ, st) => ∀ μ' H' σ, Ev μ H μ' H' → SV S μ' H' st → EV S μ' H' ρ σ → Ds.bk σ H'
  | some (.ct ρ, st) => ∀ μ' H' σ, Ev μ H μ' H' → SV S μ' H' st → EV S μ' H' ρ σ → Ds.ct σ H'
  | some (.ex ρ c fs, st) => ∀ cv dx μ' H' σ, Ev μ H μ' H' → SV S μ' H' st → EV S μ' H' ρ σ → XR S μ' H' c fs cv dx → W cv dx σ H'
def tDS (S : Ks) (W : WX) (m : En → MS) : TS := fun Ds σ H => ∃ μ st ρ, EV S μ H ρ σ ∧ SV S μ H st ∧ FinS S W Ds μ H (m ρ st)
def SD (X : Cx) (x : ExI) (W : WX) (s : Stmt) (m : En → MS) : Prop := PS X s (tDS (ks X x) W m)
def SDs (X : Cx) (x : ExI) (W : WX) (s : List Stmt) (m : En → MS) : Prop := PSs X s (tDS (ks X x) W m)
theorem FinS.go {S : Ks} {W : WX} {Ds : Ends} {μ μ1 : Mu} {H H1 : Hp} (x : Ev μ H μ1 H1) : ∀ {r : Option (Fl × Sto)}, FinS S W Ds μ H r → FinS S W Ds μ1 H1 r
  | none, h => h
  | some (.nx ρ, st), h => fun μ' H' σ e s v => h μ' H' σ (x.trans e) s v
  | some (.rt d, st), h => fun μ' H' σ e s v => h μ' H' σ (x.trans e) s v
  | some (.bk ρ, st), h => fun μ' H' σ e s v => h μ' H' σ (x.trans e) s v
  | some (.ct ρ, st), h => fun μ' H' σ e s v => h μ' H' σ (x.trans e) s v
  | some (.ex ρ c fs, st), h => fun cv dx μ' H' σ e s v => h cv dx μ' H' σ (x.trans e) s v
theorem SD.of {X : Cx} {x : ExI} {W : WX} {s : Stmt} {m : En → MS} {t : TS} (h : PS X s t)
    (f : ∀ (Ds : Ends) (σ : L2.St) (H : Hp) (μ : Mu) (st : Sto) (ρ : En), EV (ks X x) μ H ρ σ → SV (ks X x) μ H st → FinS (ks X x) W Ds μ H (m ρ st) → t Ds σ H) : SD X x W s m :=
  PS.imp h fun Ds σ H ⟨μ, st, ρ, ev, sv, h⟩ => f Ds σ H μ st ρ ev sv h
theorem SDs.of {X : Cx} {x : ExI} {W : WX} {s : List Stmt} {m : En → MS} {t : TS} (h : PSs X s t)
    (f : ∀ (Ds : Ends) (σ : L2.St) (H : Hp) (μ : Mu) (st : Sto) (ρ : En), EV (ks X x) μ H ρ σ → SV (ks X x) μ H st → FinS (ks X x) W Ds μ H (m ρ st) → t Ds σ H) : SDs X x W s m :=
  PSs.imp h fun Ds σ H ⟨μ, st, ρ, ev, sv, h⟩ => f Ds σ H μ st ρ ev sv h
/-- an expression's answer handed on -/
def onE {α : Type} (r : Option (R α × Sto)) (ρ : En) (k : α → MS) : Option (Fl × Sto) := match r with
  | none => none
  | some (.ok a, st) => k a st
  | some (.ex c fs, st) => some (.ex ρ c fs, st)
theorem FinS.onE {S : Ks} {W : WX} {Ds : Ends} {μ : Mu} {H : Hp} {α : Type} {k : α → MS} {ρ : En} {σ : L2.St} (ev : EV S μ H ρ σ) : ∀ {r : Option (R α × Sto)}, FinS S W Ds μ H (onE r ρ k) →
    Fin S (WE W σ) μ H (fun a st1 μ1 H1 => FinS S W Ds μ1 H1 (k a st1)) r
  | none, h => h
  | some (.ok a, st), h => fun μ' H' e s => FinS.go e h
  | some (.ex c fs, st), h => fun cv dx μ' H' e s q => h cv dx μ' H' σ e s (ev.go e) q
theorem FinS.nx {S : Ks} {W : WX} {Ds : Ends} {μ : Mu} {H : Hp} {ρ : En} {σ : L2.St} {st : Sto} (sv : SV S μ H st) (ev : EV S μ H ρ σ) (h : FinS S W Ds μ H (some (.nx ρ, st))) : Ds.nx σ H := h μ H σ (Ev.refl μ H) sv ev

def mNx : En → MS := fun ρ st => some (.nx ρ, st)
def mBk : En → MS := fun ρ st => some (.bk ρ, st)
def mCt : En → MS := fun ρ st => some (.ct ρ, st)
def mSeq (m1 m2 : En → MS) : En → MS := fun ρ st => match m1 ρ st with
  | some (.nx ρ', st') => m2 ρ' st'
  | r => r
def mSet (i : Nat) (m : En → M Va) : En → MS := fun ρ st => onE (m ρ st) ρ fun a st' => some (.nx (ρ.set i (some a)), st')
def mExpr (m : En → M Va) : En → MS := fun ρ st => onE (m ρ st) ρ fun _ st' => some (.nx ρ, st')
def mRet (m : En → M Va) : En → MS := fun ρ st => onE (m ρ st) ρ fun a st' => some (.rt a, st')
def mRetN : En → MS := fun ρ st => some (.rt (.val .non), st)
def mIfS (c : En → M Bool) (a b : En → MS) : En → MS := fun ρ st => onE (c ρ st) ρ fun t st' => if t = true then a ρ st' else b ρ st'
/-- several slots set -/
def setAll (σ : L2.St) : List Nat → List V → L2.St
  | i :: l, v :: vs => setAll (σ.set i (some v)) l vs
  | _, _ => σ
def setAllE (ρ : En) : List Nat → List Va → En
  | i :: l, v :: vs => setAllE (ρ.set i (some v)) l vs
  | _, _ => ρ
theorem EV.setMany {S : Ks} {μ : Mu} {H : Hp} : ∀ {l : List Nat} {ρ : En} {σ : L2.St} {as : List Va} {vs : List V}, EV S μ H ρ σ → AVs S μ H as vs → EV S μ H (setAllE ρ l as) (DL.setAll σ l vs)
  | [], ρ, σ, as, vs, h, q => by cases as <;> cases vs <;> exact h
  | i :: l, ρ, σ, [], vs, h, q => by cases q; exact h
  | i :: l, ρ, σ, a :: as, vs, h, q => by
    obtain ⟨v, r, rfl, q1, q2⟩ := q
    exact EV.setMany (l := l) (h.set i q1) q2
theorem AVs.append {S : Ks} {μ : Mu} {H : Hp} : ∀ {ds es : List Va} {vs ws : List V}, AVs S μ H ds vs → AVs S μ H es ws → AVs S μ H (ds ++ es) (vs ++ ws)
  | [], es, vs, ws, h, t => by cases h; exact t
  | d :: ds, es, vs, ws, h, t => by
    obtain ⟨v, r, rfl, q, w⟩ := h
    exact ⟨v, r ++ ws, rfl, q, AVs.append w t⟩
theorem AVs.reverse {S : Ks} {μ : Mu} {H : Hp} : ∀ {ds : List Va} {vs : List V}, AVs S μ H ds vs → AVs S μ H ds.reverse vs.reverse
  | [], vs, h => by cases h; exact AVs.nil
  | d :: ds, vs, h => by
    obtain ⟨v, r, rfl, q', w⟩ := h
    simp only [List.reverse_cons]
    exact AVs.append (AVs.reverse w) (AVs.cons q' AVs.nil)
theorem AVs.vals {S : Ks} {μ : Mu} {H : Hp} : ∀ {ds : List D} {vs : List V}, DVs S μ H ds vs → AVs S μ H (ds.map .val) vs
  | [], vs, h => by simp only [DVs] at h; exact h
  | d :: ds, vs, h => by
    simp only [DVs] at h
    obtain ⟨v, r, rfl, q, w⟩ := h
    exact ⟨v, r, rfl, q, AVs.vals w⟩
section
variable {X : Cx} {x : ExI} {W : WX} {pos : Pos} {s : Stmt} {ss : List Stmt} {m m1 m2 : En → MS} {e : Expr} {me : En → M Va}
theorem sds_nil : SDs X x W [] mNx := SDs.of pss_nil fun Ds σ H μ st ρ ev sv h => FinS.nx sv ev h
theorem sds_cons (h1 : SD X x W s m1) (h2 : SDs X x W ss m2) : SDs X x W (s :: ss) (mSeq m1 m2) := by
  refine SDs.of (pss_cons h1 h2) fun Ds σ H μ st ρ ev sv h => ⟨μ, st, ρ, ev, sv, ?_⟩
  unfold mSeq at h
  cases e : m1 ρ st with
  | none => rw [e] at h; exact h
  | some p =>
    obtain ⟨f, st'⟩ := p
    rw [e] at h
    cases f with
    | nx ρ' => exact fun μ' H' σ' ev' sv' q => ⟨μ', st', ρ', q, sv', FinS.go ev' h⟩
    | rt d => exact h
    | bk ρ' => exact h
    | ct ρ' => exact h
    | ex ρ' c fs => exact h
theorem sds_one (h1 : SD X x W s m1) : SDs X x W [s] m1 := by
  refine SDs.of (pss_one h1) fun Ds σ H μ st ρ ev sv h => ⟨μ, st, ρ, ev, sv, h⟩
theorem sd_pass : SD X x W (.Pass pos) mNx := SD.of ps_pass fun Ds σ H μ st ρ ev sv h => FinS.nx sv ev h
theorem sd_break : SD X x W (.Break pos) mBk := SD.of ps_break fun Ds σ H μ st ρ ev sv h => h μ H σ (Ev.refl μ H) sv ev
theorem sd_continue : SD X x W (.Continue pos) mCt := SD.of ps_continue fun Ds σ H μ st ρ ev sv h => h μ H σ (Ev.refl μ H) sv ev
theorem sd_expr (he : ED X x W e me) (hs : swapsWith e none pos.line X.env = pure false := by rfl) : SD X x W (.Expr e pos) (mExpr me) := by
  refine SD.of (ps_expr he hs) fun Ds σ H μ st ρ ev sv h => ⟨μ, st, ρ, ev, sv, Fin.map (fun a st1 μ1 H1 e1 s1 h1 v hv => ?_) (FinS.onE ev h)⟩
  exact FinS.nx s1 (ev.go e1) h1
theorem sd_ret (he : ED X x W e me) : SD X x W (.Return (some e) pos) (mRet me) := by
  refine SD.of (ps_ret he) fun Ds σ H μ st ρ ev sv h => ⟨μ, st, ρ, ev, sv, Fin.map (fun a st1 μ1 H1 e1 s1 h1 v hv => ?_) (FinS.onE ev h)⟩
  exact h1 μ1 H1 v (Ev.refl _ _) s1 hv
theorem sd_retN : SD X x W (.Return none pos) mRetN := SD.of ps_retN fun Ds σ H μ st ρ ev sv h => h μ H .non (Ev.refl _ _) sv (by simp only [AV, DV])
theorem sd_if {c : Expr} {a b : List Stmt} {mc : En → M Bool} (hc : TD X x W c mc) (ha : SDs X x W a m1) (hb : SDs X x W b m2) : SD X x W (.If c a b pos) (mIfS mc m1 m2) := by
  refine SD.of (ps_if hc ha hb) fun Ds σ H μ st ρ ev sv h => ⟨μ, st, ρ, ev, sv, Fin.map (fun t st1 μ1 H1 e1 s1 h1 => ?_) (FinS.onE ev h)⟩
  cases t with
  | true => exact iteT ⟨μ1, st1, ρ, ev.go e1, s1, h1⟩
  | false => exact iteF ⟨μ1, st1, ρ, ev.go e1, s1, h1⟩
theorem sd_set (i : Nat) {y : Str} {pos' : Pos} (he : ED X x W e me) (hN : X.N.Nodup := by assumption) (hi : X.N[i]? = some y := by rfl) (hx : Loc X.env.scope y := by first | exact Or.inl rfl | exact Or.inr rfl)
    (hs : swapsWith e (some (.Name y pos')) pos.line X.env = pure false := by rfl) (hf : X.fn y = true ∨ X.env.scope.names.lookup y = some .local := by first | exact .inl rfl | exact .inr rfl) : SD X x W (.Assign [.Name y pos'] e pos) (mSet i me) := by
  refine SD.of (ps_set hN hi hx he hs hf) fun Ds σ H μ st ρ ev sv h => ⟨μ, st, ρ, ev, sv, Fin.map (fun a st1 μ1 H1 e1 s1 h1 v hv => ?_) (FinS.onE ev h)⟩
  exact FinS.nx s1 ((ev.go e1).set i hv) h1
/-! ### a, b, .. = x, y, .. with plain local names -/
theorem store_all {pins : List (Addr × Obj)} {H : Hp} {Q : Unit → Shared → Prop} (hN : X.N.Nodup) : ∀ (l : List (Nat × Str)) (vs : List V) (us : List Value) (σ : L2.St) (s : Shared), L2.Inv X pins σ H s → Vals vs us → vs.length = l.length →
    (∀ p ∈ l, X.N[p.1]? = some p.2 ∧ X.env.scope.names.lookup p.2 = some .local) → (∀ s', L2.Inv X pins (setAll σ (l.map (·.1)) vs) H s' → Q () s') →
    wpAny (model X.prog X.w) X.A (assignInOrder (l.map fun p v => bindName X.env p.2 v) us) Q X.xe s
  | [], vs, us, σ, s, I, r, hl, hp, h => by
    cases r with
    | nil => exact assignInOrder_nil (h s I)
    | cons p q => simp at hl
  | p :: l, vs, us, σ, s, I, r, hl, hp, h => by
    cases r with
    | nil => simp at hl
    | @cons v u vs us rv rr =>
      obtain ⟨h1, h2⟩ := hp p (by simp)
      refine assignInOrder_cons (wpAny_bindName (store_ok I hN h1 (.inl h2) rv (fun s2 I2 => ?_) (.inr h2)))
      exact store_all hN l vs us _ s2 I2 rr (by simpa using hl) (fun p hp' => hp p (by simp [hp'])) h
def tParN (l : List Nat) (ta : TA) : TS := fun Ds σ H => ta σ H fun vs H1 => vs.length = l.length ∧ Ds.nx (setAll σ l.reverse vs.reverse) H1
theorem Paired.reverse {α β : Type} {F : α → β → Prop} {xs : List α} {us : List β} (h : Paired F xs us) : Paired F xs.reverse us.reverse := by
  have app : ∀ {xs ys : List α} {us ws : List β}, Paired F xs us → Paired F ys ws → Paired F (xs ++ ys) (us ++ ws) := by
    intro xs ys us ws h1 h2
    induction h1 with
    | nil => exact h2
    | cons r _ ih => exact .cons r ih
  induction h with
  | nil => exact .nil
  | cons r t ih => simp only [List.reverse_cons]; exact app ih (.cons r .nil)
theorem ps_parN {tg es : List Expr} {l : List (Nat × Str)} {ta : TA} {kt pt k2 pt2} (hc : X.calm = true) (hN : X.N.Nodup) (hl : ∀ p ∈ l, X.N[p.1]? = some p.2 ∧ X.env.scope.names.lookup p.2 = some .local) (hz : es.length ≤ 1000) (hlen : es.length = l.length)
    (ha : PA X es ta) (hw : swappedStores [.Tuple tg kt pt] (.Tuple es k2 pt2) X.env = pure (some (l.map (·.2)))) (hs : swapsWithSole [.Tuple tg kt pt] (.Tuple es k2 pt2) pos.line X.env = pure false := by rfl) :
    PS X (.Assign [.Tuple tg kt pt] (.Tuple es k2 pt2) pos) (tParN (l.map (·.1)) ta) := by
  refine ⟨fun pins s σ H D I h => ?_⟩
  refine Assign_Tuple_swapped (Tuple_ (thn (ha.run _ pins s σ H _ I h) fun us s1 ⟨vs, H1, I1, r1, q1, q2⟩ => ?_)) hs hw
  have hlv : vs.length = l.length := by simpa using q1
  refine wpAny_newObj_type ?_ (by show us.toArray.size ≤ sizeLine; rw [List.size_toArray, ← Paired.length r1, hlv, ← hlen, sizeLine_eq]; omega)
  have I2 : L2.Inv X pins σ H1 { s1 with heap := s1.heap.push { cls := .type "tuple", data := .seq us.toArray } } := I1.kept (t' := s1.toks) fun b o e => Heap.get?_push_of_some _ e
  have hn : (l.map (·.2)).length = us.toArray.size := by rw [List.length_map, List.size_toArray, ← Paired.length r1, hlv]
  rw [hn]
  refine unpackItems_tuple (items := us.toArray) (I.ok.hd hc) (IsTup.new s1.heap _) fun h' hx' => ?_
  have I3 := I2.kept (h' := h') (t' := s1.toks) fun b o e => hx' b o (Nat.ne_of_lt (Heap.lt_size e)) e
  rw [← List.map_reverse, List.map_map]
  have key := store_all (Q := fun _ s' => SP X pins D .next s') hN l.reverse vs.reverse us.reverse σ _ I3 (Paired.reverse r1) (by simp [hlv]) (fun p hp => hl p (by simpa using hp)) (fun s' J => ⟨_, H1, by rw [List.map_reverse] at J; exact J, q2⟩)
  exact key
def ParOk (X : Cx) : List (Nat × Str) → Prop
  | [] => True
  | p :: l => (X.N[p.1]? = some p.2 ∧ X.env.scope.names.lookup p.2 = some .local) ∧ ParOk X l
theorem ParOk.all {X : Cx} : ∀ {l : List (Nat × Str)}, ParOk X l → ∀ p ∈ l, X.N[p.1]? = some p.2 ∧ X.env.scope.names.lookup p.2 = some .local
  | q :: l, h, p, hp => by
    rcases List.mem_cons.mp hp with e | hp
    · subst e; exact h.1
    · exact ParOk.all h.2 p hp
def mPar (l : List Nat) (m : En → M (List Va)) : En → MS := fun ρ st => onE (m ρ st) ρ fun as st' => if as.length = l.length then some (.nx (setAllE ρ l.reverse as.reverse), st') else none
theorem sd_par {tg es : List Expr} (l : List (Nat × Str)) {ma : En → M (List Va)} {kt pt k2 pt2} (ha : AD X x W es ma) (hc : X.calm = true := by rfl) (hN : X.N.Nodup := by assumption) (hl : ParOk X l := by repeat' first | exact trivial | exact rfl | constructor) (hz : es.length ≤ 1000 := by exact (by decide)) (hlen : es.length = l.length := by rfl)
    (hw : swappedStores [.Tuple tg kt pt] (.Tuple es k2 pt2) X.env = pure (some (l.map (·.2))) := by rfl) (hs : swapsWithSole [.Tuple tg kt pt] (.Tuple es k2 pt2) pos.line X.env = pure false := by rfl) :
    SD X x W (.Assign [.Tuple tg kt pt] (.Tuple es k2 pt2) pos) (mPar (l.map (·.1)) ma) := by
  refine SD.of (ps_parN hc hN hl.all hz hlen ha hw hs) fun Ds σ H μ st ρ ev sv h => ⟨μ, st, ρ, ev, sv, Fin.map (fun as st1 μ1 H1 e1 s1 h1 vs hv => ?_) (FinS.onE ev h)⟩
  by_cases z : as.length = (l.map (·.1)).length
  · simp only [if_pos z] at h1
    exact ⟨by rw [hv.length, z], FinS.nx s1 (EV.setMany (ev.go e1) hv.reverse) h1⟩
  · simp only [if_neg z] at h1; exact h1.elim
/-! ### targets -/
def tDG (S : Ks) (ls : List Nat) (g : Va → En → Option En) : TG := fun v σ H Q => ∃ μ st ρ a, EV S μ H ρ σ ∧ SV S μ H st ∧ AV S μ H a v ∧ match g a ρ with
  | none => False
  | some ρ' => ∀ σ', EV S μ H ρ' σ' → (∀ vs, (∀ i ∈ ls, i ∈ vs) → L2.wipe σ' vs = L2.wipe σ vs) → Q σ' H
def tDGs (S : Ks) (ls : List Nat) (g : List D → En → Option En) : TGs := fun vs σ H Q => ∃ μ st ρ ds, EV S μ H ρ σ ∧ SV S μ H st ∧ DVs S μ H ds vs ∧ match g ds ρ with
  | none => False
  | some ρ' => ∀ σ', EV S μ H ρ' σ' → (∀ vs, (∀ i ∈ ls, i ∈ vs) → L2.wipe σ' vs = L2.wipe σ vs) → Q σ' H
def GD (X : Cx) (x : ExI) (tg : Expr) (ls : List Nat) (g : Va → En → Option En) : Prop := PG X tg (tDG (ks X x) ls g)
def GDs (X : Cx) (x : ExI) (tg : List Expr) (ls : List Nat) (g : List D → En → Option En) : Prop := PGs X tg (tDGs (ks X x) ls g)
theorem wipe_get (σ : L2.St) (j : Nat) : ∀ vs : List Nat, (L2.wipe σ vs)[j]? = if j < σ.length ∧ j ∈ vs then some none else σ[j]?
  | [] => by simp [L2.wipe]
  | v :: vs => by
    unfold L2.wipe
    by_cases h : v = j
    · subst h
      by_cases hl : v < σ.length
      · rw [List.getElem?_set_self (by rw [L2.wipe_length]; exact hl), if_pos ⟨hl, by simp⟩]
      · rw [List.getElem?_eq_none (by rw [List.length_set, L2.wipe_length]; omega), if_neg (fun z => hl z.1), List.getElem?_eq_none (by omega)]
    · rw [List.getElem?_set_ne h, wipe_get σ j vs]
      have e : (j ∈ v :: vs) ↔ j ∈ vs := by simp [Ne.symm h]
      simp only [e]
theorem wipe_set (σ : L2.St) (i : Nat) (v : Option V) (vs : List Nat) (h : i ∈ vs) : L2.wipe (σ.set i v) vs = L2.wipe σ vs := by
  apply List.ext_getElem?
  intro j
  rw [wipe_get, wipe_get, List.length_set]
  by_cases hj : i = j
  · subst hj
    by_cases hl : i < σ.length
    · rw [if_pos ⟨hl, h⟩, if_pos ⟨hl, h⟩]
    · rw [if_neg (fun z => hl z.1), if_neg (fun z => hl z.1), List.getElem?_eq_none (by simpa using hl), List.getElem?_eq_none (by omega)]
  · rw [List.getElem?_set_ne hj]
def gVar (i : Nat) : Va → En → Option En := fun a ρ => some (ρ.set i (some a))
theorem gd_name (i : Nat) {y : Str} (hN : X.N.Nodup := by assumption) (hi : X.N[i]? = some y := by rfl) (hx : Loc X.env.scope y := by first | exact Or.inl rfl | exact Or.inr rfl) (hf : X.fn y = true ∨ X.env.scope.names.lookup y = some .local := by first | exact .inl rfl | exact .inr rfl) : GD X x (.Name y pos) [i] (gVar i) := by
  refine ⟨fun pins s σ H v u Q I r q => (pg_name hN hi hx hf).run pins s σ H v u Q I r ?_⟩
  obtain ⟨μ, st, ρ, a, ev, sv, av, h⟩ := q
  exact h _ (ev.set i av) fun vs hv => wipe_set _ _ _ _ (hv i (by simp))
def gNilD : List D → En → Option En
  | [], ρ => some ρ
  | _, _ => none
def gConsD (g : Va → En → Option En) (gs : List D → En → Option En) : List D → En → Option En
  | d :: ds, ρ => (g (.val d) ρ).bind (gs ds)
  | [], _ => none
theorem gds_nil : GDs X x [] [] gNilD := by
  refine ⟨fun pins s σ H v u Q I r q => pgs_nil.run pins s σ H v u Q I r ?_⟩
  obtain ⟨μ, st, ρ, ds, ev, sv, dv, h⟩ := q
  cases ds with
  | nil => simp only [DVs] at dv; exact ⟨dv, h σ ev fun _ _ => rfl⟩
  | cons d ds => exact h.elim
theorem gds_cons {ls ls' : List Nat} {es : List Expr} {g : Va → En → Option En} {gs : List D → En → Option En} (h1 : GD X x e ls g) (h2 : GDs X x es ls' gs)
    (hs : (assignEach (e :: es) X.env).map (·.2) = assign e X.env :: (assignEach es X.env).map (·.2) := by rfl) : GDs X x (e :: es) (ls ++ ls') (gConsD g gs) := by
  refine ⟨fun pins s σ H v u Q I r q => (pgs_cons h1 h2 hs).run pins s σ H v u Q I r ?_⟩
  obtain ⟨μ, st, ρ, ds, ev, sv, dv, h⟩ := q
  cases ds with
  | nil => exact h.elim
  | cons d ds =>
    simp only [DVs] at dv
    obtain ⟨v1, r1, rfl, q1, q2⟩ := dv
    refine ⟨v1, r1, rfl, μ, st, ρ, .val d, ev, sv, q1, ?_⟩
    simp only [gConsD] at h
    cases e1 : g (.val d) ρ with
    | none => simp only [e1, Option.bind_none] at h
    | some ρ1 =>
      simp only [e1, Option.bind_some] at h
      refine fun σ1 ev1 w1 => ⟨μ, st, ρ1, ds, ev1, sv, q2, ?_⟩
      have h : match gs ds ρ1 with | none => False | some ρ' => ∀ σ', EV (ks X x) μ H ρ' σ' → (∀ vs, (∀ i ∈ ls ++ ls', i ∈ vs) → L2.wipe σ' vs = L2.wipe σ vs) → Q σ' H := h
      cases e2 : gs ds ρ1 with
      | none => rw [e2] at h; exact h
      | some ρ2 =>
        rw [e2] at h
        exact fun σ2 ev2 w2 => h σ2 ev2 fun vs hv => (w2 vs fun i hi => hv i (by simp [hi])).trans (w1 vs fun i hi => hv i (by simp [hi]))
def gTupD (n : Nat) (gs : List D → En → Option En) : Va → En → Option En
  | .val (.tup ds), ρ => if ds.length = n then gs ds ρ else none
  | _, _ => none
theorem gd_tup {ls : List Nat} {es : List Expr} {k n : Nat} {gs : List D → En → Option En} (h : GDs X x es ls gs) (hc : X.calm = true := by rfl) (hn : (assignEach es X.env).length = n := by rfl) (hst : (assignEach es X.env).findIdx? (·.1) = none := by rfl) : GD X x (.Tuple es k pos) ls (gTupD n gs) := by
  refine ⟨fun pins s σ H v u Q I r q => (pg_tup hc h hn hst).run pins s σ H v u Q I r ?_⟩
  obtain ⟨μ, st, ρ, a, ev, sv, av, h⟩ := q
  cases a with
  | obj k => exact h.elim
  | exc c fs => exact h.elim
  | scr ns => exact h.elim
  | val d =>
    cases d with
    | tup ds =>
      simp only [AV, DV] at av
      obtain ⟨p, xs, e1, sq, dv⟩ := av
      unfold gTupD at h
      by_cases z : ds.length = n
      · simp only [if_pos z] at h
        exact ⟨p, xs, e1, sq, by rw [dv.length]; exact z, μ, st, ρ, ds, ev, sv, dv, h⟩
      · simp only [if_neg z] at h
    | non | bl | int | str | lst | glo => exact h.elim
/-- a target gets a value -/
def mAsg (g : Va → En → Option En) (m : En → M Va) : En → MS := fun ρ st => onE (m ρ st) ρ fun a st' => match g a ρ with
  | some ρ' => some (.nx ρ', st')
  | none => none
theorem sd_asg {tg : Expr} {ls : List Nat} {g : Va → En → Option En} (he : ED X x W e me) (hg : GD X x tg ls g) (hs : swapsWithSole [tg] e pos.line X.env = pure false := by rfl) (hw : swappedStores [tg] e X.env = pure none := by rfl) (h1 : (assignEach [tg] X.env).map (·.2) = [assign tg X.env] := by rfl) : SD X x W (.Assign [tg] e pos) (mAsg g me) := by
  refine SD.of (ps_asg he hg hs hw h1) fun Ds σ H μ st ρ ev sv h => ⟨μ, st, ρ, ev, sv, Fin.map (fun a st1 μ1 H1 e1 s1 h1 v hv => ?_) (FinS.onE ev h)⟩
  refine ⟨μ1, st1, ρ, a, ev.go e1, s1, hv, ?_⟩
  cases e2 : g a ρ with
  | none => simp only [e2] at h1; exact h1
  | some ρ' => simp only [e2] at h1; exact fun σ' ev' _ => FinS.nx s1 ev' h1
end
end DL
end

section
set_option Elab.async false
set_option linter.all false
set_option maxRecDepth 100000
set_option maxHeartbeats 4000000
/-! Defs, calls, own exceptions over plain data. -/
namespace DL
open PySem PySem.Spec PyProof.Rows L2

/-- behind a call the store is as long as ahead of it; a new object that is handed out stands behind it -/
def cutR (n : Nat) : Option (R Va × Sto) → Option (R Va × Sto)
  | some (.ok (.val d), st) => some (.ok (.val d), st.take n)
  | some (.ok (.obj k), st) => if k < n then some (.ok (.obj k), st.take n) else match st[k]? with
    | some .dead => none
    | some o => some (.ok (.obj n), st.take n ++ [o])
    | none => none
  | some (.ex c fs, st) => some (.ex c fs, st.take n)
  | _ => none
section
variable {S : Ks} {μ μ' : Mu} {H H' : Hp}
theorem SV.addOb {st : Sto} {a : Addr} {o : Ob} (sv : SV S μ H st) (hn : some a ∉ μ) (hle : ∀ b o', OV S μ H b o' → OV S (μ ++ [some a]) H b o') (h : OV S (μ ++ [some a]) H a o) : SV S (μ ++ [some a]) H (st ++ [o]) := by
  refine ⟨by simp [sv.len], fun i j b h1 h2 => ?_, fun k o' e => ?_⟩
  · have key : ∀ {i : Nat}, (μ ++ [some a])[i]? = some (some b) → (i < μ.length ∧ μ[i]? = some (some b)) ∨ (i = μ.length ∧ b = a) := fun {i} h => by
      by_cases hi : i < μ.length
      · rw [List.getElem?_append_left hi] at h; exact .inl ⟨hi, h⟩
      · rw [List.getElem?_append_right (by omega)] at h
        have : i - μ.length = 0 := by
          cases z : i - μ.length with
          | zero => rfl
          | succ n => rw [z] at h; simp at h
        rw [this] at h
        simp at h
        exact .inr ⟨by omega, h.symm⟩
    rcases key h1 with ⟨l1, e1⟩ | ⟨l1, e1⟩ <;> rcases key h2 with ⟨l2, e2⟩ | ⟨l2, e2⟩
    · exact sv.inj i j b e1 e2
    · subst e2; exact absurd (List.mem_of_getElem? e1) hn
    · subst e1; exact absurd (List.mem_of_getElem? e2) hn
    · omega
  · by_cases hk : k < st.length
    · rw [List.getElem?_append_left hk] at e
      have hk' : k < μ.length := by rw [sv.len]; exact hk
      rw [List.getElem?_append_left hk']
      exact (sv.here k o' e).imp (fun ⟨b, e1, q⟩ => ⟨b, e1, hle b o' q⟩) id
    · rw [List.getElem?_append_right (by omega)] at e
      have : k - st.length = 0 := by
        cases z : k - st.length with
        | zero => rfl
        | succ n => rw [z] at e; simp at e
      rw [this] at e
      simp at e
      subst e
      have ek : k = μ.length := by rw [sv.len]; omega
      subst ek
      exact .inl ⟨a, by simp, h⟩
theorem Fin.cut {E : XK} {Q : VK} {n : Nat} (hn : μ.length = n) : ∀ {r : Option (R Va × Sto)}, Fin S E μ H (fun a _ μ' H' => ∀ v, AV S μ' H' a v → Q v H') (cutR n r) → Fin S E μ H (fun a _ μ' H' => ∀ v, AV S μ' H' a v → Q v H') r
  | none, h => h
  | some (.ok (.exc c fs), st), h => by unfold cutR at h; exact h.elim
  | some (.ok (.scr ns), st), h => by unfold cutR at h; exact h.elim
  | some (.ex c fs, st), h => by
    unfold cutR at h
    subst hn
    exact fun cv dx μ' H' ev sv q => h cv dx _ H' ev.cut (sv.cut _) (XR.le (Le.take _) q)
  | some (.ok (.val d), st), h => by
    unfold cutR at h
    subst hn
    exact fun μ' H' ev sv v q => h _ H' ev.cut (sv.cut _) v (DV.le (Le.take _) d q)
  | some (.ok (.obj k), st), h => by
    unfold cutR at h
    subst hn
    by_cases hk : k < μ.length
    · simp only [if_pos hk] at h
      refine fun μ' H' ev sv v q => h _ H' ev.cut (sv.cut _) v ?_
      obtain ⟨a, e, l, q⟩ := q
      refine ⟨a, e, by rw [List.length_take]; omega, fun b hb => q b ?_⟩
      rw [List.getElem?_take_of_lt hk] at hb
      exact hb
    · simp only [if_neg hk] at h
      cases e : st[k]? with
      | none => simp only [e] at h; exact h.elim
      | some o =>
        simp only [e] at h
        have hd : o ≠ .dead := fun z => by subst z; exact h.elim
        intro μ' H' ev sv v q
        obtain ⟨a, e1, hm, hmem, ov⟩ := sv.at e hd q
        have hna : some a ∉ μ'.take μ.length := fun z => by
          obtain ⟨j, hj⟩ := List.mem_iff_getElem?.mp z
          by_cases hjn : j < μ.length
          · rw [List.getElem?_take_of_lt hjn] at hj
            exact hk ((sv.inj _ _ _ hj hm) ▸ hjn)
          · rw [List.getElem?_take_eq_none (by omega)] at hj; cases hj
        have le : Le μ' (μ'.take μ.length ++ [some a]) := ⟨fun b hb => by
          rcases List.mem_append.mp hb with z | z
          · exact List.mem_of_mem_take z
          · simp at z; subst z; exact hmem⟩
        have Ev1 : Ev μ H (μ'.take μ.length ++ [some a]) H' := ⟨ev.tups, ev.frzs, ev.keep, by rw [List.length_append, List.length_take]; have := ev.len; simp; omega, fun k hk => by
            rw [List.getElem?_append_left (by rw [List.length_take]; have := ev.len; omega), List.getElem?_take_of_lt hk]; exact ev.pre k hk, fun b hb => ev.new b (le.sub b hb)⟩
        have lent : (μ'.take μ.length).length = μ.length := by rw [List.length_take]; have := ev.len; omega
        have Sv1 : SV S (μ'.take μ.length ++ [some a]) H' (st.take μ.length ++ [o]) := by
          have sc := sv.cut μ.length
          refine ⟨by simp [sv.len], fun i j b h1 h2 => ?_, fun k2 o' ek => ?_⟩
          · have key : ∀ {i : Nat}, (μ'.take μ.length ++ [some a])[i]? = some (some b) → (i < μ.length ∧ μ'[i]? = some (some b)) ∨ (i = μ.length ∧ b = a) := fun {i} h => by
              by_cases hi : i < μ.length
              · rw [List.getElem?_append_left (by rw [lent]; exact hi), List.getElem?_take_of_lt hi] at h; exact .inl ⟨hi, h⟩
              · rw [List.getElem?_append_right (by omega), lent] at h
                have : i - μ.length = 0 := by
                  cases z : i - μ.length with
                  | zero => rfl
                  | succ n => rw [z] at h; simp at h
                rw [this] at h
                simp at h
                exact .inr ⟨by omega, h.symm⟩
            rcases key h1 with ⟨l1, f1⟩ | ⟨l1, f1⟩ <;> rcases key h2 with ⟨l2, f2⟩ | ⟨l2, f2⟩
            · exact sv.inj i j b f1 f2
            · rw [f2] at f1; exact absurd ((sv.inj _ _ _ f1 hm) ▸ l1) hk
            · rw [f1] at f2; exact absurd ((sv.inj _ _ _ f2 hm) ▸ l2) hk
            · omega
          · have lens : (st.take μ.length).length = μ.length := by rw [List.length_take, ← sv.len]; have := ev.len; omega
            by_cases hi : k2 < μ.length
            · rw [List.getElem?_append_left (by rw [lens]; exact hi), List.getElem?_take_of_lt hi] at ek
              rw [List.getElem?_append_left (by rw [lent]; exact hi), List.getElem?_take_of_lt hi]
              exact (sv.here k2 o' ek).imp (fun ⟨b, e1, q⟩ => ⟨b, e1, OV.le le q⟩) id
            · rw [List.getElem?_append_right (by omega), lens] at ek
              have : k2 - μ.length = 0 := by
                cases z : k2 - μ.length with
                | zero => rfl
                | succ n => rw [z] at ek; simp at ek
              rw [this] at ek
              simp at ek
              subst ek
              have ek : k2 = μ.length := by omega
              subst ek
              exact .inl ⟨a, by rw [List.getElem?_append_right (by omega), lent]; simp, OV.le le ov⟩
        have hav : AV S (μ'.take μ.length ++ [some a]) H' (.obj μ.length) v := ⟨a, e1, by simp [lent], fun b hb => by
          rw [List.getElem?_append_right (by omega), lent] at hb
          simp at hb
          exact hb.symm⟩
        cases o with
        | dead => exact absurd rfl hd
        | lst ds => exact h _ H' Ev1 Sv1 v hav
        | dK kvs => exact h _ H' Ev1 Sv1 v hav
        | dT kvs => exact h _ H' Ev1 Sv1 v hav
end
/-- what a def over n arguments promises: it computes g -/
def spD (S : Ks) (n : Nat) (g : List Va → M Va) : Sp := fun vs H Q E => ∃ μ st as, SV S μ H st ∧ AVs S μ H as vs ∧ as.length = n ∧ Fin S E μ H (fun a _ μ' H' => ∀ v, AV S μ' H' a v → Q v H') (g as st)
/-- a def's promise where no repr is under way -/
structure FnG (P : Program) (w : World) (K : PySem.W.Frag) (mg : Str → Option Value) (base : Heap) (k : Nat) (f : Addr) (fd : FuncData) (ps : List Str) (sp : Sp) : Prop where
  len : ∀ vs H Q E, sp vs H Q E → vs.length = ps.length
  run : ∀ (A : Around) (outer : List Env) (s : Shared) (H : Hp) (args : Args) (us : List Value) (vs : List V) (Q : VK) (E : XK), Room k A → A.guards = some [] → Env0 P w K mg base A outer s H → BindsTo s fd args (ps.zip us) → Vals vs us → sp vs H Q E →
    codeAny (model P w) A (.call (.ref f) args) (CR (L2.CX P w) outer P w H s Q E) s
theorem FnG.mono {P : Program} {w : World} {K : PySem.W.Frag} {mg : Str → Option Value} {base : Heap} {j k : Nat} {f : Addr} {fd : FuncData} {ps : List Str} {sp : Sp} (F : FnG P w K mg base j f fd ps sp) (h : j ≤ k) :
    FnG P w K mg base k f fd ps sp := ⟨F.len, fun A outer s H args us vs Q E hr => F.run A outer s H args us vs Q E (hr.mono h)⟩
theorem fn_ofG {P : Program} {w : World} {K : PySem.W.Frag} {mg : Str → Option Value} {base : Heap} {k : Nat} {f : Addr} {name qual : Str} {params : Arguments} {body : List Stmt} {scope : Scope} {dV kV doc pm cdv ct oc : Value} {an od : Option Addr}
    {osl : Array (Option Value)} {N ps : List Str} {sp : Sp} (lk : K.lookup f = some ⟨oc, od, .func (PySem.W.fnOf name qual params body scope dV kV doc pm an cdv ct), osl⟩) (hcd : PySem.W.codeIn K cdv qual = true) (S : FnScope N ps scope)
    (len : ∀ vs H Q E, sp vs H Q E → vs.length = ps.length)
    (hbody : ∀ (A : Around) (outer : List Env) (s : Shared) (H : Hp) (vs : List V) (Q : VK) (E : XK), Room k (A.deeper (envOfC qual scope s.heap.objs.size f cdv)) → A.guards = some [] → sp vs H Q E →
      ∃ t, PSs (cxOf (L2.CX P w) P w K mg base N qual scope f cdv A outer s H E) body t ∧ t { nx := fun _ H' => Q .non H', rt := Q } (L2.start N vs) H) :
    FnG P w K mg base (k + 1) f (PySem.W.fnOf name qual params body scope dV kV doc pm an cdv ct) ps sp := by
  refine ⟨len, fun A outer s H args us vs Q E hr hG e0 hb r hsp => ?_⟩
  have hl := len _ _ _ _ hsp
  have KX : K.In s.heap := e0.mod.kin.keeps fun b o e => (e0.bs b o e).1
  have lim : s.heap.NoLimit := e0.mod.nolimit.keeps fun b o e => (e0.bs b o e).1
  have hkind : ∀ y ∈ ps.zip us, scope.names.lookup y.1 = some .local ∨ (scope.names.lookup y.1 = some .cell ∧ ((cellsFrom (s.heap.objs.size + 1) scope.names []).lookup y.1).isSome = true) := fun ⟨n, v⟩ hy => by
    rcases S.par n (List.of_mem_zip hy).1 with q | q
    · exact .inl q
    · exact .inr ⟨q, PySem.W.cellsFrom_some _ _ _ (.inl q)⟩
  refine codeAny_call_function hr.depth (KX _ _ lk) rfl S.co S.gen rfl (PySem.W.codeRec_of KX hcd) (hb _ _ _ _ ?_)
  refine wpAny_newFunctionEnv_cells S.kind hkind fun env he s1 x => ?_
  subst he
  refine ⟨lim.keeps x.toInCall.keep, codeAny_func ?_⟩
  obtain ⟨t, ht, hq⟩ := hbody A outer s H vs Q E (hr.deeper _) hG hsp
  have I : L2.Inv (cxOf (L2.CX P w) P w K mg base N qual scope f cdv A outer s H E) [] (L2.start N vs) H s1 := inv_start S hr.hd e0 hl r x
  refine wpAny_mono (ht.run [] s1 (L2.start N vs) H _ I hq) (fun fl s' hs => ?_) fun e s' hs => hs
  have fin : ∀ {σ' : L2.St} {H' : Hp} {v : V} {u : Value}, L2.Inv (cxOf (L2.CX P w) P w K mg base N qual scope f cdv A outer s H E) [] σ' H' s' → RelV v u → Q v H' → CE outer P w H s Q u s' :=
    fun {σ' H' v u} J rv q => ⟨v, H', J.os, J.bare, J.base, J.hok, rv, q⟩
  cases fl with
  | ret u =>
    obtain ⟨v, σ', H', J, rv, q⟩ := hs
    exact fin J rv q
  | next =>
    obtain ⟨σ', H', J, q⟩ := hs
    exact fin (v := V.non) (u := Value.none) J rfl q
  | brk =>
    obtain ⟨_, _, _, q⟩ := hs
    exact False.elim q
  | cont =>
    obtain ⟨_, _, _, q⟩ := hs
    exact False.elim q
/-- the def that the module's name y holds -/
def FnD (P : Program) (w : World) (K : PySem.W.Frag) (mg : Str → Option Value) (base : Heap) (k : Nat) (y : Str) (n : Nat) (g : List Va → M Va) : Prop :=
  ∃ (f : Addr) (fd : FuncData) (ps : List Str), FnG P w K mg base k f fd ps (spD ⟨K, mg, none⟩ n g) ∧ Binds K fd ps [] ∧ PySem.W.keepIn K (.ref f) = true ∧ mg y = some (.ref f)
theorem FnD.mono {P : Program} {w : World} {K : PySem.W.Frag} {mg : Str → Option Value} {base : Heap} {j k : Nat} {y : Str} {n : Nat} {g : List Va → M Va} (F : FnD P w K mg base j y n g) (h : j ≤ k) : FnD P w K mg base k y n g :=
  let ⟨f, fd, ps, F1, r⟩ := F
  ⟨f, fd, ps, F1.mono h, r⟩
/-- the arguments hold no exception -/
def noExc : List Va → Bool
  | [] => true
  | .exc _ _ :: _ => false
  | _ :: r => noExc r
section
variable {K : PySem.W.Frag} {mg : Str → Option Value} {x x' : ExI} {μ : Mu} {H : Hp}
mutual
theorem DV.exi : ∀ (d : D) {v : V}, DV ⟨K, mg, x⟩ μ H d v → DV ⟨K, mg, x'⟩ μ H d v
  | .non, v, h => by simpa only [DV] using h
  | .bl b, v, h => by simpa only [DV] using h
  | .int i, v, h => by simpa only [DV] using h
  | .str s, v, h => by simpa only [DV] using h
  | .tup ds, v, h => by
    simp only [DV] at h ⊢
    obtain ⟨a, xs, e, q, r⟩ := h
    exact ⟨a, xs, e, q, DVs.exi ds r⟩
  | .lst ds, v, h => by
    simp only [DV] at h ⊢
    obtain ⟨a, xs, e, n, q, r⟩ := h
    exact ⟨a, xs, e, n, q, DVs.exi ds r⟩
  | .glo g, v, h => by simpa only [DV] using h
theorem DVs.exi : ∀ (ds : List D) {vs : List V}, DVs ⟨K, mg, x⟩ μ H ds vs → DVs ⟨K, mg, x'⟩ μ H ds vs
  | [], vs, h => by simpa only [DVs] using h
  | d :: ds, vs, h => by
    simp only [DVs] at h ⊢
    obtain ⟨v, r, e, q, t⟩ := h
    exact ⟨v, r, e, DV.exi d q, DVs.exi ds t⟩
end
theorem KVs.exi {κ : Type} : ∀ (kvs : List (κ × D)) {ys : List (κ × V)}, KVs ⟨K, mg, x⟩ μ H kvs ys → KVs ⟨K, mg, x'⟩ μ H kvs ys
  | [], ys, h => h
  | (k, d) :: r, ys, h => by
    obtain ⟨v, t, e, q, w⟩ := h
    exact ⟨v, t, e, DV.exi d q, KVs.exi r w⟩
theorem OV.exi {b : Addr} : ∀ {o : Ob}, OV ⟨K, mg, x⟩ μ H b o → OV ⟨K, mg, x'⟩ μ H b o
  | .lst ds, h => let ⟨xs, e, q⟩ := h; ⟨xs, e, DVs.exi ds q⟩
  | .dK kvs, h => let ⟨xs, e, q⟩ := h; ⟨xs, e, KVs.exi kvs q⟩
  | .dT kvs, h => let ⟨xs, e, q⟩ := h; ⟨xs, e, KVs.exi kvs q⟩
theorem XR.exi {c : Str} {fs : List (Str × D)} {cv : Value} {dx : Option Addr} (h : XR ⟨K, mg, x⟩ μ H c fs cv dx) : XR ⟨K, mg, x'⟩ μ H c fs cv dx :=
  let ⟨h1, d, ys, e1, n, e2, q⟩ := h
  ⟨h1, d, ys, e1, n, e2, KVs.exi fs q⟩
theorem SV.exi {st : Sto} (h : SV ⟨K, mg, x⟩ μ H st) : SV ⟨K, mg, x'⟩ μ H st :=
  ⟨h.len, h.inj, fun k o e => (h.here k o e).imp (fun ⟨a, e, q⟩ => ⟨a, e, OV.exi q⟩) id⟩
theorem noExc_go : ∀ {as : List Va} {vs : List V}, noExc as = true → AVs ⟨K, mg, x⟩ μ H as vs → AVs ⟨K, mg, x'⟩ μ H as vs
  | [], vs, e, h => h
  | .val d :: as, vs, e, h => let ⟨v, r, e1, q, t⟩ := h; ⟨v, r, e1, DV.exi d q, noExc_go (as := as) e t⟩
  | .obj k :: as, vs, e, h => let ⟨v, r, e1, q, t⟩ := h; ⟨v, r, e1, q, noExc_go (as := as) e t⟩
  | .exc c fs :: as, vs, e, h => by unfold noExc at e; cases e
  | .scr ns :: as, vs, e, h => let ⟨v, r, e1, q, t⟩ := h; ⟨v, r, e1, q, noExc_go (as := as) e t⟩
/-- the ends of a call, for the caller -/
theorem Fin.exi {E : XK} {Q : VK} {n : Nat} {μ : Mu} {H : Hp} : ∀ {r : Option (R Va × Sto)}, Fin ⟨K, mg, x⟩ E μ H (fun a _ μ' H' => ∀ v, AV ⟨K, mg, x⟩ μ' H' a v → Q v H') (cutR n r) → Fin ⟨K, mg, x'⟩ E μ H (fun a _ μ' H' => ∀ v, AV ⟨K, mg, x'⟩ μ' H' a v → Q v H') (cutR n r) := fun {r} h => by
  cases e : cutR n r with
  | none => rw [e] at h; exact h
  | some p =>
    obtain ⟨f, st⟩ := p
    rw [e] at h
    cases f with
    | ex c fs => exact fun cv dx μ' H' ev sv q => h cv dx μ' H' ev sv.exi q.exi
    | ok a =>
      refine fun μ' H' ev sv v q => h μ' H' ev sv.exi v ?_
      cases a with
      | val d => exact DV.exi d q
      | obj k => exact q
      | exc c fs =>
        exfalso
        revert e
        unfold cutR
        split
        · intro z; cases z
        · split
          · intro z; cases z
          · split
            · intro z; cases z
            · intro z; cases z
            · intro z; cases z
        · intro z; cases z
        · intro z; cases z
      | scr ns => exact q
end
/-- the ends of a body -/
def bodyR : Option (Fl × Sto) → Option (R Va × Sto)
  | some (.nx _, st) => some (.ok (.val .non), st)
  | some (.rt a, st) => some (.ok a, st)
  | some (.ex _ c fs, st) => some (.ex c fs, st)
  | _ => none
/-- a def with NL names, n of them parameters -/
def mFn (NL n : Nat) (m : En → MS) : List Va → M Va := fun as st => if as.length = n ∧ noExc as = true then cutR st.length (bodyR (m (as.map some ++ List.replicate (NL - n) none) st)) else none
theorem EV.start {S : Ks} {μ : Mu} {H : Hp} {N : List Str} : ∀ {as : List Va} {vs : List V}, AVs S μ H as vs → EV S μ H (as.map some ++ List.replicate (N.length - as.length) none) (L2.start N vs) := fun {as vs} h => by
  have hl := h.length
  refine ⟨by simp [L2.start, hl], fun i d e => ?_⟩
  by_cases hi : i < as.length
  · rw [List.getElem?_append_left (by simpa using hi), List.getElem?_map] at e
    have e1 : as[i]? = some d := by
      cases q : as[i]? with
      | none => rw [q] at e; cases e
      | some z => rw [q] at e; cases e; rfl
    obtain ⟨v, e2, q⟩ := h.get e1
    refine ⟨v, ?_, q⟩
    unfold L2.start
    rw [List.getElem?_append_left (by simp; omega), List.getElem?_map, e2]; rfl
  · rw [List.getElem?_append_right (by simpa using hi)] at e
    rw [List.getElem?_replicate] at e
    split at e <;> cases e
theorem FinS.body {S : Ks} {E : XK} {Q : VK} {μ : Mu} {H : Hp} : ∀ {r : Option (Fl × Sto)}, Fin S E μ H (fun a _ μ' H' => ∀ v, AV S μ' H' a v → Q v H') (bodyR r) → FinS S (fun c d _ H => E c d H) { nx := fun _ H' => Q .non H', rt := Q } μ H r
  | none, h => h
  | some (.nx ρ, st), h => fun μ' H' σ e s v => h μ' H' e s .non (by simp only [AV, DV])
  | some (.rt a, st), h => fun μ' H' v e s q => h μ' H' e s v q
  | some (.ex ρ c fs, st), h => fun cv dx μ' H' σ e s v q => h cv dx μ' H' e s q
  | some (.bk ρ, st), h => h.elim
  | some (.ct ρ, st), h => h.elim
section
variable {P : Program} {w : World} {K : PySem.W.Frag} {mg : Str → Option Value} {base : Heap}
/-- THE RULE for a def -/
theorem fn_d {y qual : Str} {st : Stmt} {f : Addr} {fd : FuncData} {N ps : List Str} {k n : Nat} {m : En → MS} (F : Fun K y qual st f fd) (Sc : FnScope N ps (defScope st)) (hm : mg y = some (.ref f)) (hn : ps.length = n)
    (hb : ∀ (kV doc pm : Value) (an : Option Addr) (cdv ct : Value) (us : List Value), us.length = ps.length → bindArgs (PySem.W.fnOf y qual (defArgs st) (defBody st) (defScope st) .none kV doc pm an cdv ct) ⟨us, []⟩ = pure (ps.zip us))
    (hbody : ∀ (cdv : Value) (A : Around) (outer : List Env) (s : Shared) (H : Hp) (E : XK), Room k (A.deeper (envOfC qual (defScope st) s.heap.objs.size f cdv)) → (A.deeper (envOfC qual (defScope st) s.heap.objs.size f cdv)).guards = some [] →
      SDs (cxOf (L2.CX P w) P w K mg base N qual (defScope st) f cdv A outer s H E) none (fun c d _ H => E c d H) (defBody st) m) : FnD P w K mg base (k + 1) y n (mFn N.length n m) := by
  refine ⟨f, fd, ps, ?_, F.binds hb, F.kp, hm⟩
  obtain ⟨oc, od, kV, doc, pm, an, cdv, ct, osl, rfl, lk, hcd⟩ := F.ex
  refine fn_ofG lk hcd Sc (fun vs H Q E h => ?_) (fun A outer s H vs Q E hr hG h => ?_)
  · obtain ⟨μ, st, as, sv, av, hl, _⟩ := h
    rw [av.length, hl, hn]
  · obtain ⟨μ, st1, as, sv, av, hl, h⟩ := h
    refine ⟨_, hbody cdv A outer s H E hr hG, μ, st1, _, EV.start (N := N) av, sv, FinS.body ?_⟩
    unfold mFn at h
    by_cases z : as.length = n ∧ noExc as = true
    · rw [if_pos z] at h
      rw [z.1]
      exact Fin.cut sv.len h
    · rw [if_neg z] at h; exact h.elim
end
/-! ### calls -/
theorem call_takes {X : Cx} {W : WX} (tk : Takes X W) {pins : List (Addr × Obj)} {σ : L2.St} {H : Hp} {s : Shared} {e : Value} {s' : Shared} (I : L2.Inv X pins σ H s) (c : L2.CX X.prog X.w X.stack H s (WE W σ) e s') : X.xe e s' :=
  tk _ _ (XE.of_call I (fun _ _ _ h => h) c)
theorem run_fnW {X : Cx} {W : WX} {k : Nat} {f : Addr} {fd : FuncData} {ps : List Str} {sp : Sp} {pins : List (Addr × Obj)} {σ : L2.St} {H : Hp} {s : Shared} {Q : VK} {us : List Value} {vs : List V} (F : FnG X.prog X.w X.K X.mg X.base k f fd ps sp) (hr : Room k X.A) (hG : X.A.guards = some []) (hb : Binds X.K fd ps []) (tk : Takes X W)
    (I : L2.Inv X pins σ H s) (r : Vals vs us) (h : sp vs H Q (WE W σ)) : wpAny (model X.prog X.w) X.A (call (.ref f) us) (EP X pins σ Q) X.xe s := by
  have hl : (us ++ []).length = ps.length := by
    rw [List.append_nil, ← r.length]
    exact F.len _ _ _ _ h
  have hb' := hb s us I.kIn hl
  rw [List.append_nil] at hb'
  refine wpAny_call (codeAny_mono (F.run X.A X.stack s H ⟨us, []⟩ us vs Q (WE W σ) hr hG I.env0 hb' r h) fun r s' hq => ?_)
  cases r with
  | error e => exact call_takes tk I hq
  | ok fl =>
    cases fl with
    | ret u => exact I.after hq
    | next => exact False.elim hq
    | brk => exact False.elim hq
    | cont => exact False.elim hq
def mCall (g : List Va → M Va) (m : En → M (List Va)) : En → M Va := fun ρ => M.bind (m ρ) g
section
variable {X : Cx} {x : ExI} {W : WX} {pos p : Pos} {e : Expr} {es : List Expr} {m : En → M (List Va)} {k n : Nat} {g : List Va → M Va} {y : Str} {N n' : Nat} {mb : En → MS}
/-- what spD wants of arguments -/
theorem spD_of {σ : L2.St} {μ : Mu} {H : Hp} {st : Sto} {as : List Va} {vs : List V} {Q : VK} (sv : SV (ks X x) μ H st) (av : AVs (ks X x) μ H as vs)
    (h : Fin (ks X x) (WE W σ) μ H (fun a _ μ' H' => ∀ v, AV (ks X x) μ' H' a v → Q v H') (mFn N n mb as st)) : spD ⟨X.K, X.mg, none⟩ n (mFn N n mb) vs H Q (WE W σ) := by
  unfold mFn at h
  by_cases z : as.length = n ∧ noExc as = true
  · refine ⟨μ, st, as, sv.exi, noExc_go z.2 av, z.1, ?_⟩
    unfold mFn
    rw [if_pos z] at h ⊢
    exact Fin.exi h
  · rw [if_neg z] at h; exact h.elim
/-- f(e, ..), f a def of the module -/
theorem ed_call (F : FnD X.prog X.w X.K X.mg X.base k y n (mFn N n mb)) (hr : Room k X.A) (hG : X.A.guards = some []) (tk : Takes X W) (ha : AD X x W (e :: es) m) (hg : Gl X y := by rfl) (hdb : (y == ("__debug__" : Str)) = false := by decide)
    (he : starEach (e :: es) X.env = (false, eval e X.env) :: starEach es X.env := by rfl) (hpl : (backTo pos (starEach es X.env)).any (·.1) = false := by rfl) : ED X x W (.Call (.Name y p) (e :: es) [] pos) (mCall (mFn N n mb) m) := by
  obtain ⟨f, fd, ps, F1, hb, hk, hm⟩ := F
  refine ⟨fun pins s σ H Q I h => ?_⟩
  obtain ⟨μ, st, ρ, ev, sv, h⟩ := h
  refine wpAny_Call_Name_kw (ld_glob I hg hm ?_ hdb)
  refine PySem.W.callWith_K (h₀ := X.base) I.ok.mod.kin hk (thn (L2.PA.run ha pos pins s σ H (fun vs H1 => spD ⟨X.K, X.mg, none⟩ n (mFn N n mb) vs H1 Q (WE W σ)) I ⟨μ, st, ρ, ev, sv, Fin.map (fun as st1 μ1 H1 e1 s1 h1 vs hv => spD_of s1 hv h1) (Fin.bind h)⟩) fun us s1 ⟨vs, H1, I1, r, q⟩ => ⟨I1.kIn, ?_⟩) he hpl
  exact run_fnW F1 hr hG hb tk I1 r q
/-- f() -/
theorem ed_call0 (F : FnD X.prog X.w X.K X.mg X.base k y n (mFn N n mb)) (hr : Room k X.A) (hG : X.A.guards = some []) (tk : Takes X W) (hg : Gl X y := by rfl) (hdb : (y == ("__debug__" : Str)) = false := by decide) : ED X x W (.Call (.Name y p) [] [] pos) (mCall (mFn N n mb) mNil) := by
  obtain ⟨f, fd, ps, F1, hb, hk, hm⟩ := F
  refine ⟨fun pins s σ H Q I h => ?_⟩
  obtain ⟨μ, st, ρ, ev, sv, h⟩ := h
  refine wpAny_Call_Name_kw (ld_glob I hg hm ?_ hdb)
  refine PySem.W.callWith_K0 I.kIn hk (run_fnW F1 hr hG hb tk I .nil (spD_of (x := x) (as := []) sv AVs.nil ?_))
  exact h
end
end DL
end

section
set_option Elab.async false
set_option linter.all false
set_option maxRecDepth 100000
set_option maxHeartbeats 4000000
/-! Loops and comprehensions over plain data. -/
namespace DL
open PySem PySem.Spec PyProof.Rows L2

/-- the iterator walks ds, whatever else goes on -/
def WalkD (S : Ks) (μ : Mu) (H : Hp) (ds : List D) (J : It) : Prop :=
  ∃ (G : Hp → Prop) (Y : Nat → Hp → V → Hp → Prop), Walk J ds.length G Y ∧ (∀ μ2 H2, Ev μ H μ2 H2 → G H2) ∧
    ∀ i μ2 H2 v H3, Ev μ H μ2 H2 → i < ds.length → Y i H2 v H3 → ∃ d, ds[i]? = some d ∧ DV S μ2 H3 d v ∧ Ev μ2 H2 μ2 H3 ∧ ∀ st, SV S μ2 H2 st → SV S μ2 H3 st
def tDI (S : Ks) (W : WX) (m : En → M (List D)) : TI := fun σ H R => ∃ μ st ρ, EV S μ H ρ σ ∧ SV S μ H st ∧ Fin S (WE W σ) μ H (fun ds _ μ' H' => ∀ J, WalkD S μ' H' ds J → R J H') (m ρ st)
def ID (X : Cx) (x : ExI) (W : WX) (tg iter : Expr) (m : En → M (List D)) : Prop := PI X tg iter (tDI (ks X x) W m)
theorem PI.imp {X : Cx} {tg e : Expr} {t t' : TI} (h : PI X tg e t) (f : ∀ σ H Q, t' σ H Q → t σ H Q) : PI X tg e t' := ⟨fun pins s σ H Q I q => h.run pins s σ H Q I (f σ H Q q)⟩
theorem ID.of {X : Cx} {x : ExI} {W : WX} {tg e : Expr} {m : En → M (List D)} {t : TI} (h : PI X tg e t)
    (f : ∀ (σ : L2.St) (H : Hp) (Q : It → Hp → Prop) (μ : Mu) (st : Sto) (ρ : En), EV (ks X x) μ H ρ σ → SV (ks X x) μ H st → Fin (ks X x) (WE W σ) μ H (fun ds _ μ' H' => ∀ J, WalkD (ks X x) μ' H' ds J → Q J H') (m ρ st) → t σ H Q) : ID X x W tg e m :=
  PI.imp h fun σ H Q ⟨μ, st, ρ, ev, sv, h⟩ => f σ H Q μ st ρ ev sv h

/-- lists and tuples -/
def iSeq (K : PySem.W.Frag) (tl : TE) : TI := fun σ H R => tl σ H fun x H1 => ∃ a xs, x = .ref a ∧ ((SqL K H1 a xs ∧ R (Itl K a) H1) ∨ (SqT K H1 a xs ∧ R (Itt K a) H1))
theorem pi_seq {X : Cx} {tg l : Expr} {tl : TE} (hl : PE X l tl) : PI X tg l (iSeq X.K tl) := by
  refine ⟨fun pins s σ H R I h => ?_⟩
  refine thn (hl.run pins s σ H _ I h) fun v s1 ⟨x, H1, I1, r1, q1⟩ => ?_
  obtain ⟨a, xs, e, q⟩ := q1
  subst e
  cases r1
  rcases q with ⟨hq, q⟩ | ⟨hq, q⟩
  · obtain ⟨its, rv, p, hz⟩ := I1.list hq
    refine wpAny_pyIter_list p.isList ?_
    refine ⟨s1.heap.objs.size, [s1.heap.objs.size], _, _, H1, rfl, I1.kept (t' := s1.toks) fun b o e => Heap.get?_push_of_some _ e, turn_list a _, ⟨_, Heap.get?_push_size _ rfl, rfl, rfl⟩, fun b hb => ?_, q⟩
    have e : b = s1.heap.objs.size := by simpa using hb
    subst e
    exact I1.fpOk (Nat.le_refl _) (I1.hok.fresh (Nat.le_refl _))
  · obtain ⟨its, rv, p, hz⟩ := I1.tuple hq
    refine wpAny_pyIter_tuple (show s1.heap.IsTuple a its.toArray from p) ?_
    refine ⟨s1.heap.objs.size, [s1.heap.objs.size], _, _, H1, rfl, I1.kept (t' := s1.toks) fun b o e => Heap.get?_push_of_some _ e, turn_tuple a _, ⟨_, Heap.get?_push_size _ rfl, rfl, rfl⟩, fun b hb => ?_, q⟩
    have e : b = s1.heap.objs.size := by simpa using hb
    subst e
    exact I1.fpOk (Nat.le_refl _) (I1.hok.fresh (Nat.le_refl _))
/-- the items of a list or tuple -/
def seqOf : Va → M (List D)
  | .val (.lst ds) => M.pure ds
  | .val (.tup ds) => M.pure ds
  | _ => stuck
def mSeqI (m : En → M Va) : En → M (List D) := fun ρ => M.bind (m ρ) seqOf
theorem rd_sql {K : PySem.W.Frag} {H : Hp} {a : Addr} {xs : List V} (h : Rd H a (.lst xs)) : SqL K H a xs := .inl h
theorem walkD_list {S : Ks} {μ : Mu} {H : Hp} {ds : List D} {a : Addr} {xs : List V} (n : some a ∉ μ) (h : Rd H a (.lst xs)) (dv : DVs S μ H ds xs) : WalkD S μ H ds (Itl S.K a) := by
  have hl := dv.length
  refine ⟨fun H => SqL S.K H a xs, YAt xs, by rw [← hl]; exact walk_list, fun μ2 H2 e => rd_sql (Rd.go e n h), fun i μ2 H2 v H3 e hi y => ?_⟩
  obtain ⟨rfl, y⟩ := y
  obtain ⟨d, h1, h2⟩ := (DVs.go e ds dv).get' y
  exact ⟨d, h1, h2, Ev.refl _ _, fun st s => s⟩
theorem walkD_tup {S : Ks} {μ : Mu} {H : Hp} {ds : List D} {a : Addr} {xs : List V} (h : SqT S.K H a xs) (dv : DVs S μ H ds xs) : WalkD S μ H ds (Itt S.K a) := by
  have hl := dv.length
  refine ⟨fun H => SqT S.K H a xs, YAt xs, by rw [← hl]; exact walk_tup, fun μ2 H2 e => SqT.go e h, fun i μ2 H2 v H3 e hi y => ?_⟩
  obtain ⟨rfl, y⟩ := y
  obtain ⟨d, h1, h2⟩ := (DVs.go e ds dv).get' y
  exact ⟨d, h1, h2, Ev.refl _ _, fun st s => s⟩
section
variable {X : Cx} {x : ExI} {W : WX} {pos p : Pos} {e e2 tg iter elt : Expr} {es : List Expr} {me m1 m2 : En → M Va} {mi : En → M (List D)} {ma : En → M (List Va)}
theorem id_seq (h : ED X x W e me) : ID X x W tg e (mSeqI me) := by
  refine ID.of (pi_seq h) fun σ H Q μ st ρ ev sv hf => ⟨μ, st, ρ, ev, sv, Fin.map (fun a st1 μ1 H1 e1 s1 h1 v hv => ?_) (Fin.bind hf)⟩
  cases a with
  | obj k => exact h1.elim
  | exc c fs => exact h1.elim
  | scr ns => exact h1.elim
  | val d =>
    cases d with
    | lst ds =>
      simp only [AV, DV] at hv
      obtain ⟨a, xs, rfl, n, q, r⟩ := hv
      exact ⟨a, xs, rfl, .inl ⟨rd_sql q, Fin.pure s1 h1 _ (walkD_list (S := ks X x) n q r)⟩⟩
    | tup ds =>
      simp only [AV, DV] at hv
      obtain ⟨a, xs, rfl, q, r⟩ := hv
      exact ⟨a, xs, rfl, .inr ⟨q, Fin.pure s1 h1 _ (walkD_tup (S := ks X x) q r)⟩⟩
    | non | bl | int | str | glo => exact h1.elim
/-! ### ranges -/
def intsR (lo : Int) (n : Nat) : List D := (List.range n).map fun i => .int (lo + (i : Nat))
def intsC (lo c : Int) (n : Nat) : List D := (List.range n).map fun i => .int (lo + (i : Nat) * c)
def B62 (i : Int) : Prop := -(2 ^ 62) ≤ i ∧ i < 2 ^ 62
instance (i : Int) : Decidable (B62 i) := by unfold B62; exact inferInstance
def rangeOf1 : List Va → M (List D)
  | [.val (.int j)] => if B62 j then M.pure (intsR 0 j.toNat) else stuck
  | _ => stuck
def rangeOf2 : List Va → M (List D)
  | [.val (.int i), .val (.int j)] => if B62 i ∧ B62 j then M.pure (intsR i (j - i).toNat) else stuck
  | _ => stuck
def rangeOf3 : List Va → M (List D)
  | [.val (.int i), .val (.int j), .val (.int c)] => if B62 i ∧ B62 j ∧ c = -1 then M.pure (intsC i (-1) (i - j).toNat) else stuck
  | _ => stuck
def mArgI (f : List Va → M (List D)) (m : En → M (List Va)) : En → M (List D) := fun ρ => M.bind (m ρ) f
theorem walkD_range {S : Ks} {μ : Mu} {H : Hp} {lo : Int} {n : Nat} : WalkD S μ H (intsR lo n) (Itr lo n) := by
  have hl : (intsR lo n).length = n := by simp [intsR]
  refine ⟨fun _ => True, YFn fun i => .int (lo + i), by rw [hl]; exact walk_range, fun _ _ _ => trivial, fun i μ2 H2 v H3 e hi y => ?_⟩
  obtain ⟨rfl, rfl⟩ := y
  rw [hl] at hi
  exact ⟨.int (lo + i), by simp [intsR, List.getElem?_range, hi], by simp only [DV], Ev.refl _ _, fun st s => s⟩
theorem walkD_rangeC {S : Ks} {μ : Mu} {H : Hp} {lo c : Int} {n : Nat} : WalkD S μ H (intsC lo c n) (Itc lo c n) := by
  have hl : (intsC lo c n).length = n := by simp [intsC]
  refine ⟨fun _ => True, YFn fun i => .int (lo + (i : Nat) * c), by rw [hl]; exact walk_rangeC, fun _ _ _ => trivial, fun i μ2 H2 v H3 e hi y => ?_⟩
  obtain ⟨rfl, rfl⟩ := y
  rw [hl] at hi
  exact ⟨.int (lo + (i : Nat) * c), by simp [intsC, List.getElem?_range, hi], by simp only [DV], Ev.refl _ _, fun st s => s⟩
theorem avs_cons {S : Ks} {μ : Mu} {H : Hp} {a : Va} {as : List Va} {vs : List V} (h : AVs S μ H (a :: as) vs) : ∃ v r, vs = v :: r ∧ AV S μ H a v ∧ AVs S μ H as r := h
theorem avs_nil {S : Ks} {μ : Mu} {H : Hp} {vs : List V} (h : AVs S μ H [] vs) : vs = [] := h
theorem av_int {S : Ks} {μ : Mu} {H : Hp} {i : Int} {v : V} (h : AV S μ H (.val (.int i)) v) : v = .int i := by simpa only [AV, DV] using h
theorem id_range1 (hm : X.mg "range" = none) (ha : AD X x W [e] ma) (hg : Gl X "range" := by rfl) (hs : starEach [e] X.env = [(false, eval e X.env)] := by rfl) : ID X x W tg (.Call (.Name "range" p) [e] [] pos) (mArgI rangeOf1 ma) := by
  refine ID.of (pi_range1 hg hm ha hs) fun σ H Q μ st ρ ev sv hf => ⟨μ, st, ρ, ev, sv, Fin.map (fun as st1 μ1 H1 e1 s1 h1 v hv => ?_) (Fin.bind hf)⟩
  unfold rangeOf1 at h1
  split at h1
  · rename_i j
    obtain ⟨v1, r, rfl, q1, q2⟩ := avs_cons hv
    have := avs_nil q2
    have := av_int q1
    subst_vars
    split at h1
    · rename_i z
      exact ⟨j, rfl, z.1, z.2, Fin.pure s1 h1 _ walkD_range⟩
    · exact h1.elim
  · exact h1.elim
theorem id_range2 (hm : X.mg "range" = none) (ha : AD X x W [e, e2] ma) (hg : Gl X "range" := by rfl) (hs : starEach [e, e2] X.env = [(false, eval e X.env), (false, eval e2 X.env)] := by rfl) (hs2 : starEach [e2] X.env = [(false, eval e2 X.env)] := by rfl) : ID X x W tg (.Call (.Name "range" p) [e, e2] [] pos) (mArgI rangeOf2 ma) := by
  refine ID.of (pi_range2 hg hm ha hs hs2) fun σ H Q μ st ρ ev sv hf => ⟨μ, st, ρ, ev, sv, Fin.map (fun as st1 μ1 H1 e1 s1 h1 v hv => ?_) (Fin.bind hf)⟩
  unfold rangeOf2 at h1
  split at h1
  · rename_i i j
    obtain ⟨v1, r, rfl, q1, q2⟩ := avs_cons hv
    obtain ⟨v2, r, rfl, q3, q4⟩ := avs_cons q2
    have := avs_nil q4
    have := av_int q1
    have := av_int q3
    subst_vars
    split at h1
    · rename_i z
      exact ⟨i, j, rfl, ⟨z.1.1, z.1.2, z.2.1, z.2.2⟩, Fin.pure s1 h1 _ walkD_range⟩
    · exact h1.elim
  · exact h1.elim
theorem id_range3 {e3 : Expr} (hm : X.mg "range" = none) (ha : AD X x W [e, e2, e3] ma) (hg : Gl X "range" := by rfl) (hs : starEach [e, e2, e3] X.env = (false, eval e X.env) :: starEach [e2, e3] X.env := by rfl) (hpl : (backTo pos (starEach [e2, e3] X.env)).any (·.1) = false := by rfl) : ID X x W tg (.Call (.Name "range" p) [e, e2, e3] [] pos) (mArgI rangeOf3 ma) := by
  refine ID.of (pi_range3 hg hm ha hs hpl) fun σ H Q μ st ρ ev sv hf => ⟨μ, st, ρ, ev, sv, Fin.map (fun as st1 μ1 H1 e1 s1 h1 v hv => ?_) (Fin.bind hf)⟩
  unfold rangeOf3 at h1
  split at h1
  · rename_i i j c
    obtain ⟨v1, r, rfl, q1, q2⟩ := avs_cons hv
    obtain ⟨v2, r, rfl, q3, q4⟩ := avs_cons q2
    obtain ⟨v3, r, rfl, q5, q6⟩ := avs_cons q4
    have := avs_nil q6
    have := av_int q1
    have := av_int q3
    have := av_int q5
    subst_vars
    split at h1
    · rename_i z
      obtain ⟨z1, z2, rfl⟩ := z
      exact ⟨i, j, -1, _, rfl, RgC.neg z1.1 z1.2 z2.1 z2.2, Fin.pure s1 h1 _ walkD_rangeC⟩
    · exact h1.elim
  · exact h1.elim
/-! ### zip of two lists or two tuples -/
def zipD (xs ys : List D) : List D := (xs.zip ys).map fun p => .tup [p.1, p.2]
def zipOf : List Va → M (List D)
  | [.val (.lst xs), .val (.lst ys)] => M.pure (zipD xs ys)
  | [.val (.tup xs), .val (.tup ys)] => M.pure (zipD xs ys)
  | _ => stuck
theorem zip_get {xs ys : List D} {i : Nat} {a b : D} (h1 : xs[i]? = some a) (h2 : ys[i]? = some b) : (zipD xs ys)[i]? = some (.tup [a, b]) := by
  simp [zipD, List.getElem?_map, List.zip, List.getElem?_zipWith, h1, h2]
theorem walkD_pair {S : Ks} {μ : Mu} {H : Hp} {ds es : List D} {xs ys : List V} {J : It} {G : Hp → Prop} (w : Walk J (zipD ds es).length G (YPair (fun i => xs[i]?) (fun i => ys[i]?))) (hG : ∀ μ2 H2, Ev μ H μ2 H2 → G H2) (d1 : DVs S μ H ds xs) (d2 : DVs S μ H es ys) : WalkD S μ H (zipD ds es) J := by
  refine ⟨G, _, w, hG, fun i μ2 H2 v H3 e hi y => ?_⟩
  obtain ⟨T, a, b, rfl, hT, rfl, h1, h2⟩ := y
  obtain ⟨da, g1, q1⟩ := (DVs.go e ds d1).get' h1
  obtain ⟨db, g2, q2⟩ := (DVs.go e es d2).get' h2
  refine ⟨_, zip_get g1 g2, ?_, Ev.made hT, fun st s => s.made hT⟩
  simp only [DV]
  exact ⟨T, _, rfl, SqT.of upd_same, DVs.cons (DV.go (Ev.made hT) da q1) (DVs.cons (DV.go (Ev.made hT) db q2) DVs.nil)⟩
theorem walk_zipT {K : PySem.W.Frag} {a b : Addr} {xs ys : List V} {n : Nat} (hn : n = min xs.length ys.length) : Walk (RZ.ItzT K a b) n (fun H => SqT K H a xs ∧ SqT K H b ys) (YPair (fun i => xs[i]?) (fun i => ys[i]?)) := by
  subst hn
  refine ⟨fun i _ hi q => ?_, fun _ q => ⟨xs, ys, q.1, q.2, by omega⟩, fun i H v H' _ q y => ?_⟩
  · have h1 : i < xs.length := by omega
    have h2 : i < ys.length := by omega
    exact ⟨xs, ys, xs[i], ys[i], q.1, q.2, by simp [h1], by simp [h2]⟩
  · obtain ⟨T, x, z, h1, h2, h3, h4, h5⟩ := y
    exact ⟨T, x, z, h1, h2, h3, h4 xs q.1, h5 ys q.2⟩
theorem id_zip {elts : List Expr} {kk : Nat} {tpos : Pos} (hm : X.mg "zip" = none) (ha : AD X x W [e, e2] ma) (hg : Gl X "zip" := by rfl) (hs : starEach [e, e2] X.env = (false, eval e X.env) :: starEach [e2] X.env := by rfl) (hpl : (backTo pos (starEach [e2] X.env)).any (·.1) = false := by rfl) :
    ID X x W (.Tuple elts kk tpos) (.Call (.Name "zip" p) [e, e2] [] pos) (mArgI zipOf ma) := by
  refine ID.of (RZ.pi_zipA hg hm ha hs hpl) fun σ H Q μ st ρ ev sv hf => ⟨μ, st, ρ, ev, sv, Fin.map (fun as st1 μ1 H1 e1 s1 h1 v hv => ?_) (Fin.bind hf)⟩
  unfold zipOf at h1
  split at h1
  · rename_i ds es
    obtain ⟨v1, r, rfl, q1, q2⟩ := avs_cons hv
    obtain ⟨v2, r, rfl, q3, q4⟩ := avs_cons q2
    have := avs_nil q4
    subst this
    simp only [AV, DV] at q1 q3
    obtain ⟨a, xs, rfl, n1, c1, d1⟩ := q1
    obtain ⟨b, ys, rfl, n2, c2, d2⟩ := q3
    refine ⟨a, b, xs, ys, rfl, .inl ⟨rd_sql c1, rd_sql c2, Fin.pure s1 h1 _ ?_⟩⟩
    exact walkD_pair (S := ks X x) (walk_zip (by simp [zipD, d1.length, d2.length])) (fun μ2 H2 e => ⟨rd_sql (Rd.go e n1 c1), rd_sql (Rd.go e n2 c2)⟩) d1 d2
  · rename_i ds es
    obtain ⟨v1, r, rfl, q1, q2⟩ := avs_cons hv
    obtain ⟨v2, r, rfl, q3, q4⟩ := avs_cons q2
    have := avs_nil q4
    subst this
    simp only [AV, DV] at q1 q3
    obtain ⟨a, xs, rfl, c1, d1⟩ := q1
    obtain ⟨b, ys, rfl, c2, d2⟩ := q3
    refine ⟨a, b, xs, ys, rfl, .inr ⟨c1, c2, Fin.pure s1 h1 _ ?_⟩⟩
    exact walkD_pair (S := ks X x) (walk_zipT (by simp [zipD, d1.length, d2.length])) (fun μ2 H2 e => ⟨SqT.go e c1, SqT.go e c2⟩) d1 d2
  · exact h1.elim
/-! ### for -/
def forGo (g : Va → En → Option En) (body : En → MS) : List D → En → MS
  | [], ρ, st => some (.nx ρ, st)
  | d :: r, ρ, st => match g (.val d) ρ with
    | none => none
    | some ρ1 => match body ρ1 st with
      | some (.nx ρ2, st2) => forGo g body r ρ2 st2
      | some (.ct ρ2, st2) => forGo g body r ρ2 st2
      | some (.bk ρ2, st2) => some (.nx ρ2, st2)
      | r => r
def mFor (it : En → M (List D)) (g : Va → En → Option En) (body : En → MS) : En → MS := fun ρ st => onE (it ρ st) ρ fun ds st' => forGo g body ds ρ st'
theorem sd_for {ls : List Nat} {g : Va → En → Option En} {body : List Stmt} {mb : En → MS} (hp : PassesOwn (model X.prog X.w) X.A X.env X.xe) (hi : ID X x W tg iter mi) (hg : GD X x tg ls g) (hb : SDs X x W body mb) (hc : X.calm = true := by rfl)
    (hs : ∀ x, foldedSetIterable iter X.env x = pure x := by intro _; rfl) : SD X x W (.For tg iter body [] pos) (mFor mi g mb) := by
  refine SD.of (ps_for hp hc hi hg hb hs) fun Ds σ H μ st ρ ev sv h => ⟨μ, st, ρ, ev, sv, Fin.map (fun ds st1 μ1 H1 e1 s1 h1 J hJ => ?_) (FinS.onE ev h)⟩
  obtain ⟨G, Y, w, hG, hY⟩ := hJ
  refine for_it w (fun i σ H => ∃ μ' st' ρ', EV (ks X x) μ' H ρ' σ ∧ SV (ks X x) μ' H st' ∧ Ev μ1 H1 μ' H ∧ FinS (ks X x) W Ds μ' H (forGo g mb (ds.drop i) ρ' st')) ⟨μ1, st1, ρ, ev.go e1, s1, Ev.refl _ _, h1⟩
    (fun i σ H _ ⟨μ', st', ρ', _, _, e, _⟩ => hG μ' H e) (fun i v σ H H' hi ⟨μ', st', ρ', ev', sv', e, h2⟩ y => ?_) (fun σ H ⟨μ', st', ρ', ev', sv', e, h2⟩ => ?_)
  · obtain ⟨d, hd, dv, ey, sy⟩ := hY i μ' H v H' e hi y
    have hdrop : ds.drop i = d :: ds.drop (i + 1) := by
      rw [List.drop_eq_getElem_cons hi]
      rw [List.getElem?_eq_getElem hi] at hd
      rw [Option.some.inj hd]
    rw [hdrop] at h2
    unfold forGo at h2
    refine ⟨μ', st', ρ', .val d, ev'.go ey, sy st' sv', dv, ?_⟩
    cases e2 : g (.val d) ρ' with
    | none => simp only [e2] at h2; exact h2
    | some ρ1 =>
      simp only [e2] at h2
      refine fun σ' ev1 _ => ⟨μ', st', ρ1, ev1, sy st' sv', ?_⟩
      cases e3 : mb ρ1 st' with
      | none => simp only [e3] at h2; exact h2
      | some p =>
        obtain ⟨f, st2⟩ := p
        simp only [e3] at h2
        cases f with
        | nx ρ2 => exact fun μ2 H2 σ2 ev2 sv2 q => ⟨μ2, st2, ρ2, q, sv2, (e.trans ey).trans ev2, FinS.go (ey.trans ev2) h2⟩
        | ct ρ2 => exact fun μ2 H2 σ2 ev2 sv2 q => ⟨μ2, st2, ρ2, q, sv2, (e.trans ey).trans ev2, FinS.go (ey.trans ev2) h2⟩
        | bk ρ2 => exact fun μ2 H2 σ2 ev2 sv2 q => h2 μ2 H2 σ2 (ey.trans ev2) sv2 q
        | rt a => exact fun μ2 H2 v ev2 sv2 q => h2 μ2 H2 v (ey.trans ev2) sv2 q
        | ex ρ2 c fs => exact fun cv dx μ2 H2 σ2 ev2 sv2 q => h2 cv dx μ2 H2 σ2 (ey.trans ev2) sv2 q
  · rw [List.drop_length] at h2
    exact FinS.nx sv' ev' h2
/-! ### while -/
def whileGo (c : En → M Bool) (body : En → MS) : Nat → En → MS
  | 0, _, _ => none
  | n + 1, ρ, st => onE (c ρ st) ρ fun b st1 => if b = true then (match body ρ st1 with
      | some (.nx ρ2, st2) => whileGo c body n ρ2 st2
      | some (.ct ρ2, st2) => whileGo c body n ρ2 st2
      | some (.bk ρ2, st2) => some (.nx ρ2, st2)
      | r => r) else some (.nx ρ, st1)
theorem sd_while {c : Expr} {body : List Stmt} {mc : En → M Bool} {mb : En → MS} (fuel : Nat) (hp : PassesOwn (model X.prog X.w) X.A X.env X.xe) (hc : TD X x W c mc) (hb : SDs X x W body mb) : SD X x W (.While c body [] pos) (whileGo mc mb fuel) := by
  refine SD.of (ps_while hp hc hb) fun Ds σ H μ st ρ ev sv h => ?_
  refine ⟨fun n σ H => ∃ μ' st' ρ', EV (ks X x) μ' H ρ' σ ∧ SV (ks X x) μ' H st' ∧ FinS (ks X x) W Ds μ' H (whileGo mc mb n ρ' st'), ⟨fuel, μ, st, ρ, ev, sv, h⟩, ?_⟩
  rintro n σ H ⟨μ', st', ρ', ev', sv', h2⟩
  cases n with
  | zero => exact h2.elim
  | succ n =>
    unfold whileGo at h2
    refine ⟨μ', st', ρ', ev', sv', Fin.map (fun b st1 μ1 H1 e1 s1 h1 => ?_) (FinS.onE ev' h2)⟩
    cases b with
    | false => exact iteF (FinS.nx s1 (ev'.go e1) h1)
    | true =>
      refine iteT ⟨fun σ2 H2 => ∃ μ2 st2 ρ2, EV (ks X x) μ2 H2 ρ2 σ2 ∧ SV (ks X x) μ2 H2 st2 ∧ FinS (ks X x) W Ds μ2 H2 (whileGo mc mb n ρ2 st2), fun σ2 H2 q => ⟨n, Nat.lt_succ_self n, q⟩, μ1, st1, ρ', ev'.go e1, s1, ?_⟩
      simp only [if_true] at h1
      cases e3 : mb ρ' st1 with
      | none => simp only [e3] at h1; exact h1
      | some p =>
        obtain ⟨f, st2⟩ := p
        simp only [e3] at h1
        cases f with
        | nx ρ2 => exact fun μ2 H2 σ2 ev2 sv2 q => ⟨μ2, st2, ρ2, q, sv2, FinS.go ev2 h1⟩
        | ct ρ2 => exact fun μ2 H2 σ2 ev2 sv2 q => ⟨μ2, st2, ρ2, q, sv2, FinS.go ev2 h1⟩
        | bk ρ2 => exact h1
        | rt a => exact h1
        | ex ρ2 c fs => exact h1
end
end DL
end

section
set_option Elab.async false
set_option linter.all false
set_option maxRecDepth 100000
set_option maxHeartbeats 4000000
/-! List comprehensions over plain data. -/
namespace DL
open PySem PySem.Spec PyProof.Rows L2

abbrev W0 : WX := fun _ _ _ _ => False
def mYes : En → M Bool := fun _ => M.pure true
def PTsD (X : Cx) (x : ExI) (ifs : List Expr) (m : En → M Bool) : Prop := PTs X ifs (tDT (ks X x) W0 m)
theorem PTs.imp {X : Cx} {e : List Expr} {t t' : TT} (h : PTs X e t) (f : ∀ σ H Q, t' σ H Q → t σ H Q) : PTs X e t' := ⟨fun pins s σ H Q I q => h.run pins s σ H Q I (f σ H Q q)⟩
theorem ptsD_nil {X : Cx} {x : ExI} : PTsD X x [] mYes := PTs.imp pts_nil fun σ H Q ⟨μ, st, ρ, ev, sv, h⟩ => Fin.pure sv h
theorem ptsD_one {X : Cx} {x : ExI} {c : Expr} {m : En → M Bool} (h : TD X x W0 c m) : PTsD X x [c] m := pts_one h
/-- the turns of a comprehension; its new list stands at the store's place n -/
def lcGo (n : Nat) (g : Va → En → Option En) (mt : En → M Bool) (me : En → M Va) (ρ : En) : List D → M Va
  | [], st => match st[n]? with
    | some (.lst acc) => some (.ok (.val (.lst acc)), st.take n)
    | _ => none
  | d :: r, st => match g (.val d) ρ with
    | none => none
    | some ρ2 => M.bind (mt ρ2) (fun b => if b = true then M.bind (me ρ2) (fun y st3 => match y with
        | .val y => (match st3[n]? with
          | some (.lst acc) => if acc.length < sizeLine then lcGo n g mt me ρ r (st3.set n (.lst (acc ++ [y]))) else none
          | _ => none)
        | _ => none) else lcGo n g mt me ρ r) st
def mLc (it : En → M (List D)) (g : Va → En → Option En) (mt : En → M Bool) (me : En → M Va) (vs : List Nat) : En → M Va := fun ρ => M.bind (it ρ) fun ds => calm fun st => lcGo st.length g mt me (wipeE ρ vs) ds (st ++ [.lst []])
theorem Fin.bindB {S : Ks} {E : XK} {μ μ1 : Mu} {H H1 : Hp} {α β : Type} (x : Ev μ H μ1 H1) {m : M α} {f : α → M β} {st : Sto} {K : β → Sto → Mu → Hp → Prop} (h : Fin S E μ H K (M.bind m f st)) :
    Fin S E μ1 H1 (fun a st1 _ _ => Fin S E μ H K (f a st1)) (m st) := by
  unfold M.bind at h
  cases e : m st with
  | none => rw [e] at h; exact h
  | some p =>
    obtain ⟨r, st'⟩ := p
    rw [e] at h
    cases r with
    | ok a => exact fun μ' H' ev sv => h
    | ex c fs => exact Fin.go x h
theorem Ev.old {μ1 μ : Mu} {H1 H : Hp} {n : Nat} {a : Addr} {S : Ks} {st : Sto} {o : Ob} (e : Ev μ1 H1 μ H) (h : μ1[n]? = some (some a)) (sv : SV S μ H st) (ho : st[n]? = some o) (hd : o ≠ .dead) : μ[n]? = some (some a) ∧ OV S μ H a o := by
  rcases sv.here n o ho with ⟨b, e1, q⟩ | ⟨_, z⟩
  · have hn : n < μ1.length := (List.getElem?_eq_some_iff.mp h).1
    rcases e.pre n hn with p | p
    · rw [p, h] at e1
      cases e1
      exact ⟨p.trans h, q⟩
    · rw [p] at e1; cases e1
  · exact absurd z hd
section
variable {X : Cx} {x : ExI} {W : WX} {pos p : Pos} {tg iter elt : Expr} {ifs : List Expr} {mi : En → M (List D)}
theorem lc_fin {ls : List Nat} {g : Va → En → Option En} {mt : En → M Bool} {me : En → M Va} {own : List (Str × Nat)} (hls : ∀ i ∈ ls, i ∈ own.map (·.2)) {σ : L2.St} {H : Hp} {Q : VK} {μ : Mu} {st : Sto} {ρ : En} (ev : EV (ks X x) μ H ρ σ) (sv : SV (ks X x) μ H st)
    (hf : Fin (ks X x) (WE W σ) μ H (fun d _ μ' H' => ∀ v, AV (ks X x) μ' H' d v → Q v H') (mLc mi g mt me (own.map (·.2)) ρ st)) :
    tLc (tDI (ks X x) W mi) (tDG (ks X x) ls g) (tDT (ks X x) W0 mt) (tD (ks X x) W0 me) (own.map (·.2)) σ H Q := by
  refine ⟨μ, st, ρ, ev, sv, Fin.map (fun ds st1 μ1 H1 e1 s1 h1 J hJ D hD => ?_) (Fin.bind hf)⟩
  obtain ⟨G, Y, w, hG, hY⟩ := hJ
  have ev1 := ev.go e1
  have hn : μ1.length = st1.length := s1.len
  have nD : some D ∉ μ1 := s1.out hD
  have E1 : Ev μ1 H1 (μ1 ++ [some D]) (upd H1 D (.lst [])) := Ev.newOb hD
  have S1 : SV (ks X x) (μ1 ++ [some D]) (upd H1 D (.lst [])) (st1 ++ [.lst []]) := s1.newOb hD ⟨[], upd_same, DVs.nil⟩
  have hat : (μ1 ++ [some D])[st1.length]? = some (some D) := by rw [← hn]; simp
  have h2 := Fin.calm h1
  refine lc_it w (fun i H => ∃ μ' st', SV (ks X x) μ' H st' ∧ Ev (μ1 ++ [some D]) (upd H1 D (.lst [])) μ' H ∧ Fin (ks X x) (fun _ _ _ => False) μ1 H1 (fun a _ μ' H' => (∀ v, AV (ks X x) μ' H' a v → Q v H')) (lcGo st1.length g mt me (wipeE ρ (own.map (·.2))) (ds.drop i) st'))
    ⟨_, _, S1, Ev.refl _ _, ?_⟩ (fun i H _ ⟨μ', st', _, e, _⟩ => hG μ' H (E1.trans e)) (fun i v H H' hi ⟨μ', st', sv', e, h2⟩ y => ?_) (fun H ⟨μ', st', sv', e, h2⟩ => ?_)
  · exact h2
  · obtain ⟨d, hd, dv, ey, sy⟩ := hY i μ' H v H' (E1.trans e) hi y
    have hdrop : ds.drop i = d :: ds.drop (i + 1) := by
      rw [List.drop_eq_getElem_cons hi]
      rw [List.getElem?_eq_getElem hi] at hd
      rw [Option.some.inj hd]
    rw [hdrop] at h2
    unfold lcGo at h2
    have evw := ((ev1.go (E1.trans (e.trans ey))).wipe (own.map (·.2)))
    refine ⟨μ', st', _, .val d, evw, sy st' sv', dv, ?_⟩
    cases e2 : g (.val d) (wipeE ρ (own.map (·.2))) with
    | none => simp only [e2] at h2; exact h2
    | some ρ2 =>
      simp only [e2] at h2
      refine fun σ2 ev2 w2 => ⟨?_, μ', st', ρ2, ev2, sy st' sv', Fin.map (fun b st3 μ3 H3 e3 s3 h3 => ?_) (Fin.bindB ((E1.trans e).trans ey) h2)⟩
      · rw [w2 _ hls]
        apply List.ext_getElem?
        intro j
        rw [wipe_get]
        split
        · rename_i z
          rw [L2.wipe_length] at z
          rw [wipe_get, if_pos z]
        · rfl
      cases b with
      | false =>
        refine iteF ⟨μ3, st3, s3, (e.trans ey).trans e3, h3⟩
      | true =>
        refine iteT ⟨μ3, st3, ρ2, ev2.go e3, s3, Fin.map (fun yv st4 μ4 H4 e4 s4 h4 v4 hv4 => ?_) (Fin.bindB ((E1.trans (e.trans ey)).trans e3) h3)⟩
        cases yv with
        | obj k => exact h4.elim
        | exc c fs => exact h4.elim
        | scr ns => exact h4.elim
        | val yd =>
          simp only at h4
          cases e5 : st4[st1.length]? with
          | none => simp only [e5] at h4; exact h4.elim
          | some o =>
            simp only [e5] at h4
            cases o with
            | dK _ => exact h4.elim
            | dT _ => exact h4.elim
            | dead => exact h4.elim
            | lst acc =>
              simp only at h4
              by_cases z : acc.length < sizeLine
              · rw [if_pos z] at h4
                have E4 := (e.trans ey).trans (e3.trans e4)
                obtain ⟨m4, o4⟩ := Ev.old E4 hat s4 e5 (fun z => nomatch z)
                obtain ⟨xs, hx, dx⟩ := o4
                refine ⟨xs, hx, by rw [dx.length]; exact z, ?_⟩
                have Ew : Ev μ4 H4 μ4 (upd H4 D (.lst (xs ++ [v4]))) := Ev.wr s4 m4
                refine ⟨μ4, _, s4.wr (ob := .lst (acc ++ [yd])) m4 ⟨_, upd_same, DVs.append (DVs.go Ew acc dx) (DVs.cons (DV.go Ew yd hv4) DVs.nil)⟩, E4.trans Ew, h4⟩
              · rw [if_neg z] at h4; exact h4.elim
  · rw [List.drop_length] at h2
    unfold lcGo at h2
    cases ha : st'[st1.length]? with
    | none => simp only [ha] at h2; exact h2.elim
    | some o =>
      simp only [ha] at h2
      cases o with
      | dK _ => exact h2.elim
      | dT _ => exact h2.elim
      | dead => exact h2.elim
      | lst acc =>
        obtain ⟨m4, xs, hx, dx⟩ := Ev.old e hat sv' ha (fun z => nomatch z)
        have hcut : Ev μ1 H1 (μ'.take μ1.length) H := (E1.trans e).cut
        have hsv : SV (ks X x) (μ'.take μ1.length) H (st'.take μ1.length) := sv'.cut _
        rw [← hn] at h2 m4
        refine h2 _ H hcut hsv (.ref D) ?_
        simp only [AV, DV]
        refine ⟨D, xs, rfl, fun z => ?_, .inl hx, DVs.le (Le.take _) acc dx⟩
        obtain ⟨j, hj⟩ := List.mem_iff_getElem?.mp z
        by_cases hjn : j < μ1.length
        · rw [List.getElem?_take_of_lt hjn] at hj
          exact absurd (sv'.inj _ _ _ hj m4) (by omega)
        · rw [List.getElem?_take_eq_none (by omega)] at hj; cases hj
theorem ed_lc {ls : List Nat} {g : Va → En → Option En} {mt : En → M Bool} {me : En → M Va} {scope : Scope} (own : List (Str × Nat)) (hi : ID X x W tg iter mi)
    (hg : ∀ (s : Shared) (H : Hp) (C : Addr) (cl : List (Str × Addr)) (fp : List Addr), GD (X.blk s H scope (compEnvC scope cl C X.env) fp) x tg ls g)
    (ht : ∀ (s : Shared) (H : Hp) (C : Addr) (cl : List (Str × Addr)) (fp : List Addr), PTsD (X.blk s H scope (compEnvC scope cl C X.env) fp) x ifs mt)
    (he : ∀ (s : Shared) (H : Hp) (C : Addr) (cl : List (Str × Addr)) (fp : List Addr), ED (X.blk s H scope (compEnvC scope cl C X.env) fp) x W0 elt me)
    (hls : ∀ i ∈ ls, i ∈ own.map (·.2) := by decide) (ok : blkC X.N X.env.scope scope own = true := by rfl) (hc : X.calm = true := by rfl) (hN : X.N.Nodup := by assumption) (hs : ∀ x, foldedSetIterable iter X.env x = pure x := by intro _; rfl) :
    ED X x W (.ListComp elt [⟨tg, iter, ifs, 0⟩] scope pos) (mLc mi g mt me (own.map (·.2))) := by
  refine ED.of (pe_lc (wi := tDI (ks X x) W mi) (g := tDG (ks X x) ls g) (tt := tDT (ks X x) W0 mt) (te := tD (ks X x) W0 me) hc hN hi (blkOk_by ok) hg ht he hs) fun σ H Q μ st ρ ev sv hf => lc_fin hls ev sv hf
end
end DL
end

section
set_option Elab.async false
set_option linter.all false
set_option maxRecDepth 100000
set_option maxHeartbeats 4000000
/-! Own exceptions raised and caught, over plain data. -/
namespace DL
open PySem PySem.Spec PyProof.Rows L2

/-- what an own exception's __init__ promises: the fields fs are set -/
def spI (C : Addr) (fs : List Str) : Sp := fun vs H Q E => ∃ (a : Addr) (ys : List V), vs = .ref a :: ys ∧ ys.length = fs.length ∧ H a = some (exo a C none) ∧
  ∀ (H' : Hp) (d : Addr), H d = none → d ≠ a → H' a = some (exo a C (some d)) → H' d = some (exd d (fs.zip ys).reverse) → (∀ b, b ≠ a → b ≠ d → H' b = H b) → Q .non H'
def ExD (P : Program) (w : World) (K : PySem.W.Frag) (mg : Str → Option Value) (base : Heap) (k : Nat) (y : Str) (fs : List Str) : Prop :=
  ∃ (C fI : Addr) (fd : FuncData) (ps : List Str), mg y = some (.ref C) ∧ OexC K C ∧ PySem.W.findIn K (.ref C) "__init__" = some (some (.ref fI)) ∧ PySem.W.typeIn K (.ref fI) = some (.type "function") ∧
    FnOk P w K mg base (L2.CX P w) k fI fd ps (spI C fs) ∧ Binds K fd ps []
def mRaise (y : Str) (fs : List Str) (m : En → M (List Va)) : En → MS := fun ρ st => onE (m ρ st) ρ fun as st' => match vals as with
  | some ds => if ds.length = fs.length ∧ ds.length ≤ 1000 then some (.ex ρ y (fs.zip ds).reverse, st') else none
  | none => none
theorem KVs.app {S : Ks} {μ : Mu} {H : Hp} {κ : Type} : ∀ {xs ys : List (κ × D)} {us ws : List (κ × V)}, KVs S μ H xs us → KVs S μ H ys ws → KVs S μ H (xs ++ ys) (us ++ ws)
  | [], ys, us, ws, h, t => by cases h; exact t
  | (k, d) :: r, ys, us, ws, h, t => by
    obtain ⟨v, t1, rfl, q, w⟩ := h
    exact ⟨v, t1 ++ ws, rfl, q, KVs.app w t⟩
theorem KVs.zip {S : Ks} {μ : Mu} {H : Hp} {κ : Type} : ∀ {fs : List κ} {ds : List D} {vs : List V}, DVs S μ H ds vs → KVs S μ H (fs.zip ds) (fs.zip vs)
  | [], ds, vs, h => by simp [KVs]
  | f :: fs, [], vs, h => by simp only [DVs] at h; subst h; simp [KVs]
  | f :: fs, d :: ds, vs, h => by
    simp only [DVs] at h
    obtain ⟨v, r, rfl, q, w⟩ := h
    exact ⟨v, fs.zip r, rfl, q, KVs.zip w⟩
theorem KVs.rev {S : Ks} {μ : Mu} {H : Hp} {κ : Type} : ∀ {xs : List (κ × D)} {us : List (κ × V)}, KVs S μ H xs us → KVs S μ H xs.reverse us.reverse
  | [], us, h => by cases h; simp [KVs]
  | (k, d) :: r, us, h => by
    obtain ⟨v, t1, rfl, q, w⟩ := h
    simp only [List.reverse_cons]
    exact KVs.app (KVs.rev w) ⟨v, [], rfl, q, rfl⟩
section
variable {X : Cx} {x : ExI} {W : WX} {pos pos' p : Pos} {e : Expr} {es : List Expr} {ma : En → M (List Va)} {k : Nat} {y : Str} {fs : List Str}
theorem sd_raise (T : ExD X.prog X.w X.K X.mg X.base k y fs) (hr : Room (k + 1) X.A) (tk : Takes X W) (ha : AD X x W (e :: es) ma) (hc : X.calm = true := by rfl) (hg : Gl X y := by rfl) (hdb : (y == ("__debug__" : Str)) = false := by decide)
    (he : starEach (e :: es) X.env = (false, eval e X.env) :: starEach es X.env := by rfl) (hpl : (backTo pos (starEach es X.env)).any (·.1) = false := by rfl) : SD X x W (.Raise (some (.Call (.Name y p) (e :: es) [] pos)) none pos') (mRaise y fs ma) := by
  obtain ⟨C, fI, fd, ps, hm, TO, iC, tI, F1, hb⟩ := T
  refine SD.of (ps_raise hc tk (pmk_oex (dvs := []) TO iC tI F1 hr hb .nil (fun pins σ H s er s' I c => passes_call (E := fun _ _ _ => False) tk (fun _ _ _ _ z => z.elim) pins σ H s er s' I c) hg hm ha hdb he hpl)) fun Ds σ H μ st ρ ev sv h => ?_
  refine ⟨μ, st, ρ, ev, sv, Fin.map (fun as st1 μ1 H1 e1 s1 h1 vs hv => ?_) (FinS.onE ev h)⟩
  cases ev2 : vals as with
  | none => simp only [ev2] at h1; exact h1.elim
  | some ds =>
    simp only [ev2] at h1
    have dv := vals_dvs ev2 hv
    by_cases z : ds.length = fs.length ∧ ds.length ≤ 1000
    · rw [if_pos z] at h1
      refine ⟨by rw [dv.length]; exact z.2, fun a ha1 => ?_⟩
      refine ⟨a, vs, by simp, by rw [dv.length]; exact z.1, upd_same, fun H' d hd hda h2 h3 h4 => ⟨rfl, d, _, h2, h3, ?_, ?_⟩⟩
      · rw [upd_ne hda] at hd; exact hd
      · have hd1 : H1 d = none := by rw [upd_ne hda] at hd; exact hd
        have eH : upd (del H' a) d (.xd (fs.zip vs).reverse) = upd H1 d (.xd (fs.zip vs).reverse) := by
          funext b
          by_cases hb1 : b = d
          · subst hb1; rw [upd_same, upd_same]
          · rw [upd_ne hb1, upd_ne hb1]
            by_cases hb2 : b = a
            · subst hb2; rw [del_same, ha1]
            · rw [del_ne hb2, h4 b hb2 hb1, upd_ne hb2]
        rw [eH]
        have Em : Ev μ1 H1 μ1 (upd H1 d (.xd (fs.zip vs).reverse)) := Ev.made hd1
        refine h1 (.ref C) (some d) μ1 _ σ Em (s1.made hd1) ((ev.go e1).go Em) ⟨⟨C, rfl, hm⟩, d, _, rfl, s1.out hd1, upd_same, ?_⟩
        exact KVs.go Em _ (KVs.rev (KVs.zip dv))
    · rw [if_neg z] at h1; exact h1.elim
end
/-! ### try: several clauses, with names or without -/
def wManyN (K : PySem.W.Frag) (Wout : WX) (D : Ends) : List (Value × Option Nat × (Addr → Value → Option Addr → TS)) → WX
  | [] => Wout
  | (c, o, ts) :: r => fun cls d σ H => ∃ b, PySem.W.exmOne K cls c = some b ∧ (b = true → ∀ a, H a = none → (match o with
      | none => ts a cls d D σ H
      | some i => ts a cls d { nx := fun σ' H' => D.nx (σ'.set i none) H', rt := D.rt, bk := fun σ' H' => D.bk (σ'.set i none) H', ct := fun σ' H' => D.ct (σ'.set i none) H' } (σ.set i (some (.ref a))) H)) ∧ (b = false → wManyN K Wout D r cls d σ H)
inductive HdsN (X : Cx) : List ExceptHandler → List (Value × Option Nat × (Addr → Value → Option Addr → TS)) → Prop
  | nil : HdsN X [] []
  | consU {x : Str} {c : Value} {ts : Addr → Value → Option Addr → TS} {b₀ : Stmt} {suite : List Stmt} {np pos' : Pos} {hds : List ExceptHandler} {l : List (Value × Option Nat × (Addr → Value → Option Addr → TS))} (hc : Names X x c)
      (hsu : ∀ (a : Addr) (oe : Obj) (cls : Value) (d : Option Addr) (pn : List (Addr × Obj)), Zc cls d oe → (∃ vs, oe.data = .fields vs) → PSs (X.suite a ((a, oe) :: pn)) (b₀ :: suite) (ts a cls d)) (r : HdsN X hds l) :
      HdsN X (.ExceptHandler (some (.Name x np)) none (b₀ :: suite) pos' :: hds) ((c, none, ts) :: l)
  | consN {x n : Str} {i : Nat} {c : Value} {ts : Addr → Value → Option Addr → TS} {b₀ : Stmt} {suite : List Stmt} {np pos' : Pos} {hds : List ExceptHandler} {l : List (Value × Option Nat × (Addr → Value → Option Addr → TS))} (hc : Names X x c) (hN : X.N.Nodup) (hi : X.N[i]? = some n) (hln : X.env.kindOf n = some .local)
      (hsu : ∀ (a : Addr) (oe : Obj) (cls : Value) (d : Option Addr) (pn : List (Addr × Obj)), Zc cls d oe → (∃ vs, oe.data = .fields vs) → PSs (X.suite a ((a, oe) :: pn)) (b₀ :: suite) (ts a cls d)) (r : HdsN X hds l) :
      HdsN X (.ExceptHandler (some (.Name x np)) (some n) (b₀ :: suite) pos' :: hds) ((c, some i, ts) :: l)
section
variable {X : Cx} {body : List Stmt} {h₀ : ExceptHandler} {hds : List ExceptHandler} {l : List (Value × Option Nat × (Addr → Value → Option Addr → TS))} {pos : Pos} {tb : WX → TS} {Wout : WX}
theorem ps_try_manyN (hs : X.stack = X.env :: X.outer) (hf : X.env.frame = some X.env.locals) (tk : Takes X Wout)
    (hb : ∀ (W : WX) (pn : List (Addr × Obj)) (xe : Value → Shared → Prop), Takes (X.tr pn xe) W → PassesOwn (model X.prog X.w) X.A X.env xe → PSs (X.tr pn xe) body (tb W))
    (hh : HdsN X (h₀ :: hds) l) : PS X (.Try body (h₀ :: hds) [] [] pos) (fun D σ H => tb (wManyN X.K Wout D l) D σ H) := by
  refine ⟨fun pins s σ H D I h => ?_⟩
  have ok := I.ok
  have hfr : X.A.frames = some (X.env :: X.outer) := by rw [ok.frames, hs]
  refine wpAny_Try_except ?_
  refine wpAny_mono ((hb (wManyN X.K Wout D l) (X.pn ++ pins) (fun e s₁ => wpAny (model X.prog X.w) X.A (noteFrame e X.env) (fun _ s₂ => wpAny (model X.prog X.w) X.A (setFlight e none) (fun _ s₃ =>
    wpAny (model X.prog X.w) X.A (handleBy e X.env (h₀ :: hds)) (SP X pins D) X.xe s₃) X.xe s₂) X.xe s₁) (fun u s' xx => ?_) PassesOwn.looking).run [] s σ H D (I.toTry _) h) (fun f s1 hsp => ?_) (fun e s1 he => he)
  · -- the catch
    obtain ⟨a, B, sI, pins', σ', H', cls, d, rfl, J', nb, up, sky, na, os, ag, w⟩ := xx
    have J : L2.Inv X pins σ' H' sI := J'.ofTry ok
    have sky' : Sky B (X.env :: X.outer) a (Zc cls d) X.env.locals s'.heap := by rw [← hs]; exact sky
    show wpAny (model X.prog X.w) X.A (noteFrame (.ref a) X.env) _ _ _
    refine Sky.land Zc.steady hfr hf sky' fun h3 fl3 up3 => ?_
    have J3 : L2.Inv X pins σ' H' { s' with heap := h3 } := J.landed nb fl3.1 (up.trans up3) os ag
    obtain ⟨oe3, vs3, he3, hz3, hd3⟩ := fl3.there
    have notFr : ∀ {h : Heap} {o : Obj} {vs : Array Value}, h.FunFrames B (X.env :: X.outer) → h.get? a = some o → o.data = .fields vs → a ∉ frs (X.env :: X.outer) := fun {h o vs} ff e dd hm => by
      obtain ⟨_, o', e', hnf⟩ := ff.mem hm
      rw [e] at e'; cases e'
      exact hnf _ dd
    have nfr := notFr fl3.2.2.1 he3 hd3
    have nL : a ≠ X.env.locals := fun z => nfr (List.mem_filterMap.mpr ⟨X.env, List.mem_cons_self, by rw [hf, z]⟩)
    have nF : a ∉ X.fs := fun hm => by
      obtain ⟨e, he, q⟩ := List.mem_filterMap.mp hm
      exact nfr (List.mem_filterMap.mpr ⟨e, List.mem_cons_of_mem _ he, q⟩)
    have S3 := J3.suite he3 hd3 na nL nF
    have go : ∀ {hds' : List ExceptHandler} {l' : List (Value × Option Nat × (Addr → Value → Option Addr → TS))}, HdsN X hds' l' → wManyN X.K Wout D l' cls d σ' H' →
        wpAny (model X.prog X.w) X.A (handleBy (.ref a) X.env hds') (SP X pins D) X.xe { s' with heap := h3 } := by
      intro hds' l' hk
      induction hk with
      | nil =>
        intro w
        refine wpAny_handleBy_nil ?_
        obtain ⟨k1, k2, k3, oe, vs, T, oT, ts', he, hz, hd, h1, hr⟩ := id fl3
        unfold PySem.passOn
        refine wpAny_bind (wpAny_field he hd h1 ?_)
        rw [if_neg (show ¬ ((Value.ref T == Value.none) = true) from by simp)]
        have fin : wpAny (model X.prog X.w) X.A (setFlight (.ref a) X.env.frame) (fun _ s4 => wpAny (model X.prog X.w) X.A (throw (.ref a) : Sem Flow) (SP X pins D) X.xe s4) X.xe { s' with heap := h3 } := by
          rw [hf]
          refine HandSPX.setFlight_upZ fl3 fun h4 hh4 up4 => wpAny_throw (tk _ _ ?_)
          exact ⟨a, B, sI, pins, σ', H', cls, d, rfl, J, nb, (up.trans up3).trans up4, .inr (.inr (by rw [hs]; exact hh4)), na, os, ag, w⟩
        first
          | exact wpAny_bind (wpAny_pure (wpAny_bind fin))
          | exact wpAny_bind fin
      | @consU x c ts b₀ suite np pos' hds2 l2 hc hsu r ih =>
        intro w
        obtain ⟨b, hb1, hyes, hno⟩ := w
        refine wpAny_handleBy_cons (codeAny_handlers_test ?_) (by intro q; cases q)
        have LT : PySem.W.Looks (model X.prog X.w) h3 (typeOf (.ref a)) cls := fun A Q E s k q => wpAny_typeOf_ref (k _ _ he3) (by rw [hz3.1]; exact q)
        have LM := PySem.W.exm_one (M := model X.prog X.w) (J3.kIn) LT hb1
        have test : ∀ {Q : Value → Shared → Prop} {E : Value → Shared → Prop}, Q c { s' with heap := h3 } → wpAny (model X.prog X.w) (X.A.mark (some (.ref a))) (eval (.Name x np) X.env) Q E { s' with heap := h3 } := fun {Q E} q => by
          obtain ⟨hg, hdbg, hm | ⟨hm, hv, hnn⟩⟩ := hc
          · exact ld_glob (X := X.suite a ((a, oe3) :: (X.pn ++ pins))) S3 hg hm q hdbg
          · exact ld_blt (X := X.suite a ((a, oe3) :: (X.pn ++ pins))) S3 hg hm hv q hnn hdbg
        refine test (LM.here ?_)
        cases b with
        | true =>
          refine codeAny_handlers_suite ?_
          refine HandSPX.lands_againZ fl3 fun h4 fl4 up4 => ?_
          have J4 : L2.Inv X pins σ' H' { s' with heap := h4 } := J.landed nb fl4.1 ((up.trans up3).trans up4) os ag
          obtain ⟨oe4, vs4, he4, hz4, hd4⟩ := fl4.there
          have S4 := J4.suite he4 hd4 na nL nF
          refine wpAny_mono ((hsu a oe4 cls d (X.pn ++ pins) hz4 ⟨_, hd4⟩).run [] _ _ H' _ S4 (hyes rfl a na)) (fun f s6 hsp => ?_) (fun _ _ z => False.elim z)
          cases f with
          | next =>
            obtain ⟨σ6, H6, S6, q6⟩ := hsp
            exact ⟨_, _, S6.unsuite ok, q6⟩
          | brk =>
            obtain ⟨σ6, H6, S6, q6⟩ := hsp
            exact ⟨_, _, S6.unsuite ok, q6⟩
          | cont =>
            obtain ⟨σ6, H6, S6, q6⟩ := hsp
            exact ⟨_, _, S6.unsuite ok, q6⟩
          | ret u =>
            obtain ⟨v6, σ6, H6, S6, r6, q6⟩ := hsp
            exact ⟨_, _, _, S6.unsuite ok, r6, q6⟩
        | false =>
          show wpAny _ X.A (handleBy (.ref a) X.env hds2) _ _ _
          exact ih (hno rfl)
      | @consN x n i c ts b₀ suite np pos' hds2 l2 hc hN hi hln hsu r ih =>
        intro w
        obtain ⟨b, hb1, hyes, hno⟩ := w
        have hloc : Loc X.env.scope n := .inl hln
        refine wpAny_handleBy_cons (codeAny_handlers_test ?_) (by intro q; cases q)
        have LT : PySem.W.Looks (model X.prog X.w) h3 (typeOf (.ref a)) cls := fun A Q E s k q => wpAny_typeOf_ref (k _ _ he3) (by rw [hz3.1]; exact q)
        have LM := PySem.W.exm_one (M := model X.prog X.w) (J3.kIn) LT hb1
        have test : ∀ {Q : Value → Shared → Prop} {E : Value → Shared → Prop}, Q c { s' with heap := h3 } → wpAny (model X.prog X.w) (X.A.mark (some (.ref a))) (eval (.Name x np) X.env) Q E { s' with heap := h3 } := fun {Q E} q => by
          obtain ⟨hg, hdbg, hm | ⟨hm, hv, hnn⟩⟩ := hc
          · exact ld_glob (X := X.suite a ((a, oe3) :: (X.pn ++ pins))) S3 hg hm q hdbg
          · exact ld_blt (X := X.suite a ((a, oe3) :: (X.pn ++ pins))) S3 hg hm hv q hnn hdbg
        refine test (LM.here ?_)
        cases b with
        | true =>
          refine codeAny_handlers_suite_as ?_
          refine HandSPX.lands_againZ fl3 fun h4 fl4 up4 => ?_
          have J4 : L2.Inv X pins σ' H' { s' with heap := h4 } := J.landed nb fl4.1 ((up.trans up3).trans up4) os ag
          obtain ⟨oe4, vs4, he4, hz4, hd4⟩ := fl4.there
          have S4 := J4.suite he4 hd4 na nL nF
          refine store_ok (X := X.suite a ((a, oe4) :: (X.pn ++ pins))) (v := .ref a) S4 hN hi hloc rfl (fun s5 S5 => ?_) (.inr hln)
          refine wpAny_mono ((hsu a oe4 cls d (X.pn ++ pins) hz4 ⟨_, hd4⟩).run [] s5 _ H' _ S5 (hyes rfl a na)) (fun f s6 hsp => ?_) (fun _ _ z => False.elim z)
          have end_ : ∀ {σ6 : L2.St} {H6 : Hp} {Q : Shared → Prop}, L2.Inv (X.suite a ((a, oe4) :: (X.pn ++ pins))) [] σ6 H6 s6 → (∀ s7, L2.Inv X pins (σ6.set i none) H6 s7 → Q s7) →
              wpAny (model X.prog X.w) X.A (do bindName X.env n .none; unbindBehindTheSuite X.env n pos') (fun _ s7 => Q s7) X.xe s6 := fun {σ6 H6 Q} S6 hq => gone_ok (S6.unsuite ok) hN hi hln hq
          cases f with
          | next =>
            obtain ⟨σ6, H6, S6, q6⟩ := hsp
            exact end_ S6 fun s7 J7 => ⟨_, _, J7, q6⟩
          | brk =>
            obtain ⟨σ6, H6, S6, q6⟩ := hsp
            exact end_ S6 fun s7 J7 => ⟨_, _, J7, q6⟩
          | cont =>
            obtain ⟨σ6, H6, S6, q6⟩ := hsp
            exact end_ S6 fun s7 J7 => ⟨_, _, J7, q6⟩
          | ret u =>
            obtain ⟨v6, σ6, H6, S6, r6, q6⟩ := hsp
            exact end_ S6 fun s7 J7 => ⟨_, _, _, J7, r6, q6⟩
        | false =>
          show wpAny _ X.A (handleBy (.ref a) X.env hds2) _ _ _
          exact ih (hno rfl)
    exact go hh w
  · cases f with
    | next =>
      obtain ⟨σ', H', J', q⟩ := hsp
      exact wpAny_execs_nil ⟨σ', H', J'.ofTry ok, q⟩
    | brk =>
      obtain ⟨σ', H', J', q⟩ := hsp
      exact ⟨σ', H', J'.ofTry ok, q⟩
    | cont =>
      obtain ⟨σ', H', J', q⟩ := hsp
      exact ⟨σ', H', J'.ofTry ok, q⟩
    | ret u =>
      obtain ⟨v, σ', H', J', r, q⟩ := hsp
      exact ⟨v, σ', H', J'.ofTry ok, r, q⟩
end
end DL
end

section
set_option Elab.async false
set_option linter.all false
set_option maxRecDepth 100000
set_option maxHeartbeats 4000000
/-! try, the caught exception's fields and kinds, over plain data. -/
namespace DL
open PySem PySem.Spec PyProof.Rows L2

/-- the slots without exceptions -/
def noX : En → En
  | [] => []
  | some (.exc _ _) :: r => none :: noX r
  | o :: r => o :: noX r
section
variable {K : PySem.W.Frag} {mg : Str → Option Value} {x x' : ExI} {μ : Mu} {H : Hp}
theorem noX_length : ∀ ρ : En, (noX ρ).length = ρ.length
  | [] => rfl
  | none :: r => by simp [noX, noX_length r]
  | some (.val d) :: r => by simp [noX, noX_length r]
  | some (.obj k) :: r => by simp [noX, noX_length r]
  | some (.exc c fs) :: r => by simp [noX, noX_length r]
  | some (.scr ns) :: r => by simp [noX, noX_length r]
theorem noX_get : ∀ {ρ : En} {i : Nat} {d : Va}, (noX ρ)[i]? = some (some d) → ρ[i]? = some (some d) ∧ ∀ c fs, d ≠ .exc c fs
  | [], i, d, h => by simp [noX] at h
  | o :: r, 0, d, h => by
    match o with
    | none => simp [noX] at h
    | some (.val d') => simp [noX] at h; subst h; exact ⟨rfl, fun _ _ z => nomatch z⟩
    | some (.obj k) => simp [noX] at h; subst h; exact ⟨rfl, fun _ _ z => nomatch z⟩
    | some (.exc c fs) => simp [noX] at h
    | some (.scr ns) => simp [noX] at h; subst h; exact ⟨rfl, fun _ _ z => nomatch z⟩
  | o :: r, i + 1, d, h => by
    have h' : (noX r)[i]? = some (some d) := by
      match o with
      | none => simpa [noX] using h
      | some (.val d') => simpa [noX] using h
      | some (.obj k) => simpa [noX] using h
      | some (.exc c fs) => simpa [noX] using h
      | some (.scr ns) => simpa [noX] using h
    obtain ⟨h1, h2⟩ := noX_get h'
    exact ⟨by simpa using h1, h2⟩
theorem EV.noX {ρ : En} {σ : L2.St} (h : EV ⟨K, mg, x⟩ μ H ρ σ) : EV ⟨K, mg, x'⟩ μ H (noX ρ) σ := by
  refine ⟨by rw [noX_length]; exact h.len, fun i d e => ?_⟩
  obtain ⟨e1, n⟩ := noX_get e
  obtain ⟨v, e2, q⟩ := h.here i d e1
  refine ⟨v, e2, ?_⟩
  cases d with
  | val d => exact DV.exi d q
  | obj k => exact q
  | exc c fs => exact absurd rfl (n c fs)
  | scr ns => exact q
end
/-- a clause: the class, the slot of its name, its suite -/
abbrev Hd := Str × Option Nat × (En → MS)
/-- behind a suite -/
def suiteR (o : Option Nat) : Option (Fl × Sto) → Option (Fl × Sto)
  | some (.nx ρ, st) => some (.nx (match o with | some i => (noX ρ).set i none | none => noX ρ), st)
  | some (.bk ρ, st) => some (.bk (match o with | some i => (noX ρ).set i none | none => noX ρ), st)
  | some (.ct ρ, st) => some (.ct (match o with | some i => (noX ρ).set i none | none => noX ρ), st)
  | some (.rt (.val d), st) => some (.rt (.val d), st)
  | some (.rt (.obj k), st) => some (.rt (.obj k), st)
  | _ => none
def handle (sub : Str → Str → Option Bool) : List Hd → En → Str → List (Str × D) → MS
  | [], ρ, c, fs, st => some (.ex ρ c fs, st)
  | (y, o, m) :: r, ρ, c, fs, st => match sub c y with
    | some true => suiteR o (m (match o with | some i => (noX ρ).set i (some (.exc c fs)) | none => noX ρ) st)
    | some false => handle sub r ρ c fs st
    | none => none
def mTry (sub : Str → Str → Option Bool) (mb : En → MS) (hs : List Hd) : En → MS := fun ρ st => match mb ρ st with
  | some (.ex ρ' c fs, st') => handle sub hs ρ' c fs st'
  | r => r
/-- the clauses keep their promises -/
inductive HdsD (X : Cx) (sub : Str → Str → Option Bool) : List ExceptHandler → List Hd → Prop
  | nil : HdsD X sub [] []
  | consU {y : Str} {cv : Value} {b₀ : Stmt} {suite : List Stmt} {np pos' : Pos} {hds : List ExceptHandler} {l : List Hd} {m : En → MS} (hc : Names X y cv) (hsub : ∀ c b C, sub c y = some b → X.mg c = some (.ref C) → PySem.W.exmOne X.K (.ref C) cv = some b)
      (hsu : ∀ (a : Addr) (oe : Obj) (cls : Value) (d : Option Addr) (pn : List (Addr × Obj)), Zc cls d oe → (∃ vs, oe.data = .fields vs) → SDs (X.suite a ((a, oe) :: pn)) (some (a, cls, d)) W0 (b₀ :: suite) m) (r : HdsD X sub hds l) :
      HdsD X sub (.ExceptHandler (some (.Name y np)) none (b₀ :: suite) pos' :: hds) ((y, none, m) :: l)
  | consN {y n : Str} {i : Nat} {cv : Value} {b₀ : Stmt} {suite : List Stmt} {np pos' : Pos} {hds : List ExceptHandler} {l : List Hd} {m : En → MS} (hc : Names X y cv) (hsub : ∀ c b C, sub c y = some b → X.mg c = some (.ref C) → PySem.W.exmOne X.K (.ref C) cv = some b)
      (hN : X.N.Nodup) (hi : X.N[i]? = some n) (hln : X.env.kindOf n = some .local)
      (hsu : ∀ (a : Addr) (oe : Obj) (cls : Value) (d : Option Addr) (pn : List (Addr × Obj)), Zc cls d oe → (∃ vs, oe.data = .fields vs) → SDs (X.suite a ((a, oe) :: pn)) (some (a, cls, d)) W0 (b₀ :: suite) m) (r : HdsD X sub hds l) :
      HdsD X sub (.ExceptHandler (some (.Name y np)) (some n) (b₀ :: suite) pos' :: hds) ((y, some i, m) :: l)
section
variable {X : Cx} {x : ExI} {W : WX} {pos : Pos} {sub : Str → Str → Option Bool}
theorem FinS.suiteN {i : Nat} {a : Addr} {cls : Value} {d : Option Addr} {Ds : Ends} {μ : Mu} {H : Hp} : ∀ {r : Option (Fl × Sto)}, FinS (ks X x) W Ds μ H (suiteR (some i) r) →
    FinS (ks X (some (a, cls, d))) W0 { nx := fun σ' H' => Ds.nx (σ'.set i none) H', rt := Ds.rt, bk := fun σ' H' => Ds.bk (σ'.set i none) H', ct := fun σ' H' => Ds.ct (σ'.set i none) H' } μ H r
  | none, h => h
  | some (.nx ρ, st), h => fun μ' H' σ e s v => h μ' H' _ e s.exi ((EV.noX v).drop i none)
  | some (.bk ρ, st), h => fun μ' H' σ e s v => h μ' H' _ e s.exi ((EV.noX v).drop i none)
  | some (.ct ρ, st), h => fun μ' H' σ e s v => h μ' H' _ e s.exi ((EV.noX v).drop i none)
  | some (.rt (.val d), st), h => fun μ' H' v e s q => h μ' H' v e s.exi (DV.exi d q)
  | some (.rt (.obj k), st), h => fun μ' H' v e s q => h μ' H' v e s.exi q
  | some (.rt (.exc c fs), st), h => h.elim
  | some (.rt (.scr ns), st), h => h.elim
  | some (.ex ρ c fs, st), h => h.elim
theorem FinS.suiteU {a : Addr} {cls : Value} {d : Option Addr} {Ds : Ends} {μ : Mu} {H : Hp} : ∀ {r : Option (Fl × Sto)}, FinS (ks X x) W Ds μ H (suiteR none r) →
    FinS (ks X (some (a, cls, d))) W0 Ds μ H r
  | none, h => h
  | some (.nx ρ, st), h => fun μ' H' σ e s v => h μ' H' _ e s.exi (EV.noX v)
  | some (.bk ρ, st), h => fun μ' H' σ e s v => h μ' H' _ e s.exi (EV.noX v)
  | some (.ct ρ, st), h => fun μ' H' σ e s v => h μ' H' _ e s.exi (EV.noX v)
  | some (.rt (.val d), st), h => fun μ' H' v e s q => h μ' H' v e s.exi (DV.exi d q)
  | some (.rt (.obj k), st), h => fun μ' H' v e s q => h μ' H' v e s.exi q
  | some (.rt (.exc c fs), st), h => h.elim
  | some (.rt (.scr ns), st), h => h.elim
  | some (.ex ρ c fs, st), h => h.elim
/-- the readings of the clauses -/
def hdR (X : Cx) (cv : Str → Value) : List Hd → List (Value × Option Nat × (Addr → Value → Option Addr → TS))
  | [] => []
  | (y, o, m) :: r => (cv y, o, fun a cls d => tDS (ks X (some (a, cls, d))) W0 m) :: hdR X cv r
theorem hds_n {hds : List ExceptHandler} {l : List Hd} (h : HdsD X sub hds l) : ∃ l', HdsN X hds l' ∧ ∀ (Ds : Ends) (W : WX) (x : ExI) (ρ : En) (c : Str) (fs : List (Str × D)) (st : Sto) (μ : Mu) (H : Hp) (σ : L2.St) (cv : Value) (dx : Option Addr),
    EV (ks X x) μ H ρ σ → SV (ks X x) μ H st → XR (ks X x) μ H c fs cv dx → FinS (ks X x) W Ds μ H (handle sub l ρ c fs st) → wManyN X.K W Ds l' cv dx σ H := by
  induction h with
  | nil => exact ⟨[], .nil, fun Ds W x ρ c fs st μ H σ cv dx ev sv xr h => h cv dx μ H σ (Ev.refl _ _) sv ev xr⟩
  | @consU y cvy b₀ suite np pos' hds l m hc hsub hsu r ih =>
    obtain ⟨l', h1, h2⟩ := ih
    refine ⟨(cvy, none, fun a cls d => tDS (ks X (some (a, cls, d))) W0 m) :: l', .consU hc hsu h1, fun Ds W x ρ c fs st μ H σ cv dx ev sv xr h => ?_⟩
    unfold handle at h
    obtain ⟨C, ec, hC⟩ := xr.1
    cases es : sub c y with
    | none => simp only [es] at h; exact h.elim
    | some b =>
      simp only [es] at h
      refine ⟨b, by rw [ec]; exact hsub c b C es hC, fun hb a ha => ?_, fun hb => ?_⟩
      · subst hb
        exact ⟨μ, st, _, EV.noX ev, sv.exi, FinS.suiteU h⟩
      · subst hb
        exact h2 Ds W x ρ c fs st μ H σ cv dx ev sv xr h
  | @consN y n i cvy b₀ suite np pos' hds l m hc hsub hN hi hln hsu r ih =>
    obtain ⟨l', h1, h2⟩ := ih
    refine ⟨(cvy, some i, fun a cls d => tDS (ks X (some (a, cls, d))) W0 m) :: l', .consN hc hN hi hln hsu h1, fun Ds W x ρ c fs st μ H σ cv dx ev sv xr h => ?_⟩
    unfold handle at h
    obtain ⟨C, ec, hC⟩ := xr.1
    cases es : sub c y with
    | none => simp only [es] at h; exact h.elim
    | some b =>
      simp only [es] at h
      refine ⟨b, by rw [ec]; exact hsub c b C es hC, fun hb a ha => ?_, fun hb => ?_⟩
      · subst hb
        refine ⟨μ, st, _, (EV.noX ev).set i (d := .exc c fs) ⟨a, cv, dx, rfl, rfl, xr.exi⟩, sv.exi, FinS.suiteN h⟩
      · subst hb
        exact h2 Ds W x ρ c fs st μ H σ cv dx ev sv xr h
theorem FinS.try {W' : WX} {Ds : Ends} {μ : Mu} {H : Hp} {mb : En → MS} {hs : List Hd} {ρ : En} {st : Sto}
    (h2 : ∀ (ρ : En) (c : Str) (fs : List (Str × D)) (st : Sto) (μ : Mu) (H : Hp) (σ : L2.St) (cv : Value) (dx : Option Addr), EV (ks X x) μ H ρ σ → SV (ks X x) μ H st → XR (ks X x) μ H c fs cv dx → FinS (ks X x) W Ds μ H (handle sub hs ρ c fs st) → W' cv dx σ H)
    (h : FinS (ks X x) W Ds μ H (mTry sub mb hs ρ st)) : FinS (ks X x) W' Ds μ H (mb ρ st) := by
  unfold mTry at h
  cases e : mb ρ st with
  | none => rw [e] at h; exact h
  | some p =>
    obtain ⟨f, st'⟩ := p
    rw [e] at h
    cases f with
    | nx ρ' => exact h
    | bk ρ' => exact h
    | ct ρ' => exact h
    | rt a => exact h
    | ex ρ' c fs => exact fun cv dx μ' H' σ ev sv q xr => h2 ρ' c fs st' μ' H' σ cv dx q sv xr (FinS.go ev h)
theorem sd_try {body : List Stmt} {h₀ : ExceptHandler} {hds : List ExceptHandler} {hs : List Hd} {mb : En → MS} (tk : Takes X W)
    (hb : ∀ (W : WX) (pn : List (Addr × Obj)) (xe : Value → Shared → Prop), Takes (X.tr pn xe) W → PassesOwn (model X.prog X.w) X.A X.env xe → SDs (X.tr pn xe) x W body mb)
    (hh : HdsD X sub (h₀ :: hds) hs) (hst : X.stack = X.env :: X.outer := by rfl) (hf : X.env.frame = some X.env.locals := by rfl) : SD X x W (.Try body (h₀ :: hds) [] [] pos) (mTry sub mb hs) := by
  obtain ⟨l', h1, h2⟩ := hds_n hh
  refine SD.of (ps_try_manyN (tb := fun W => tDS (ks X x) W mb) hst hf tk hb h1) fun Ds σ H μ st ρ ev sv h => ⟨μ, st, ρ, ev, sv, ?_⟩
  exact FinS.try (fun ρ c fs st μ H σ cv dx ev sv xr h => h2 Ds W x ρ c fs st μ H σ cv dx ev sv xr h) h
/-! ### e.f, isinstance(e, c) -/
/-- own classes whose exceptions' fields are read -/
def ExF (K : PySem.W.Frag) (mg : Str → Option Value) (cs : List Str) (n : Str) : Prop := ∀ c ∈ cs, ∃ C, mg c = some (.ref C) ∧ XfC K C ∧ PySem.W.findIn K (.ref C) n = some none
def fldOf (cs : List Str) (n : Str) : Va → M Va
  | .exc c fs => if c ∈ cs then (match fs.lookup n with | some d => M.pure (.val d) | none => stuck) else stuck
  | _ => stuck
def mFld (cs : List Str) (n : Str) (m : En → M Va) : En → M Va := fun ρ => M.bind (m ρ) (fldOf cs n)
theorem KVs.lookup {S : Ks} {μ : Mu} {H : Hp} {n : Str} : ∀ {fs : List (Str × D)} {ys : List (Str × V)} {d : D}, KVs S μ H fs ys → fs.lookup n = some d → ∃ v, ys.lookup n = some v ∧ DV S μ H d v
  | [], ys, d, h, e => by simp at e
  | (k, d') :: r, ys, d, h, e => by
    obtain ⟨v, t, rfl, q, w⟩ := h
    simp only [List.lookup] at e ⊢
    split at e
    · cases e
      exact ⟨v, rfl, q⟩
    · exact KVs.lookup w e
theorem ed_fld {a : Addr} {oe : Obj} {cls : Value} {d : Option Addr} {pn : List (Addr × Obj)} {e : Expr} {me : En → M Va} {n : Str} {cs : List Str} (F : ExF X.K X.mg cs n) (hz : Zc cls d oe) (hf : ∃ vs, oe.data = .fields vs)
    (he : ED (X.suite a ((a, oe) :: pn)) (some (a, cls, d)) W0 e me) (hb : attributeBase e n X.env (eval e X.env) = eval e X.env := by rfl) : ED (X.suite a ((a, oe) :: pn)) (some (a, cls, d)) W0 (.Attribute e n pos) (mFld cs n me) := by
  by_cases hcl : ∃ c ∈ cs, ∃ C, X.mg c = some (.ref C) ∧ cls = .ref C
  · obtain ⟨c0, hc0, C0, hC0, rfl⟩ := hcl
    obtain ⟨C, hC, T, hno⟩ := F c0 hc0
    rw [hC0] at hC
    cases hC
    refine ED.of (pe_xf T hno hz hf he hb) fun σ H Q μ st ρ ev sv hf => ⟨μ, st, ρ, ev, sv, Fin.map (fun va st1 μ1 H1 e1 s1 h1 v hv => ?_) (Fin.bind hf)⟩
    cases va with
    | val d => exact h1.elim
    | obj k => exact h1.elim
    | scr ns => exact h1.elim
    | exc c fs =>
      simp only [fldOf] at h1
      split at h1
      · rename_i z
        obtain ⟨a', cv, dx, e3, rfl, hc1, dd, ys, rfl, nd, hy, kv⟩ := hv
        cases e3
        cases el : fs.lookup n with
        | none => rw [el] at h1; exact h1.elim
        | some df =>
          rw [el] at h1
          obtain ⟨v, lv, dv⟩ := kv.lookup el
          exact ⟨rfl, rfl, dd, ys, v, rfl, hy, lv, Fin.pure s1 h1 v dv⟩
      · exact h1.elim
  · refine ED.of (t := fun σ H Q => tD (ks (X.suite a ((a, oe) :: pn)) (some (a, cls, d))) W0 me σ H fun _ _ => False) ⟨fun pins s σ H Q I h => attr_of hb (thn (L2.PE.run he pins s σ H _ I h) fun u s1 hh => ?_)⟩ fun σ H Q μ st ρ ev sv hf => ⟨μ, st, ρ, ev, sv, Fin.map (fun va st1 μ1 H1 e1 s1 h1 v hv => ?_) (Fin.bind hf)⟩
    · obtain ⟨_, _, _, _, z⟩ := hh
      exact z.elim
    · cases va with
      | val d => exact h1.elim
      | obj k => exact h1.elim
      | scr ns => exact h1.elim
      | exc c fs =>
        simp only [fldOf] at h1
        split at h1
        · rename_i z
          obtain ⟨a', cv, dx, e3, rfl, ⟨C, ec, hc1⟩, _⟩ := hv
          cases e3
          exact absurd ⟨c, z, C, hc1, ec⟩ hcl
        · exact h1.elim

end
end DL
end

section
set_option Elab.async false
set_option linter.all false
set_option maxRecDepth 100000
set_option maxHeartbeats 4000000
/-! isinstance over plain data. -/
namespace DL
open PySem PySem.Spec PyProof.Rows L2

inductive Ty where | int | bool | str | tuple | list
def Ty.n : Ty → String
  | .int => "int" | .bool => "bool" | .str => "str" | .tuple => "tuple" | .list => "list"
/-- isinstance of plain data -/
def isT : Ty → D → Option Bool
  | _, .glo _ => none
  | .int, .int _ => some true
  | .int, .bl _ => some true
  | .bool, .bl _ => some true
  | .str, .str _ => some true
  | .tuple, .tup _ => some true
  | .list, .lst _ => some true
  | _, _ => some false
def tyN : D → String
  | .non => "NoneType" | .bl _ => "bool" | .int _ => "int" | .str _ => "str" | .tup _ => "tuple" | .lst _ => "list" | .glo _ => ""
theorem isT_ok {K : PySem.W.Frag} {t : Ty} {d : D} {b : Bool} (h : isT t d = some b) : PySem.W.kitOne K (.type (tyN d)) (.type t.n) = some b := by
  cases d <;> cases t <;> simp only [isT] at h <;> first | (cases h; done) | (cases h; simp only [tyN, Ty.n]; exact kit_ty (by decide +kernel))
theorem tyX_dv {S : Ks} {μ : Mu} {H : Hp} {d : D} {v : V} (h : DV S μ H d v) (hg : ∀ g, d ≠ .glo g) : TyX S.K H v (.type (tyN d)) := by
  cases d with
  | non => simp only [DV] at h; subst h; exact .base .non
  | bl b => simp only [DV] at h; subst h; exact .base (.bl b)
  | int i => simp only [DV] at h; subst h; exact .base (.int i)
  | str x => simp only [DV] at h; subst h; exact .base (.str x)
  | tup ds =>
    simp only [DV] at h
    obtain ⟨a, xs, rfl, q, _⟩ := h
    rcases q with (q | ⟨o, q⟩) | ⟨o, its, n, q1, q2, _⟩
    · exact .base (.tup q)
    · exact .fTuple q
    · exact .kTuple q1 q2
  | lst ds =>
    simp only [DV] at h
    obtain ⟨a, xs, rfl, _, q, _⟩ := h
    rcases q with q | ⟨o, q⟩
    · exact .base (.lst q)
    · exact .base (.frz q)
  | glo g => exact absurd rfl (hg g)
def isVa (t : Ty) : Va → M Va
  | .val d => match isT t d with
    | some b => M.pure (.val (.bl b))
    | none => stuck
  | _ => stuck
def mIsV (t : Ty) (m : En → M Va) : En → M Va := fun ρ => M.bind (m ρ) (isVa t)
/-- a name that holds a class -/
structure ClsN (X : Cx) (y : Str) (c : V) (cv : Value) : Prop where
  pe : ∀ pos, PE X (.Name y pos) (tC c)
  cl : ClsV c cv
section
variable {X : Cx} {x : ExI} {W : WX} {pos p p2 : Pos} {e : Expr} {me : En → M Va} {y : Str} {c : V} {cv : Value}
theorem clsN_ty {n : String} (hm : X.mg y = none) (hv : bootBuiltins y = some (.type n)) (hg : Gl X y := by rfl) (hn : y ≠ "__name__" := by decide) (hd : (y == ("__debug__" : Str)) = false := by decide) : ClsN X y (.ty n) (.type n) :=
  ⟨fun pos => pe_bltn hg hm hv rfl hn hd, .ty n⟩
theorem clsN_own {C : Addr} (hm : X.mg y = some (.ref C)) (hg : Gl X y := by rfl) (hd : (y == ("__debug__" : Str)) = false := by decide) : ClsN X y (.ref C) (.ref C) :=
  ⟨fun pos => pe_glob hg hm rfl hd, .own C⟩
theorem ed_isV (t : Ty) (C : ClsN X y (.ty t.n) (.type t.n)) (hm : X.mg "isinstance" = none) (he : ED X x W e me) (hg : Gl X "isinstance" := by rfl)
    (h1 : starEach [e, .Name y p2] X.env = (false, eval e X.env) :: starEach [.Name y p2] X.env := by rfl) (h2 : starEach [.Name y p2] X.env = (false, eval (.Name y p2) X.env) :: starEach [] X.env := by rfl) (hpl : (backTo pos (starEach [.Name y p2] X.env)).any (·.1) = false := by rfl) :
    ED X x W (.Call (.Name "isinstance" p) [e, .Name y p2] [] pos) (mIsV t me) := by
  refine ED.of (pe_callB call_isi hg hm (PyProof.Rows.Boot.«isinstance») (pa_cons he (pa_cons (C.pe p2) pa_nil h2) h1) (by decide) (by decide) h1 hpl) fun σ H Q μ st ρ ev sv hf => ⟨μ, st, ρ, ev, sv, Fin.map (fun a st1 μ1 H1 e1 s1 h1 v hv => ?_) (Fin.bind hf)⟩
  cases a with
  | obj k => exact h1.elim
  | exc c fs => exact h1.elim
  | scr ns => exact h1.elim
  | val d =>
    simp only [isVa] at h1
    cases et : isT t d with
    | none => rw [et] at h1; exact h1.elim
    | some b =>
      rw [et] at h1
      have hg' : ∀ g, d ≠ .glo g := fun g z => by subst z; cases t <;> cases et
      exact ⟨v, .ty t.n, _, _, b, rfl, .ty t.n, tyX_dv (S := ks X x) hv hg', isT_ok et, Fin.pure s1 h1 _ (by simp only [AV, DV])⟩
/-! ### of a caught exception -/
def isEa (sub : Str → Str → Option Bool) (y : Str) : Va → M Va
  | .exc c _ => match sub c y with
    | some b => M.pure (.val (.bl b))
    | none => stuck
  | _ => stuck
def mIsE (sub : Str → Str → Option Bool) (y : Str) (m : En → M Va) : En → M Va := fun ρ => M.bind (m ρ) (isEa sub y)
theorem ed_isE {a : Addr} {oe : Obj} {cls : Value} {d : Option Addr} {sub : Str → Str → Option Bool} (C : ClsN X y c cv) (hm : X.mg "isinstance" = none) (hz : Zc cls d oe) (hf : ∃ vs, oe.data = .fields vs)
    (hk : ∀ c b C, sub c y = some b → X.mg c = some (.ref C) → PySem.W.kitOne X.K (.ref C) cv = some b ∧ ExcC X.K C)
    (he : ED X (some (a, cls, d)) W e me) (hpn : (a, oe) ∈ X.pn := by exact List.mem_cons_self) (hg : Gl X "isinstance" := by rfl)
    (h1 : starEach [e, .Name y p2] X.env = (false, eval e X.env) :: starEach [.Name y p2] X.env := by rfl) (h2 : starEach [.Name y p2] X.env = (false, eval (.Name y p2) X.env) :: starEach [] X.env := by rfl) (hpl : (backTo pos (starEach [.Name y p2] X.env)).any (·.1) = false := by rfl) :
    ED X (some (a, cls, d)) W (.Call (.Name "isinstance" p) [e, .Name y p2] [] pos) (mIsE sub y me) := by
  have hc : CallR X (.builtin "isinstance") (fun xs H Q => ∃ (b : Bool) (C : Addr) (dd : Addr) (ys : List (Str × V)), xs = [.ref a, c] ∧ cls = .ref C ∧ d = some dd ∧ H dd = some (.xd ys) ∧ PySem.W.kitOne X.K (.ref C) cv = some b ∧ ExcC X.K C ∧ Q (.bl b) H) := by
    intro pins s σ H xs us Q I r h
    obtain ⟨b, D, dd, ys, rfl, rfl, rfl, hx, e1, EC, q⟩ := h
    cases r with
    | cons rx rr =>
      cases rr with
      | cons rt rr =>
        cases rr
        cases rx
        have ec := C.cl.eq rt
        subst ec
        obtain ⟨hget, _⟩ := I.pin (a, oe) (List.mem_append.mpr (.inl hpn))
        obtain ⟨vs, hv⟩ := hf
        obtain ⟨mA, ⟨od, es, ep, ho, _⟩, _⟩ := I.hok dd _ hx
        have J : PySem.W.InstAt s.heap a oe D (some od) := ⟨hget, hz.1, by unfold PySem.W.notCls; rw [hv] <;> rfl, by rw [hz.2]; exact ho⟩
        have hcl : (PySem.W.clsIn X.K D).isSome = true := by
          obtain ⟨cd, hc, _⟩ := PySem.W.any_some EC.hd
          rw [hc]; rfl
        exact PySem.W.kia_one (PySem.W.kitx_exc hcl EC.hg EC.hk EC.hs EC.ha EC.hn EC.ht EC.hm) I.kIn J e1 (fun z => nomatch z) fun tk => ⟨.bl b, H, I.kept (t' := tk) fun _ _ z => z, rfl, q⟩
  refine ED.of (pe_callB hc hg hm (PyProof.Rows.Boot.«isinstance») (pa_cons he (pa_cons (C.pe p2) pa_nil h2) h1) (by decide) (by decide) h1 hpl) fun σ H Q μ st ρ ev sv hf => ⟨μ, st, ρ, ev, sv, Fin.map (fun va st1 μ1 H1 e1 s1 h1 v hv => ?_) (Fin.bind hf)⟩
  cases va with
  | obj k => exact h1.elim
  | val d => exact h1.elim
  | scr ns => exact h1.elim
  | exc c' fs =>
    simp only [isEa] at h1
    cases et : sub c' y with
    | none => rw [et] at h1; exact h1.elim
    | some b =>
      rw [et] at h1
      obtain ⟨a', cv', dx, e3, rfl, ⟨C', rfl, hc1⟩, dd, ys, rfl, nd, hy, kv⟩ := hv
      cases e3
      obtain ⟨k1, k2⟩ := hk c' b C' et hc1
      exact ⟨b, C', dd, ys, rfl, rfl, rfl, hy, k1, k2, Fin.pure s1 h1 _ (by simp only [AV, DV])⟩
end
end DL
end

section
set_option Elab.async false
set_option linter.all false
set_option maxRecDepth 100000
set_option maxHeartbeats 4000000
/-! Operators over plain data: equality, in, repr, arithmetic. -/
namespace DL
open PySem PySem.Spec PyProof.Rows L2

mutual
def py : D → PyData
  | .non => .none | .bl b => .bool b | .int i => .int i | .str x => .str x | .tup xs => .tuple (pys xs) | .lst xs => .list (pys xs) | .glo _ => .none
def pys : List D → List PyData
  | [] => []
  | d :: r => py d :: pys r
end
mutual
def okD : D → Bool
  | .non => true | .bl _ => true | .int _ => true | .str x => PyData.canLay0 (.str x) | .tup xs => okDs xs | .lst xs => okDs xs | .glo _ => false
def okDs : List D → Bool
  | [] => true
  | d :: r => okD d && okDs r
end
mutual
def depD : D → Nat
  | .tup xs => depDs xs + 1 | .lst xs => depDs xs + 1 | _ => 0
def depDs : List D → Nat
  | [] => 0
  | d :: r => max (depD d) (depDs r)
end
theorem pys_map : ∀ ds : List D, pys ds = ds.map py
  | [] => by simp [pys]
  | d :: r => by simp [pys, pys_map r]
mutual
theorem okD_lay : ∀ {d : D}, okD d = true → (py d).canLay0 = true
  | .non, h => by simp [py, PyData.canLay0]
  | .bl _, h => by simp [py, PyData.canLay0]
  | .int _, h => by simp [py, PyData.canLay0]
  | .str x, h => by simpa only [py, okD] using h
  | .tup xs, h => by simp only [py, PyData.canLay0]; exact okDs_lay (by simpa only [okD] using h)
  | .lst xs, h => by simp only [py, PyData.canLay0]; exact okDs_lay (by simpa only [okD] using h)
  | .glo _, h => by simp [okD] at h
theorem okDs_lay : ∀ {ds : List D}, okDs ds = true → PyData.canLayAll0 (pys ds) = true
  | [], h => by simp [pys, PyData.canLayAll0]
  | d :: r, h => by
    simp only [okDs, Bool.and_eq_true] at h
    simp only [pys, PyData.canLayAll0, okD_lay h.1, okDs_lay h.2, Bool.and_self]
end
mutual
theorem py_depth : ∀ d : D, (py d).depth = depD d
  | .non => by simp [py, PyData.depth, depD]
  | .bl _ => by simp [py, PyData.depth, depD]
  | .int _ => by simp [py, PyData.depth, depD]
  | .str _ => by simp [py, PyData.depth, depD]
  | .tup xs => by simp only [py, PyData.depth, depD, pys_depth xs]
  | .lst xs => by simp only [py, PyData.depth, depD, pys_depth xs]
  | .glo _ => by simp [py, PyData.depth, depD]
theorem pys_depth : ∀ ds : List D, PyData.depthAll (pys ds) = depDs ds
  | [] => by simp [pys, PyData.depthAll, depDs]
  | d :: r => by simp only [pys, PyData.depthAll, depDs, py_depth d, pys_depth r]
end
def shD (d : D) : Bool := okD d && decide (depD d ≤ 64)
theorem shD_shaped {d : D} (h : shD d = true) : SeqAt.shaped (py d) = true := by
  simp only [shD, Bool.and_eq_true, decide_eq_true_eq] at h
  simp only [SeqAt.shaped, okD_lay h.1, py_depth, h.2, decide_true, Bool.and_self]
section
variable {S : Ks} {μ : Mu} {H : Hp}
mutual
theorem dp_dv : ∀ {d : D} {v : V}, okD d = true → DV S μ H d v → Dp S.K H v (py d)
  | .non, v, h, q => by simp only [DV] at q; subst q; simp only [py]; exact .non
  | .bl b, v, h, q => by simp only [DV] at q; subst q; simp only [py]; exact .bl b
  | .int i, v, h, q => by simp only [DV] at q; subst q; simp only [py]; exact .int i
  | .str x, v, h, q => by simp only [DV] at q; subst q; simp only [py]; exact .str x
  | .tup xs, v, h, q => by
    simp only [DV] at q
    obtain ⟨a, ys, rfl, q1, q2⟩ := q
    simp only [py]
    exact .tup q1 (dp_dvs (by simpa only [okD] using h) q2)
  | .lst xs, v, h, q => by
    simp only [DV] at q
    obtain ⟨a, ys, rfl, _, q1, q2⟩ := q
    simp only [py]
    exact .lst (rd_sql q1) (dp_dvs (by simpa only [okD] using h) q2)
  | .glo _, v, h, q => by simp [okD] at h
theorem dp_dvs : ∀ {ds : List D} {vs : List V}, okDs ds = true → DVs S μ H ds vs → DpAll S.K H vs (pys ds)
  | [], vs, h, q => by simp only [DVs] at q; subst q; simp only [pys]; exact .nil
  | d :: r, vs, h, q => by
    simp only [DVs] at q
    obtain ⟨v, t, rfl, q1, q2⟩ := q
    simp only [okDs, Bool.and_eq_true] at h
    simp only [pys]
    exact .cons (dp_dv h.1 q1) (dp_dvs h.2 q2)
end
/-- the data that a value stands for at this moment -/
def deref (st : Sto) : Va → Option D
  | .val d => some d
  | .obj k => match st[k]? with
    | some (.lst ds) => some (.lst ds)
    | _ => none
  | _ => none
theorem deref_dp {st : Sto} {a : Va} {d : D} {v : V} (sv : SV S μ H st) (e : deref st a = some d) (h : AV S μ H a v) (ok : okD d = true) : Dp S.K H v (py d) := by
  cases a with
  | val d' => simp only [deref, Option.some.injEq] at e; subst e; exact dp_dv ok h
  | exc c fs => simp [deref] at e
  | scr ns => simp [deref] at e
  | obj k =>
    simp only [deref] at e
    split at e
    · rename_i ds hk
      cases e
      obtain ⟨p, rfl, _, _, xs, hx, dx⟩ := sv.at hk (fun z => nomatch z) h
      simp only [py]
      exact .lst (SqL.of hx) (dp_dvs (by simpa only [okD] using ok) dx)
    · cases e
/-- a list's or tuple's items -/
theorem deref_lst {st : Sto} {a : Va} {ds : List D} {v : V} (sv : SV S μ H st) (e : deref st a = some (.lst ds)) (h : AV S μ H a v) : ∃ p xs, v = .ref p ∧ SqL S.K H p xs ∧ Rd H p (.lst xs) ∧ DVs S μ H ds xs := by
  cases a with
  | val d' =>
    simp only [deref, Option.some.injEq] at e
    subst e
    simp only [AV, DV] at h
    obtain ⟨p, xs, e, _, q, r⟩ := h
    exact ⟨p, xs, e, rd_sql q, q, r⟩
  | exc c fs => simp [deref] at e
  | scr ns => simp [deref] at e
  | obj k =>
    simp only [deref] at e
    split at e
    · rename_i ds hk
      cases e
      obtain ⟨p, rfl, _, _, xs, hx, dx⟩ := sv.at hk (fun z => nomatch z) h
      exact ⟨p, xs, rfl, SqL.of hx, .inl hx, dx⟩
    · cases e
theorem deref_tup {st : Sto} {a : Va} {ds : List D} {v : V} (e : deref st a = some (.tup ds)) (h : AV S μ H a v) : ∃ p xs, v = .ref p ∧ SqT S.K H p xs ∧ DVs S μ H ds xs := by
  cases a with
  | val d' =>
    simp only [deref, Option.some.injEq] at e
    subst e
    simp only [AV, DV] at h
    exact h
  | exc c fs => simp [deref] at e
  | scr ns => simp [deref] at e
  | obj k =>
    simp only [deref] at e
    split at e <;> cases e
end
def opEq (a b : Va) : M Va := fun st => match deref st a, deref st b with
  | some x, some y => if shD x = true ∧ shD y = true then some (.ok (.val (.bl (PyData.eqv (py x) (py y)))), st) else none
  | _, _ => none
def opNe (a b : Va) : M Va := fun st => match deref st a, deref st b with
  | some x, some y => if shD x = true ∧ shD y = true then some (.ok (.val (.bl (!PyData.eqv (py x) (py y)))), st) else none
  | _, _ => none
theorem shD_ok {d : D} (h : shD d = true) : okD d = true := by
  simp only [shD, Bool.and_eq_true] at h
  exact h.1
section
variable {X : Cx} {x : ExI}
theorem opd_eq (hu : X.A.units + 64 < cLine) : OpD X x (compareOp .Eq) opEq := by
  refine OpD.of (op_eqD hu) fun E H μ st a b x1 y Q sv ha hb h hE => ?_
  unfold opEq at h
  split at h
  · rename_i d e hd he
    split at h
    · rename_i z
      exact ⟨py d, py e, deref_dp sv hd ha (shD_ok z.1), deref_dp sv he hb (shD_ok z.2), shD_shaped z.1, shD_shaped z.2, h μ H (Ev.refl _ _) sv _ (by simp only [AV, DV])⟩
    · exact h.elim
  · exact h.elim
theorem opd_ne (hu : X.A.units + 64 < cLine) : OpD X x (compareOp .NotEq) opNe := by
  refine OpD.of (op_neD hu) fun E H μ st a b x1 y Q sv ha hb h hE => ?_
  unfold opNe at h
  split at h
  · rename_i d e hd he
    split at h
    · rename_i z
      exact ⟨py d, py e, deref_dp sv hd ha (shD_ok z.1), deref_dp sv he hb (shD_ok z.2), shD_shaped z.1, shD_shaped z.2, h μ H (Ev.refl _ _) sv _ (by simp only [AV, DV])⟩
    · exact h.elim
  · exact h.elim
/-! ### in, not in -/
def inD (d : D) (ds : List D) : Bool := ds.any fun z => PyData.eqv (py z) (py d)
def rInT (K : PySem.W.Frag) : R2 := fun x y H Q => ∃ d ds, Dp K H x d ∧ Dp K H y (.tuple ds) ∧ SeqAt.shaped d = true ∧ SeqAt.shaped (.tuple ds) = true ∧ Q (.bl (ds.any fun z => PyData.eqv z d)) H
def rNotInT (K : PySem.W.Frag) : R2 := fun x y H Q => ∃ d ds, Dp K H x d ∧ Dp K H y (.tuple ds) ∧ SeqAt.shaped d = true ∧ SeqAt.shaped (.tuple ds) = true ∧ Q (.bl (!ds.any fun z => PyData.eqv z d)) H
theorem room_in {A : Around} {d : PyData} {ds : List PyData} (hu : A.units + 65 < cLine) (hs : SeqAt.shaped d = true) : A.units + 1 + min (PyData.depthAll ds) d.depth < cLine := by
  have h1 := SeqAt.depth_of_shaped hs
  have h2 := Nat.min_le_right (PyData.depthAll ds) d.depth
  omega
theorem op_inT (hu : X.A.units + 65 < cLine) : OpR X (compareOp .In) (rInT X.K) := by
  intro pins s σ H x y v u Q I rx ry h
  obtain ⟨d, ds, hd, he, sd, se, q⟩ := h
  obtain ⟨as, r1⟩ := Dp.reads I d x v hd rx
  obtain ⟨bs, r2⟩ := Dp.reads I (.tuple ds) y u he ry
  exact SeqAt.in_tuple_reads r2 r1 (by have := SeqAt.canLay_of_shaped se; simpa only [PyData.canLay0] using this) (SeqAt.canLay_of_shaped sd) (room_in hu sd) ⟨.bl _, H, I, rfl, q⟩
theorem op_notInT (hu : X.A.units + 65 < cLine) : OpR X (compareOp .NotIn) (rNotInT X.K) := by
  intro pins s σ H x y v u Q I rx ry h
  obtain ⟨d, ds, hd, he, sd, se, q⟩ := h
  obtain ⟨as, r1⟩ := Dp.reads I d x v hd rx
  obtain ⟨bs, r2⟩ := Dp.reads I (.tuple ds) y u he ry
  exact SeqAt.notIn_tuple_reads r2 r1 (by have := SeqAt.canLay_of_shaped se; simpa only [PyData.canLay0] using this) (SeqAt.canLay_of_shaped sd) (room_in hu sd) ⟨.bl _, H, I, rfl, q⟩
def opIn (a b : Va) : M Va := fun st => match deref st a, deref st b with
  | some d, some (.lst ds) => if shD d = true ∧ shD (.lst ds) = true then some (.ok (.val (.bl (inD d ds))), st) else none
  | some d, some (.tup ds) => if shD d = true ∧ shD (.tup ds) = true then some (.ok (.val (.bl (inD d ds))), st) else none
  | _, _ => none
def opNotIn (a b : Va) : M Va := fun st => match deref st a, deref st b with
  | some d, some (.lst ds) => if shD d = true ∧ shD (.lst ds) = true then some (.ok (.val (.bl (!inD d ds))), st) else none
  | some d, some (.tup ds) => if shD d = true ∧ shD (.tup ds) = true then some (.ok (.val (.bl (!inD d ds))), st) else none
  | _, _ => none
theorem any_pys (d : D) : ∀ ds : List D, ((pys ds).any fun z => PyData.eqv z (py d)) = inD d ds := fun ds => by
  rw [pys_map, List.any_map]; rfl
theorem opd_in (hu : X.A.units + 65 < cLine) : OpD X x (compareOp .In) opIn := by
  refine OpD.of ((op_inD hu).or (op_inT hu)) fun E H μ st a b x1 y Q sv ha hb h hE => ?_
  unfold opIn at h
  split at h
  · rename_i d ds hd he
    split at h
    · rename_i z
      have q := deref_dp sv he hb (shD_ok z.2)
      have s2 := shD_shaped z.2
      simp only [py] at q s2
      exact .inl ⟨py d, pys ds, deref_dp sv hd ha (shD_ok z.1), q, shD_shaped z.1, s2, by rw [any_pys]; exact h μ H (Ev.refl _ _) sv _ (by simp only [AV, DV])⟩
    · exact h.elim
  · rename_i d ds hd he
    split at h
    · rename_i z
      have q := deref_dp sv he hb (shD_ok z.2)
      have s2 := shD_shaped z.2
      simp only [py] at q s2
      exact .inr ⟨py d, pys ds, deref_dp sv hd ha (shD_ok z.1), q, shD_shaped z.1, s2, by rw [any_pys]; exact h μ H (Ev.refl _ _) sv _ (by simp only [AV, DV])⟩
    · exact h.elim
  · exact h.elim
theorem opd_notIn (hu : X.A.units + 65 < cLine) : OpD X x (compareOp .NotIn) opNotIn := by
  refine OpD.of ((op_notInD hu).or (op_notInT hu)) fun E H μ st a b x1 y Q sv ha hb h hE => ?_
  unfold opNotIn at h
  split at h
  · rename_i d ds hd he
    split at h
    · rename_i z
      have q := deref_dp sv he hb (shD_ok z.2)
      have s2 := shD_shaped z.2
      simp only [py] at q s2
      exact .inl ⟨py d, pys ds, deref_dp sv hd ha (shD_ok z.1), q, shD_shaped z.1, s2, by rw [any_pys]; exact h μ H (Ev.refl _ _) sv _ (by simp only [AV, DV])⟩
    · exact h.elim
  · rename_i d ds hd he
    split at h
    · rename_i z
      have q := deref_dp sv he hb (shD_ok z.2)
      have s2 := shD_shaped z.2
      simp only [py] at q s2
      exact .inr ⟨py d, pys ds, deref_dp sv hd ha (shD_ok z.1), q, shD_shaped z.1, s2, by rw [any_pys]; exact h μ H (Ev.refl _ _) sv _ (by simp only [AV, DV])⟩
    · exact h.elim
  · exact h.elim
/-- is None, is not None -/
def isNonA : Va → Option Bool
  | .val .non => some true
  | .exc _ _ => none
  | .scr _ => none
  | _ => some false
def opIsN (a b : Va) : M Va := match b with
  | .val .non => match isNonA a with
    | some t => M.pure (.val (.bl t))
    | none => stuck
  | _ => stuck
def opNotN (a b : Va) : M Va := match b with
  | .val .non => match isNonA a with
    | some t => M.pure (.val (.bl (!t)))
    | none => stuck
  | _ => stuck
theorem isN_dec {S : Ks} {μ : Mu} {H : Hp} {a : Va} {v : V} {t : Bool} (h : AV S μ H a v) (e : isNonA a = some t) : decide (v = .non) = t := by
  cases a with
  | exc c fs => cases e
  | scr ns => cases e
  | obj k => obtain ⟨p, rfl, _⟩ := h; cases e; simp
  | val d =>
    cases d with
    | non => simp only [AV, DV] at h; subst h; cases e; simp
    | bl b => simp only [AV, DV] at h; subst h; cases e; simp
    | int b => simp only [AV, DV] at h; subst h; cases e; simp
    | str b => simp only [AV, DV] at h; subst h; cases e; simp
    | tup b => simp only [AV, DV] at h; obtain ⟨p, _, rfl, _⟩ := h; cases e; simp
    | lst b => simp only [AV, DV] at h; obtain ⟨p, _, rfl, _⟩ := h; cases e; simp
    | glo b => simp only [AV, DV] at h; obtain ⟨p, rfl, _⟩ := h; cases e; simp
theorem opd_isN : OpD X x (compareOp .Is) opIsN := by
  refine OpD.of op_isN fun E H μ st a b x1 y Q sv ha hb h hE => ?_
  unfold opIsN at h
  split at h
  · simp only [AV, DV] at hb
    refine ⟨hb, ?_⟩
    cases e : isNonA a with
    | none => simp only [e] at h; exact h.elim
    | some t =>
      simp only [e] at h
      rw [isN_dec ha e]
      exact Fin.pure sv h _ (by simp only [AV, DV])
  · exact h.elim
theorem opd_notN : OpD X x (compareOp .IsNot) opNotN := by
  refine OpD.of op_notN fun E H μ st a b x1 y Q sv ha hb h hE => ?_
  unfold opNotN at h
  split at h
  · simp only [AV, DV] at hb
    refine ⟨hb, ?_⟩
    cases e : isNonA a with
    | none => simp only [e] at h; exact h.elim
    | some t =>
      simp only [e] at h
      rw [isN_dec ha e]
      exact Fin.pure sv h _ (by simp only [AV, DV])
  · exact h.elim
/-! ### ints -/
def iiI (f : Int → Int → Int) (a b : Va) : M Va := match a, b with
  | .val (.int i), .val (.int j) => M.pure (.val (.int (f i j)))
  | _, _ => stuck
def iiB (f : Int → Int → Bool) (a b : Va) : M Va := match a, b with
  | .val (.int i), .val (.int j) => M.pure (.val (.bl (f i j)))
  | _, _ => stuck
theorem av_i {S : Ks} {μ : Mu} {H : Hp} {i : Int} {v : V} (h : AV S μ H (.val (.int i)) v) : v = .int i := by simpa only [AV, DV] using h
theorem av_s {S : Ks} {μ : Mu} {H : Hp} {i : Str} {v : V} (h : AV S μ H (.val (.str i)) v) : v = .str i := by simpa only [AV, DV] using h
theorem av_b {S : Ks} {μ : Mu} {H : Hp} {i : Bool} {v : V} (h : AV S μ H (.val (.bl i)) v) : v = .bl i := by simpa only [AV, DV] using h
theorem opd_iiB {f : Value → Value → Sem Value} {p : Int → Int → Bool} (h : OpR X f (rI0 fun i j => .bl (p i j))) : OpD X x f (iiB p) := by
  refine OpD.of h fun E H μ st a b x1 y Q sv ha hb h hE => ?_
  unfold iiB at h
  split at h
  · exact ⟨_, _, av_i ha, av_i hb, Fin.pure sv h _ (by simp only [AV, DV])⟩
  · exact h.elim
theorem opd_lt : OpD X x (compareOp .Lt) (iiB fun i j => decide (i < j)) := opd_iiB op_lt
theorem opd_le : OpD X x (compareOp .LtE) (iiB fun i j => decide (i ≤ j)) := opd_iiB op_le
theorem opd_gt : OpD X x (compareOp .Gt) (iiB fun i j => decide (j < i)) := opd_iiB op_gt
theorem opd_ge : OpD X x (compareOp .GtE) (iiB fun i j => decide (j ≤ i)) := opd_iiB op_ge
theorem opd_subI : OpD X x (binaryOp .Sub) (iiI fun i j => i - j) := by
  refine OpD.of op_sub fun E H μ st a b x1 y Q sv ha hb h hE => ?_
  unfold iiI at h
  split at h
  · exact ⟨_, _, av_i ha, av_i hb, Fin.pure sv h _ (by simp only [AV, DV])⟩
  · exact h.elim
/-- a factor below 2^64 -/
def smallF (i j : Int) : Bool := decide ((-(2 ^ 64) < i ∧ i < 2 ^ 64) ∨ (-(2 ^ 64) < j ∧ j < 2 ^ 64))
def opFdiv (a b : Va) : M Va := match a, b with
  | .val (.int i), .val (.int j) => if 0 < j ∧ j < 1073741824 then M.pure (.val (.int (i / j))) else stuck
  | _, _ => stuck
theorem opd_fdiv : OpD X x (binaryOp .FloorDiv) opFdiv := by
  refine OpD.of op_fdiv fun E H μ st a b x1 y Q sv ha hb h hE => ?_
  unfold opFdiv at h
  split at h
  · split at h
    · rename_i z
      exact ⟨_, _, av_i ha, av_i hb, z, Fin.pure sv h _ (by simp only [AV, DV])⟩
    · exact h.elim
  · exact h.elim
def opMod (a b : Va) : M Va := match a, b with
  | .val (.int i), .val (.int j) => if 0 < j then M.pure (.val (.int (i % j))) else stuck
  | _, _ => stuck
theorem opd_mod : OpD X x (binaryOp .Mod) opMod := by
  refine OpD.of op_mod fun E H μ st a b x1 y Q sv ha hb h hE => ?_
  unfold opMod at h
  split at h
  · split at h
    · rename_i z
      exact ⟨_, _, av_i ha, av_i hb, z, Fin.pure sv h _ (by simp only [AV, DV])⟩
    · exact h.elim
  · exact h.elim
def opPow (a b : Va) : M Va := match a, b with
  | .val (.int i), .val (.int j) => if 0 ≤ j ∧ j ≤ 1000000 ∧ i.natAbs < 2 ^ 64 then M.pure (.val (.int (i ^ j.toNat))) else stuck
  | _, _ => stuck
theorem opd_pow : OpD X x (binaryOp .Pow) opPow := by
  refine OpD.of op_pow fun E H μ st a b x1 y Q sv ha hb h hE => ?_
  unfold opPow at h
  split at h
  · split at h
    · rename_i z
      exact ⟨_, _, av_i ha, av_i hb, z, Fin.pure sv h _ (by simp only [AV, DV])⟩
    · exact h.elim
  · exact h.elim
/-! ### + -/
theorem lstR {pins : List (Addr × Obj)} {σ : L2.St} {H : Hp} {s : Shared} {l : Addr} {xs : List V} (I : L2.Inv X pins σ H s) (h : Rd H l (.lst xs)) : xs.length ≤ sizeLine ∧ ∃ (its : List Value) (n : Nat), Vals xs its ∧ xs.length = its.length ∧ s.heap.get? l = some { cls := .type "list", data := .seq its.toArray n } := by
  have q := h.ok I.hok
  obtain ⟨z, its, n, r, e⟩ := q
  exact ⟨z, its, n, r, Paired.length r, e⟩
def rCatL : R2 := fun x y H Q => ∃ l b xs zs, x = .ref l ∧ y = .ref b ∧ Rd H l (.lst xs) ∧ Rd H b (.lst zs) ∧ xs.length + zs.length ≤ sizeLine ∧ ∀ p, H p = none → Q (.ref p) (upd H p (.lst (xs ++ zs)))
theorem op_catL : OpR X (binaryOp .Add) rCatL := by
  intro pins s σ H x y v u Q I rx ry h
  obtain ⟨l, b, xs, zs, rfl, rfl, hH, hB, hz, q⟩ := h
  cases rx
  cases ry
  obtain ⟨z, its, n, r, hl, e⟩ := lstR I hH
  obtain ⟨z2, its2, n2, r2, hl2, e2⟩ := lstR I hB
  refine PySem.P.add_list e e2 ?_ (by rw [List.size_toArray, List.size_toArray]; omega)
  have ea : its.toArray ++ its2.toArray = (its ++ its2).toArray := by simp
  rw [ea]
  exact ⟨.ref _, _, I.lnew (t' := s.toks) (r.append r2) (by rw [List.length_append]; omega), rfl, q _ I.fresh⟩
def opAdd (a b : Va) : M Va := fun st => match a, b with
  | .val (.int i), .val (.int j) => some (.ok (.val (.int (i + j))), st)
  | .val (.str i), .val (.str j) => if i.length + j.length ≤ sizeLine then some (.ok (.val (.str (i ++ j))), st) else none
  | .val (.tup xs), .val (.tup ys) => if xs.length + ys.length ≤ sizeLine then some (.ok (.val (.tup (xs ++ ys))), st) else none
  | a, b => match deref st a, deref st b with
    | some (.lst xs), some (.lst ys) => if xs.length + ys.length ≤ sizeLine then some (.ok (.val (.lst (xs ++ ys))), st) else none
    | _, _ => none
theorem opd_add : OpD X x (binaryOp .Add) opAdd := by
  refine OpD.of (op_add.or (op_add_str.or (op_catA.or op_catL))) fun E H μ st a b x1 y Q sv ha hb h hE => ?_
  unfold opAdd at h
  split at h
  · exact .inl ⟨_, _, av_i ha, av_i hb, h μ H (Ev.refl _ _) sv _ (by simp only [AV, DV])⟩
  · split at h
    · rename_i z
      exact .inr (.inl ⟨_, _, av_s ha, av_s hb, z, h μ H (Ev.refl _ _) sv _ (by simp only [AV, DV])⟩)
    · exact h.elim
  · rename_i xs ys
    split at h
    · rename_i z
      simp only [AV, DV] at ha hb
      obtain ⟨p, us, rfl, q1, r1⟩ := ha
      obtain ⟨q, ws, rfl, q2, r2⟩ := hb
      refine .inr (.inr (.inl ⟨p, q, us, ws, rfl, rfl, q1, q2, by rw [r1.length, r2.length]; exact z, fun e => ?_, fun _ e => ?_, fun _ _ l hl => ?_⟩))
      · have e1 : xs = [] := by have := r1.length; rw [e] at this; exact List.length_eq_zero_iff.mp this.symm
        subst e1
        exact h μ H (Ev.refl _ _) sv _ (by simp only [AV, DV]; exact ⟨q, ws, rfl, q2, r2⟩)
      · have e1 : ys = [] := by have := r2.length; rw [e] at this; exact List.length_eq_zero_iff.mp this.symm
        subst e1
        rw [List.append_nil] at h
        exact h μ H (Ev.refl _ _) sv _ (by simp only [AV, DV]; exact ⟨p, us, rfl, q1, r1⟩)
      · exact h μ _ (Ev.made hl) (sv.made hl) _ (by simp only [AV, DV]; exact ⟨l, _, rfl, SqT.of upd_same, DVs.go (Ev.made hl) _ (r1.append r2)⟩)
    · exact h.elim
  · split at h
    · rename_i xs ys hd he
      split at h
      · rename_i z
        obtain ⟨p, us, rfl, _, q1, r1⟩ := deref_lst sv hd ha
        obtain ⟨q, ws, rfl, _, q2, r2⟩ := deref_lst sv he hb
        refine .inr (.inr (.inr ⟨p, q, us, ws, rfl, rfl, q1, q2, by rw [r1.length, r2.length]; exact z, fun l hl => ?_⟩))
        exact h μ _ (Ev.made hl) (sv.made hl) _ (by simp only [AV, DV]; exact ⟨l, _, rfl, sv.out hl, .inl upd_same, DVs.go (Ev.made hl) _ (r1.append r2)⟩)
      · exact h.elim
    · exact h.elim
end
end DL
end

section
set_option Elab.async false
set_option linter.all false
set_option maxRecDepth 100000
set_option maxHeartbeats 4000000
/-! Calls of built-ins, subscripts, slices, append, stores over plain data. -/
namespace DL
open PySem PySem.Spec PyProof.Rows L2

def CallD (X : Cx) (x : ExI) (f : Value) (g : List Va → M Va) : Prop :=
  CallR X f fun vs H Q => ∃ μ st as, SV (ks X x) μ H st ∧ AVs (ks X x) μ H as vs ∧ Fin (ks X x) (fun _ _ _ => False) μ H (fun d _ μ' H' => ∀ v, AV (ks X x) μ' H' d v → Q v H') (g as st)
theorem CallD.of {X : Cx} {x : ExI} {f : Value} {g : List Va → M Va} {r : List V → Hp → VK → Prop} (h : CallR X f r)
    (k : ∀ (H : Hp) (μ : Mu) (st : Sto) (as : List Va) (vs : List V) (Q : VK), SV (ks X x) μ H st → AVs (ks X x) μ H as vs → Fin (ks X x) (fun _ _ _ => False) μ H (fun d _ μ' H' => ∀ v, AV (ks X x) μ' H' d v → Q v H') (g as st) → r vs H Q) : CallD X x f g :=
  fun pins s σ H xs us Q I r ⟨μ, st, as, sv, av, h1⟩ => h pins s σ H xs us Q I r (k H μ st as xs Q sv av h1)
def mBlt (g : List Va → M Va) (m : En → M (List Va)) : En → M Va := fun ρ => M.bind (m ρ) fun as => calm (g as)
section
variable {X : Cx} {x : ExI} {W : WX} {pos p p2 : Pos} {e : Expr} {es : List Expr} {m : En → M (List Va)} {y : Str} {g : List Va → M Va} {bid T : String}
theorem ed_blt (C : CallD X x (.builtin bid) g) (hm : X.mg y = none) (hv : bootBuiltins y = some (.builtin bid)) (ha : AD X x W (e :: es) m) (hg : Gl X y := by rfl) (hn : y ≠ "__name__" := by decide) (hdb : (y == ("__debug__" : Str)) = false := by decide)
    (he : starEach (e :: es) X.env = (false, eval e X.env) :: starEach es X.env := by rfl) (hpl : (backTo pos (starEach es X.env)).any (·.1) = false := by rfl) : ED X x W (.Call (.Name y p) (e :: es) [] pos) (mBlt g m) :=
  ED.of (pe_callB C hg hm hv ha hn hdb he hpl) fun σ H Q μ st ρ ev sv hf => ⟨μ, st, ρ, ev, sv, Fin.map (fun as st1 μ1 H1 e1 s1 h1 vs hv => ⟨μ1, st1, as, s1, hv, Fin.calm h1⟩) (Fin.bind hf)⟩
theorem ed_ty (C : CallD X x (.type T) g) (hm : X.mg y = none) (hv : bootBuiltins y = some (.type T)) (ha : AD X x W (e :: es) m) (hg : Gl X y := by rfl) (hn : y ≠ "__name__" := by decide) (hdb : (y == ("__debug__" : Str)) = false := by decide)
    (he : starEach (e :: es) X.env = (false, eval e X.env) :: starEach es X.env := by rfl) (hpl : (backTo pos (starEach es X.env)).any (·.1) = false := by rfl) : ED X x W (.Call (.Name y p) (e :: es) [] pos) (mBlt g m) :=
  ED.of (pe_callTy C hg hm hv ha hn hdb he hpl) fun σ H Q μ st ρ ev sv hf => ⟨μ, st, ρ, ev, sv, Fin.map (fun as st1 μ1 H1 e1 s1 h1 vs hv => ⟨μ1, st1, as, s1, hv, Fin.calm h1⟩) (Fin.bind hf)⟩
/-! ### repr of a list, a tuple -/
def isSeqD : D → Bool
  | .tup _ => true
  | .lst _ => true
  | _ => false
def okR (d : D) : Bool := shD d && isSeqD d && (py d).showable && decide ((py d).shown.length ≤ sizeLine)
def bRepr  (as : List Va) : M Va := fun st => match as with
  | [a] => (match deref st a with
    | some d => if okR d = true then some (.ok (.val (.str (py d).shown)), st) else none
    | none => none)
  | _ => none
mutual
theorem noDict : ∀ d : D, (py d).hasDict = false
  | .non => by simp [py, PyData.hasDict]
  | .bl _ => by simp [py, PyData.hasDict]
  | .int _ => by simp [py, PyData.hasDict]
  | .str _ => by simp [py, PyData.hasDict]
  | .tup xs => by simp only [py, PyData.hasDict, noDicts xs]
  | .lst xs => by simp only [py, PyData.hasDict, noDicts xs]
  | .glo _ => by simp [py, PyData.hasDict]
theorem noDicts : ∀ ds : List D, PyData.hasDictAll (pys ds) = false
  | [] => by simp [pys, PyData.hasDictAll]
  | d :: r => by simp only [pys, PyData.hasDictAll, noDict d, noDicts r, Bool.or_self]
end
theorem call_reprD (hG : X.A.guards = some []) (hu : X.A.units + 66 < cLine) : CallR X (.builtin "repr") (fun xs H Q => ∃ (v : V) (d : D), xs = [v] ∧ Dp X.K H v (py d) ∧ okR d = true ∧ Q (.str (py d).shown) H) := by
  intro pins s σ H xs us Q I r h
  obtain ⟨v, d, rfl, hd, ok, q⟩ := h
  simp only [okR, Bool.and_eq_true, decide_eq_true_eq] at ok
  obtain ⟨⟨⟨h1, h2⟩, h3⟩, h4⟩ := ok
  cases r with
  | cons rv rr =>
    cases rr
    rename_i u
    obtain ⟨as, rd⟩ := Dp.reads I (py d) v u hd rv
    have hdep := SeqAt.depth_of_shaped (shD_shaped h1)
    obtain ⟨a, rfl⟩ : ∃ a, u = Value.ref a := by
      cases d with
      | tup ds => simp only [py] at rd; cases rd; exact ⟨_, rfl⟩
      | lst ds => simp only [py] at rd; cases rd; exact ⟨_, rfl⟩
      | non | bl | int | str | glo => cases h2
    exact repr_of_reads' rd h3 (fun z => by rw [noDict] at z; cases z) hG (by omega) (fun _ _ e => e) (fun h' u tk hk => ⟨.str (py d).shown, H, I.kept (t' := tk) hk, ⟨u, rfl⟩, q⟩) h4
theorem cd_repr (hG : X.A.guards = some []) (hu : X.A.units + 66 < cLine) : CallD X x (.builtin "repr") bRepr := by
  refine CallD.of (call_reprD hG hu) fun H μ st as vs Q sv av h => ?_
  unfold bRepr at h
  split at h
  · rename_i a
    obtain ⟨v, r, rfl, q1, q2⟩ := avs_cons av
    have := avs_nil q2
    subst this
    split at h
    · rename_i d hd
      split at h
      · rename_i z
        have ok : okD d = true := by
          simp only [okR, Bool.and_eq_true] at z
          exact shD_ok z.1.1.1
        exact ⟨v, d, rfl, deref_dp sv hd q1 ok, z, h μ H (Ev.refl _ _) sv _ (by simp only [AV, DV])⟩
      · exact h.elim
    · exact h.elim
  · exact h.elim
/-! ### len, abs, int, min, max -/
def bLen  (as : List Va) : M Va := fun st => match as with
  | [a] => (match deref st a with
    | some (.lst ds) => some (.ok (.val (.int ds.length)), st)
    | some (.tup ds) => some (.ok (.val (.int ds.length)), st)
    | some (.str z) => if z.length ≤ sizeLine then some (.ok (.val (.int z.length)), st) else none
    | _ => none)
  | _ => none
theorem deref_str {S : Ks} {μ : Mu} {H : Hp} {st : Sto} {a : Va} {z : Str} {v : V} (e : deref st a = some (.str z)) (h : AV S μ H a v) : v = .str z := by
  cases a with
  | val d' =>
    simp only [deref, Option.some.injEq] at e
    subst e
    exact av_s h
  | exc c fs => simp [deref] at e
  | scr ns => simp [deref] at e
  | obj k =>
    simp only [deref] at e
    split at e <;> cases e
theorem cd_len : CallD X x (.builtin "len") bLen := by
  refine CallD.of call_len fun H μ st as vs Q sv av h => ?_
  unfold bLen at h
  split at h
  · rename_i a
    obtain ⟨v, r, rfl, q1, q2⟩ := avs_cons av
    have := avs_nil q2
    subst this
    split at h
    · rename_i ds hd
      obtain ⟨q, xs, rfl, c, _, dx⟩ := deref_lst sv hd q1
      exact ⟨_, ds.length, rfl, .inl ⟨xs, c, dx.length.symm⟩, h μ H (Ev.refl _ _) sv _ (by simp only [AV, DV])⟩
    · rename_i ds hd
      obtain ⟨q, xs, rfl, c, dx⟩ := deref_tup hd q1
      exact ⟨_, ds.length, rfl, .inr ⟨xs, c, dx.length.symm⟩, h μ H (Ev.refl _ _) sv _ (by simp only [AV, DV])⟩
    · rename_i z hd
      have := deref_str hd q1
      subst this
      split at h
      · rename_i zl
        exact ⟨_, z.length, rfl, ⟨zl, rfl⟩, h μ H (Ev.refl _ _) sv _ (by simp only [AV, DV])⟩
      · exact h.elim
    · exact h.elim
  · exact h.elim
def bAbs : List Va → M Va
  | [.val (.int i)] => M.pure (.val (.int (if i < 0 then -i else i)))
  | _ => stuck
theorem cd_abs : CallD X x (.builtin "abs") bAbs := by
  refine CallD.of call_abs fun H μ st as vs Q sv av h => ?_
  unfold bAbs at h
  split at h
  · obtain ⟨v, r, rfl, q1, q2⟩ := avs_cons av
    have := avs_nil q2
    have := av_i q1
    subst_vars
    exact ⟨_, rfl, Fin.pure sv h _ (by simp only [AV, DV])⟩
  · exact h.elim
def bInt : List Va → M Va
  | [.val (.int i)] => M.pure (.val (.int i))
  | [.val (.bl b)] => M.pure (.val (.int (if b then 1 else 0)))
  | _ => stuck
theorem cd_int : CallD X x (.type "int") bInt := by
  refine CallD.of call_int1 fun H μ st as vs Q sv av h => ?_
  unfold bInt at h
  split at h
  · obtain ⟨v, r, rfl, q1, q2⟩ := avs_cons av
    have := avs_nil q2
    have := av_i q1
    subst_vars
    exact .inl ⟨_, rfl, Fin.pure sv h _ (by simp only [AV, DV])⟩
  · obtain ⟨v, r, rfl, q1, q2⟩ := avs_cons av
    have := avs_nil q2
    have := av_b q1
    subst_vars
    exact .inr ⟨_, rfl, Fin.pure sv h _ (by simp only [AV, DV])⟩
  · exact h.elim
def bMax2 : List Va → M Va
  | [.val (.int i), .val (.int j)] => M.pure (.val (.int (if j > i then j else i)))
  | _ => stuck
def bMin2 : List Va → M Va
  | [.val (.int i), .val (.int j)] => M.pure (.val (.int (if j < i then j else i)))
  | _ => stuck
theorem cd_max2 (hc : X.calm = true) : CallD X x (.builtin "max") bMax2 := by
  refine CallD.of (call_max2 hc) fun H μ st as vs Q sv av h => ?_
  unfold bMax2 at h
  split at h
  · obtain ⟨v, r, rfl, q1, q2⟩ := avs_cons av
    obtain ⟨v2, r, rfl, q3, q4⟩ := avs_cons q2
    have := avs_nil q4
    have := av_i q1
    have := av_i q3
    subst_vars
    exact ⟨_, _, rfl, Fin.pure sv h _ (by simp only [AV, DV])⟩
  · exact h.elim
theorem cd_min2 (hc : X.calm = true) : CallD X x (.builtin "min") bMin2 := by
  refine CallD.of (call_min2 hc) fun H μ st as vs Q sv av h => ?_
  unfold bMin2 at h
  split at h
  · obtain ⟨v, r, rfl, q1, q2⟩ := avs_cons av
    obtain ⟨v2, r, rfl, q3, q4⟩ := avs_cons q2
    have := avs_nil q4
    have := av_i q1
    have := av_i q3
    subst_vars
    exact ⟨_, _, rfl, Fin.pure sv h _ (by simp only [AV, DV])⟩
  · exact h.elim
/-! ### sum, any, all of lists -/
def intsOf : List D → Option (List Int)
  | [] => some []
  | .int i :: r => (intsOf r).map (i :: ·)
  | _ :: _ => none
def blsOf : List D → Option (List Bool)
  | [] => some []
  | .bl i :: r => (blsOf r).map (i :: ·)
  | _ :: _ => none
theorem intsOf_ok {S : Ks} {μ : Mu} {H : Hp} : ∀ {ds : List D} {ns : List Int} {xs : List V}, intsOf ds = some ns → DVs S μ H ds xs → xs = ns.map V.int
  | [], ns, xs, e, h => by simp only [DVs] at h; subst h; cases e; rfl
  | d :: r, ns, xs, e, h => by
    cases d with
    | int i =>
      simp only [DVs, DV] at h
      obtain ⟨v, t, rfl, rfl, w⟩ := h
      simp only [intsOf] at e
      cases er : intsOf r with
      | none => rw [er] at e; cases e
      | some ns' => rw [er] at e; cases e; rw [intsOf_ok er w]; rfl
    | non | bl | str | tup | lst | glo => cases e
theorem blsOf_ok {S : Ks} {μ : Mu} {H : Hp} : ∀ {ds : List D} {ns : List Bool} {xs : List V}, blsOf ds = some ns → DVs S μ H ds xs → xs = ns.map V.bl
  | [], ns, xs, e, h => by simp only [DVs] at h; subst h; cases e; rfl
  | d :: r, ns, xs, e, h => by
    cases d with
    | bl i =>
      simp only [DVs, DV] at h
      obtain ⟨v, t, rfl, rfl, w⟩ := h
      simp only [blsOf] at e
      cases er : blsOf r with
      | none => rw [er] at e; cases e
      | some ns' => rw [er] at e; cases e; rw [blsOf_ok er w]; rfl
    | non | int | str | tup | lst | glo => cases e
def bSum  (as : List Va) : M Va := fun st => match as with
  | [a] => (match deref st a with
    | some (.lst ds) => match intsOf ds with
      | some ns => some (.ok (.val (.int ns.sum)), st)
      | none => none
    | _ => none)
  | _ => none
theorem cd_sum (hc : X.calm = true) : CallD X x (.builtin "sum") bSum := by
  refine CallD.of (cr_sum hc) fun H μ st as vs Q sv av h => ?_
  unfold bSum at h
  split at h
  · obtain ⟨v, r, rfl, q1, q2⟩ := avs_cons av
    have := avs_nil q2
    subst this
    split at h
    · rename_i ds hd
      obtain ⟨q, xs, rfl, c, _, dx⟩ := deref_lst sv hd q1
      split at h
      · rename_i ns hn
        have := intsOf_ok hn dx
        subst this
        exact ⟨q, ns, rfl, c, h μ H (Ev.refl _ _) sv _ (by simp only [AV, DV])⟩
      · exact h.elim
    · exact h.elim
  · exact h.elim
def bAny  (as : List Va) : M Va := fun st => match as with
  | [a] => (match deref st a with
    | some (.lst ds) => match blsOf ds with
      | some ns => some (.ok (.val (.bl (ns.any id))), st)
      | none => none
    | _ => none)
  | _ => none
def bAll  (as : List Va) : M Va := fun st => match as with
  | [a] => (match deref st a with
    | some (.lst ds) => match blsOf ds with
      | some ns => some (.ok (.val (.bl (ns.all id))), st)
      | none => none
    | _ => none)
  | _ => none
theorem cd_any (hc : X.calm = true) : CallD X x (.builtin "any") bAny := by
  refine CallD.of (cr_any hc) fun H μ st as vs Q sv av h => ?_
  unfold bAny at h
  split at h
  · obtain ⟨v, r, rfl, q1, q2⟩ := avs_cons av
    have := avs_nil q2
    subst this
    split at h
    · rename_i ds hd
      obtain ⟨q, xs, rfl, c, _, dx⟩ := deref_lst sv hd q1
      split at h
      · rename_i ns hn
        have := blsOf_ok hn dx
        subst this
        exact ⟨q, ns, rfl, c, h μ H (Ev.refl _ _) sv _ (by simp only [AV, DV])⟩
      · exact h.elim
    · exact h.elim
  · exact h.elim
theorem cd_all (hc : X.calm = true) : CallD X x (.builtin "all") bAll := by
  refine CallD.of (cr_all hc) fun H μ st as vs Q sv av h => ?_
  unfold bAll at h
  split at h
  · obtain ⟨v, r, rfl, q1, q2⟩ := avs_cons av
    have := avs_nil q2
    subst this
    split at h
    · rename_i ds hd
      obtain ⟨q, xs, rfl, c, _, dx⟩ := deref_lst sv hd q1
      split at h
      · rename_i ns hn
        have := blsOf_ok hn dx
        subst this
        exact ⟨q, ns, rfl, c, h μ H (Ev.refl _ _) sv _ (by simp only [AV, DV])⟩
      · exact h.elim
    · exact h.elim
  · exact h.elim
/-! ### tuple(..), list(..) of lists and tuples -/
def bTuple  (as : List Va) : M Va := fun st => match as with
  | [a] => (match deref st a with
    | some (.lst ds) => some (.ok (.val (.tup ds)), st)
    | some (.tup ds) => some (.ok (.val (.tup ds)), st)
    | _ => none)
  | _ => none
def bList  (as : List Va) : M Va := fun st => match as with
  | [a] => (match deref st a with
    | some (.lst ds) => some (.ok (.val (.lst ds)), st)
    | some (.tup ds) => some (.ok (.val (.lst ds)), st)
    | _ => none)
  | _ => none
theorem cd_tuple : CallD X x (.type "tuple") bTuple := by
  refine CallD.of call_tuple_of fun H μ st as vs Q sv av h => ?_
  unfold bTuple at h
  split at h
  · obtain ⟨v, r, rfl, q1, q2⟩ := avs_cons av
    have := avs_nil q2
    subst this
    split at h
    · rename_i ds hd
      obtain ⟨q, xs, rfl, c, _, dx⟩ := deref_lst sv hd q1
      exact ⟨q, xs, rfl, .inl ⟨c, fun l hl => h μ _ (Ev.made hl) (sv.made hl) _ (by simp only [AV, DV]; exact ⟨l, xs, rfl, SqT.of upd_same, DVs.go (Ev.made hl) _ dx⟩)⟩⟩
    · rename_i ds hd
      obtain ⟨q, xs, rfl, c, dx⟩ := deref_tup hd q1
      exact ⟨q, xs, rfl, .inr ⟨c, h μ H (Ev.refl _ _) sv _ (by simp only [AV, DV]; exact ⟨q, xs, rfl, c, dx⟩)⟩⟩
    · exact h.elim
  · exact h.elim
theorem cd_list : CallD X x (.type "list") bList := by
  refine CallD.of call_list_of fun H μ st as vs Q sv av h => ?_
  unfold bList at h
  split at h
  · obtain ⟨v, r, rfl, q1, q2⟩ := avs_cons av
    have := avs_nil q2
    subst this
    split at h
    · rename_i ds hd
      obtain ⟨q, xs, rfl, c, _, dx⟩ := deref_lst sv hd q1
      exact ⟨q, xs, rfl, .inl c, fun l hl => h μ _ (Ev.made hl) (sv.made hl) _ (by simp only [AV, DV]; exact ⟨l, xs, rfl, sv.out hl, .inl upd_same, DVs.go (Ev.made hl) _ dx⟩)⟩
    · rename_i ds hd
      obtain ⟨q, xs, rfl, c, dx⟩ := deref_tup hd q1
      exact ⟨q, xs, rfl, .inr c, fun l hl => h μ _ (Ev.made hl) (sv.made hl) _ (by simp only [AV, DV]; exact ⟨l, xs, rfl, sv.out hl, .inl upd_same, DVs.go (Ev.made hl) _ dx⟩)⟩
    · exact h.elim
  · exact h.elim
end
end DL
end

section
set_option Elab.async false
set_option linter.all false
set_option maxRecDepth 100000
set_option maxHeartbeats 4000000
/-! Subscripts, slices, products, append, stores, truth over plain data. -/
namespace DL
open PySem PySem.Spec PyProof.Rows L2

section
variable {X : Cx} {x : ExI} {W : WX} {pos p p2 : Pos} {a b c e o : Expr} {ma mb mc me mo mi : En → M Va}
/-! ### a[i] -/
def opIx (a b : Va) : M Va := fun st => match b with
  | .val (.int i) => (match deref st a with
    | some (.lst ds) => (match atI ds i with
      | some d => some (.ok (.val d), st)
      | none => none)
    | some (.tup ds) => (match atI ds i with
      | some d => some (.ok (.val d), st)
      | none => none)
    | some (.str z) => (match atI z.cps.toList i with
      | some c => if z.length ≤ sizeLine then some (.ok (.val (.str ⟨#[c]⟩)), st) else none
      | none => none)
    | _ => none)
  | _ => none
theorem dvs_atI {S : Ks} {μ : Mu} {H : Hp} {ds : List D} {xs : List V} {i : Int} {d : D} (h : DVs S μ H ds xs) (e : atI ds i = some d) : ∃ v, atI xs i = some v ∧ DV S μ H d v := by
  unfold atI at e ⊢
  rw [h.length]
  cases q : ixN ds.length i with
  | none => rw [q] at e; cases e
  | some j =>
    rw [q] at e
    simp only [Option.bind_some] at e ⊢
    exact h.get e
theorem ed_ix (ha : ED X x W a ma) (hb : ED X x W b mb) (hs : PlainIx b := by intro _ _; rfl) : ED X x W (.Subscript a b pos) (mBin (fun a b => calm (opIx a b)) ma mb) := by
  refine ED.of (pe_ix ix_seq ha hb hs) fun σ H Q μ st ρ ev sv h => bin_fin (fun H μ st a b x1 y Q sv ha hb h => ?_) ev sv h
  unfold opIx at h
  split at h
  · rename_i i
    have := av_i hb
    subst this
    split at h
    · rename_i ds hd
      obtain ⟨q, xs, rfl, c, _, dx⟩ := deref_lst sv hd ha
      split at h
      · rename_i d hd2
        obtain ⟨v, hv, dv⟩ := dvs_atI dx hd2
        exact .inl ⟨q, xs, i, v, rfl, rfl, c, hv, h μ H (Ev.refl _ _) sv _ dv⟩
      · exact h.elim
    · rename_i ds hd
      obtain ⟨q, xs, rfl, c, dx⟩ := deref_tup hd ha
      split at h
      · rename_i d hd2
        obtain ⟨v, hv, dv⟩ := dvs_atI dx hd2
        exact .inr (.inl ⟨q, xs, i, v, rfl, rfl, c, hv, h μ H (Ev.refl _ _) sv _ dv⟩)
      · exact h.elim
    · rename_i z hd
      have := deref_str hd ha
      subst this
      split at h
      · rename_i c hc
        split at h
        · rename_i hz
          exact .inr (.inr ⟨z, i, c, rfl, rfl, hz, hc, h μ H (Ev.refl _ _) sv _ (by simp only [AV, DV])⟩)
        · exact h.elim
      · exact h.elim
    · exact h.elim
  · exact h.elim
/-! ### a[lo:hi] -/
def cutD (ds : List D) (lo hi : Option Int) : List D := (ds.drop (HT.sIx ds.length 0 lo)).take (HT.sIx ds.length ds.length hi - HT.sIx ds.length 0 lo)
theorem cutD_ok {S : Ks} {μ : Mu} {H : Hp} {ds : List D} {xs : List V} {lo hi : Option Int} (h : DVs S μ H ds xs) : DVs S μ H (cutD ds lo hi) (cutV xs lo hi) := by
  unfold cutD cutV
  rw [h.length]
  exact (h.drop _).take _
def slOf (a : Va) (lo hi : Option Int) : M Va := fun st => match a with
  | .scr ns => some (.ok (.val (.lst ((cutD (ns.map .int) lo hi)))), st)
  | a => (match deref st a with
    | some (.lst ds) => some (.ok (.val (.lst (cutD ds lo hi))), st)
    | some (.tup ds) => some (.ok (.val (.tup (cutD ds lo hi))), st)
    | _ => none)
/-- a slice's end -/
def tDP (S : Ks) (W : WX) (m : En → M (Option Int)) : TO := fun σ H Q => ∃ μ st ρ, EV S μ H ρ σ ∧ SV S μ H st ∧ Fin S (WE W σ) μ H (fun o _ _ H' => Q o H') (m ρ st)
def PD (X : Cx) (x : ExI) (W : WX) (e : Option Expr) (m : En → M (Option Int)) : Prop := PO X e (tDP (ks X x) W m)
def mNoPart : En → M (Option Int) := fun _ => M.pure none
def asPart : Va → M (Option Int)
  | .val (.int i) => M.pure (some i)
  | _ => stuck
def mPart (m : En → M Va) : En → M (Option Int) := fun ρ => M.bind (m ρ) asPart
theorem pd_none : PD X x W none mNoPart := ⟨fun pins s σ H Q I ⟨μ, st, ρ, ev, sv, h⟩ => po_none.run pins s σ H Q I (Fin.pure sv h)⟩
theorem pd_some (he : ED X x W e me) : PD X x W (some e) (mPart me) := by
  refine ⟨fun pins s σ H Q I ⟨μ, st, ρ, ev, sv, h⟩ => (po_some he).run pins s σ H Q I ⟨μ, st, ρ, ev, sv, Fin.map (fun a st1 μ1 H1 e1 s1 h1 v hv => ?_) (Fin.bind (m := me ρ) (f := asPart) h)⟩⟩
  unfold asPart at h1
  split at h1
  · exact ⟨_, av_i hv, Fin.pure s1 h1⟩
  · exact h1.elim
def mSlice (ma : En → M Va) (ml mh : En → M (Option Int)) : En → M Va := fun ρ => M.bind (ma ρ) fun a => M.bind (ml ρ) fun l => M.bind (mh ρ) fun h => calm (slOf a l h)
theorem LS.sql {S : Ks} {μ : Mu} {H : Hp} {a : Addr} {xs : List V} (h : LS S μ H a xs) : SqL S.K H a xs := h.imp (fun z => z.2) id
theorem dvs_ints {S : Ks} {μ : Mu} {H : Hp} : ∀ ns : List Int, DVs S μ H (ns.map .int) (ns.map V.int)
  | [] => DVs.nil
  | n :: r => DVs.cons (by simp only [DV]) (dvs_ints r)
theorem ed_slice {lo hi : Option Expr} {ml mh : En → M (Option Int)} (ha : ED X x W a ma) (hl : PD X x W lo ml) (hh : PD X x W hi mh) : ED X x W (.Subscript a (.Slice lo hi none p2) pos) (mSlice ma ml mh) := by
  refine ED.of (pe_slice (sl_list.or sl_tupA) ha hl hh) fun σ H Q μ st ρ ev sv h => ⟨μ, st, ρ, ev, sv, Fin.map (fun va st1 μ1 H1 e1 s1 h1 v hv => ?_) (Fin.bind h)⟩
  refine ⟨μ1, st1, ρ, ev.go e1, s1, Fin.map (fun l st2 μ2 H2 e2 s2 h2 => ?_) (Fin.bind h1)⟩
  refine ⟨μ2, st2, ρ, (ev.go e1).go e2, s2, Fin.map (fun u st3 μ3 H3 e3 s3 h3 => ?_) (Fin.bind h2)⟩
  replace hv := AV.go (e2.trans e3) _ hv
  replace h3 := Fin.calm h3
  unfold slOf at h3
  split at h3
  · rename_i ns
    obtain ⟨q, rfl, c⟩ := hv
    exact .inl ⟨q, _, rfl, c.sql, fun l hl => h3 μ3 _ (Ev.made hl) (s3.made hl) _ (by simp only [AV, DV]; exact ⟨l, _, rfl, s3.out hl, .inl upd_same, DVs.go (Ev.made hl) _ (cutD_ok (dvs_ints ns))⟩)⟩
  · split at h3
    · rename_i ds hd
      obtain ⟨q, xs, rfl, c, _, dx⟩ := deref_lst s3 hd hv
      exact .inl ⟨q, _, rfl, c, fun l hl => h3 μ3 _ (Ev.made hl) (s3.made hl) _ (by simp only [AV, DV]; exact ⟨l, _, rfl, s3.out hl, .inl upd_same, DVs.go (Ev.made hl) _ (cutD_ok dx)⟩)⟩
    · rename_i ds hd
      obtain ⟨q, xs, rfl, c, dx⟩ := deref_tup hd hv
      refine .inr ⟨q, xs, rfl, c, fun z => ?_, fun _ l hl => h3 μ3 _ (Ev.made hl) (s3.made hl) _ (by simp only [AV, DV]; exact ⟨l, _, rfl, SqT.of upd_same, DVs.go (Ev.made hl) _ (cutD_ok dx)⟩)⟩
      have e0 : cutD ds l u = ds := by
        unfold cutD
        rw [dx.length] at z
        rw [z.1, z.2]
        simp
      rw [e0] at h3
      exact h3 μ3 H3 (Ev.refl _ _) s3 _ (by simp only [AV, DV]; exact ⟨q, xs, rfl, c, dx⟩)
    · exact h3.elim
/-! ### * -/
def rRepL : R2 := fun x y H Q => ∃ l k xs, x = .ref l ∧ y = .int k ∧ Rd H l (.lst xs) ∧ -(2 ^ 63) ≤ k ∧ k < 2 ^ 63 ∧ xs.length * k.toNat ≤ sizeLine ∧ ∀ p, H p = none → Q (.ref p) (upd H p (.lst (List.replicate k.toNat xs).flatten))
theorem op_repL : OpR X (binaryOp .Mult) rRepL := by
  intro pins s σ H x y v u Q I rx ry ⟨l, k, xs, ex, ey, hr, h1, h2, h3, q⟩
  subst ex ey
  cases rx
  obtain ⟨t, rfl⟩ := ry
  obtain ⟨z, its, n, r, hl, e⟩ := lstR I hr
  have hlen : its.toArray.size * k.toNat ≤ sizeLine := by rw [List.size_toArray, ← hl]; exact h3
  have hcap : ¬ its.toArray.size * k.toNat > (2 ^ 63 - 1) / 8 := by
    have : (sizeLine : Nat) ≤ (2 ^ 63 - 1) / 8 := by decide
    omega
  have hfit : ¬ (!Builtin.List.listFitsIndex k) = true := by
    rw [fitsIndex_both h1 h2]
    exact Bool.false_ne_true
  have hlong : ¬ Builtin.List.listTooLong (its.toArray.size * k.toNat) = true := by
    rw [notLongL hlen]
    exact Bool.false_ne_true
  have hnew : List.foldl (fun x1 x2 => x1 ++ x2) #[] (List.replicate (if its.toArray.isEmpty = true then 0 else k.toNat) its.toArray) = (List.replicate k.toNat its).flatten.toArray := by
    have f0 : ∀ m : Nat, List.foldl (fun x1 x2 => x1 ++ x2) #[] (List.replicate m its.toArray) = (List.replicate m its).flatten.toArray := fun m => by
      have := foldl_rep its m []
      rw [List.nil_append] at this
      exact this
    rw [f0]
    cases its with
    | nil => simp
    | cons a r' => rw [if_neg (by simp)]
  refine wpAny_binaryOp_repeat_ref (T := "list") (U := "int") (by decide) ⟨_, e, rfl⟩ (fun s' => typeIs_int s' k t) noFill_list_mul F.fills_int_mul F.slot_int_rmul repeat_list F.slot_int_index.lookup
    (call_meets F.slot_int_rmul (typeIs_int s k t) F.entry_int_rmul (F.args_int_rmul_2 _ _) (int___rmul___int_list k t l its.toArray n)
      ⟨e, rfl, ⟨_, e, rfl⟩, call_meets F.slot_list_mul ⟨_, e, rfl⟩ F.entry_list_mul (F.args_list_mul_2 _ _) (AutoListH.list___mul___list_int_3 l its.toArray n k t hfit hcap hlong) ⟨e, ?_⟩⟩)
  rw [hnew]
  exact ⟨.ref _, _, I.lnew (t' := s.toks) (r.rep k.toNat) (by rw [PyProof.Rows.lm_len_rep_flat, Nat.mul_comm]; exact h3), rfl, q _ I.fresh⟩
def opMul (a b : Va) : M Va := fun st => match a, b with
  | .val (.int i), .val (.int j) => if smallF i j = true then some (.ok (.val (.int (i * j))), st) else none
  | .val (.tup ds), .val (.int k) => if ds ≠ [] ∧ 2 ≤ k ∧ k ≤ 1000 ∧ ds.length ≤ 1000 then some (.ok (.val (.tup (List.replicate k.toNat ds).flatten)), st) else none
  | a, .val (.int k) => (match deref st a with
    | some (.lst ds) => if -(2 ^ 63) ≤ k ∧ k < 2 ^ 63 ∧ ds.length * k.toNat ≤ sizeLine then some (.ok (.val (.lst (List.replicate k.toNat ds).flatten)), st) else none
    | _ => none)
  | _, _ => none
theorem DVs.rep {S : Ks} {μ : Mu} {H : Hp} {ds : List D} {xs : List V} (h : DVs S μ H ds xs) : ∀ k : Nat, DVs S μ H (List.replicate k ds).flatten (List.replicate k xs).flatten
  | 0 => by simp; exact DVs.nil
  | k + 1 => by simp only [List.replicate_succ, List.flatten_cons]; exact h.append (DVs.rep h k)
theorem smallF_ok {i j : Int} (h : smallF i j = true) : CMul i j := by
  unfold smallF at h
  have := of_decide_eq_true h
  exact this
theorem opd_mul : OpD X x (binaryOp .Mult) opMul := by
  refine OpD.of (op_mul.or (op_repT.or op_repL)) fun E H μ st a b x1 y Q sv ha hb h hE => ?_
  unfold opMul at h
  split at h
  · split at h
    · rename_i z
      exact .inl ⟨_, _, av_i ha, av_i hb, smallF_ok z, h μ H (Ev.refl _ _) sv _ (by simp only [AV, DV])⟩
    · exact h.elim
  · split at h
    · rename_i ds k z
      have := av_i hb
      subst this
      simp only [AV, DV] at ha
      obtain ⟨q, us, rfl, q1, r1⟩ := ha
      exact .inr (.inl ⟨q, k, us, rfl, rfl, q1, fun e => z.1 (by have := r1.length; rw [e] at this; exact List.length_eq_zero_iff.mp this.symm), z.2.1, z.2.2.1, by rw [r1.length]; exact z.2.2.2,
        fun l hl => h μ _ (Ev.made hl) (sv.made hl) _ (by simp only [AV, DV]; exact ⟨l, _, rfl, SqT.of upd_same, DVs.go (Ev.made hl) _ (r1.rep _)⟩)⟩)
    · exact h.elim
  · split at h
    · rename_i ds hd
      split at h
      · rename_i z
        have := av_i hb
        subst this
        obtain ⟨q, us, rfl, _, q1, r1⟩ := deref_lst sv hd ha
        exact .inr (.inr ⟨q, _, us, rfl, rfl, q1, z.1, z.2.1, by rw [r1.length]; exact z.2.2,
          fun l hl => h μ _ (Ev.made hl) (sv.made hl) _ (by simp only [AV, DV]; exact ⟨l, _, rfl, sv.out hl, .inl upd_same, DVs.go (Ev.made hl) _ (r1.rep _)⟩)⟩)
      · exact h.elim
    · exact h.elim
  · exact h.elim
/-! ### -a -/
def negV : Va → M Va
  | .val (.int i) => M.pure (.val (.int (-i)))
  | _ => stuck
def mNeg (m : En → M Va) : En → M Va := fun ρ => M.bind (m ρ) negV
theorem ed_neg (ha : ED X x W a ma) : ED X x W (.UnaryOp .USub a pos) (mNeg ma) := by
  refine ED.of (pe_un un_neg ha) fun σ H Q μ st ρ ev sv h => ⟨μ, st, ρ, ev, sv, Fin.map (fun va st1 μ1 H1 e1 s1 h1 v hv => ?_) (Fin.bind (m := ma ρ) (f := negV) h)⟩
  unfold negV at h1
  split at h1
  · exact ⟨_, av_i hv, Fin.pure s1 h1 _ (by simp only [AV, DV])⟩
  · exact h1.elim
/-! ### a value's truth -/
def truthA (a : Va) : M Bool := fun st => match a with
  | .val .non => some (.ok false, st)
  | .val (.bl b) => some (.ok b, st)
  | .val (.int i) => some (.ok (i != 0), st)
  | .val (.str z) => if z.length ≤ sizeLine then some (.ok ((z.length : Int) != 0), st) else none
  | a => (match deref st a with
    | some (.lst ds) => some (.ok (!ds.isEmpty), st)
    | some (.tup ds) => some (.ok (!ds.isEmpty), st)
    | _ => none)
def mTruth (m : En → M Va) : En → M Bool := fun ρ => M.bind (m ρ) truthA
theorem isEmpty_dvs {S : Ks} {μ : Mu} {H : Hp} {ds : List D} {xs : List V} (h : DVs S μ H ds xs) : xs.isEmpty = ds.isEmpty := by
  have := h.length
  cases ds <;> cases xs <;> simp_all
theorem td_truth (ha : ED X x W a ma) (he : ∀ whole, isTrue a X.env whole = (do let v ← whole; standAt a.pos; holding [v] (truthy v)) := by intro _; rfl) : TD X x W a (mTruth ma) := by
  refine TD.of (pt_truth ha he) fun σ H Q μ st ρ ev sv h => ⟨μ, st, ρ, ev, sv, Fin.map (fun va st1 μ1 H1 e1 s1 h1 v hv => ?_) (Fin.bind (m := ma ρ) (f := truthA) h)⟩
  unfold truthA at h1
  split at h1
  · simp only [AV, DV] at hv
    subst hv
    exact ⟨_, rfl, h1 μ1 H1 (Ev.refl _ _) s1⟩
  · have := av_b hv
    subst this
    exact ⟨_, rfl, h1 μ1 H1 (Ev.refl _ _) s1⟩
  · have := av_i hv
    subst this
    exact ⟨_, rfl, h1 μ1 H1 (Ev.refl _ _) s1⟩
  · have := av_s hv
    subst this
    split at h1
    · rename_i z
      exact ⟨_, ⟨z, rfl⟩, h1 μ1 H1 (Ev.refl _ _) s1⟩
    · exact h1.elim
  · split at h1
    · rename_i ds hd
      obtain ⟨q, xs, rfl, c, _, dx⟩ := deref_lst s1 hd hv
      exact ⟨_, .inl ⟨xs, c, by rw [isEmpty_dvs dx]⟩, h1 μ1 H1 (Ev.refl _ _) s1⟩
    · rename_i ds hd
      obtain ⟨q, xs, rfl, c, dx⟩ := deref_tup hd hv
      exact ⟨_, .inr (.inl ⟨xs, c, by rw [isEmpty_dvs dx]⟩), h1 μ1 H1 (Ev.refl _ _) s1⟩
    · exact h1.elim
/-! ### o[i] = e, xs.append(e) -/
def setIx (o i v : Va) : M Unit := fun st => match o, i, v with
  | .obj k, .val (.int i), .val d => (match st[k]? with
    | some (.lst ds) => (match ixN ds.length i with
      | some j => some (.ok (), st.set k (.lst (ds.set j d)))
      | none => none)
    | _ => none)
  | _, _, _ => none
def mSetIx (mo mi me : En → M Va) : En → MS := fun ρ st => onE (M.bind (me ρ) (fun v => M.bind (mo ρ) fun o => M.bind (mi ρ) fun i => setIx o i v) st) ρ fun _ st' => some (.nx ρ, st')
theorem sd_setIx {i : Expr} (he : ED X x W e me) (ho : ED X x W o mo) (hi : ED X x W i mi) (hs : swapsWithSole [.Subscript o i p] e pos.line X.env = pure false := by rfl) (hw : swappedStores [.Subscript o i p] e X.env = pure none := by rfl) (h1 : (assignEach [.Subscript o i p] X.env).map (·.2) = [assign (.Subscript o i p) X.env] := by rfl)
    (ha : ∀ v, assign (.Subscript o i p) X.env v = (do
      let ov ← holding [v] (eval o X.env)
      let iv ← holding [v, ov] (eval i X.env)
      standAt p
      holding [v, ov, iv] (setItem ov iv v)
      release [v, ov, iv] []) := by intro _; rfl) : SD X x W (.Assign [.Subscript o i p] e pos) (mSetIx mo mi me) := by
  refine SD.of (ps_asg he (pg_sub ho hi set_list ha) hs hw h1) fun Ds σ H μ st ρ ev sv h => ⟨μ, st, ρ, ev, sv, Fin.map (fun va st1 μ1 H1 e1 s1 h2 v hv => ?_) (Fin.bind (FinS.onE ev h))⟩
  refine ⟨μ1, st1, ρ, ev.go e1, s1, Fin.map (fun vo st2 μ2 H2 e2 s2 h3 vo' ho' => ?_) (Fin.bind h2)⟩
  refine ⟨μ2, st2, ρ, (ev.go e1).go e2, s2, Fin.map (fun vi st3 μ3 H3 e3 s3 h4 vi' hi' => ?_) (Fin.bind h3)⟩
  unfold setIx at h4
  split at h4
  · rename_i k i d
    have := av_i hi'
    subst this
    split at h4
    · rename_i ds hk
      split at h4
      · rename_i j hj
        obtain ⟨q, rfl, hm, _, xs, hx, dx⟩ := s3.at hk (fun z => nomatch z) (AV.go e3 _ ho')
        have hd := DV.go (e2.trans e3) d hv
        refine ⟨q, xs, i, j, rfl, rfl, hx, by rw [dx.length]; exact hj, ?_⟩
        have Ew : Ev μ3 H3 μ3 (upd H3 q (.lst (xs.set j v))) := Ev.wr s3 hm
        have s4 : SV (ks X x) μ3 (upd H3 q (.lst (xs.set j v))) (st3.set k (.lst (ds.set j d))) := s3.wr hm ⟨_, upd_same, DVs.set j (DVs.go Ew ds dx) (DV.go Ew d hd)⟩
        exact FinS.nx s4 ((((ev.go e1).go e2).go e3).go Ew) (h4 μ3 _ Ew s4)
      · exact h4.elim
    · exact h4.elim
  · exact h4.elim
def appendV (o v : Va) : M Va := fun st => match o, v with
  | .obj k, .val d => (match st[k]? with
    | some (.lst ds) => if ds.length < sizeLine then some (.ok (.val .non), st.set k (.lst (ds ++ [d]))) else none
    | _ => none)
  | _, _ => none
def mAppend (mo me : En → M Va) : En → M Va := fun ρ => M.bind (mo ρ) fun o => M.bind (me ρ) fun v => appendV o v
def isObjList (a : Va) (st : Sto) : Bool := match a with
  | .obj k => (match st[k]? with | some (.lst _) => true | _ => false)
  | _ => false
theorem ed_append {apos : Pos} (ho : ED X x W o mo) (he : ED X x W e me) (hbase : attributeBase o "append" X.env (eval o X.env) = eval o X.env := by rfl)
    (hfew : ((backTo pos (starEach [e] X.env)).all (fun x => !x.1) && (backToKw pos (keywordEach [] X.env)).all (fun x => x.1.isSome)
      && decide ([e].length + ([] : List Keyword).length + (if ([] : List Keyword).isEmpty then 0 else 1) < 30)) = true := by rfl)
    (hline : (apos.endLine == pos.line) = true := by rfl) (hs : starEach [e] X.env = (false, eval e X.env) :: starEach [] X.env := by rfl) (hplain : (backTo pos (starEach [] X.env)).any (·.1) = false := by rfl) :
    ED X x W (.Call (.Attribute o "append" apos) [e] [] pos) (fun ρ => M.bind (mo ρ) fun o => fun st => if isObjList o st = true then M.bind (me ρ) (fun v => appendV o v) st else none) := by
  refine ED.of (pe_bm PySem.F.plainAttrs_list PySem.F.slot_list_append PySem.F.type_list_append mt_append ho (pa_cons he pa_nil hs) hbase hfew hline hs hplain) fun σ H Q μ st ρ ev sv h => ⟨μ, st, ρ, ev, sv, Fin.map (fun vo st1 μ1 H1 e1 s1 h1 vo' ho' => ?_) (Fin.bind h)⟩
  split at h1
  · rename_i z
    cases vo with
    | val d => cases z
    | exc c fs => cases z
    | scr ns => cases z
    | obj k =>
      simp only [isObjList] at z
      split at z
      · rename_i ds hk
        obtain ⟨q, rfl, hm, _, xs, hx, dx⟩ := s1.at hk (fun z => nomatch z) ho'
        refine ⟨.inl ⟨rfl, xs, SqL.of hx⟩, μ1, st1, ρ, ev.go e1, s1, Fin.map (fun ve st2 μ2 H2 e2 s2 h2 ve' he' => ?_) (Fin.bind h1)⟩
        unfold appendV at h2
        split at h2
        · rename_i k2 d heq
          cases heq
          split at h2
          · rename_i ds2 hk2
            split at h2
            · rename_i zl
              obtain ⟨q2, eq2, hm2, _, xs2, hx2, dx2⟩ := s2.at hk2 (fun z => nomatch z) (AV.go e2 (.obj _) ho')
              cases eq2
              have Ew : Ev μ2 H2 μ2 (upd H2 q (.lst (xs2 ++ [ve']))) := Ev.wr s2 hm2
              exact ⟨q, xs2, ve', rfl, rfl, hx2, by rw [dx2.length]; exact zl, h2 μ2 _ Ew (s2.wr hm2 ⟨_, upd_same, DVs.append (DVs.go Ew ds2 dx2) (DVs.cons (DV.go Ew d he') DVs.nil)⟩) _ (by simp only [AV, DV])⟩
            · exact h2.elim
          · exact h2.elim
        · exact h2.elim
      · cases z
  · exact h1.elim
end
end DL
end

section
set_option Elab.async false
set_option linter.all false
set_option maxRecDepth 100000
set_option maxHeartbeats 4000000
/-! What the printed texts name. -/
namespace DL
open PySem PySem.Spec PyProof.Rows L2
def mApp (mo me : En → M Va) : En → M Va := fun ρ => M.bind (mo ρ) fun o => fun st => if isObjList o st = true then M.bind (me ρ) (fun v => appendV o v) st else none
section
variable {X : Cx} {x : ExI} {W : WX} {pos : Pos}
theorem ed_gintE {y : Str} {i : Int} (hm : ∃ t, X.mg y = some (.int i t)) (hg : Gl X y := by rfl) (hd : (y == ("__debug__" : Str)) = false := by decide) : ED X x W (.Name y pos) (mC (.int i)) :=
  let ⟨_, h⟩ := hm; ed_gint h hg hd
theorem ed_gstrE {y z : Str} (hm : ∃ t, X.mg y = some (.str z t)) (hg : Gl X y := by rfl) (hd : (y == ("__debug__" : Str)) = false := by decide) : ED X x W (.Name y pos) (mC (.str z)) :=
  let ⟨_, h⟩ := hm; ed_gstr h hg hd
theorem sd_setLc (i : Nat) {y : Str} {py spos cpos : Pos} {elt tg iter : Expr} {ifs : List Expr} {scope : Scope} {ls : List Nat} {g : Va → En → Option En} {mt : En → M Bool} {me : En → M Va} {mi : En → M (List D)} (own : List (Str × Nat)) (hi : ID X x W tg iter mi)
    (hg : ∀ (s : Shared) (H : Hp) (C : Addr) (cl : List (Str × Addr)) (fp : List Addr), GD (X.blk s H scope (compEnvC scope cl C X.env) fp) x tg ls g)
    (ht : ∀ (s : Shared) (H : Hp) (C : Addr) (cl : List (Str × Addr)) (fp : List Addr), PTsD (X.blk s H scope (compEnvC scope cl C X.env) fp) x ifs mt)
    (he : ∀ (s : Shared) (H : Hp) (C : Addr) (cl : List (Str × Addr)) (fp : List Addr), ED (X.blk s H scope (compEnvC scope cl C X.env) fp) x W0 elt me)
    (hy : X.N[i]? = some y := by rfl) (hyl : X.env.scope.names.lookup y = some .local := by rfl) (hl : (py.line == cpos.line) = true := by rfl) (hkk : X.env.scope.kind = .function := by rfl) (hay : (scope.names.any fun (n, k) => n == y && (k == .local || k == .cell)) = false := by rfl)
    (hls : ∀ i ∈ ls, i ∈ own.map (·.2) := by decide) (ok : blkC X.N X.env.scope scope own = true := by rfl) (hc : X.calm = true := by rfl) (hN : X.N.Nodup := by assumption) (hs : ∀ x, foldedSetIterable iter X.env x = pure x := by intro _; rfl) :
    SD X x W (.Assign [.Name y py] (.ListComp elt [⟨tg, iter, ifs, 0⟩] scope cpos) spos) (mSet i (mLc mi g mt me (own.map (·.2)))) := by
  refine SD.of (ps_setLc (wi := tDI (ks X x) W mi) (g := tDG (ks X x) ls g) (tt := tDT (ks X x) W0 mt) (te := tD (ks X x) W0 me) hc hN hy hyl (sw_true hkk hyl hl hay) hi (blkOk_by ok) hg ht he hs) fun Ds σ H μ st ρ ev sv h => ?_
  exact lc_fin hls ev sv (Fin.map (fun a st1 μ1 H1 e1 s1 h1 v hv => FinS.nx s1 ((ev.go e1).set i hv) h1) (FinS.onE (k := fun a st' => some (.nx (ρ.set i (some a)), st')) ev h))
end
end DL
end

section
set_option Elab.async false
set_option linter.all false
set_option maxRecDepth 100000
set_option maxHeartbeats 4000000
/-! An own exception class with super().__init__(..) and one field or two: what the written part must say, and its promise. -/
namespace DL
open PySem PySem.Spec PyProof.Rows L2 EXS NdefX

/-- what is asked of an exception class C whose __init__ (of the class D) stands at fI -/
structure ExCls (K : PySem.W.Frag) (mg : Str → Option Value) (y : Str) (C D fI : Addr) (fs : List Str) : Prop where
  gl : mg y = some (.ref C)
  ox : OexC K C
  ini : PySem.W.findIn K (.ref C) "__init__" = some (some (.ref fI))
  tyI : PySem.W.typeIn K (.ref fI) = some (.type "function")
  sd : SupD K C D
  no : ∀ f ∈ fs, PySem.W.findIn K (.ref C) f = some none
/-- .. and of its __init__ -/
structure ExIni (P : Program) (K : PySem.W.Frag) (mg : Str → Option Value) (D fI cc cda : Addr) : Prop where
  code : ∃ ccl cdd vs ccs file tf, K.lookup cda = some ⟨ccl, cdd, .fields vs, ccs⟩ ∧ vs[2]? = some (.str file tf) ∧ ((P.main.file : Str) == file) = true
  cell : ∃ cl cld csl, K.lookup cc = some ⟨cl, cld, .cell (some (.ref D)), csl⟩
  clsD : ∃ cdD, PySem.W.clsIn K D = some cdD
  nosup : mg "super" = none
  top : (P.main.scope.names.lookup ("super" : Str)).isSome = false
  any : PySem.W.nsIn K cStatics "thirdparty.any" = some none
section
variable {P : Program} {w : World} {K : PySem.W.Frag} {mg : Str → Option Value} {base : Heap} {C D fI cc cda : Addr} {y qual sf af bf f g : Str} {params : Arguments} {scope : Scope} {dV kV doc pm ct oc : Value} {an od : Option Addr} {osl : Array (Option Value)}
  {p0 p1 p2 p3 p4 p5 p6 p7 p8 p9 pa pb pc pd pe : Pos} {ann : Option Expr} {ap : Pos}
/-- one field -/
theorem exd1 (E : ExCls K mg y C D fI [f]) (Ini : ExIni P K mg D fI cc cda)
    (lk : K.lookup fI = some ⟨oc, od, .func (PySem.W.fnX "__init__" qual params (.Expr (.Call (.Attribute (.Call (.Name "super" p0) [] [] p1) "__init__" p2) [.Name af p5] [] p3) p4 :: [.Assign [.Attribute (.Name sf p6) f p7] (.Name af p8) p9]) scope [("__class__", cc)] dV kV doc pm an (.ref cda) ct), osl⟩)
    (hcd : PySem.W.codeIn K (.ref cda) qual = true) (S : NScope [sf, af, "__class__"] [sf, af] [("__class__" : Str)] scope) (hp : (params.posonlyargs ++ params.args).head? = some ⟨sf, ann, ap⟩)
    (hb : ∀ us : List Value, us.length = 2 → bindArgs (PySem.W.fnX "__init__" qual params (.Expr (.Call (.Attribute (.Call (.Name "super" p0) [] [] p1) "__init__" p2) [.Name af p5] [] p3) p4 :: [.Assign [.Attribute (.Name sf p6) f p7] (.Name af p8) p9]) scope [("__class__", cc)] dV kV doc pm an (.ref cda) ct) ⟨us, []⟩ = pure (([sf, af] : List Str).zip us))
    {pl : Sem Bool} (hc : ∀ env : Env, eval (.Call (.Attribute (.Call (.Name "super" p0) [] [] p1) "__init__" p2) [.Name af p5] [] p3) env = (do
      let ov ← attributeBase (.Call (.Name "super" p0) [] [] p1) "__init__" env (eval (.Call (.Name "super" p0) [] [] p1) env)
      standAt p2.atName
      let (f, first) ← holding [ov] (getMethod ov "__init__" pl)
      callWith p3 f first (backTo p3 (starEach [.Name af p5] env)) []))
    (h1 : scope.names.lookup ("super" : Str) = some .globalImplicit) (h2 : scope.names.lookup ("__class__" : Str) = some .free) (h3 : scope.names.lookup sf = some .local) (h4 : scope.names.lookup af = some .local)
    (d1 : (sf == ("__debug__" : Str)) = false) (d2 : (sf == ("__classdict__" : Str)) = false) (d3 : (af == ("__debug__" : Str)) = false) (d4 : (af == ("__classdict__" : Str)) = false) : ExD P w K mg base 1 y [f] := by
  refine ⟨C, fI, _, [sf, af], E.gl, E.ox, E.ini, E.tyI, ?_, .all fun us hl => hb us hl⟩
  refine fn_sup (k := 0) (N := [sf, af, "__class__"]) (D := D) (ar := ⟨sf, ann, ap⟩) (pl := pl) lk hcd S (fun vs H Q E h => ?_) Ini.cell (fun A outer s H E => ?_) rfl h3 (fun env => by rfl) hc (fun env => by rfl) (fun env => by rfl) (fun X hN hK hS hc => ?_)
  · obtain ⟨a, ys, rfl, hl, _⟩ := h
    simpa using hl
  · obtain ⟨ccl, cdd, vs, ccs, file, tf, c1, c2, c3⟩ := Ini.code
    exact ⟨h1, h2, rfl, ⟨_, _, _, _, lk, hp⟩, ⟨cda, ccl, cdd, vs, ccs, file, tf, rfl, c1, c2, c3⟩, by simp [ncx, List.lookup], Ini.cell, Ini.clsD, Ini.nosup, Ini.top, Ini.any⟩
  · have v1 : Vis X.env.scope af := .inl (by rw [hS]; exact h4)
    have v0 : Vis X.env.scope sf := .inl (by rw [hS]; exact h3)
    refine ⟨_, _, pa_cons (pe_var (i := 1) (by rw [hN]; rfl) v1 d3 d4) pa_nil, pss_one (ps_ost (pe_var (i := 0) (by rw [hN]; rfl) v0 d1 d2) (pe_var (i := 1) (by rw [hN]; rfl) v1 d3 d4)), fun H vs Q E' h => ?_⟩
    obtain ⟨a, ys, rfl, hl, ha, q⟩ := h
    obtain ⟨y1, rfl⟩ : ∃ y1, ys = [y1] := by
      match ys, hl with
      | [y1], _ => exact ⟨y1, rfl⟩
    refine ⟨a, C, [y1], rfl, ha, E.ox, E.sd, y1, rfl, by show 1 ≤ 1000; decide, ha, ?_⟩
    refine ⟨y1, rfl, .ref a, rfl, a, C, rfl, by rw [hK]; exact E.ox, by rw [hK]; exact E.no f (by simp), .inl ⟨ha, fun dx hd hda => ?_⟩⟩
    exact q _ dx hd hda upd_same (by rw [upd_ne hda, upd_same]; rfl) fun b h1 h2 => by rw [upd_ne h1, upd_ne h2]
/-- two fields -/
theorem exd2 (E : ExCls K mg y C D fI [f, g]) (Ini : ExIni P K mg D fI cc cda)
    (lk : K.lookup fI = some ⟨oc, od, .func (PySem.W.fnX "__init__" qual params (.Expr (.Call (.Attribute (.Call (.Name "super" p0) [] [] p1) "__init__" p2) [.Name af p5, .Name bf pa] [] p3) p4 :: [.Assign [.Attribute (.Name sf p6) f p7] (.Name af p8) p9, .Assign [.Attribute (.Name sf pb) g pc] (.Name bf pd) pe]) scope [("__class__", cc)] dV kV doc pm an (.ref cda) ct), osl⟩)
    (hcd : PySem.W.codeIn K (.ref cda) qual = true) (S : NScope [sf, af, bf, "__class__"] [sf, af, bf] [("__class__" : Str)] scope) (hp : (params.posonlyargs ++ params.args).head? = some ⟨sf, ann, ap⟩)
    (hb : ∀ us : List Value, us.length = 3 → bindArgs (PySem.W.fnX "__init__" qual params (.Expr (.Call (.Attribute (.Call (.Name "super" p0) [] [] p1) "__init__" p2) [.Name af p5, .Name bf pa] [] p3) p4 :: [.Assign [.Attribute (.Name sf p6) f p7] (.Name af p8) p9, .Assign [.Attribute (.Name sf pb) g pc] (.Name bf pd) pe]) scope [("__class__", cc)] dV kV doc pm an (.ref cda) ct) ⟨us, []⟩ = pure (([sf, af, bf] : List Str).zip us))
    {pl : Sem Bool} (hc : ∀ env : Env, eval (.Call (.Attribute (.Call (.Name "super" p0) [] [] p1) "__init__" p2) [.Name af p5, .Name bf pa] [] p3) env = (do
      let ov ← attributeBase (.Call (.Name "super" p0) [] [] p1) "__init__" env (eval (.Call (.Name "super" p0) [] [] p1) env)
      standAt p2.atName
      let (f, first) ← holding [ov] (getMethod ov "__init__" pl)
      callWith p3 f first (backTo p3 (starEach [.Name af p5, .Name bf pa] env)) []))
    (h1 : scope.names.lookup ("super" : Str) = some .globalImplicit) (h2 : scope.names.lookup ("__class__" : Str) = some .free) (h3 : scope.names.lookup sf = some .local) (h4 : scope.names.lookup af = some .local) (h5 : scope.names.lookup bf = some .local)
    (d1 : (sf == ("__debug__" : Str)) = false) (d2 : (sf == ("__classdict__" : Str)) = false) (d3 : (af == ("__debug__" : Str)) = false) (d4 : (af == ("__classdict__" : Str)) = false) (d5 : (bf == ("__debug__" : Str)) = false) (d6 : (bf == ("__classdict__" : Str)) = false) : ExD P w K mg base 1 y [f, g] := by
  refine ⟨C, fI, _, [sf, af, bf], E.gl, E.ox, E.ini, E.tyI, ?_, .all fun us hl => hb us hl⟩
  refine fn_sup (k := 0) (N := [sf, af, bf, "__class__"]) (D := D) (ar := ⟨sf, ann, ap⟩) (pl := pl) lk hcd S (fun vs H Q E h => ?_) Ini.cell (fun A outer s H E => ?_) rfl h3 (fun env => by rfl) hc (fun env => by rfl) (fun env => by rfl) (fun X hN hK hS hc => ?_)
  · obtain ⟨a, ys, rfl, hl, _⟩ := h
    simpa using hl
  · obtain ⟨ccl, cdd, vs, ccs, file, tf, c1, c2, c3⟩ := Ini.code
    exact ⟨h1, h2, rfl, ⟨_, _, _, _, lk, hp⟩, ⟨cda, ccl, cdd, vs, ccs, file, tf, rfl, c1, c2, c3⟩, by simp [ncx, List.lookup], Ini.cell, Ini.clsD, Ini.nosup, Ini.top, Ini.any⟩
  · have v1 : Vis X.env.scope af := .inl (by rw [hS]; exact h4)
    have v2 : Vis X.env.scope bf := .inl (by rw [hS]; exact h5)
    have v0 : Vis X.env.scope sf := .inl (by rw [hS]; exact h3)
    refine ⟨_, _, pa_cons (pe_var (i := 1) (by rw [hN]; rfl) v1 d3 d4) (pa_cons (pe_var (i := 2) (by rw [hN]; rfl) v2 d5 d6) pa_nil), pss_cons (ps_ost (pe_var (i := 0) (by rw [hN]; rfl) v0 d1 d2) (pe_var (i := 1) (by rw [hN]; rfl) v1 d3 d4)) (pss_one (ps_ost (pe_var (i := 0) (by rw [hN]; rfl) v0 d1 d2) (pe_var (i := 2) (by rw [hN]; rfl) v2 d5 d6))), fun H vs Q E' h => ?_⟩
    obtain ⟨a, ys, rfl, hl, ha, q⟩ := h
    obtain ⟨y1, y2, rfl⟩ : ∃ y1 y2, ys = [y1, y2] := by
      match ys, hl with
      | [y1, y2], _ => exact ⟨y1, y2, rfl⟩
    refine ⟨a, C, [y1, y2], rfl, ha, E.ox, E.sd, y1, rfl, y2, rfl, by show 2 ≤ 1000; decide, ha, ?_⟩
    refine ⟨y1, rfl, .ref a, rfl, a, C, rfl, by rw [hK]; exact E.ox, by rw [hK]; exact E.no f (by simp), .inl ⟨ha, fun dx hd hda => ?_⟩⟩
    refine ⟨y2, rfl, .ref a, rfl, a, C, rfl, by rw [hK]; exact E.ox, by rw [hK]; exact E.no g (by simp), .inr ⟨dx, [(f, y1)], upd_same, by rw [upd_ne hda, upd_same], by show 1 ≤ 900; decide, ?_⟩⟩
    exact q _ dx hd hda (by rw [upd_ne (Ne.symm hda), upd_same]) upd_same fun b h1 h2 => by rw [upd_ne h2, upd_ne h1, upd_ne h2]
end
end DL
end

section
set_option Elab.async false
set_option linter.all false
set_option maxRecDepth 100000
set_option maxHeartbeats 4000000
/-! The classes of exceptions of a law. -/
namespace DL
open PySem PySem.Spec PyProof.Rows L2
/-- which class is below which -/
abbrev SubT := List ((Str × Str) × Bool)
def subOf (t : SubT) : Str → Str → Option Bool := fun c y => t.lookup (c, y)
structure ExW (K : PySem.W.Frag) (mg : Str → Option Value) (t : SubT) (vs : List Str) : Prop where
  at_ : ∀ y ∈ vs, ∃ C, mg y = some (.ref C)
  exm : ∀ c y b C D, y ∈ vs → subOf t c y = some b → mg c = some (.ref D) → mg y = some (.ref C) → PySem.W.exmOne K (.ref D) (.ref C) = some b
  kit : ∀ c y b C D, y ∈ vs → subOf t c y = some b → mg c = some (.ref D) → mg y = some (.ref C) → PySem.W.kitOne K (.ref D) (.ref C) = some b
  kitV : ∀ c b D, subOf t c "ValueError" = some b → mg c = some (.ref D) → PySem.W.kitOne K (.ref D) (.type "ValueError") = some b
  ec : ∀ c y b D, subOf t c y = some b → mg c = some (.ref D) → ExcC K D
end DL
namespace DL
open PySem PySem.Spec PyProof.Rows L2
/-- the classes' addresses -/
def GlAll (mg : Str → Option Value) : List (Str × Addr) → Prop
  | [] => True
  | p :: l => mg p.1 = some (.ref p.2) ∧ GlAll mg l
theorem GlAll.get {mg : Str → Option Value} {y : Str} {C : Addr} : ∀ {l : List (Str × Addr)}, GlAll mg l → l.lookup y = some C → mg y = some (.ref C)
  | [], h, e => by simp at e
  | p :: l, h, e => by
    simp only [List.lookup] at e
    split at e
    · rename_i q
      cases e
      have : y = p.1 := by simpa using q
      rw [this]; exact h.1
    · exact GlAll.get h.2 e
/-- what the table's rows say -/
def RowOk (K : PySem.W.Frag) (ad : List (Str × Addr)) (r : (Str × Str) × Bool) : Prop :=
  match ad.lookup r.1.1 with
  | none => False
  | some D => match ad.lookup r.1.2 with
    | none => ExcC K D ∧ PySem.W.kitOne K (.ref D) (.type "ValueError") = some r.2
    | some C => ExcC K D ∧ PySem.W.exmOne K (.ref D) (.ref C) = some r.2 ∧ PySem.W.kitOne K (.ref D) (.ref C) = some r.2
def RowsOk (K : PySem.W.Frag) (ad : List (Str × Addr)) : SubT → Prop
  | [] => True
  | r :: l => RowOk K ad r ∧ RowsOk K ad l
theorem RowsOk.get {K : PySem.W.Frag} {ad : List (Str × Addr)} {c y : Str} {b : Bool} : ∀ {t : SubT}, RowsOk K ad t → subOf t c y = some b → RowOk K ad ((c, y), b)
  | [], h, e => by simp [subOf] at e
  | r :: l, h, e => by
    unfold subOf at e
    simp only [List.lookup] at e
    split at e
    · rename_i q
      cases e
      have : (c, y) = r.1 := by simpa using q
      rw [this]; exact h.1
    · exact RowsOk.get h.2 e
theorem ew_of {K : PySem.W.Frag} {mg : Str → Option Value} (t : SubT) (vs : List Str) (ad : List (Str × Addr)) (g : GlAll mg ad) (hv : vs.all (fun y => (ad.lookup y).isSome) = true) (h : RowsOk K ad t) (hn : ad.lookup ("ValueError" : Str) = none) : ExW K mg t vs := by
  refine ⟨fun y hy => ?_, fun c y b C D hy e1 e2 e3 => ?_, fun c y b C D hy e1 e2 e3 => ?_, fun c b D e1 e2 => ?_, fun c y b D e1 e2 => ?_⟩
  · have := List.all_eq_true.mp hv y hy
    obtain ⟨C, hC⟩ := Option.isSome_iff_exists.mp this
    exact ⟨C, g.get hC⟩
  all_goals
    have r := h.get e1
    unfold RowOk at r
    simp only at r
    split at r
    · exact r.elim
    rename_i D' hD
    have eD := g.get hD
    rw [eD] at e2
    cases e2
  · split at r
    · rename_i hN
      have hs := List.all_eq_true.mp hv y hy
      rw [hN] at hs
      cases hs
    · rename_i C' hC
      have eC := g.get hC
      rw [eC] at e3
      cases e3
      exact r.2.1
  · split at r
    · rename_i hN
      have hs := List.all_eq_true.mp hv y hy
      rw [hN] at hs
      cases hs
    · rename_i C' hC
      have eC := g.get hC
      rw [eC] at e3
      cases e3
      exact r.2.2
  · rw [hn] at r
    exact r.2
  · split at r
    · exact r.1
    · exact r.1
end DL
end

section
set_option Elab.async false
set_option linter.all false
set_option maxRecDepth 100000
set_option maxHeartbeats 4000000
/-! A def called within a suite (it may look at the caught exception, it raises nothing); the law's end. -/
namespace DL
open PySem PySem.Spec PyProof.Rows L2 L2H

def mFnE (NL n : Nat) (m : En → MS) : List Va → M Va := fun as st => if as.length = n then cutR st.length (bodyR (m (as.map some ++ List.replicate (NL - n) none) st)) else none
/-- the def that the module's name y holds, called while an exception is handled -/
def FnE (P : Program) (w : World) (K : PySem.W.Frag) (mg : Str → Option Value) (base : Heap) (k : Nat) (y : Str) (n : Nat) (g : List Va → M Va) : Prop :=
  ∃ (f : Addr) (fd : FuncData) (ps : List Str), (∀ (A : Around) (outer : List Env) (s : Shared) (H : Hp) (args : Args) (us : List Value) (vs : List V) (Q : VK) (p : Addr × Obj) (cls : Value) (dx : Option Addr), RoomH k A → A.guards = some [] → PinOk outer H s p → Zc cls dx p.2 → (∃ fs, p.2.data = .fields fs) →
      Env0 P w K mg base A outer s H → BindsTo s fd args (ps.zip us) → Vals vs us → vs.length = ps.length →
      (∃ μ st as, SV ⟨K, mg, some (p.1, cls, dx)⟩ μ H st ∧ AVs ⟨K, mg, some (p.1, cls, dx)⟩ μ H as vs ∧ as.length = n ∧ Fin ⟨K, mg, some (p.1, cls, dx)⟩ (fun _ _ _ => False) μ H (fun a _ μ' H' => ∀ v, AV ⟨K, mg, some (p.1, cls, dx)⟩ μ' H' a v → Q v H') (g as st)) →
      codeAny (model P w) A (.call (.ref f) args) (CR (L2.CX P w) outer P w H s Q (fun _ _ _ => False)) s) ∧ Binds K fd ps [] ∧ PySem.W.keepIn K (.ref f) = true ∧ mg y = some (.ref f) ∧ ps.length = n
section
variable {P : Program} {w : World} {K : PySem.W.Frag} {mg : Str → Option Value} {base : Heap}
theorem fn_e {y qual : Str} {st : Stmt} {f : Addr} {fd : FuncData} {N ps : List Str} {k n : Nat} {m : En → MS} (F : Fun K y qual st f fd) (S : FnScope N ps (defScope st)) (hm : mg y = some (.ref f)) (hn : ps.length = n)
    (hb : ∀ (kV doc pm : Value) (an : Option Addr) (cdv ct : Value) (us : List Value), us.length = ps.length → bindArgs (PySem.W.fnOf y qual (defArgs st) (defBody st) (defScope st) .none kV doc pm an cdv ct) ⟨us, []⟩ = pure (ps.zip us))
    (hbody : ∀ (cdv : Value) (A : Around) (outer : List Env) (s : Shared) (H : Hp) (a : Addr) (oe : Obj) (cls : Value) (dx : Option Addr), RoomH k (A.deeper (envOfC qual (defScope st) s.heap.objs.size f cdv)) → (A.deeper (envOfC qual (defScope st) s.heap.objs.size f cdv)).guards = some [] → Zc cls dx oe → (∃ fs, oe.data = .fields fs) →
      SDs (cxH (L2.CX P w) P w K mg base N qual (defScope st) f cdv A outer s H (fun _ _ _ => False) (a, oe)) (some (a, cls, dx)) W0 (defBody st) m) : FnE P w K mg base (k + 1) y n (mFnE N.length n m) := by
  refine ⟨f, fd, ps, fun A outer s H args us vs Q p cls dx hr hG hpin hz hf e0 hbi r hl hsp => ?_, F.binds hb, F.kp, hm, hn⟩
  obtain ⟨oc, od, kV, doc, pm, an, cdv, ct, osl, rfl, lk, hcd⟩ := F.ex
  have KX : K.In s.heap := e0.mod.kin.keeps fun b o e => (e0.bs b o e).1
  have lim : s.heap.NoLimit := e0.mod.nolimit.keeps fun b o e => (e0.bs b o e).1
  have hkind : ∀ y ∈ ps.zip us, (defScope st).names.lookup y.1 = some .local ∨ ((defScope st).names.lookup y.1 = some .cell ∧ ((cellsFrom (s.heap.objs.size + 1) (defScope st).names []).lookup y.1).isSome = true) := fun ⟨n, v⟩ hy => by
    rcases S.par n (List.of_mem_zip hy).1 with q | q
    · exact .inl q
    · exact .inr ⟨q, PySem.W.cellsFrom_some _ _ _ (.inl q)⟩
  refine codeAny_call_function hr.depth (KX _ _ lk) rfl S.co S.gen rfl (PySem.W.codeRec_of KX hcd) (hbi _ _ _ _ ?_)
  refine wpAny_newFunctionEnv_cells S.kind hkind fun env he s1 x => ?_
  subst he
  refine ⟨lim.keeps x.toInCall.keep, codeAny_func ?_⟩
  obtain ⟨μ, st1, as, sv, av, hla, h⟩ := hsp
  have I : L2.Inv (cxH (L2.CX P w) P w K mg base N qual (defScope st) f cdv A outer s H (fun _ _ _ => False) p) [] (L2.start N vs) H s1 := inv_startH S hpin e0 hl r x
  have h2 : FinS ⟨K, mg, some (p.1, cls, dx)⟩ W0 { nx := fun _ H' => Q .non H', rt := Q } μ H (m (as.map some ++ List.replicate (N.length - as.length) none) st1) := by
    unfold mFnE at h
    rw [if_pos hla] at h
    rw [hla]
    exact FinS.body (Fin.cut sv.len h)
  refine wpAny_mono ((hbody cdv A outer s H p.1 p.2 cls dx (hr.deeper _) hG hz hf).run [] s1 (L2.start N vs) H { nx := fun _ H' => Q .non H', rt := Q } I ⟨μ, st1, _, EV.start (N := N) av, sv, h2⟩) (fun fl s' hs => ?_) fun e s' hs => hs
  have fin : ∀ {σ' : L2.St} {H' : Hp} {v : V} {u : Value}, L2.Inv (cxH (L2.CX P w) P w K mg base N qual (defScope st) f cdv A outer s H (fun _ _ _ => False) p) [] σ' H' s' → RelV v u → Q v H' → CE outer P w H s Q u s' :=
    fun {σ' H' v u} J rv q => ⟨v, H', J.os, J.bare, J.base, J.hok, rv, q⟩
  cases fl with
  | ret u =>
    obtain ⟨v, σ', H', J, rv, q⟩ := hs
    exact fin J rv q
  | next =>
    obtain ⟨σ', H', J, q⟩ := hs
    exact fin (v := V.non) (u := Value.none) J rfl q
  | brk =>
    obtain ⟨_, _, _, q⟩ := hs
    exact False.elim q
  | cont =>
    obtain ⟨_, _, _, q⟩ := hs
    exact False.elim q
end
section
variable {X : Cx} {pos p : Pos} {e : Expr} {es : List Expr} {m : En → M (List Va)} {k n : Nat} {y : Str} {N : Nat} {mb : En → MS}
/-- f(e, ..) in a suite -/
theorem ed_callE {a : Addr} {oe : Obj} {cls : Value} {d : Option Addr} {pn : List (Addr × Obj)} (F : FnE X.prog X.w X.K X.mg X.base k y n (mFnE N n mb)) (hr : Room k X.A) (hG : X.A.guards = some []) (hz : Zc cls d oe) (hf : ∃ fs, oe.data = .fields fs)
    (ha : AD (X.suite a ((a, oe) :: pn)) (some (a, cls, d)) W0 (e :: es) m) (hst : X.stack = X.env :: X.outer := by rfl) (hfr : X.env.frame = some X.env.locals := by rfl) (hg : Gl X y := by rfl) (hdb : (y == ("__debug__" : Str)) = false := by decide)
    (he : starEach (e :: es) X.env = (false, eval e X.env) :: starEach es X.env := by rfl) (hpl : (backTo pos (starEach es X.env)).any (·.1) = false := by rfl) : ED (X.suite a ((a, oe) :: pn)) (some (a, cls, d)) W0 (.Call (.Name y p) (e :: es) [] pos) (mCall (mFnE N n mb) m) := by
  obtain ⟨f, fd, ps, F1, hb, hk, hm, hpn⟩ := F
  refine ⟨fun pins s σ H Q I h => ?_⟩
  obtain ⟨μ, st, ρ, ev, sv, h⟩ := h
  refine wpAny_Call_Name_kw (ld_glob I hg hm ?_ hdb)
  refine PySem.W.callWith_K (h₀ := X.base) I.ok.mod.kin hk (thn (L2.PA.run ha pos pins s σ H (fun vs H1 => ∃ μ st as, SV ⟨X.K, X.mg, some (a, cls, d)⟩ μ H1 st ∧ AVs ⟨X.K, X.mg, some (a, cls, d)⟩ μ H1 as vs ∧ as.length = n ∧ Fin ⟨X.K, X.mg, some (a, cls, d)⟩ (fun _ _ _ => False) μ H1 (fun a' _ μ' H' => ∀ v, AV ⟨X.K, X.mg, some (a, cls, d)⟩ μ' H' a' v → Q v H') (mFnE N n mb as st)) I ⟨μ, st, ρ, ev, sv, Fin.map (fun as st1 μ1 H1 e1 s1 h1 vs hv => ?_) (Fin.bind h)⟩) fun us s1 ⟨vs, H1, I1, r, q⟩ => ⟨I1.kIn, ?_⟩) he hpl
  · refine ⟨μ1, st1, as, s1, hv, ?_, h1⟩
    by_cases z : as.length = n
    · exact z
    · unfold mFnE at h1
      rw [if_neg z] at h1
      exact h1.elim
  · have hlv : vs.length = ps.length := by
      obtain ⟨_, _, as, _, av, hl, _⟩ := q
      rw [av.length, hl, hpn]
    have hl : (us ++ []).length = ps.length := by
      rw [List.append_nil, ← r.length]
      exact hlv
    have hb' := hb s1 us I1.kIn hl
    rw [List.append_nil] at hb'
    obtain ⟨pg, pf, pl, pfs, pc⟩ := I1.pin (a, oe) (List.mem_append.mpr (.inl List.mem_cons_self))
    have hpin : PinOk X.stack H1 s1 (a, oe) := ⟨pg, pf, fun hmem => by
      rw [hst] at hmem
      obtain ⟨env, henv, hq⟩ := List.mem_filterMap.mp hmem
      rcases List.mem_cons.mp henv with rfl | henv
      · rw [hfr] at hq
        exact pl (Option.some.inj hq).symm
      · exact pfs (List.mem_filterMap.mpr ⟨env, henv, hq⟩), pc⟩
    refine wpAny_call (codeAny_mono (F1 (X.A.mark (some (.ref a))) X.stack s1 H1 ⟨us, []⟩ us vs Q (a, oe) cls d ⟨hr.dp, hr.un⟩ hG hpin hz hf I1.env0 hb' r hlv q) fun r s' hq => ?_)
    cases r with
    | error er =>
      obtain ⟨_, _, _, _, _, _, _, _, _, _, _, _, z⟩ := hq
      exact z.elim
    | ok fl =>
      cases fl with
      | ret u => exact I1.after hq
      | next => exact False.elim hq
      | brk => exact False.elim hq
      | cont => exact False.elim hq
end
end DL
end

section
set_option Elab.async false
set_option linter.all false
set_option maxRecDepth 100000
set_option maxHeartbeats 4000000
/-! The law's end. -/
namespace DL
open PySem PySem.Spec PyProof.Rows L2

theorem law_callG {P : Program} {w : World} {K : PySem.W.Frag} {mg mb : Str → Option Value} {k : Nat} {fa a : Addr} {y : Str} {g : List Va → M Va} {s₁ : Shared} {vs : List Value} {ns : List Int}
    (KX : K.In s₁.heap) (hns : s₁.heap.Ns mainGlobals mg) (hb : s₁.heap.Ns builtinsNs mb) (hbb : ∀ x : Str, x ≠ "__name__" → mb x = bootBuiltins x) (hlim : s₁.heap.NoLimit) (hg : s₁.gens = #[]) (ha : s₁.heap.get? a = some { cls := .type "list", data := .seq vs.toArray }) (hi : IntsAre vs ns) (hl : ns.length ≤ sizeLine) (hr : Room k callerA)
    (F : ∀ base : Heap, K.In base → base.Ns mainGlobals mg → FnD P w K mg base k y 1 g) (hm : mg y = some (.ref fa))
    (hsp : ∀ H : Hp, Only H → SqL K H a (ns.map V.int) → spD ⟨K, mg, none⟩ 1 g [.ref a] H (fun v _ => v = .bl true) fun _ _ _ => False) :
    codeAny (model P w) callerA (.call (.ref fa) ⟨[.ref a], []⟩) (fun r s' => r = .ok (.ret (.bool true)) ∧ OldK s₁.heap s'.heap ∧ s'.os = s₁.os ∧ AllBare s'.gens) s₁ := by
  have rv : Vals (ns.map V.int) vs := vals_of_ints hi
  have lenV : vs.length = ns.length := by rw [← rv.length, List.length_map]
  have core : ∀ H : Hp, Only H → SqL K H a (ns.map V.int) → HOk P w H s₁.heap → (∀ b, H b ≠ none → b = a) → (H a ≠ none → K.lookup a = none) →
      codeAny (model P w) callerA (.call (.ref fa) ⟨[.ref a], []⟩) (fun r s' => r = .ok (.ret (.bool true)) ∧ OldK s₁.heap s'.heap ∧ s'.os = s₁.os ∧ AllBare s'.gens) s₁ := by
    intro H hO hS hok hA hK
    have base_of : ∀ {b : Addr} {o : Obj}, s₁.heap.get? b = some o → H b = none → (hidT s₁.heap H).get? b = some o := fun e n => hidT_get e n
    have noA : ∀ {b : Addr} {o : Obj} {es : Array DictEntry} {ep : Nat}, s₁.heap.get? b = some o → o.data = .dict es ep → H b = none := fun {b o es ep} e d => by
      cases q : H b with
      | none => rfl
      | some u =>
        have e' : b = a := hA b (by rw [q]; simp)
        subst e'
        rw [ha] at e; cases e
        have d' : Data.seq vs.toArray _ = Data.dict es ep := d
        cases d'
    have nsK : ∀ {b : Addr} {m : Str → Option Value}, s₁.heap.Ns b m → (hidT s₁.heap H).Ns b m := fun {b m} ⟨o, es, ep, e, d, r⟩ => ⟨o, es, ep, base_of e (noA e d), d, r⟩
    have hKb : K.In (hidT s₁.heap H) := fun b o e => base_of (KX b o e) (by
      cases q : H b with
      | none => rfl
      | some u =>
        have e' : b = a := hA b (by rw [q]; simp)
        subst e'
        rw [hK (by rw [q]; simp)] at e; cases e)
    have hM : Mod K mg (hidT s₁.heap H) := ⟨hKb, nsK hns, ⟨mb, nsK hb, hbb⟩, let ⟨mc, h1, h2⟩ := hlim; ⟨mc, nsK h1, h2⟩⟩
    have e0 : Env0 P w K mg (hidT s₁.heap H) callerA [] s₁ H := ⟨rfl, hM, fun b o e => of_hidT e, Nat.le_of_eq (hidT_size _ _), trivial, fun b hb => absurd (show b ∈ ([] : List Addr) from hb) (by simp), hok, .of_eq hg⟩
    obtain ⟨f, fd, ps, F1, hbi, _, hmf⟩ := F _ hKb (nsK hns)
    rw [hm] at hmf
    cases hmf
    have hlen : ([Value.ref a] ++ []).length = ps.length := F1.len _ _ _ _ (hsp H hO hS)
    have hbt : BindsTo s₁ fd ⟨[.ref a], []⟩ (ps.zip [.ref a]) := hbi s₁ [.ref a] KX hlen
    refine codeAny_mono (F1.run callerA [] s₁ H ⟨[.ref a], []⟩ [.ref a] [.ref a] _ _ hr rfl e0 hbt (.cons rfl .nil) (hsp H hO hS)) fun r s' h => ?_
    cases r with
    | error e =>
      obtain ⟨_, _, _, _, _, _, _, _, _, _, _, _, z⟩ := h
      exact z.elim
    | ok fl =>
      cases fl with
      | next => exact False.elim h
      | brk => exact False.elim h
      | cont => exact False.elim h
      | ret u =>
        obtain ⟨v, H', os, bare, un, hok', r', q⟩ := h
        have q' : v = .bl true := q
        subst q'
        obtain rfl : u = Value.bool true := r'
        refine ⟨rfl, OldK.of_keep fun b o e => ?_, os, bare⟩
        cases q : H b with
        | none => exact un.keep b o e q (by intro z; exact absurd (show b ∈ ([] : List Addr) from z) (by simp)) (by simp)
        | some u =>
          rcases hO b with z | ⟨ob, xs, z⟩
          · rw [q] at z; cases z
          · have z2 := un.frzs b ob _ z
            obtain ⟨e1, _⟩ := hok b _ z
            obtain ⟨e2, _⟩ := hok' b _ z2
            rw [e] at e1; cases e1
            exact e2
  cases hk : K.lookup a with
  | some o =>
    have e := KX a o hk
    rw [ha] at e
    cases e
    refine core (fun _ => none) (fun _ => .inl rfl) (.inr ⟨_, vs.toArray, _, hk, rfl, rfl, rfl, by rw [List.size_toArray, lenV]; exact hl, by simpa using rv⟩) (fun b u z => by have z' : (none : Option HO) = some u := z; cases z') (fun b z => absurd rfl z) fun z => absurd rfl z
  | none =>
    refine core (fun b => if b = a then some (.frz { cls := .type "list", data := .seq vs.toArray } (.lst (ns.map V.int))) else none) (fun b => ?_) (.inl (.inr ⟨{ cls := .type "list", data := .seq vs.toArray }, if_pos rfl⟩)) (fun b u z => ?_) (fun b z => ?_) fun _ => hk
    · by_cases hb : b = a
      · exact .inr ⟨_, _, if_pos hb⟩
      · exact .inl (if_neg hb)
    · by_cases hb : b = a
      · have z' := (if_pos hb).symm.trans z
        cases z'
        subst hb
        exact ⟨ha, by rw [List.length_map]; exact hl, vs, _, rv, ha⟩
      · have z' := (if_neg hb).symm.trans z
        cases z'
    · by_cases hb : b = a
      · exact hb
      · exact absurd (if_neg hb) z
/-- the goal that k_head leaves (case hc): from the walk of law and its pure answer -/
theorem walk_d {l : PySem.W.OpenLaw} {n k NL : Nat} {q : Program} {loose : List Str} {XP : (Str → Option Value) → Heap → Prop} {YP : World → Heap → Prop} {d : DefRec} {K : Params → PySem.W.Frag} {m : En → MS} {y : Str}
    (hn : l.most = some n) (hn2 : n ≤ sizeLine) (hdf : d.params.defaults = []) (hr : Room k callerA)
    (hY : ∀ (w : World) (h : Heap), YP w h → (K w.params).In h)
    (F : ∀ (w : World) (mg : Str → Option Value) (fa : Addr) (h : Heap), (K w.params).In h → h.Ns mainGlobals mg → mg d.name = some (.ref fa) →
      ∀ base : Heap, (K w.params).In base → base.Ns mainGlobals mg → FnD l.prog w (K w.params) mg base k y 1 (mFn NL 1 m)) (hy : d.name = y)
    (hpure : ∀ ns : List Int, ns.length ≤ n → ∃ st, mFn NL 1 m [.scr ns] [] = some (.ok (.val (.bl true)), st)) :
    PySem.W.WalkO q loose XP YP l.row.toRowW d [] (fun f vs => PySem.call f vs) := by
  refine Att.attach_call hn hdf fun w s₀ s₁ mg mb fa o pm cd doc a vs ns G Y ho hd hcd hmg hobj hints hlen hg => ?_
  have KX := hY w _ Y
  refine law_callG KX G.T.g G.T.b G.T.builtins G.T.nolimit hg hobj hints (Nat.le_trans hlen hn2) hr (F w mg fa _ KX G.T.g hmg) (hy ▸ hmg) (fun H hO hS => ?_)
  · refine ⟨[], [], [.scr ns], ⟨rfl, fun i j a h => by simp at h, fun k o h => by simp at h⟩, ⟨.ref a, [], rfl, ⟨a, rfl, ?_⟩, rfl⟩, rfl, ?_⟩
    · rcases hS with h | h
      · exact .inl ⟨by simp, h⟩
      · exact .inr h
    · obtain ⟨st, e⟩ := hpure ns hlen
      rw [e]
      intro μ' H' _ _ v hv
      exact av_b hv
end DL
end

section
set_option Elab.async false
set_option linter.all false
set_option maxRecDepth 100000
set_option maxHeartbeats 4000000
/-! Reckoning with mirrors: rows for simp. -/
namespace DL
open PySem PySem.Spec PyProof.Rows L2
section
variable {α β : Type} {st : Sto} {ρ : En} {i j : Int}
@[simp] theorem bind_eq (m : M α) (f : α → M β) (st : Sto) : M.bind m f st = (match m st with | none => none | some (.ok a, st') => f a st' | some (.ex c fs, st') => some (.ex c fs, st')) := rfl
@[simp] theorem pure_eq (a : α) (st : Sto) : M.pure a st = some (.ok a, st) := rfl
@[simp] theorem stuck_eq (st : Sto) : (stuck : M α) st = none := rfl
@[simp] theorem calm_eq (m : M α) (st : Sto) : calm m st = (match m st with | some (.ok a, st') => some (.ok a, st') | _ => none) := rfl
@[simp] theorem mC_eq (d : D) (ρ : En) (st : Sto) : mC d ρ st = some (.ok (.val d), st) := rfl
@[simp] theorem mVar0 (a : Va) (r : En) (st : Sto) : mVar 0 (some a :: r) st = some (.ok a, st) := rfl
@[simp] theorem mVarS (o : Option Va) (n : Nat) (r : En) (st : Sto) : mVar (n + 1) (o :: r) st = mVar n r st := by simp [mVar]
@[simp] theorem mBin_eq (g : Va → Va → M Va) (ma mb : En → M Va) (ρ : En) (st : Sto) : mBin g ma mb ρ st = M.bind (ma ρ) (fun a => M.bind (mb ρ) fun b => g a b) st := rfl
@[simp] theorem mNil_eq (ρ : En) (st : Sto) : mNil ρ st = some (.ok [], st) := rfl
@[simp] theorem mCons_eq (ma : En → M Va) (mr : En → M (List Va)) (ρ : En) (st : Sto) : mCons ma mr ρ st = M.bind (ma ρ) (fun d => M.bind (mr ρ) fun ds => M.pure (d :: ds)) st := rfl
@[simp] theorem mBlt_eq (g : List Va → M Va) (m : En → M (List Va)) (ρ : En) (st : Sto) : mBlt g m ρ st = M.bind (m ρ) (fun as => calm (g as)) st := rfl
@[simp] theorem mCall_eq (g : List Va → M Va) (m : En → M (List Va)) (ρ : En) (st : Sto) : mCall g m ρ st = M.bind (m ρ) g st := rfl
@[simp] theorem mT_eq (m : En → M Va) (ρ : En) (st : Sto) : mT m ρ st = M.bind (m ρ) asBool st := rfl
@[simp] theorem asBool_eq (b : Bool) (st : Sto) : asBool (.val (.bl b)) st = some (.ok b, st) := rfl
@[simp] theorem mTruth_eq (m : En → M Va) (ρ : En) (st : Sto) : mTruth m ρ st = M.bind (m ρ) truthA st := rfl
@[simp] theorem truth_int (i : Int) (st : Sto) : truthA (.val (.int i)) st = some (.ok (i != 0), st) := rfl
@[simp] theorem truth_lst (ds : List D) (st : Sto) : truthA (.val (.lst ds)) st = some (.ok (!ds.isEmpty), st) := rfl
@[simp] theorem truth_tup (ds : List D) (st : Sto) : truthA (.val (.tup ds)) st = some (.ok (!ds.isEmpty), st) := rfl
@[simp] theorem mNot_eq (m : En → M Bool) (ρ : En) (st : Sto) : mNot m ρ st = M.bind (m ρ) (fun b => M.pure (!b)) st := rfl
@[simp] theorem mIf_eq (c : En → M Bool) (ma mb : En → M α) (ρ : En) (st : Sto) : mIf c ma mb ρ st = M.bind (c ρ) (fun b => if b = true then ma ρ else mb ρ) st := rfl
@[simp] theorem app_ite {c : Prop} [Decidable c] (f g : M α) (st : Sto) : (if c then f else g) st = if c then f st else g st := by split <;> rfl
@[simp] theorem mTup_eq (m : En → M (List Va)) (ρ : En) (st : Sto) : mTup m ρ st = M.bind (m ρ) mkTup st := rfl
@[simp] theorem mLst_eq (m : En → M (List Va)) (ρ : En) (st : Sto) : mLst m ρ st = M.bind (m ρ) mkLst st := rfl
@[simp] theorem mObj_eq (m : En → M (List Va)) (ρ : En) (st : Sto) : mObj m ρ st = M.bind (m ρ) mkObj st := rfl
@[simp] theorem vals_nil : vals [] = some [] := rfl
@[simp] theorem vals_val (d : D) (r : List Va) : vals (.val d :: r) = (vals r).map (d :: ·) := rfl
@[simp] theorem mFrz_eq (m : En → M Va) (ρ : En) (st : Sto) : mFrz m ρ st = M.bind (m ρ) freeze st := rfl
/-! statements -/
@[simp] theorem onE_ok (a : α) (st : Sto) (ρ : En) (k : α → MS) : onE (some (.ok a, st)) ρ k = k a st := rfl
@[simp] theorem onE_ex (c : Str) (fs : List (Str × D)) (st : Sto) (ρ : En) (k : α → MS) : onE (some (.ex c fs, st)) ρ k = some (.ex ρ c fs, st) := rfl
@[simp] theorem mSeq_eq (m1 m2 : En → MS) (ρ : En) (st : Sto) : mSeq m1 m2 ρ st = (match m1 ρ st with | some (.nx ρ', st') => m2 ρ' st' | r => r) := rfl
@[simp] theorem mSet_eq (i : Nat) (m : En → M Va) (ρ : En) (st : Sto) : mSet i m ρ st = onE (m ρ st) ρ fun a st' => some (.nx (ρ.set i (some a)), st') := rfl
@[simp] theorem mExpr_eq (m : En → M Va) (ρ : En) (st : Sto) : mExpr m ρ st = onE (m ρ st) ρ fun _ st' => some (.nx ρ, st') := rfl
@[simp] theorem mRet_eq (m : En → M Va) (ρ : En) (st : Sto) : mRet m ρ st = onE (m ρ st) ρ fun a st' => some (.rt a, st') := rfl
@[simp] theorem mIfS_eq (c : En → M Bool) (a b : En → MS) (ρ : En) (st : Sto) : mIfS c a b ρ st = onE (c ρ st) ρ fun t st' => if t = true then a ρ st' else b ρ st' := rfl
@[simp] theorem mNx_eq (ρ : En) (st : Sto) : mNx ρ st = some (.nx ρ, st) := rfl
@[simp] theorem mFor_eq (it : En → M (List D)) (g : Va → En → Option En) (b : En → MS) (ρ : En) (st : Sto) : mFor it g b ρ st = onE (it ρ st) ρ fun ds st' => forGo g b ds ρ st' := rfl
@[simp] theorem forGo_nil (g : Va → En → Option En) (b : En → MS) (ρ : En) (st : Sto) : forGo g b [] ρ st = some (.nx ρ, st) := rfl
@[simp] theorem gVar_eq (i : Nat) (a : Va) (ρ : En) : gVar i a ρ = some (ρ.set i (some a)) := rfl
@[simp] theorem mArgI_eq (f : List Va → M (List D)) (m : En → M (List Va)) (ρ : En) (st : Sto) : mArgI f m ρ st = M.bind (m ρ) f st := rfl
@[simp] theorem bodyR_rt (a : Va) (st : Sto) : bodyR (some (.rt a, st)) = some (.ok a, st) := rfl
@[simp] theorem bodyR_nx (ρ : En) (st : Sto) : bodyR (some (.nx ρ, st)) = some (.ok (.val .non), st) := rfl
@[simp] theorem bodyR_ex (ρ : En) (c : Str) (fs : List (Str × D)) (st : Sto) : bodyR (some (.ex ρ c fs, st)) = some (.ex c fs, st) := rfl
@[simp] theorem cutR_val (n : Nat) (d : D) (st : Sto) : cutR n (some (.ok (.val d), st)) = some (.ok (.val d), st.take n) := rfl
@[simp] theorem cutR_ex (n : Nat) (c : Str) (fs : List (Str × D)) (st : Sto) : cutR n (some (.ex c fs, st)) = some (.ex c fs, st.take n) := rfl
/-! operators -/
@[simp] theorem add_int (i j : Int) (st : Sto) : opAdd (.val (.int i)) (.val (.int j)) st = some (.ok (.val (.int (i + j))), st) := rfl
@[simp] theorem sub_int (f : Int → Int → Int) (i j : Int) (st : Sto) : iiI f (.val (.int i)) (.val (.int j)) st = some (.ok (.val (.int (f i j))), st) := rfl
@[simp] theorem cmp_int (f : Int → Int → Bool) (i j : Int) (st : Sto) : iiB f (.val (.int i)) (.val (.int j)) st = some (.ok (.val (.bl (f i j))), st) := rfl
theorem mul_int (i j : Int) (st : Sto) (h : smallF i j = true) : opMul (.val (.int i)) (.val (.int j)) st = some (.ok (.val (.int (i * j))), st) := by
  show (if smallF i j = true then _ else _) = _
  rw [if_pos h]
theorem smallF_r (i j : Int) (h : -(2 ^ 64) < j ∧ j < 2 ^ 64) : smallF i j = true := decide_eq_true (.inr h)
theorem smallF_l (i j : Int) (h : -(2 ^ 64) < i ∧ i < 2 ^ 64) : smallF i j = true := decide_eq_true (.inl h)
theorem mod_int (i j : Int) (st : Sto) (h : 0 < j) : opMod (.val (.int i)) (.val (.int j)) st = some (.ok (.val (.int (i % j))), st) := by
  show (if 0 < j then (M.pure _ : M Va) else stuck) st = _
  rw [if_pos h]; rfl
theorem fdiv_int (i j : Int) (st : Sto) (h : 0 < j ∧ j < 1073741824) : opFdiv (.val (.int i)) (.val (.int j)) st = some (.ok (.val (.int (i / j))), st) := by
  show (if 0 < j ∧ j < 1073741824 then (M.pure _ : M Va) else stuck) st = _
  rw [if_pos h]; rfl
@[simp] theorem bInt_int (i : Int) (st : Sto) : bInt [.val (.int i)] st = some (.ok (.val (.int i)), st) := rfl
@[simp] theorem bAbs_int (i : Int) (st : Sto) : bAbs [.val (.int i)] st = some (.ok (.val (.int (if i < 0 then -i else i))), st) := rfl
@[simp] theorem bLen_lst (ds : List D) (st : Sto) : bLen [.val (.lst ds)] st = some (.ok (.val (.int ds.length)), st) := rfl
@[simp] theorem bLen_tup (ds : List D) (st : Sto) : bLen [.val (.tup ds)] st = some (.ok (.val (.int ds.length)), st) := rfl
theorem ix_lst (ds : List D) (i : Int) (d : D) (st : Sto) (h : atI ds i = some d) : opIx (.val (.lst ds)) (.val (.int i)) st = some (.ok (.val d), st) := by
  unfold opIx
  simp only [deref, h]
end
theorem atI_mod {α : Type} (xs : List α) (i : Int) (h : xs ≠ []) : ∃ v, v ∈ xs ∧ atI xs (i % (xs.length : Int)) = some v := by
  have hl : 0 < xs.length := List.length_pos_iff.mpr h
  have h0 : 0 ≤ i % (xs.length : Int) := Int.emod_nonneg _ (by omega)
  have h1 : i % (xs.length : Int) < xs.length := Int.emod_lt_of_pos _ (by omega)
  have hj : (i % (xs.length : Int)).toNat < xs.length := by omega
  refine ⟨xs[(i % (xs.length : Int)).toNat], List.getElem_mem hj, ?_⟩
  have := atI_nat (List.getElem?_eq_getElem hj)
  rw [Int.toNat_of_nonneg h0] at this
  exact this
end DL
namespace DL
open PySem PySem.Spec PyProof.Rows L2
theorem range1 (j : Int) (st : Sto) (h : B62 j) : rangeOf1 [.val (.int j)] st = some (.ok (intsR 0 j.toNat), st) := by
  show (if B62 j then M.pure (intsR 0 j.toNat) else stuck) st = _
  rw [if_pos h]; rfl
theorem mem_intsR {lo : Int} {n : Nat} {d : D} (h : d ∈ intsR lo n) : ∃ k : Int, d = .int k ∧ lo ≤ k ∧ k < lo + n := by
  unfold intsR at h
  obtain ⟨i, hi, rfl⟩ := List.mem_map.mp h
  have := List.mem_range.mp hi
  exact ⟨_, rfl, by omega, by omega⟩
/-- a loop that always goes on -/
theorem forGo_inv {g : Va → En → Option En} {body : En → MS} (P : En → Sto → Prop) : ∀ (ds : List D), (∀ d ∈ ds, ∀ ρ st, P ρ st → ∃ ρ1, g (.val d) ρ = some ρ1 ∧ ∃ ρ2 st2, body ρ1 st = some (.nx ρ2, st2) ∧ P ρ2 st2) →
    ∀ ρ st, P ρ st → ∃ ρ' st', forGo g body ds ρ st = some (.nx ρ', st') ∧ P ρ' st'
  | [], _, ρ, st, p => ⟨ρ, st, rfl, p⟩
  | d :: r, h, ρ, st, p => by
    obtain ⟨ρ1, e1, ρ2, st2, e2, p2⟩ := h d (by simp) ρ st p
    obtain ⟨ρ3, st3, e3, p3⟩ := forGo_inv P r (fun d hd => h d (by simp [hd])) ρ2 st2 p2
    refine ⟨ρ3, st3, ?_, p3⟩
    unfold forGo
    simp only [e1, e2, e3]
@[simp] theorem take_len (st : Sto) : st.take st.length = st := List.take_length
end DL
namespace DL
open PySem PySem.Spec PyProof.Rows L2
/-- .. with the number of turns -/
theorem forGo_invN {g : Va → En → Option En} {body : En → MS} (P : Nat → En → Sto → Prop) : ∀ (ds : List D) (n : Nat), (∀ d ∈ ds, ∀ i ρ st, i < n + ds.length → P i ρ st → ∃ ρ1, g (.val d) ρ = some ρ1 ∧ ∃ ρ2 st2, body ρ1 st = some (.nx ρ2, st2) ∧ P (i + 1) ρ2 st2) →
    ∀ ρ st, P n ρ st → ∃ ρ' st', forGo g body ds ρ st = some (.nx ρ', st') ∧ P (n + ds.length) ρ' st'
  | [], n, _, ρ, st, p => ⟨ρ, st, rfl, p⟩
  | d :: r, n, h, ρ, st, p => by
    obtain ⟨ρ1, e1, ρ2, st2, e2, p2⟩ := h d (by simp) n ρ st (by simp) p
    obtain ⟨ρ3, st3, e3, p3⟩ := forGo_invN P r (n + 1) (fun d hd i ρ st hi => h d (by simp [hd]) i ρ st (by simp at hi ⊢; omega)) ρ2 st2 p2
    refine ⟨ρ3, st3, ?_, ?_⟩
    · unfold forGo
      simp only [e1, e2, e3]
    · have e : n + (d :: r).length = n + 1 + r.length := by simp; omega
      rw [e]; exact p3
theorem append_lst (k : Nat) (d : D) (ds : List D) (st : Sto) (h : st[k]? = some (.lst ds)) (hl : ds.length < sizeLine) : appendV (.obj k) (.val d) st = some (.ok (.val .non), st.set k (.lst (ds ++ [d]))) := by
  unfold appendV
  simp only [h, if_pos hl]
@[simp] theorem isObj0 (ds : List D) (st : Sto) : isObjList (.obj 0) (.lst ds :: st) = true := rfl
@[simp] theorem intsR_length (lo : Int) (n : Nat) : (intsR lo n).length = n := by simp [intsR]
end DL
end

section
set_option Elab.async false
set_option linter.all false
set_option maxRecDepth 100000
set_option maxHeartbeats 8000000
namespace K00
open PySem PySem.Spec PyProof.Rows L2 L2H DL
def top (i : Nat) : Stmt := PySem.Challenge.pw_manyunknowns_k00_errors_and_limits.main.body.getD i (.Pass ⟨0, 0, 0, 0⟩)
theorem boot_ValueError : bootBuiltins "ValueError" = some (.type "ValueError") := by decide +kernel
theorem boot_abs : bootBuiltins "abs" = some (.builtin "abs") := by decide +kernel
theorem boot_int : bootBuiltins "int" = some (.type "int") := by decide +kernel
theorem boot_isinstance : bootBuiltins "isinstance" = some (.builtin "isinstance") := by decide +kernel
theorem boot_len : bootBuiltins "len" = some (.builtin "len") := by decide +kernel
theorem boot_range : bootBuiltins "range" = some (.type "range") := by decide +kernel
theorem boot_repr : bootBuiltins "repr" = some (.builtin "repr") := by decide +kernel
def tbl : SubT := [((("ArgumentError" : Str), ("ArgumentError" : Str)), true), ((("ArgumentError" : Str), ("CheckError" : Str)), false), ((("ArgumentError" : Str), ("CommandError" : Str)), false), ((("ArgumentError" : Str), ("IdealError" : Str)), true), ((("ArgumentError" : Str), ("LogError" : Str)), false), ((("ArgumentError" : Str), ("PaperError" : Str)), false), ((("ArgumentError" : Str), ("ReasonError" : Str)), true), ((("ArgumentError" : Str), ("TextError" : Str)), false), ((("ArgumentError" : Str), ("TooMany" : Str)), false), ((("ArgumentError" : Str), ("ValueError" : Str)), true), ((("PaperError" : Str), ("ArgumentError" : Str)), false), ((("PaperError" : Str), ("CheckError" : Str)), false), ((("PaperError" : Str), ("CommandError" : Str)), false), ((("PaperError" : Str), ("IdealError" : Str)), true), ((("PaperError" : Str), ("LogError" : Str)), false), ((("PaperError" : Str), ("PaperError" : Str)), true), ((("PaperError" : Str), ("ReasonError" : Str)), true), ((("PaperError" : Str), ("TextError" : Str)), false), ((("PaperError" : Str), ("TooMany" : Str)), false), ((("PaperError" : Str), ("ValueError" : Str)), true), ((("TooMany" : Str), ("ArgumentError" : Str)), false), ((("TooMany" : Str), ("CheckError" : Str)), false), ((("TooMany" : Str), ("CommandError" : Str)), false), ((("TooMany" : Str), ("IdealError" : Str)), true), ((("TooMany" : Str), ("LogError" : Str)), false), ((("TooMany" : Str), ("PaperError" : Str)), false), ((("TooMany" : Str), ("ReasonError" : Str)), true), ((("TooMany" : Str), ("TextError" : Str)), false), ((("TooMany" : Str), ("TooMany" : Str)), true), ((("TooMany" : Str), ("ValueError" : Str)), true), ((("CheckError" : Str), ("ArgumentError" : Str)), false), ((("CheckError" : Str), ("CheckError" : Str)), true), ((("CheckError" : Str), ("CommandError" : Str)), false), ((("CheckError" : Str), ("IdealError" : Str)), true), ((("CheckError" : Str), ("LogError" : Str)), false), ((("CheckError" : Str), ("PaperError" : Str)), false), ((("CheckError" : Str), ("ReasonError" : Str)), true), ((("CheckError" : Str), ("TextError" : Str)), false), ((("CheckError" : Str), ("TooMany" : Str)), false), ((("CheckError" : Str), ("ValueError" : Str)), true), ((("TextError" : Str), ("ArgumentError" : Str)), false), ((("TextError" : Str), ("CheckError" : Str)), false), ((("TextError" : Str), ("CommandError" : Str)), false), ((("TextError" : Str), ("IdealError" : Str)), true), ((("TextError" : Str), ("LogError" : Str)), false), ((("TextError" : Str), ("PaperError" : Str)), false), ((("TextError" : Str), ("ReasonError" : Str)), false), ((("TextError" : Str), ("TextError" : Str)), true), ((("TextError" : Str), ("TooMany" : Str)), false), ((("TextError" : Str), ("ValueError" : Str)), true), ((("LogError" : Str), ("ArgumentError" : Str)), false), ((("LogError" : Str), ("CheckError" : Str)), false), ((("LogError" : Str), ("CommandError" : Str)), false), ((("LogError" : Str), ("IdealError" : Str)), true), ((("LogError" : Str), ("LogError" : Str)), true), ((("LogError" : Str), ("PaperError" : Str)), false), ((("LogError" : Str), ("ReasonError" : Str)), false), ((("LogError" : Str), ("TextError" : Str)), false), ((("LogError" : Str), ("TooMany" : Str)), false), ((("LogError" : Str), ("ValueError" : Str)), true), ((("CommandError" : Str), ("ArgumentError" : Str)), false), ((("CommandError" : Str), ("CheckError" : Str)), false), ((("CommandError" : Str), ("CommandError" : Str)), true), ((("CommandError" : Str), ("IdealError" : Str)), true), ((("CommandError" : Str), ("LogError" : Str)), false), ((("CommandError" : Str), ("PaperError" : Str)), false), ((("CommandError" : Str), ("ReasonError" : Str)), false), ((("CommandError" : Str), ("TextError" : Str)), false), ((("CommandError" : Str), ("TooMany" : Str)), false), ((("CommandError" : Str), ("ValueError" : Str)), true)]
def owns : List Str := ["ArgumentError", "CheckError", "CommandError", "IdealError", "LogError", "PaperError", "ReasonError", "TextError", "TooMany"]
def sub : Str → Str → Option Bool := subOf tbl
/-- what the module's names hold -/
structure Txt (K : PySem.W.Frag) (mg : Str → Option Value) : Prop where
  b_ValueError : mg "ValueError" = none
  b_abs : mg "abs" = none
  b_int : mg "int" = none
  b_isinstance : mg "isinstance" = none
  b_len : mg "len" = none
  b_range : mg "range" = none
  b_repr : mg "repr" = none
  c_MAX_ANSWERS : ∃ t, mg "MAX_ANSWERS" = some (.int 40 t)
  c_MAX_ASKED : ∃ t, mg "MAX_ASKED" = some (.int 8 t)
  c_MAX_BASIS : ∃ t, mg "MAX_BASIS" = some (.int 40 t)
  c_MAX_CHOICES : ∃ t, mg "MAX_CHOICES" = some (.int 4 t)
  c_MAX_CORNERS : ∃ t, mg "MAX_CORNERS" = some (.int 12 t)
  c_MAX_COUNTED : ∃ t, mg "MAX_COUNTED" = some (.int 40 t)
  c_MAX_DEGREE : ∃ t, mg "MAX_DEGREE" = some (.int 12 t)
  c_MAX_ENTRY : ∃ t, mg "MAX_ENTRY" = some (.int 20 t)
  c_MAX_EXPANDED : ∃ t, mg "MAX_EXPANDED" = some (.int 4000 t)
  c_MAX_FIBER : ∃ t, mg "MAX_FIBER" = some (.int 3000 t)
  c_MAX_GRID : ∃ t, mg "MAX_GRID" = some (.int 256 t)
  c_MAX_GROUP : ∃ t, mg "MAX_GROUP" = some (.int 24 t)
  c_MAX_HELD : ∃ t, mg "MAX_HELD" = some (.int 400 t)
  c_MAX_HELD_SYSTEMS : ∃ t, mg "MAX_HELD_SYSTEMS" = some (.int 12 t)
  c_MAX_JOINED : ∃ t, mg "MAX_JOINED" = some (.int 16 t)
  c_MAX_LAID : ∃ t, mg "MAX_LAID" = some (.int 7 t)
  c_MAX_LINES : ∃ t, mg "MAX_LINES" = some (.int 200 t)
  c_MAX_MADE : ∃ t, mg "MAX_MADE" = some (.int 8 t)
  c_MAX_MAKERS : ∃ t, mg "MAX_MAKERS" = some (.int 8 t)
  c_MAX_NUMBER : ∃ t, mg "MAX_NUMBER" = some (.int 1000000 t)
  c_MAX_PAIRS : ∃ t, mg "MAX_PAIRS" = some (.int 600 t)
  c_MAX_PARTED : ∃ t, mg "MAX_PARTED" = some (.int 10000000000 t)
  c_MAX_PLACES : ∃ t, mg "MAX_PLACES" = some (.int 8 t)
  c_MAX_POINTS : ∃ t, mg "MAX_POINTS" = some (.int 12 t)
  c_MAX_POWER : ∃ t, mg "MAX_POWER" = some (.int 30 t)
  c_MAX_RAISED : ∃ t, mg "MAX_RAISED" = some (.int 12 t)
  c_MAX_RELATED : ∃ t, mg "MAX_RELATED" = some (.int 4 t)
  c_MAX_ROWED : ∃ t, mg "MAX_ROWED" = some (.int 4 t)
  c_MAX_SIDE : ∃ t, mg "MAX_SIDE" = some (.int 8 t)
  c_MAX_SPLIT : ∃ t, mg "MAX_SPLIT" = some (.int 300 t)
  c_MAX_START : ∃ t, mg "MAX_START" = some (.int 60 t)
  c_MAX_STEPS : ∃ t, mg "MAX_STEPS" = some (.int 3000 t)
  c_MAX_TABLED : ∃ t, mg "MAX_TABLED" = some (.int 4 t)
  c_MAX_TERMS : ∃ t, mg "MAX_TERMS" = some (.int 60 t)
  c_MAX_TEXT : ∃ t, mg "MAX_TEXT" = some (.int 6000 t)
  c_MAX_TIED : ∃ t, mg "MAX_TIED" = some (.int 66 t)
  c_MAX_UNKNOWNS : ∃ t, mg "MAX_UNKNOWNS" = some (.int 4 t)
section
variable {P : Program} {w : World} {K : PySem.W.Frag} {mg : Str → Option Value} {base : Heap}
abbrev st__law_draws : Stmt := top 48
def b1__law_draws : En → MS :=
  (mIfS (mT (mBin (fun a b => calm ((iiB fun i j => decide (j < i)) a b)) (mVar 3) (mC (.int 0)))) (mSeq (mExpr (mApp (mVar 1) (mBin (fun a b => calm (opMod a b)) (mBlt bInt (mCons (mVar 3) mNil)) (mC (.int 1009))))) (mSet 3 (mBin (fun a b => calm (opFdiv a b)) (mVar 3) (mC (.int 1009))))) mNx)
def b2__law_draws : En → MS :=
  (mSeq (mSet 5 (mBin (fun a b => calm (opMod a b)) (mBlt bInt (mCons (mBin (fun a b => calm (opAdd a b)) (mBin (fun a b => calm (opAdd a b)) (mBin (fun a b => calm (opMul a b)) (mVar 5) (mC (.int 16807))) (mBin (fun a b => calm (opMul a b)) (mC (.int 69621)) (mVar 4))) (mC (.int 5))) mNil)) (mC (.int 2147483629)))) (mExpr (mApp (mVar 1) (mBin (fun a b => calm (opFdiv a b)) (mVar 5) (mC (.int 1009))))))
def b3__law_draws : En → MS :=
  (mSeq (mSet 3 (mBlt bAbs (mCons (mVar 2) mNil))) (mIfS (mT (mBin (fun a b => calm ((iiB fun i j => decide (j ≤ i)) a b)) (mVar 3) (mBin (fun a b => calm (opPow a b)) (mC (.int 10)) (mC (.int 18))))) (mFor (mArgI rangeOf1 (mCons (mC (.int 60)) mNil)) (gVar 4) b1__law_draws) (mSeq (mSet 5 (mBin (fun a b => calm (opMod a b)) (mBlt bInt (mCons (mBin (fun a b => calm (opAdd a b)) (mBin (fun a b => calm (opMul a b)) (mVar 3) (mC (.int 48271))) (mC (.int 11))) mNil)) (mC (.int 2147483647)))) (mFor (mArgI rangeOf1 (mCons (mC (.int 12)) mNil)) (gVar 4) b2__law_draws))))
def m__law_draws : En → MS :=
  (mSeq (mSet 1 (mObj mNil)) (mSeq (mFor (mSeqI (mSlice (mVar 0) mNoPart (mPart (mC (.int 63))))) (gVar 2) b3__law_draws) (mRet (mFrz (mVar 1)))))
def g__law_draws : List Va → M Va := mFn 6 1 m__law_draws
theorem sc__law_draws : FnScope ["script", "draws", "cell", "rest", "k", "mixed"] ["script"] (defScope st__law_draws) := ⟨rfl, rfl, rfl, by decide +kernel, rfl, by decide +kernel, by decide +kernel⟩
theorem ok__law_draws {f : Addr} {fd : FuncData} (T : Txt K mg) (F : Fun K "_law_draws" "_law_draws" st__law_draws f fd) (hm : mg "_law_draws" = some (.ref f))   : FnD P w K mg base 1 "_law_draws" 1 (mFn 6 1 m__law_draws) := by
  refine fn_d (N := ["script", "draws", "cell", "rest", "k", "mixed"]) (ps := ["script"]) F sc__law_draws hm rfl (fun _ _ _ _ _ _ us hl => match us, hl with | [_], _ => rfl) (fun cdv A outer s H E hr hG => ?_)
  have tk : Takes (cxOf (L2.CX P w) P w K mg base ["script", "draws", "cell", "rest", "k", "mixed"] "_law_draws" (defScope st__law_draws) f cdv A outer s H E) (fun c d _ H => E c d H) := takes_of rfl rfl rfl rfl
  have hp : PassesOwn (model P w) (cxOf (L2.CX P w) P w K mg base ["script", "draws", "cell", "rest", "k", "mixed"] "_law_draws" (defScope st__law_draws) f cdv A outer s H E).A (cxOf (L2.CX P w) P w K mg base ["script", "draws", "cell", "rest", "k", "mixed"] "_law_draws" (defScope st__law_draws) f cdv A outer s H E).env (cxOf (L2.CX P w) P w K mg base ["script", "draws", "cell", "rest", "k", "mixed"] "_law_draws" (defScope st__law_draws) f cdv A outer s H E).xe := passes_of rfl
  have hN : (cxOf (L2.CX P w) P w K mg base ["script", "draws", "cell", "rest", "k", "mixed"] "_law_draws" (defScope st__law_draws) f cdv A outer s H E).N.Nodup := sc__law_draws.nd
  have hu := Nat.lt_of_le_of_lt (Nat.add_le_add_left (by decide : 64 ≤ 16 * 0 + 200) _) (hr.mono (Nat.zero_le _)).un
  have hu1 := Nat.lt_of_le_of_lt (Nat.add_le_add_left (by decide : 65 ≤ 16 * 0 + 200) _) (hr.mono (Nat.zero_le _)).un
  have hu2 := Nat.lt_of_le_of_lt (Nat.add_le_add_left (by decide : 66 ≤ 16 * 0 + 200) _) (hr.mono (Nat.zero_le _)).un
  exact (sds_cons (sd_set 1 (ed_obj ad_nil))
  (sds_cons (sd_for hp (id_seq (ed_slice (ed_var 0) pd_none (pd_some ed_int))) (gd_name 2) (sds_cons (sd_set 3 (ed_blt cd_abs T.b_abs boot_abs (ad_cons (ed_var 2) ad_nil)))
  (sds_one (sd_if (td_cmp opd_ge (ed_var 3) (ed_op opd_pow ed_int ed_int)) (sds_one (sd_for hp (id_range1 T.b_range (ad_cons ed_int ad_nil)) (gd_name 4) (sds_one (sd_if (td_cmp opd_gt (ed_var 3) ed_int) (sds_cons (sd_expr (ed_append (ed_var 1) (ed_op opd_mod (ed_ty cd_int T.b_int boot_int (ad_cons (ed_var 3) ad_nil)) ed_int)))
  (sds_one (sd_set 3 (ed_op opd_fdiv (ed_var 3) ed_int)))) sds_nil)))) (sds_cons (sd_set 5 (ed_op opd_mod (ed_ty cd_int T.b_int boot_int (ad_cons (ed_op opd_add (ed_op opd_mul (ed_var 3) ed_int) ed_int) ad_nil)) ed_int))
  (sds_one (sd_for hp (id_range1 T.b_range (ad_cons ed_int ad_nil)) (gd_name 4) (sds_cons (sd_set 5 (ed_op opd_mod (ed_ty cd_int T.b_int boot_int (ad_cons (ed_op opd_add (ed_op opd_add (ed_op opd_mul (ed_var 5) ed_int) (ed_op opd_mul ed_int (ed_var 4))) ed_int) ad_nil)) ed_int))
  (sds_one (sd_expr (ed_append (ed_var 1) (ed_op opd_fdiv (ed_var 5) ed_int))))))))))))
  (sds_one (sd_ret (ed_frz (ed_var 1))))))
abbrev st__law_more : Stmt := top 49
def b1__law_more : En → MS :=
  (mSeq (mIfS (mTruth (mVar 0)) (mSet 2 (mBin (fun a b => calm (opAdd a b)) (mVar 2) (mBin (fun a b => calm (opIx a b)) (mVar 0) (mBin (fun a b => calm (opMod a b)) (mBlt bInt (mCons (mBin (fun a b => calm (opAdd a b)) (mBin (fun a b => calm (opMul a b)) (mVar 1) (mBin (fun a b => calm (opAdd a b)) (mVar 3) (mC (.int 5)))) (mVar 3)) mNil)) (mBlt bLen (mCons (mVar 0) mNil)))))) mNx) (mSet 2 (mBin (fun a b => calm (opMod a b)) (mBlt bInt (mCons (mBin (fun a b => calm (opAdd a b)) (mBin (fun a b => calm (opAdd a b)) (mBin (fun a b => calm (opMul a b)) (mVar 2) (mC (.int 16807))) (mBin (fun a b => calm (opMul a b)) (mC (.int 69621)) (mVar 3))) (mC (.int 5))) mNil)) (mC (.int 2147483629)))))
def m__law_more : En → MS :=
  (mSeq (mSet 2 (mBin (fun a b => calm (opMod a b)) (mBlt bInt (mCons (mBin (fun a b => calm (opAdd a b)) (mBin (fun a b => calm (opAdd a b)) (mBin (fun a b => calm (opMul a b)) (mVar 1) (mC (.int 48271))) (mBlt bLen (mCons (mVar 0) mNil))) (mC (.int 11))) mNil)) (mC (.int 2147483629)))) (mSeq (mFor (mArgI rangeOf1 (mCons (mC (.int 3)) mNil)) (gVar 3) b1__law_more) (mRet (mBin (fun a b => calm (opFdiv a b)) (mVar 2) (mC (.int 1009))))))
def g__law_more : List Va → M Va := mFn 4 2 m__law_more
theorem sc__law_more : FnScope ["draws", "place", "mixed", "k"] ["draws", "place"] (defScope st__law_more) := ⟨rfl, rfl, rfl, by decide +kernel, rfl, by decide +kernel, by decide +kernel⟩
theorem ok__law_more {f : Addr} {fd : FuncData} (T : Txt K mg) (F : Fun K "_law_more" "_law_more" st__law_more f fd) (hm : mg "_law_more" = some (.ref f))   : FnD P w K mg base 1 "_law_more" 2 (mFn 4 2 m__law_more) := by
  refine fn_d (N := ["draws", "place", "mixed", "k"]) (ps := ["draws", "place"]) F sc__law_more hm rfl (fun _ _ _ _ _ _ us hl => match us, hl with | [_, _], _ => rfl) (fun cdv A outer s H E hr hG => ?_)
  have tk : Takes (cxOf (L2.CX P w) P w K mg base ["draws", "place", "mixed", "k"] "_law_more" (defScope st__law_more) f cdv A outer s H E) (fun c d _ H => E c d H) := takes_of rfl rfl rfl rfl
  have hp : PassesOwn (model P w) (cxOf (L2.CX P w) P w K mg base ["draws", "place", "mixed", "k"] "_law_more" (defScope st__law_more) f cdv A outer s H E).A (cxOf (L2.CX P w) P w K mg base ["draws", "place", "mixed", "k"] "_law_more" (defScope st__law_more) f cdv A outer s H E).env (cxOf (L2.CX P w) P w K mg base ["draws", "place", "mixed", "k"] "_law_more" (defScope st__law_more) f cdv A outer s H E).xe := passes_of rfl
  have hN : (cxOf (L2.CX P w) P w K mg base ["draws", "place", "mixed", "k"] "_law_more" (defScope st__law_more) f cdv A outer s H E).N.Nodup := sc__law_more.nd
  have hu := Nat.lt_of_le_of_lt (Nat.add_le_add_left (by decide : 64 ≤ 16 * 0 + 200) _) (hr.mono (Nat.zero_le _)).un
  have hu1 := Nat.lt_of_le_of_lt (Nat.add_le_add_left (by decide : 65 ≤ 16 * 0 + 200) _) (hr.mono (Nat.zero_le _)).un
  have hu2 := Nat.lt_of_le_of_lt (Nat.add_le_add_left (by decide : 66 ≤ 16 * 0 + 200) _) (hr.mono (Nat.zero_le _)).un
  exact (sds_cons (sd_set 2 (ed_op opd_mod (ed_ty cd_int T.b_int boot_int (ad_cons (ed_op opd_add (ed_op opd_add (ed_op opd_mul (ed_var 1) ed_int) (ed_blt cd_len T.b_len boot_len (ad_cons (ed_var 0) ad_nil))) ed_int) ad_nil)) ed_int))
  (sds_cons (sd_for hp (id_range1 T.b_range (ad_cons ed_int ad_nil)) (gd_name 3) (sds_cons (sd_if (td_truth (ed_var 0)) (sds_one (sd_set 2 (ed_op opd_add (ed_var 2) (ed_ix (ed_var 0) (ed_op opd_mod (ed_ty cd_int T.b_int boot_int (ad_cons (ed_op opd_add (ed_op opd_mul (ed_var 1) (ed_op opd_add (ed_var 3) ed_int)) (ed_var 3)) ad_nil)) (ed_blt cd_len T.b_len boot_len (ad_cons (ed_var 0) ad_nil))))))) sds_nil)
  (sds_one (sd_set 2 (ed_op opd_mod (ed_ty cd_int T.b_int boot_int (ad_cons (ed_op opd_add (ed_op opd_add (ed_op opd_mul (ed_var 2) ed_int) (ed_op opd_mul ed_int (ed_var 3))) ed_int) ad_nil)) ed_int)))))
  (sds_one (sd_ret (ed_op opd_fdiv (ed_var 2) ed_int)))))
abbrev st__law_take : Stmt := top 50
def m__law_take : En → MS :=
  (mSeq (mSet 3 (mBin (fun a b => calm (opIx a b)) (mVar 1) (mC (.int 0)))) (mSeq (mSetIx (mVar 1) (mC (.int 0)) (mBin (fun a b => calm (opAdd a b)) (mVar 3) (mC (.int 1)))) (mRet (mBin (fun a b => calm (opMod a b)) (mBlt bInt (mCons (mIf (mT (mBin (fun a b => calm ((iiB fun i j => decide (i < j)) a b)) (mVar 3) (mBlt bLen (mCons (mVar 0) mNil)))) (mBin (fun a b => calm (opIx a b)) (mVar 0) (mVar 3)) (mCall g__law_more (mCons (mVar 0) (mCons (mVar 3) mNil)))) mNil)) (mVar 2)))))
def g__law_take : List Va → M Va := mFn 4 3 m__law_take
theorem sc__law_take : FnScope ["draws", "at", "many", "place"] ["draws", "at", "many"] (defScope st__law_take) := ⟨rfl, rfl, rfl, by decide +kernel, rfl, by decide +kernel, by decide +kernel⟩
theorem ok__law_take {f : Addr} {fd : FuncData} (T : Txt K mg) (F : Fun K "_law_take" "_law_take" st__law_take f fd) (hm : mg "_law_take" = some (.ref f)) (F__law_more : FnD P w K mg base 1 "_law_more" 2 (mFn 4 2 m__law_more))  : FnD P w K mg base 2 "_law_take" 3 (mFn 4 3 m__law_take) := by
  refine fn_d (N := ["draws", "at", "many", "place"]) (ps := ["draws", "at", "many"]) F sc__law_take hm rfl (fun _ _ _ _ _ _ us hl => match us, hl with | [_, _, _], _ => rfl) (fun cdv A outer s H E hr hG => ?_)
  have tk : Takes (cxOf (L2.CX P w) P w K mg base ["draws", "at", "many", "place"] "_law_take" (defScope st__law_take) f cdv A outer s H E) (fun c d _ H => E c d H) := takes_of rfl rfl rfl rfl
  have hp : PassesOwn (model P w) (cxOf (L2.CX P w) P w K mg base ["draws", "at", "many", "place"] "_law_take" (defScope st__law_take) f cdv A outer s H E).A (cxOf (L2.CX P w) P w K mg base ["draws", "at", "many", "place"] "_law_take" (defScope st__law_take) f cdv A outer s H E).env (cxOf (L2.CX P w) P w K mg base ["draws", "at", "many", "place"] "_law_take" (defScope st__law_take) f cdv A outer s H E).xe := passes_of rfl
  have hN : (cxOf (L2.CX P w) P w K mg base ["draws", "at", "many", "place"] "_law_take" (defScope st__law_take) f cdv A outer s H E).N.Nodup := sc__law_take.nd
  have hu := Nat.lt_of_le_of_lt (Nat.add_le_add_left (by decide : 64 ≤ 16 * 0 + 200) _) (hr.mono (Nat.zero_le _)).un
  have hu1 := Nat.lt_of_le_of_lt (Nat.add_le_add_left (by decide : 65 ≤ 16 * 0 + 200) _) (hr.mono (Nat.zero_le _)).un
  have hu2 := Nat.lt_of_le_of_lt (Nat.add_le_add_left (by decide : 66 ≤ 16 * 0 + 200) _) (hr.mono (Nat.zero_le _)).un
  exact (sds_cons (sd_set 3 (ed_ix (ed_var 1) ed_int))
  (sds_cons (sd_setIx (ed_op opd_add (ed_var 3) ed_int) (ed_var 1) ed_int)
  (sds_one (sd_ret (ed_op opd_mod (ed_ty cd_int T.b_int boot_int (ad_cons (ed_if (td_cmp opd_lt (ed_var 3) (ed_blt cd_len T.b_len boot_len (ad_cons (ed_var 0) ad_nil))) (ed_ix (ed_var 0) (ed_var 3)) (ed_call (F__law_more) (hr.mono (by decide)) hG tk (ad_cons (ed_var 0) (ad_cons (ed_var 3) ad_nil)))) ad_nil)) (ed_var 2))))))
abbrev st__law_one : Stmt := top 51
def m__law_one : En → MS :=
  (mRet (mBin (fun a b => calm (opIx a b)) (mVar 0) (mCall g__law_take (mCons (mVar 1) (mCons (mVar 2) (mCons (mBlt bLen (mCons (mVar 0) mNil)) mNil))))))
def g__law_one : List Va → M Va := mFn 3 3 m__law_one
theorem sc__law_one : FnScope ["rows", "draws", "at"] ["rows", "draws", "at"] (defScope st__law_one) := ⟨rfl, rfl, rfl, by decide +kernel, rfl, by decide +kernel, by decide +kernel⟩
theorem ok__law_one {f : Addr} {fd : FuncData} (T : Txt K mg) (F : Fun K "_law_one" "_law_one" st__law_one f fd) (hm : mg "_law_one" = some (.ref f)) (F__law_take : FnD P w K mg base 2 "_law_take" 3 (mFn 4 3 m__law_take))  : FnD P w K mg base 3 "_law_one" 3 (mFn 3 3 m__law_one) := by
  refine fn_d (N := ["rows", "draws", "at"]) (ps := ["rows", "draws", "at"]) F sc__law_one hm rfl (fun _ _ _ _ _ _ us hl => match us, hl with | [_, _, _], _ => rfl) (fun cdv A outer s H E hr hG => ?_)
  have tk : Takes (cxOf (L2.CX P w) P w K mg base ["rows", "draws", "at"] "_law_one" (defScope st__law_one) f cdv A outer s H E) (fun c d _ H => E c d H) := takes_of rfl rfl rfl rfl
  have hp : PassesOwn (model P w) (cxOf (L2.CX P w) P w K mg base ["rows", "draws", "at"] "_law_one" (defScope st__law_one) f cdv A outer s H E).A (cxOf (L2.CX P w) P w K mg base ["rows", "draws", "at"] "_law_one" (defScope st__law_one) f cdv A outer s H E).env (cxOf (L2.CX P w) P w K mg base ["rows", "draws", "at"] "_law_one" (defScope st__law_one) f cdv A outer s H E).xe := passes_of rfl
  have hN : (cxOf (L2.CX P w) P w K mg base ["rows", "draws", "at"] "_law_one" (defScope st__law_one) f cdv A outer s H E).N.Nodup := sc__law_one.nd
  have hu := Nat.lt_of_le_of_lt (Nat.add_le_add_left (by decide : 64 ≤ 16 * 0 + 200) _) (hr.mono (Nat.zero_le _)).un
  have hu1 := Nat.lt_of_le_of_lt (Nat.add_le_add_left (by decide : 65 ≤ 16 * 0 + 200) _) (hr.mono (Nat.zero_le _)).un
  have hu2 := Nat.lt_of_le_of_lt (Nat.add_le_add_left (by decide : 66 ≤ 16 * 0 + 200) _) (hr.mono (Nat.zero_le _)).un
  exact (sds_one (sd_ret (ed_ix (ed_var 0) (ed_call (F__law_take) (hr.mono (by decide)) hG tk (ad_cons (ed_var 1) (ad_cons (ed_var 2) (ad_cons (ed_blt cd_len T.b_len boot_len (ad_cons (ed_var 0) ad_nil)) ad_nil)))))))
abbrev st__law_limits_right : Stmt := top 52
def m__law_limits_right : En → MS :=
  (mSeq (mSet 0 (mLst (mCons (mC (.int 1000000)) (mCons (mC (.int 4)) (mCons (mC (.int 30)) (mCons (mC (.int 60)) (mCons (mC (.int 400)) (mCons (mC (.int 40)) (mCons (mC (.int 600)) (mCons (mC (.int 6000)) (mCons (mC (.int 200)) mNil))))))))))) (mSeq (mSet 0 (mBin (fun a b => calm (opAdd a b)) (mVar 0) (mLst (mCons (mC (.int 3000)) (mCons (mC (.int 40)) (mCons (mC (.int 12)) (mCons (mC (.int 10000000000)) (mCons (mC (.int 12)) (mCons (mC (.int 12)) (mCons (mC (.int 12)) (mCons (mC (.int 12)) (mCons (mC (.int 300)) mNil)))))))))))) (mSeq (mSet 0 (mBin (fun a b => calm (opAdd a b)) (mVar 0) (mLst (mCons (mC (.int 40)) (mCons (mC (.int 66)) (mCons (mC (.int 8)) (mCons (mC (.int 16)) (mCons (mC (.int 7)) (mCons (mC (.int 8)) (mCons (mC (.int 4000)) (mCons (mC (.int 8)) (mCons (mC (.int 4)) mNil)))))))))))) (mSeq (mSet 0 (mBin (fun a b => calm (opAdd a b)) (mVar 0) (mLst (mCons (mC (.int 20)) (mCons (mC (.int 60)) (mCons (mC (.int 3000)) (mCons (mC (.int 4)) (mCons (mC (.int 256)) (mCons (mC (.int 8)) (mCons (mC (.int 4)) (mCons (mC (.int 4)) (mCons (mC (.int 24)) mNil)))))))))))) (mSeq (mSet 0 (mBin (fun a b => calm (opAdd a b)) (mVar 0) (mLst (mCons (mC (.int 8)) mNil)))) (mSeq (mSet 1 (mLst (mCons (mC (.int 1000000)) (mCons (mC (.int 4)) (mCons (mC (.int 30)) (mCons (mC (.int 60)) (mCons (mC (.int 400)) (mCons (mC (.int 40)) (mCons (mC (.int 600)) (mCons (mC (.int 6000)) (mCons (mC (.int 200)) (mCons (mC (.int 3000)) (mCons (mC (.int 40)) (mCons (mC (.int 12)) (mCons (mC (.int 10000000000)) (mCons (mC (.int 12)) (mCons (mC (.int 12)) (mCons (mC (.int 12)) (mCons (mC (.int 12)) (mCons (mC (.int 300)) (mCons (mC (.int 40)) (mCons (mC (.int 66)) (mCons (mC (.int 8)) (mCons (mC (.int 16)) mNil)))))))))))))))))))))))) (mSeq (mSet 1 (mBin (fun a b => calm (opAdd a b)) (mVar 1) (mLst (mCons (mC (.int 7)) (mCons (mC (.int 8)) (mCons (mC (.int 4000)) (mCons (mC (.int 8)) (mCons (mC (.int 4)) (mCons (mC (.int 20)) (mCons (mC (.int 60)) (mCons (mC (.int 3000)) (mCons (mC (.int 4)) (mCons (mC (.int 256)) (mCons (mC (.int 8)) (mCons (mC (.int 4)) (mCons (mC (.int 4)) (mCons (mC (.int 24)) (mCons (mC (.int 8)) mNil)))))))))))))))))) (mRet (mBin (fun a b => calm (opEq a b)) (mBlt bRepr (mCons (mVar 0) mNil)) (mBlt bRepr (mCons (mVar 1) mNil)))))))))))
def g__law_limits_right : List Va → M Va := mFn 2 0 m__law_limits_right
theorem sc__law_limits_right : FnScope ["told", "due"] [] (defScope st__law_limits_right) := ⟨rfl, rfl, rfl, by decide +kernel, rfl, by decide +kernel, by decide +kernel⟩
theorem ok__law_limits_right {f : Addr} {fd : FuncData} (T : Txt K mg) (F : Fun K "_law_limits_right" "_law_limits_right" st__law_limits_right f fd) (hm : mg "_law_limits_right" = some (.ref f))   : FnD P w K mg base 1 "_law_limits_right" 0 (mFn 2 0 m__law_limits_right) := by
  refine fn_d (N := ["told", "due"]) (ps := []) F sc__law_limits_right hm rfl (fun _ _ _ _ _ _ us hl => match us, hl with | [], _ => rfl) (fun cdv A outer s H E hr hG => ?_)
  have tk : Takes (cxOf (L2.CX P w) P w K mg base ["told", "due"] "_law_limits_right" (defScope st__law_limits_right) f cdv A outer s H E) (fun c d _ H => E c d H) := takes_of rfl rfl rfl rfl
  have hp : PassesOwn (model P w) (cxOf (L2.CX P w) P w K mg base ["told", "due"] "_law_limits_right" (defScope st__law_limits_right) f cdv A outer s H E).A (cxOf (L2.CX P w) P w K mg base ["told", "due"] "_law_limits_right" (defScope st__law_limits_right) f cdv A outer s H E).env (cxOf (L2.CX P w) P w K mg base ["told", "due"] "_law_limits_right" (defScope st__law_limits_right) f cdv A outer s H E).xe := passes_of rfl
  have hN : (cxOf (L2.CX P w) P w K mg base ["told", "due"] "_law_limits_right" (defScope st__law_limits_right) f cdv A outer s H E).N.Nodup := sc__law_limits_right.nd
  have hu := Nat.lt_of_le_of_lt (Nat.add_le_add_left (by decide : 64 ≤ 16 * 0 + 200) _) (hr.mono (Nat.zero_le _)).un
  have hu1 := Nat.lt_of_le_of_lt (Nat.add_le_add_left (by decide : 65 ≤ 16 * 0 + 200) _) (hr.mono (Nat.zero_le _)).un
  have hu2 := Nat.lt_of_le_of_lt (Nat.add_le_add_left (by decide : 66 ≤ 16 * 0 + 200) _) (hr.mono (Nat.zero_le _)).un
  exact (sds_cons (sd_set 0 (ed_lst (ad_cons (ed_gintE T.c_MAX_NUMBER) (ad_cons (ed_gintE T.c_MAX_UNKNOWNS) (ad_cons (ed_gintE T.c_MAX_POWER) (ad_cons (ed_gintE T.c_MAX_TERMS) (ad_cons (ed_gintE T.c_MAX_HELD) (ad_cons (ed_gintE T.c_MAX_BASIS) (ad_cons (ed_gintE T.c_MAX_PAIRS) (ad_cons (ed_gintE T.c_MAX_TEXT) (ad_cons (ed_gintE T.c_MAX_LINES) ad_nil)))))))))))
  (sds_cons (sd_set 0 (ed_op opd_add (ed_var 0) (ed_lst (ad_cons (ed_gintE T.c_MAX_STEPS) (ad_cons (ed_gintE T.c_MAX_ANSWERS) (ad_cons (ed_gintE T.c_MAX_POINTS) (ad_cons (ed_gintE T.c_MAX_PARTED) (ad_cons (ed_gintE T.c_MAX_RAISED) (ad_cons (ed_gintE T.c_MAX_CORNERS) (ad_cons (ed_gintE T.c_MAX_DEGREE) (ad_cons (ed_gintE T.c_MAX_HELD_SYSTEMS) (ad_cons (ed_gintE T.c_MAX_SPLIT) ad_nil))))))))))))
  (sds_cons (sd_set 0 (ed_op opd_add (ed_var 0) (ed_lst (ad_cons (ed_gintE T.c_MAX_COUNTED) (ad_cons (ed_gintE T.c_MAX_TIED) (ad_cons (ed_gintE T.c_MAX_PLACES) (ad_cons (ed_gintE T.c_MAX_JOINED) (ad_cons (ed_gintE T.c_MAX_LAID) (ad_cons (ed_gintE T.c_MAX_SIDE) (ad_cons (ed_gintE T.c_MAX_EXPANDED) (ad_cons (ed_gintE T.c_MAX_MADE) (ad_cons (ed_gintE T.c_MAX_ROWED) ad_nil))))))))))))
  (sds_cons (sd_set 0 (ed_op opd_add (ed_var 0) (ed_lst (ad_cons (ed_gintE T.c_MAX_ENTRY) (ad_cons (ed_gintE T.c_MAX_START) (ad_cons (ed_gintE T.c_MAX_FIBER) (ad_cons (ed_gintE T.c_MAX_CHOICES) (ad_cons (ed_gintE T.c_MAX_GRID) (ad_cons (ed_gintE T.c_MAX_ASKED) (ad_cons (ed_gintE T.c_MAX_RELATED) (ad_cons (ed_gintE T.c_MAX_TABLED) (ad_cons (ed_gintE T.c_MAX_GROUP) ad_nil))))))))))))
  (sds_cons (sd_set 0 (ed_op opd_add (ed_var 0) (ed_lst (ad_cons (ed_gintE T.c_MAX_MAKERS) ad_nil))))
  (sds_cons (sd_set 1 (ed_lst (ad_cons ed_int (ad_cons ed_int (ad_cons ed_int (ad_cons ed_int (ad_cons ed_int (ad_cons ed_int (ad_cons ed_int (ad_cons ed_int (ad_cons ed_int (ad_cons ed_int (ad_cons ed_int (ad_cons ed_int (ad_cons ed_int (ad_cons ed_int (ad_cons ed_int (ad_cons ed_int (ad_cons ed_int (ad_cons ed_int (ad_cons ed_int (ad_cons ed_int (ad_cons ed_int (ad_cons ed_int ad_nil))))))))))))))))))))))))
  (sds_cons (sd_set 1 (ed_op opd_add (ed_var 1) (ed_lst (ad_cons ed_int (ad_cons ed_int (ad_cons ed_int (ad_cons ed_int (ad_cons ed_int (ad_cons ed_int (ad_cons ed_int (ad_cons ed_int (ad_cons ed_int (ad_cons ed_int (ad_cons ed_int (ad_cons ed_int (ad_cons ed_int (ad_cons ed_int (ad_cons ed_int ad_nil))))))))))))))))))
  (sds_one (sd_ret (ed_cmp (opd_eq hu) (ed_blt (cd_repr hG hu2) T.b_repr boot_repr (ad_cons (ed_var 0) ad_nil)) (ed_blt (cd_repr hG hu2) T.b_repr boot_repr (ad_cons (ed_var 1) ad_nil))))))))))))
abbrev st__law_raise : Stmt := top 53
def m__law_raise : En → MS :=
  (mSeq (mIfS (mT (mBin (fun a b => calm (opEq a b)) (mVar 0) (mC (.int 0)))) (mRaise "ArgumentError" ["reason"] (mCons (mVar 1) mNil)) mNx) (mSeq (mIfS (mT (mBin (fun a b => calm (opEq a b)) (mVar 0) (mC (.int 1)))) (mRaise "PaperError" ["reason"] (mCons (mVar 1) mNil)) mNx) (mSeq (mIfS (mT (mBin (fun a b => calm (opEq a b)) (mVar 0) (mC (.int 2)))) (mRaise "TooMany" ["reason"] (mCons (mVar 1) mNil)) mNx) (mSeq (mIfS (mT (mBin (fun a b => calm (opEq a b)) (mVar 0) (mC (.int 3)))) (mRaise "CheckError" ["reason"] (mCons (mVar 1) mNil)) mNx) (mSeq (mIfS (mT (mBin (fun a b => calm (opEq a b)) (mVar 0) (mC (.int 4)))) (mRaise "TextError" ["at"] (mCons (mVar 1) mNil)) mNx) (mSeq (mIfS (mT (mBin (fun a b => calm (opEq a b)) (mVar 0) (mC (.int 5)))) (mRaise "LogError" ["number", "reason"] (mCons (mVar 1) (mCons (mVar 2) mNil))) mNx) (mRaise "CommandError" ["line"] (mCons (mVar 1) mNil))))))))
def g__law_raise : List Va → M Va := mFn 3 3 m__law_raise
theorem sc__law_raise : FnScope ["k", "one", "other"] ["k", "one", "other"] (defScope st__law_raise) := ⟨rfl, rfl, rfl, by decide +kernel, rfl, by decide +kernel, by decide +kernel⟩
theorem ok__law_raise {f : Addr} {fd : FuncData} (T : Txt K mg) (F : Fun K "_law_raise" "_law_raise" st__law_raise f fd) (hm : mg "_law_raise" = some (.ref f))  (E_ArgumentError : ExD P w K mg base 1 "ArgumentError" ["reason"]) (E_CheckError : ExD P w K mg base 1 "CheckError" ["reason"]) (E_CommandError : ExD P w K mg base 1 "CommandError" ["line"]) (E_LogError : ExD P w K mg base 1 "LogError" ["number", "reason"]) (E_PaperError : ExD P w K mg base 1 "PaperError" ["reason"]) (E_TextError : ExD P w K mg base 1 "TextError" ["at"]) (E_TooMany : ExD P w K mg base 1 "TooMany" ["reason"]) : FnD P w K mg base 3 "_law_raise" 3 (mFn 3 3 m__law_raise) := by
  refine fn_d (N := ["k", "one", "other"]) (ps := ["k", "one", "other"]) F sc__law_raise hm rfl (fun _ _ _ _ _ _ us hl => match us, hl with | [_, _, _], _ => rfl) (fun cdv A outer s H E hr hG => ?_)
  have tk : Takes (cxOf (L2.CX P w) P w K mg base ["k", "one", "other"] "_law_raise" (defScope st__law_raise) f cdv A outer s H E) (fun c d _ H => E c d H) := takes_of rfl rfl rfl rfl
  have hp : PassesOwn (model P w) (cxOf (L2.CX P w) P w K mg base ["k", "one", "other"] "_law_raise" (defScope st__law_raise) f cdv A outer s H E).A (cxOf (L2.CX P w) P w K mg base ["k", "one", "other"] "_law_raise" (defScope st__law_raise) f cdv A outer s H E).env (cxOf (L2.CX P w) P w K mg base ["k", "one", "other"] "_law_raise" (defScope st__law_raise) f cdv A outer s H E).xe := passes_of rfl
  have hN : (cxOf (L2.CX P w) P w K mg base ["k", "one", "other"] "_law_raise" (defScope st__law_raise) f cdv A outer s H E).N.Nodup := sc__law_raise.nd
  have hu := Nat.lt_of_le_of_lt (Nat.add_le_add_left (by decide : 64 ≤ 16 * 0 + 200) _) (hr.mono (Nat.zero_le _)).un
  have hu1 := Nat.lt_of_le_of_lt (Nat.add_le_add_left (by decide : 65 ≤ 16 * 0 + 200) _) (hr.mono (Nat.zero_le _)).un
  have hu2 := Nat.lt_of_le_of_lt (Nat.add_le_add_left (by decide : 66 ≤ 16 * 0 + 200) _) (hr.mono (Nat.zero_le _)).un
  exact (sds_cons (sd_if (td_cmp (opd_eq hu) (ed_var 0) ed_int) (sds_one (sd_raise (E_ArgumentError) (hr.mono (by decide)) tk (ad_cons (ed_var 1) ad_nil))) sds_nil)
  (sds_cons (sd_if (td_cmp (opd_eq hu) (ed_var 0) ed_int) (sds_one (sd_raise (E_PaperError) (hr.mono (by decide)) tk (ad_cons (ed_var 1) ad_nil))) sds_nil)
  (sds_cons (sd_if (td_cmp (opd_eq hu) (ed_var 0) ed_int) (sds_one (sd_raise (E_TooMany) (hr.mono (by decide)) tk (ad_cons (ed_var 1) ad_nil))) sds_nil)
  (sds_cons (sd_if (td_cmp (opd_eq hu) (ed_var 0) ed_int) (sds_one (sd_raise (E_CheckError) (hr.mono (by decide)) tk (ad_cons (ed_var 1) ad_nil))) sds_nil)
  (sds_cons (sd_if (td_cmp (opd_eq hu) (ed_var 0) ed_int) (sds_one (sd_raise (E_TextError) (hr.mono (by decide)) tk (ad_cons (ed_var 1) ad_nil))) sds_nil)
  (sds_cons (sd_if (td_cmp (opd_eq hu) (ed_var 0) ed_int) (sds_one (sd_raise (E_LogError) (hr.mono (by decide)) tk (ad_cons (ed_var 1) (ad_cons (ed_var 2) ad_nil)))) sds_nil)
  (sds_one (sd_raise (E_CommandError) (hr.mono (by decide)) tk (ad_cons (ed_var 1) ad_nil)))))))))
abbrev st__law_kinds : Stmt := top 54
def m__law_kinds : En → MS :=
  (mSeq (mSet 1 (mLst (mCons (mIsE sub "ArgumentError" (mVar 0)) (mCons (mIsE sub "PaperError" (mVar 0)) (mCons (mIsE sub "TooMany" (mVar 0)) (mCons (mIsE sub "CheckError" (mVar 0)) mNil)))))) (mRet (mBin (fun a b => calm (opAdd a b)) (mVar 1) (mLst (mCons (mIsE sub "TextError" (mVar 0)) (mCons (mIsE sub "LogError" (mVar 0)) (mCons (mIsE sub "CommandError" (mVar 0)) mNil)))))))
def g__law_kinds : List Va → M Va := mFnE 2 1 m__law_kinds
theorem sc__law_kinds : FnScope ["e", "plain"] ["e"] (defScope st__law_kinds) := ⟨rfl, rfl, rfl, by decide +kernel, rfl, by decide +kernel, by decide +kernel⟩
theorem ok__law_kinds {f : Addr} {fd : FuncData} (T : Txt K mg) (F : Fun K "_law_kinds" "_law_kinds" st__law_kinds f fd) (hm : mg "_law_kinds" = some (.ref f))  (EW : ExW K mg tbl owns)  : FnE P w K mg base 1 "_law_kinds" 1 (mFnE 2 1 m__law_kinds) := by
  obtain ⟨C_ArgumentError, H_ArgumentError⟩ := EW.at_ "ArgumentError" (by decide)
  obtain ⟨C_CheckError, H_CheckError⟩ := EW.at_ "CheckError" (by decide)
  obtain ⟨C_CommandError, H_CommandError⟩ := EW.at_ "CommandError" (by decide)
  obtain ⟨C_LogError, H_LogError⟩ := EW.at_ "LogError" (by decide)
  obtain ⟨C_PaperError, H_PaperError⟩ := EW.at_ "PaperError" (by decide)
  obtain ⟨C_TextError, H_TextError⟩ := EW.at_ "TextError" (by decide)
  obtain ⟨C_TooMany, H_TooMany⟩ := EW.at_ "TooMany" (by decide)
  refine fn_e (N := ["e", "plain"]) (ps := ["e"]) F sc__law_kinds hm rfl (fun _ _ _ _ _ _ us hl => match us, hl with | [_], _ => rfl) (fun cdv A outer s H a oe cls d hr hG hz hf => ?_)
  have hN : (cxH (L2.CX P w) P w K mg base ["e", "plain"] "_law_kinds" (defScope st__law_kinds) f cdv A outer s H (fun _ _ _ => False) (a, oe)).N.Nodup := sc__law_kinds.nd
  have N_ArgumentError : Names (cxH (L2.CX P w) P w K mg base ["e", "plain"] "_law_kinds" (defScope st__law_kinds) f cdv A outer s H (fun _ _ _ => False) (a, oe)) "ArgumentError" (.ref C_ArgumentError) := ⟨rfl, by decide, .inl H_ArgumentError⟩
  have S_ArgumentError : ∀ c b D, sub c "ArgumentError" = some b → mg c = some (.ref D) → PySem.W.exmOne K (.ref D) (.ref C_ArgumentError) = some b := fun c b D h1 h2 => EW.exm c _ b _ D (by decide) h1 h2 H_ArgumentError
  have K_ArgumentError : ∀ c b D, sub c "ArgumentError" = some b → mg c = some (.ref D) → PySem.W.kitOne K (.ref D) (.ref C_ArgumentError) = some b ∧ ExcC K D := fun c b D h1 h2 => ⟨EW.kit c _ b _ D (by decide) h1 h2 H_ArgumentError, EW.ec c _ b D h1 h2⟩
  have N_CheckError : Names (cxH (L2.CX P w) P w K mg base ["e", "plain"] "_law_kinds" (defScope st__law_kinds) f cdv A outer s H (fun _ _ _ => False) (a, oe)) "CheckError" (.ref C_CheckError) := ⟨rfl, by decide, .inl H_CheckError⟩
  have S_CheckError : ∀ c b D, sub c "CheckError" = some b → mg c = some (.ref D) → PySem.W.exmOne K (.ref D) (.ref C_CheckError) = some b := fun c b D h1 h2 => EW.exm c _ b _ D (by decide) h1 h2 H_CheckError
  have K_CheckError : ∀ c b D, sub c "CheckError" = some b → mg c = some (.ref D) → PySem.W.kitOne K (.ref D) (.ref C_CheckError) = some b ∧ ExcC K D := fun c b D h1 h2 => ⟨EW.kit c _ b _ D (by decide) h1 h2 H_CheckError, EW.ec c _ b D h1 h2⟩
  have N_CommandError : Names (cxH (L2.CX P w) P w K mg base ["e", "plain"] "_law_kinds" (defScope st__law_kinds) f cdv A outer s H (fun _ _ _ => False) (a, oe)) "CommandError" (.ref C_CommandError) := ⟨rfl, by decide, .inl H_CommandError⟩
  have S_CommandError : ∀ c b D, sub c "CommandError" = some b → mg c = some (.ref D) → PySem.W.exmOne K (.ref D) (.ref C_CommandError) = some b := fun c b D h1 h2 => EW.exm c _ b _ D (by decide) h1 h2 H_CommandError
  have K_CommandError : ∀ c b D, sub c "CommandError" = some b → mg c = some (.ref D) → PySem.W.kitOne K (.ref D) (.ref C_CommandError) = some b ∧ ExcC K D := fun c b D h1 h2 => ⟨EW.kit c _ b _ D (by decide) h1 h2 H_CommandError, EW.ec c _ b D h1 h2⟩
  have N_LogError : Names (cxH (L2.CX P w) P w K mg base ["e", "plain"] "_law_kinds" (defScope st__law_kinds) f cdv A outer s H (fun _ _ _ => False) (a, oe)) "LogError" (.ref C_LogError) := ⟨rfl, by decide, .inl H_LogError⟩
  have S_LogError : ∀ c b D, sub c "LogError" = some b → mg c = some (.ref D) → PySem.W.exmOne K (.ref D) (.ref C_LogError) = some b := fun c b D h1 h2 => EW.exm c _ b _ D (by decide) h1 h2 H_LogError
  have K_LogError : ∀ c b D, sub c "LogError" = some b → mg c = some (.ref D) → PySem.W.kitOne K (.ref D) (.ref C_LogError) = some b ∧ ExcC K D := fun c b D h1 h2 => ⟨EW.kit c _ b _ D (by decide) h1 h2 H_LogError, EW.ec c _ b D h1 h2⟩
  have N_PaperError : Names (cxH (L2.CX P w) P w K mg base ["e", "plain"] "_law_kinds" (defScope st__law_kinds) f cdv A outer s H (fun _ _ _ => False) (a, oe)) "PaperError" (.ref C_PaperError) := ⟨rfl, by decide, .inl H_PaperError⟩
  have S_PaperError : ∀ c b D, sub c "PaperError" = some b → mg c = some (.ref D) → PySem.W.exmOne K (.ref D) (.ref C_PaperError) = some b := fun c b D h1 h2 => EW.exm c _ b _ D (by decide) h1 h2 H_PaperError
  have K_PaperError : ∀ c b D, sub c "PaperError" = some b → mg c = some (.ref D) → PySem.W.kitOne K (.ref D) (.ref C_PaperError) = some b ∧ ExcC K D := fun c b D h1 h2 => ⟨EW.kit c _ b _ D (by decide) h1 h2 H_PaperError, EW.ec c _ b D h1 h2⟩
  have N_TextError : Names (cxH (L2.CX P w) P w K mg base ["e", "plain"] "_law_kinds" (defScope st__law_kinds) f cdv A outer s H (fun _ _ _ => False) (a, oe)) "TextError" (.ref C_TextError) := ⟨rfl, by decide, .inl H_TextError⟩
  have S_TextError : ∀ c b D, sub c "TextError" = some b → mg c = some (.ref D) → PySem.W.exmOne K (.ref D) (.ref C_TextError) = some b := fun c b D h1 h2 => EW.exm c _ b _ D (by decide) h1 h2 H_TextError
  have K_TextError : ∀ c b D, sub c "TextError" = some b → mg c = some (.ref D) → PySem.W.kitOne K (.ref D) (.ref C_TextError) = some b ∧ ExcC K D := fun c b D h1 h2 => ⟨EW.kit c _ b _ D (by decide) h1 h2 H_TextError, EW.ec c _ b D h1 h2⟩
  have N_TooMany : Names (cxH (L2.CX P w) P w K mg base ["e", "plain"] "_law_kinds" (defScope st__law_kinds) f cdv A outer s H (fun _ _ _ => False) (a, oe)) "TooMany" (.ref C_TooMany) := ⟨rfl, by decide, .inl H_TooMany⟩
  have S_TooMany : ∀ c b D, sub c "TooMany" = some b → mg c = some (.ref D) → PySem.W.exmOne K (.ref D) (.ref C_TooMany) = some b := fun c b D h1 h2 => EW.exm c _ b _ D (by decide) h1 h2 H_TooMany
  have K_TooMany : ∀ c b D, sub c "TooMany" = some b → mg c = some (.ref D) → PySem.W.kitOne K (.ref D) (.ref C_TooMany) = some b ∧ ExcC K D := fun c b D h1 h2 => ⟨EW.kit c _ b _ D (by decide) h1 h2 H_TooMany, EW.ec c _ b D h1 h2⟩
  have hu := Nat.lt_of_le_of_lt (Nat.add_le_add_left (by decide : 64 ≤ 16 * 0 + 200) _) (hr.mono (Nat.zero_le _)).un
  have hu1 := Nat.lt_of_le_of_lt (Nat.add_le_add_left (by decide : 65 ≤ 16 * 0 + 200) _) (hr.mono (Nat.zero_le _)).un
  have hu2 := Nat.lt_of_le_of_lt (Nat.add_le_add_left (by decide : 66 ≤ 16 * 0 + 200) _) (hr.mono (Nat.zero_le _)).un
  exact (sds_cons (sd_set 1 (ed_lst (ad_cons (ed_isE (clsN_own H_ArgumentError) T.b_isinstance hz hf (K_ArgumentError) (ed_var 0)) (ad_cons (ed_isE (clsN_own H_PaperError) T.b_isinstance hz hf (K_PaperError) (ed_var 0)) (ad_cons (ed_isE (clsN_own H_TooMany) T.b_isinstance hz hf (K_TooMany) (ed_var 0)) (ad_cons (ed_isE (clsN_own H_CheckError) T.b_isinstance hz hf (K_CheckError) (ed_var 0)) ad_nil))))))
  (sds_one (sd_ret (ed_op opd_add (ed_var 1) (ed_lst (ad_cons (ed_isE (clsN_own H_TextError) T.b_isinstance hz hf (K_TextError) (ed_var 0)) (ad_cons (ed_isE (clsN_own H_LogError) T.b_isinstance hz hf (K_LogError) (ed_var 0)) (ad_cons (ed_isE (clsN_own H_CommandError) T.b_isinstance hz hf (K_CommandError) (ed_var 0)) ad_nil))))))))
abbrev st__law_caught : Stmt := top 55
def m__law_caught : En → MS :=
  (mSeq (mTry sub (mExpr (mCall g__law_raise (mCons (mVar 0) (mCons (mVar 1) (mCons (mVar 2) mNil))))) [("IdealError", some 3, (mRet (mIf (mT (mIsE sub "ValueError" (mVar 3))) (mCall g__law_kinds (mCons (mVar 3) mNil)) (mLst mNil))))]) (mRet (mLst mNil)))
def g__law_caught : List Va → M Va := mFn 4 3 m__law_caught
theorem sc__law_caught : FnScope ["k", "one", "other", "e"] ["k", "one", "other"] (defScope st__law_caught) := ⟨rfl, rfl, rfl, by decide +kernel, rfl, by decide +kernel, by decide +kernel⟩
theorem ok__law_caught {f : Addr} {fd : FuncData} (T : Txt K mg) (F : Fun K "_law_caught" "_law_caught" st__law_caught f fd) (hm : mg "_law_caught" = some (.ref f)) (F__law_kinds : FnE P w K mg base 1 "_law_kinds" 1 (mFnE 2 1 m__law_kinds)) (F__law_raise : FnD P w K mg base 3 "_law_raise" 3 (mFn 3 3 m__law_raise)) (EW : ExW K mg tbl owns)  : FnD P w K mg base 4 "_law_caught" 3 (mFn 4 3 m__law_caught) := by
  obtain ⟨C_IdealError, H_IdealError⟩ := EW.at_ "IdealError" (by decide)
  refine fn_d (N := ["k", "one", "other", "e"]) (ps := ["k", "one", "other"]) F sc__law_caught hm rfl (fun _ _ _ _ _ _ us hl => match us, hl with | [_, _, _], _ => rfl) (fun cdv A outer s H E hr hG => ?_)
  have tk : Takes (cxOf (L2.CX P w) P w K mg base ["k", "one", "other", "e"] "_law_caught" (defScope st__law_caught) f cdv A outer s H E) (fun c d _ H => E c d H) := takes_of rfl rfl rfl rfl
  have hp : PassesOwn (model P w) (cxOf (L2.CX P w) P w K mg base ["k", "one", "other", "e"] "_law_caught" (defScope st__law_caught) f cdv A outer s H E).A (cxOf (L2.CX P w) P w K mg base ["k", "one", "other", "e"] "_law_caught" (defScope st__law_caught) f cdv A outer s H E).env (cxOf (L2.CX P w) P w K mg base ["k", "one", "other", "e"] "_law_caught" (defScope st__law_caught) f cdv A outer s H E).xe := passes_of rfl
  have hN : (cxOf (L2.CX P w) P w K mg base ["k", "one", "other", "e"] "_law_caught" (defScope st__law_caught) f cdv A outer s H E).N.Nodup := sc__law_caught.nd
  have N_IdealError : Names (cxOf (L2.CX P w) P w K mg base ["k", "one", "other", "e"] "_law_caught" (defScope st__law_caught) f cdv A outer s H E) "IdealError" (.ref C_IdealError) := ⟨rfl, by decide, .inl H_IdealError⟩
  have S_IdealError : ∀ c b D, sub c "IdealError" = some b → mg c = some (.ref D) → PySem.W.exmOne K (.ref D) (.ref C_IdealError) = some b := fun c b D h1 h2 => EW.exm c _ b _ D (by decide) h1 h2 H_IdealError
  have K_IdealError : ∀ c b D, sub c "IdealError" = some b → mg c = some (.ref D) → PySem.W.kitOne K (.ref D) (.ref C_IdealError) = some b ∧ ExcC K D := fun c b D h1 h2 => ⟨EW.kit c _ b _ D (by decide) h1 h2 H_IdealError, EW.ec c _ b D h1 h2⟩
  have hu := Nat.lt_of_le_of_lt (Nat.add_le_add_left (by decide : 64 ≤ 16 * 0 + 200) _) (hr.mono (Nat.zero_le _)).un
  have hu1 := Nat.lt_of_le_of_lt (Nat.add_le_add_left (by decide : 65 ≤ 16 * 0 + 200) _) (hr.mono (Nat.zero_le _)).un
  have hu2 := Nat.lt_of_le_of_lt (Nat.add_le_add_left (by decide : 66 ≤ 16 * 0 + 200) _) (hr.mono (Nat.zero_le _)).un
  exact (sds_cons (sd_try tk (fun W1 pn1 xe1 tk1 hp1 => (sds_one (sd_expr (ed_call (F__law_raise) (hr.mono (by decide)) hG tk1 (ad_cons (ed_var 0) (ad_cons (ed_var 1) (ad_cons (ed_var 2) ad_nil))))))) (.consN (N_IdealError) (S_IdealError) hN rfl rfl (fun a oe cls d pn hz hf => (sds_one (sd_ret (ed_if (td_val (ed_isE (clsN_ty T.b_ValueError boot_ValueError) T.b_isinstance hz hf (fun c b D h1 h2 => ⟨EW.kitV c b D h1 h2, EW.ec c _ b D h1 h2⟩) (ed_var 3))) (ed_callE (F__law_kinds) (hr.mono (by decide)) hG hz hf (ad_cons (ed_var 3) ad_nil)) (ed_lst ad_nil)))))
 .nil))
  (sds_one (sd_ret (ed_lst ad_nil))))
abbrev st__law_fields : Stmt := top 56
def m__law_fields : En → MS :=
  (mSeq (mTry sub (mExpr (mCall g__law_raise (mCons (mVar 0) (mCons (mVar 1) (mCons (mVar 2) mNil))))) [("ArgumentError", some 3, (mRet (mTup (mCons (mFld ["ArgumentError", "PaperError", "TooMany", "CheckError", "LogError"] "reason" (mVar 3)) mNil)))), ("PaperError", some 3, (mRet (mTup (mCons (mFld ["ArgumentError", "PaperError", "TooMany", "CheckError", "LogError"] "reason" (mVar 3)) mNil)))), ("TooMany", some 3, (mRet (mTup (mCons (mFld ["ArgumentError", "PaperError", "TooMany", "CheckError", "LogError"] "reason" (mVar 3)) mNil)))), ("CheckError", some 3, (mRet (mTup (mCons (mFld ["ArgumentError", "PaperError", "TooMany", "CheckError", "LogError"] "reason" (mVar 3)) mNil)))), ("TextError", some 3, (mRet (mTup (mCons (mFld ["TextError"] "at" (mVar 3)) mNil)))), ("LogError", some 3, (mRet (mTup (mCons (mFld ["LogError"] "number" (mVar 3)) (mCons (mFld ["ArgumentError", "PaperError", "TooMany", "CheckError", "LogError"] "reason" (mVar 3)) mNil))))), ("CommandError", some 3, (mRet (mTup (mCons (mFld ["CommandError"] "line" (mVar 3)) mNil))))]) (mRet (mC .non)))
def g__law_fields : List Va → M Va := mFn 4 3 m__law_fields
theorem sc__law_fields : FnScope ["k", "one", "other", "e"] ["k", "one", "other"] (defScope st__law_fields) := ⟨rfl, rfl, rfl, by decide +kernel, rfl, by decide +kernel, by decide +kernel⟩
theorem ok__law_fields {f : Addr} {fd : FuncData} (T : Txt K mg) (F : Fun K "_law_fields" "_law_fields" st__law_fields f fd) (hm : mg "_law_fields" = some (.ref f)) (F__law_raise : FnD P w K mg base 3 "_law_raise" 3 (mFn 3 3 m__law_raise)) (EW : ExW K mg tbl owns) (F_at : ExF K mg ["TextError"] "at") (F_line : ExF K mg ["CommandError"] "line") (F_number : ExF K mg ["LogError"] "number") (F_reason : ExF K mg ["ArgumentError", "PaperError", "TooMany", "CheckError", "LogError"] "reason")  : FnD P w K mg base 4 "_law_fields" 3 (mFn 4 3 m__law_fields) := by
  obtain ⟨C_ArgumentError, H_ArgumentError⟩ := EW.at_ "ArgumentError" (by decide)
  obtain ⟨C_CheckError, H_CheckError⟩ := EW.at_ "CheckError" (by decide)
  obtain ⟨C_CommandError, H_CommandError⟩ := EW.at_ "CommandError" (by decide)
  obtain ⟨C_LogError, H_LogError⟩ := EW.at_ "LogError" (by decide)
  obtain ⟨C_PaperError, H_PaperError⟩ := EW.at_ "PaperError" (by decide)
  obtain ⟨C_TextError, H_TextError⟩ := EW.at_ "TextError" (by decide)
  obtain ⟨C_TooMany, H_TooMany⟩ := EW.at_ "TooMany" (by decide)
  refine fn_d (N := ["k", "one", "other", "e"]) (ps := ["k", "one", "other"]) F sc__law_fields hm rfl (fun _ _ _ _ _ _ us hl => match us, hl with | [_, _, _], _ => rfl) (fun cdv A outer s H E hr hG => ?_)
  have tk : Takes (cxOf (L2.CX P w) P w K mg base ["k", "one", "other", "e"] "_law_fields" (defScope st__law_fields) f cdv A outer s H E) (fun c d _ H => E c d H) := takes_of rfl rfl rfl rfl
  have hp : PassesOwn (model P w) (cxOf (L2.CX P w) P w K mg base ["k", "one", "other", "e"] "_law_fields" (defScope st__law_fields) f cdv A outer s H E).A (cxOf (L2.CX P w) P w K mg base ["k", "one", "other", "e"] "_law_fields" (defScope st__law_fields) f cdv A outer s H E).env (cxOf (L2.CX P w) P w K mg base ["k", "one", "other", "e"] "_law_fields" (defScope st__law_fields) f cdv A outer s H E).xe := passes_of rfl
  have hN : (cxOf (L2.CX P w) P w K mg base ["k", "one", "other", "e"] "_law_fields" (defScope st__law_fields) f cdv A outer s H E).N.Nodup := sc__law_fields.nd
  have N_ArgumentError : Names (cxOf (L2.CX P w) P w K mg base ["k", "one", "other", "e"] "_law_fields" (defScope st__law_fields) f cdv A outer s H E) "ArgumentError" (.ref C_ArgumentError) := ⟨rfl, by decide, .inl H_ArgumentError⟩
  have S_ArgumentError : ∀ c b D, sub c "ArgumentError" = some b → mg c = some (.ref D) → PySem.W.exmOne K (.ref D) (.ref C_ArgumentError) = some b := fun c b D h1 h2 => EW.exm c _ b _ D (by decide) h1 h2 H_ArgumentError
  have K_ArgumentError : ∀ c b D, sub c "ArgumentError" = some b → mg c = some (.ref D) → PySem.W.kitOne K (.ref D) (.ref C_ArgumentError) = some b ∧ ExcC K D := fun c b D h1 h2 => ⟨EW.kit c _ b _ D (by decide) h1 h2 H_ArgumentError, EW.ec c _ b D h1 h2⟩
  have N_CheckError : Names (cxOf (L2.CX P w) P w K mg base ["k", "one", "other", "e"] "_law_fields" (defScope st__law_fields) f cdv A outer s H E) "CheckError" (.ref C_CheckError) := ⟨rfl, by decide, .inl H_CheckError⟩
  have S_CheckError : ∀ c b D, sub c "CheckError" = some b → mg c = some (.ref D) → PySem.W.exmOne K (.ref D) (.ref C_CheckError) = some b := fun c b D h1 h2 => EW.exm c _ b _ D (by decide) h1 h2 H_CheckError
  have K_CheckError : ∀ c b D, sub c "CheckError" = some b → mg c = some (.ref D) → PySem.W.kitOne K (.ref D) (.ref C_CheckError) = some b ∧ ExcC K D := fun c b D h1 h2 => ⟨EW.kit c _ b _ D (by decide) h1 h2 H_CheckError, EW.ec c _ b D h1 h2⟩
  have N_CommandError : Names (cxOf (L2.CX P w) P w K mg base ["k", "one", "other", "e"] "_law_fields" (defScope st__law_fields) f cdv A outer s H E) "CommandError" (.ref C_CommandError) := ⟨rfl, by decide, .inl H_CommandError⟩
  have S_CommandError : ∀ c b D, sub c "CommandError" = some b → mg c = some (.ref D) → PySem.W.exmOne K (.ref D) (.ref C_CommandError) = some b := fun c b D h1 h2 => EW.exm c _ b _ D (by decide) h1 h2 H_CommandError
  have K_CommandError : ∀ c b D, sub c "CommandError" = some b → mg c = some (.ref D) → PySem.W.kitOne K (.ref D) (.ref C_CommandError) = some b ∧ ExcC K D := fun c b D h1 h2 => ⟨EW.kit c _ b _ D (by decide) h1 h2 H_CommandError, EW.ec c _ b D h1 h2⟩
  have N_LogError : Names (cxOf (L2.CX P w) P w K mg base ["k", "one", "other", "e"] "_law_fields" (defScope st__law_fields) f cdv A outer s H E) "LogError" (.ref C_LogError) := ⟨rfl, by decide, .inl H_LogError⟩
  have S_LogError : ∀ c b D, sub c "LogError" = some b → mg c = some (.ref D) → PySem.W.exmOne K (.ref D) (.ref C_LogError) = some b := fun c b D h1 h2 => EW.exm c _ b _ D (by decide) h1 h2 H_LogError
  have K_LogError : ∀ c b D, sub c "LogError" = some b → mg c = some (.ref D) → PySem.W.kitOne K (.ref D) (.ref C_LogError) = some b ∧ ExcC K D := fun c b D h1 h2 => ⟨EW.kit c _ b _ D (by decide) h1 h2 H_LogError, EW.ec c _ b D h1 h2⟩
  have N_PaperError : Names (cxOf (L2.CX P w) P w K mg base ["k", "one", "other", "e"] "_law_fields" (defScope st__law_fields) f cdv A outer s H E) "PaperError" (.ref C_PaperError) := ⟨rfl, by decide, .inl H_PaperError⟩
  have S_PaperError : ∀ c b D, sub c "PaperError" = some b → mg c = some (.ref D) → PySem.W.exmOne K (.ref D) (.ref C_PaperError) = some b := fun c b D h1 h2 => EW.exm c _ b _ D (by decide) h1 h2 H_PaperError
  have K_PaperError : ∀ c b D, sub c "PaperError" = some b → mg c = some (.ref D) → PySem.W.kitOne K (.ref D) (.ref C_PaperError) = some b ∧ ExcC K D := fun c b D h1 h2 => ⟨EW.kit c _ b _ D (by decide) h1 h2 H_PaperError, EW.ec c _ b D h1 h2⟩
  have N_TextError : Names (cxOf (L2.CX P w) P w K mg base ["k", "one", "other", "e"] "_law_fields" (defScope st__law_fields) f cdv A outer s H E) "TextError" (.ref C_TextError) := ⟨rfl, by decide, .inl H_TextError⟩
  have S_TextError : ∀ c b D, sub c "TextError" = some b → mg c = some (.ref D) → PySem.W.exmOne K (.ref D) (.ref C_TextError) = some b := fun c b D h1 h2 => EW.exm c _ b _ D (by decide) h1 h2 H_TextError
  have K_TextError : ∀ c b D, sub c "TextError" = some b → mg c = some (.ref D) → PySem.W.kitOne K (.ref D) (.ref C_TextError) = some b ∧ ExcC K D := fun c b D h1 h2 => ⟨EW.kit c _ b _ D (by decide) h1 h2 H_TextError, EW.ec c _ b D h1 h2⟩
  have N_TooMany : Names (cxOf (L2.CX P w) P w K mg base ["k", "one", "other", "e"] "_law_fields" (defScope st__law_fields) f cdv A outer s H E) "TooMany" (.ref C_TooMany) := ⟨rfl, by decide, .inl H_TooMany⟩
  have S_TooMany : ∀ c b D, sub c "TooMany" = some b → mg c = some (.ref D) → PySem.W.exmOne K (.ref D) (.ref C_TooMany) = some b := fun c b D h1 h2 => EW.exm c _ b _ D (by decide) h1 h2 H_TooMany
  have K_TooMany : ∀ c b D, sub c "TooMany" = some b → mg c = some (.ref D) → PySem.W.kitOne K (.ref D) (.ref C_TooMany) = some b ∧ ExcC K D := fun c b D h1 h2 => ⟨EW.kit c _ b _ D (by decide) h1 h2 H_TooMany, EW.ec c _ b D h1 h2⟩
  have hu := Nat.lt_of_le_of_lt (Nat.add_le_add_left (by decide : 64 ≤ 16 * 0 + 200) _) (hr.mono (Nat.zero_le _)).un
  have hu1 := Nat.lt_of_le_of_lt (Nat.add_le_add_left (by decide : 65 ≤ 16 * 0 + 200) _) (hr.mono (Nat.zero_le _)).un
  have hu2 := Nat.lt_of_le_of_lt (Nat.add_le_add_left (by decide : 66 ≤ 16 * 0 + 200) _) (hr.mono (Nat.zero_le _)).un
  exact (sds_cons (sd_try tk (fun W1 pn1 xe1 tk1 hp1 => (sds_one (sd_expr (ed_call (F__law_raise) (hr.mono (by decide)) hG tk1 (ad_cons (ed_var 0) (ad_cons (ed_var 1) (ad_cons (ed_var 2) ad_nil))))))) (.consN (N_ArgumentError) (S_ArgumentError) hN rfl rfl (fun a oe cls d pn hz hf => (sds_one (sd_ret (ed_tup (ad_cons (ed_fld (F_reason) hz hf (ed_var 3)) ad_nil)))))
 (.consN (N_PaperError) (S_PaperError) hN rfl rfl (fun a oe cls d pn hz hf => (sds_one (sd_ret (ed_tup (ad_cons (ed_fld (F_reason) hz hf (ed_var 3)) ad_nil)))))
 (.consN (N_TooMany) (S_TooMany) hN rfl rfl (fun a oe cls d pn hz hf => (sds_one (sd_ret (ed_tup (ad_cons (ed_fld (F_reason) hz hf (ed_var 3)) ad_nil)))))
 (.consN (N_CheckError) (S_CheckError) hN rfl rfl (fun a oe cls d pn hz hf => (sds_one (sd_ret (ed_tup (ad_cons (ed_fld (F_reason) hz hf (ed_var 3)) ad_nil)))))
 (.consN (N_TextError) (S_TextError) hN rfl rfl (fun a oe cls d pn hz hf => (sds_one (sd_ret (ed_tup (ad_cons (ed_fld (F_at) hz hf (ed_var 3)) ad_nil)))))
 (.consN (N_LogError) (S_LogError) hN rfl rfl (fun a oe cls d pn hz hf => (sds_one (sd_ret (ed_tup (ad_cons (ed_fld (F_number) hz hf (ed_var 3)) (ad_cons (ed_fld (F_reason) hz hf (ed_var 3)) ad_nil))))))
 (.consN (N_CommandError) (S_CommandError) hN rfl rfl (fun a oe cls d pn hz hf => (sds_one (sd_ret (ed_tup (ad_cons (ed_fld (F_line) hz hf (ed_var 3)) ad_nil)))))
 .nil))))))))
  (sds_one (sd_ret ed_non)))
abbrev st_law : Stmt := top 57
def b1_law : En → MS :=
  (mSeq (mPar [5, 6] (mCons (mCall g__law_one (mCons (mVar 3) (mCons (mVar 1) (mCons (mVar 2) mNil)))) (mCons (mCall g__law_one (mCons (mVar 3) (mCons (mVar 1) (mCons (mVar 2) mNil)))) mNil))) (mSeq (mIfS (mT (mBin (fun a b => calm (opNe a b)) (mCall g__law_caught (mCons (mVar 4) (mCons (mVar 5) (mCons (mVar 6) mNil)))) (mLc (mArgI rangeOf1 (mCons (mC (.int 7)) mNil)) (gVar 7) mYes (mBin (fun a b => calm (opEq a b)) (mVar 7) (mVar 4)) [7]))) (mRet (mC (.bl false))) mNx) (mIfS (mT (mBin (fun a b => calm (opNe a b)) (mBlt bRepr (mCons (mCall g__law_fields (mCons (mVar 4) (mCons (mVar 5) (mCons (mVar 6) mNil)))) mNil)) (mBlt bRepr (mCons (mIf (mT (mBin (fun a b => calm (opEq a b)) (mVar 4) (mC (.int 5)))) (mTup (mCons (mVar 5) (mCons (mVar 6) mNil))) (mTup (mCons (mVar 5) mNil))) mNil)))) (mRet (mC (.bl false))) mNx)))
def m_law : En → MS :=
  (mSeq (mSet 1 (mCall g__law_draws (mCons (mVar 0) mNil))) (mSeq (mSet 2 (mObj (mCons (mC (.int 0)) mNil))) (mSeq (mIfS (mNot (mT (mCall g__law_limits_right mNil))) (mRet (mC (.bl false))) mNx) (mSeq (mSet 3 (mLst (mCons (mC (.str "word")) (mCons (mC (.str "")) (mCons (mC (.str "form")) (mCons (mC (.int 0)) (mCons (mC (.int 17)) (mCons (mNeg (mC (.int 3))) (mCons (mC .non) (mCons (mTup (mCons (mC (.str "a")) (mCons (mC (.int 5)) mNil))) (mCons (mC (.str "a line")) (mCons (mC (.bl true)) mNil)))))))))))) (mSeq (mFor (mArgI rangeOf1 (mCons (mC (.int 7)) mNil)) (gVar 4) b1_law) (mRet (mC (.bl true))))))))
def g_law : List Va → M Va := mFn 8 1 m_law
theorem sc_law : FnScope ["script", "draws", "at", "values", "k", "one", "other", "j"] ["script"] (defScope st_law) := ⟨rfl, rfl, rfl, by decide +kernel, rfl, by decide +kernel, by decide +kernel⟩
theorem ok_law {f : Addr} {fd : FuncData} (T : Txt K mg) (F : Fun K "law" "law" st_law f fd) (hm : mg "law" = some (.ref f)) (F__law_caught : FnD P w K mg base 4 "_law_caught" 3 (mFn 4 3 m__law_caught)) (F__law_draws : FnD P w K mg base 1 "_law_draws" 1 (mFn 6 1 m__law_draws)) (F__law_fields : FnD P w K mg base 4 "_law_fields" 3 (mFn 4 3 m__law_fields)) (F__law_limits_right : FnD P w K mg base 1 "_law_limits_right" 0 (mFn 2 0 m__law_limits_right)) (F__law_one : FnD P w K mg base 3 "_law_one" 3 (mFn 3 3 m__law_one))  : FnD P w K mg base 5 "law" 1 (mFn 8 1 m_law) := by
  refine fn_d (N := ["script", "draws", "at", "values", "k", "one", "other", "j"]) (ps := ["script"]) F sc_law hm rfl (fun _ _ _ _ _ _ us hl => match us, hl with | [_], _ => rfl) (fun cdv A outer s H E hr hG => ?_)
  have tk : Takes (cxOf (L2.CX P w) P w K mg base ["script", "draws", "at", "values", "k", "one", "other", "j"] "law" (defScope st_law) f cdv A outer s H E) (fun c d _ H => E c d H) := takes_of rfl rfl rfl rfl
  have hp : PassesOwn (model P w) (cxOf (L2.CX P w) P w K mg base ["script", "draws", "at", "values", "k", "one", "other", "j"] "law" (defScope st_law) f cdv A outer s H E).A (cxOf (L2.CX P w) P w K mg base ["script", "draws", "at", "values", "k", "one", "other", "j"] "law" (defScope st_law) f cdv A outer s H E).env (cxOf (L2.CX P w) P w K mg base ["script", "draws", "at", "values", "k", "one", "other", "j"] "law" (defScope st_law) f cdv A outer s H E).xe := passes_of rfl
  have hN : (cxOf (L2.CX P w) P w K mg base ["script", "draws", "at", "values", "k", "one", "other", "j"] "law" (defScope st_law) f cdv A outer s H E).N.Nodup := sc_law.nd
  have hu := Nat.lt_of_le_of_lt (Nat.add_le_add_left (by decide : 64 ≤ 16 * 0 + 200) _) (hr.mono (Nat.zero_le _)).un
  have hu1 := Nat.lt_of_le_of_lt (Nat.add_le_add_left (by decide : 65 ≤ 16 * 0 + 200) _) (hr.mono (Nat.zero_le _)).un
  have hu2 := Nat.lt_of_le_of_lt (Nat.add_le_add_left (by decide : 66 ≤ 16 * 0 + 200) _) (hr.mono (Nat.zero_le _)).un
  exact (sds_cons (sd_set 1 (ed_call (F__law_draws) (hr.mono (by decide)) hG tk (ad_cons (ed_var 0) ad_nil)))
  (sds_cons (sd_set 2 (ed_obj (ad_cons ed_int ad_nil)))
  (sds_cons (sd_if (td_not (td_val (ed_call0 (F__law_limits_right) (hr.mono (by decide)) hG tk))) (sds_one (sd_ret ed_bl)) sds_nil)
  (sds_cons (sd_set 3 (ed_lst (ad_cons ed_str (ad_cons ed_str (ad_cons ed_str (ad_cons ed_int (ad_cons ed_int (ad_cons (ed_neg ed_int) (ad_cons ed_non (ad_cons (ed_tup (ad_cons ed_str (ad_cons ed_int ad_nil))) (ad_cons ed_str (ad_cons ed_bl ad_nil))))))))))))
  (sds_cons (sd_for hp (id_range1 T.b_range (ad_cons ed_int ad_nil)) (gd_name 4) (sds_cons (sd_par [(5, "one"), (6, "other")] (ad_cons (ed_call (F__law_one) (hr.mono (by decide)) hG tk (ad_cons (ed_var 3) (ad_cons (ed_var 1) (ad_cons (ed_var 2) ad_nil)))) (ad_cons (ed_call (F__law_one) (hr.mono (by decide)) hG tk (ad_cons (ed_var 3) (ad_cons (ed_var 1) (ad_cons (ed_var 2) ad_nil)))) ad_nil)))
  (sds_cons (sd_if (td_cmp (opd_ne hu) (ed_call (F__law_caught) (hr.mono (by decide)) hG tk (ad_cons (ed_var 4) (ad_cons (ed_var 5) (ad_cons (ed_var 6) ad_nil)))) (ed_lc [("j", 7)] (id_range1 T.b_range (ad_cons ed_int ad_nil)) (fun _ _ _ _ _ => (gd_name 7)) (fun _ _ _ _ _ => ptsD_nil) (fun _ _ _ _ _ => (ed_cmp (opd_eq hu) (ed_var 7) (ed_var 4))))) (sds_one (sd_ret ed_bl)) sds_nil)
  (sds_one (sd_if (td_cmp (opd_ne hu) (ed_blt (cd_repr hG hu2) T.b_repr boot_repr (ad_cons (ed_call (F__law_fields) (hr.mono (by decide)) hG tk (ad_cons (ed_var 4) (ad_cons (ed_var 5) (ad_cons (ed_var 6) ad_nil)))) ad_nil)) (ed_blt (cd_repr hG hu2) T.b_repr boot_repr (ad_cons (ed_if (td_cmp (opd_eq hu) (ed_var 4) ed_int) (ed_tup (ad_cons (ed_var 5) (ad_cons (ed_var 6) ad_nil))) (ed_tup (ad_cons (ed_var 5) ad_nil))) ad_nil))) (sds_one (sd_ret ed_bl)) sds_nil)))))
  (sds_one (sd_ret ed_bl)))))))
end
end K00
end

section
set_option Elab.async false
set_option linter.all false
set_option maxRecDepth 100000
set_option maxHeartbeats 8000000
namespace K00
open PySem PySem.Spec PyProof.Rows L2 L2H DL EXS NdefX
abbrev sI_CommandError : Stmt := inClass (top 9) 0
abbrev sI_LogError : Stmt := inClass (top 8) 0
abbrev sI_ReasonError : Stmt := inClass (top 2) 0
abbrev sI_TextError : Stmt := inClass (top 7) 0
theorem refsVE_end : PySem.HandSPX.refsVE PySem.HandSPX.veTail = true := by decide +kernel
theorem all_mk {w : World} {K : PySem.W.Frag} {h : Heap} {mg : Str → Option Value} {fa : Addr} (X : K.In h) (G : h.Ns mainGlobals mg) (hfa : mg "law" = some (.ref fa))
    {C_ArgumentError : Addr}
    {C_CheckError : Addr}
    {C_CommandError : Addr}
    {C_IdealError : Addr}
    {C_LogError : Addr}
    {C_PaperError : Addr}
    {C_ReasonError : Addr}
    {C_TextError : Addr}
    {C_TooMany : Addr}
    {f_CommandError cc_CommandError cda_CommandError : Addr} {od_CommandError an_CommandError cld_CommandError cdd_CommandError : Option Addr} {sl_CommandError csl_CommandError ccs_CommandError : Array (Option Value)} {oc_CommandError kV_CommandError dc_CommandError pm_CommandError ct_CommandError cl_CommandError ccl_CommandError : Value} {vs_CommandError : Array Value} {file_CommandError : Str} {tf_CommandError : Tok}
    {f_LogError cc_LogError cda_LogError : Addr} {od_LogError an_LogError cld_LogError cdd_LogError : Option Addr} {sl_LogError csl_LogError ccs_LogError : Array (Option Value)} {oc_LogError kV_LogError dc_LogError pm_LogError ct_LogError cl_LogError ccl_LogError : Value} {vs_LogError : Array Value} {file_LogError : Str} {tf_LogError : Tok}
    {f_ReasonError cc_ReasonError cda_ReasonError : Addr} {od_ReasonError an_ReasonError cld_ReasonError cdd_ReasonError : Option Addr} {sl_ReasonError csl_ReasonError ccs_ReasonError : Array (Option Value)} {oc_ReasonError kV_ReasonError dc_ReasonError pm_ReasonError ct_ReasonError cl_ReasonError ccl_ReasonError : Value} {vs_ReasonError : Array Value} {file_ReasonError : Str} {tf_ReasonError : Tok}
    {f_TextError cc_TextError cda_TextError : Addr} {od_TextError an_TextError cld_TextError cdd_TextError : Option Addr} {sl_TextError csl_TextError ccs_TextError : Array (Option Value)} {oc_TextError kV_TextError dc_TextError pm_TextError ct_TextError cl_TextError ccl_TextError : Value} {vs_TextError : Array Value} {file_TextError : Str} {tf_TextError : Tok}
    {nm_ArgumentError q_ArgumentError : Str} {N_ArgumentError : Addr} {bs_ArgumentError : List Value} {sn_ArgumentError : List Str} {sb_ArgumentError : List Value} {ab_ArgumentError : Bool} {col_ArgumentError : Option Bool} {dd_ArgumentError : Option Addr} {k0_ArgumentError k1_ArgumentError k2_ArgumentError k3_ArgumentError k5_ArgumentError : Option Value}
    {nm_PaperError q_PaperError : Str} {N_PaperError : Addr} {bs_PaperError : List Value} {sn_PaperError : List Str} {sb_PaperError : List Value} {ab_PaperError : Bool} {col_PaperError : Option Bool} {dd_PaperError : Option Addr} {k0_PaperError k1_PaperError k2_PaperError k3_PaperError k5_PaperError : Option Value}
    {nm_TooMany q_TooMany : Str} {N_TooMany : Addr} {bs_TooMany : List Value} {sn_TooMany : List Str} {sb_TooMany : List Value} {ab_TooMany : Bool} {col_TooMany : Option Bool} {dd_TooMany : Option Addr} {k0_TooMany k1_TooMany k2_TooMany k3_TooMany k5_TooMany : Option Value}
    {nm_CheckError q_CheckError : Str} {N_CheckError : Addr} {bs_CheckError : List Value} {sn_CheckError : List Str} {sb_CheckError : List Value} {ab_CheckError : Bool} {col_CheckError : Option Bool} {dd_CheckError : Option Addr} {k0_CheckError k1_CheckError k2_CheckError k3_CheckError k5_CheckError : Option Value}
    {nm_TextError q_TextError : Str} {N_TextError : Addr} {bs_TextError : List Value} {sn_TextError : List Str} {sb_TextError : List Value} {ab_TextError : Bool} {col_TextError : Option Bool} {dd_TextError : Option Addr} {k0_TextError k1_TextError k2_TextError k3_TextError k5_TextError : Option Value}
    {nm_LogError q_LogError : Str} {N_LogError : Addr} {bs_LogError : List Value} {sn_LogError : List Str} {sb_LogError : List Value} {ab_LogError : Bool} {col_LogError : Option Bool} {dd_LogError : Option Addr} {k0_LogError k1_LogError k2_LogError k3_LogError k5_LogError : Option Value}
    {nm_CommandError q_CommandError : Str} {N_CommandError : Addr} {bs_CommandError : List Value} {sn_CommandError : List Str} {sb_CommandError : List Value} {ab_CommandError : Bool} {col_CommandError : Option Bool} {dd_CommandError : Option Addr} {k0_CommandError k1_CommandError k2_CommandError k3_CommandError k5_CommandError : Option Value}
    {t_MAX_ANSWERS : Tok}
    {t_MAX_ASKED : Tok}
    {t_MAX_BASIS : Tok}
    {t_MAX_CHOICES : Tok}
    {t_MAX_CORNERS : Tok}
    {t_MAX_COUNTED : Tok}
    {t_MAX_DEGREE : Tok}
    {t_MAX_ENTRY : Tok}
    {t_MAX_EXPANDED : Tok}
    {t_MAX_FIBER : Tok}
    {t_MAX_GRID : Tok}
    {t_MAX_GROUP : Tok}
    {t_MAX_HELD : Tok}
    {t_MAX_HELD_SYSTEMS : Tok}
    {t_MAX_JOINED : Tok}
    {t_MAX_LAID : Tok}
    {t_MAX_LINES : Tok}
    {t_MAX_MADE : Tok}
    {t_MAX_MAKERS : Tok}
    {t_MAX_NUMBER : Tok}
    {t_MAX_PAIRS : Tok}
    {t_MAX_PARTED : Tok}
    {t_MAX_PLACES : Tok}
    {t_MAX_POINTS : Tok}
    {t_MAX_POWER : Tok}
    {t_MAX_RAISED : Tok}
    {t_MAX_RELATED : Tok}
    {t_MAX_ROWED : Tok}
    {t_MAX_SIDE : Tok}
    {t_MAX_SPLIT : Tok}
    {t_MAX_START : Tok}
    {t_MAX_STEPS : Tok}
    {t_MAX_TABLED : Tok}
    {t_MAX_TERMS : Tok}
    {t_MAX_TEXT : Tok}
    {t_MAX_TIED : Tok}
    {t_MAX_UNKNOWNS : Tok}
    {d__law_draws : Addr} {od__law_draws an__law_draws : Option Addr} {sl__law_draws : Array (Option Value)} {oc__law_draws kV__law_draws dc__law_draws pm__law_draws cd__law_draws ct__law_draws : Value}
    {d__law_more : Addr} {od__law_more an__law_more : Option Addr} {sl__law_more : Array (Option Value)} {oc__law_more kV__law_more dc__law_more pm__law_more cd__law_more ct__law_more : Value}
    {d__law_take : Addr} {od__law_take an__law_take : Option Addr} {sl__law_take : Array (Option Value)} {oc__law_take kV__law_take dc__law_take pm__law_take cd__law_take ct__law_take : Value}
    {d__law_one : Addr} {od__law_one an__law_one : Option Addr} {sl__law_one : Array (Option Value)} {oc__law_one kV__law_one dc__law_one pm__law_one cd__law_one ct__law_one : Value}
    {d__law_limits_right : Addr} {od__law_limits_right an__law_limits_right : Option Addr} {sl__law_limits_right : Array (Option Value)} {oc__law_limits_right kV__law_limits_right dc__law_limits_right pm__law_limits_right cd__law_limits_right ct__law_limits_right : Value}
    {d__law_raise : Addr} {od__law_raise an__law_raise : Option Addr} {sl__law_raise : Array (Option Value)} {oc__law_raise kV__law_raise dc__law_raise pm__law_raise cd__law_raise ct__law_raise : Value}
    {d__law_kinds : Addr} {od__law_kinds an__law_kinds : Option Addr} {sl__law_kinds : Array (Option Value)} {oc__law_kinds kV__law_kinds dc__law_kinds pm__law_kinds cd__law_kinds ct__law_kinds : Value}
    {d__law_caught : Addr} {od__law_caught an__law_caught : Option Addr} {sl__law_caught : Array (Option Value)} {oc__law_caught kV__law_caught dc__law_caught pm__law_caught cd__law_caught ct__law_caught : Value}
    {d__law_fields : Addr} {od__law_fields an__law_fields : Option Addr} {sl__law_fields : Array (Option Value)} {oc__law_fields kV__law_fields dc__law_fields pm__law_fields cd__law_fields ct__law_fields : Value}
    {d_law : Addr} {od_law an_law : Option Addr} {sl_law : Array (Option Value)} {oc_law kV_law dc_law pm_law cd_law ct_law : Value}
    (g_ArgumentError : PySem.W.nsIn K mainGlobals "ArgumentError" = some (some (.ref C_ArgumentError)))
    (bE_ArgumentError : PySem.W.subIn K (.ref C_ArgumentError) (.type "BaseException") = some true)
    (hd_ArgumentError : PySem.W.hasDictIn K C_ArgumentError = true)
    (ty_ArgumentError : PySem.W.typeIn K (.ref C_ArgumentError) = some (.type "type"))
    (g_CheckError : PySem.W.nsIn K mainGlobals "CheckError" = some (some (.ref C_CheckError)))
    (bE_CheckError : PySem.W.subIn K (.ref C_CheckError) (.type "BaseException") = some true)
    (hd_CheckError : PySem.W.hasDictIn K C_CheckError = true)
    (ty_CheckError : PySem.W.typeIn K (.ref C_CheckError) = some (.type "type"))
    (g_CommandError : PySem.W.nsIn K mainGlobals "CommandError" = some (some (.ref C_CommandError)))
    (bE_CommandError : PySem.W.subIn K (.ref C_CommandError) (.type "BaseException") = some true)
    (hd_CommandError : PySem.W.hasDictIn K C_CommandError = true)
    (ty_CommandError : PySem.W.typeIn K (.ref C_CommandError) = some (.type "type"))
    (g_IdealError : PySem.W.nsIn K mainGlobals "IdealError" = some (some (.ref C_IdealError)))
    (bE_IdealError : PySem.W.subIn K (.ref C_IdealError) (.type "BaseException") = some true)
    (hd_IdealError : PySem.W.hasDictIn K C_IdealError = true)
    (ty_IdealError : PySem.W.typeIn K (.ref C_IdealError) = some (.type "type"))
    (g_LogError : PySem.W.nsIn K mainGlobals "LogError" = some (some (.ref C_LogError)))
    (bE_LogError : PySem.W.subIn K (.ref C_LogError) (.type "BaseException") = some true)
    (hd_LogError : PySem.W.hasDictIn K C_LogError = true)
    (ty_LogError : PySem.W.typeIn K (.ref C_LogError) = some (.type "type"))
    (g_PaperError : PySem.W.nsIn K mainGlobals "PaperError" = some (some (.ref C_PaperError)))
    (bE_PaperError : PySem.W.subIn K (.ref C_PaperError) (.type "BaseException") = some true)
    (hd_PaperError : PySem.W.hasDictIn K C_PaperError = true)
    (ty_PaperError : PySem.W.typeIn K (.ref C_PaperError) = some (.type "type"))
    (g_ReasonError : PySem.W.nsIn K mainGlobals "ReasonError" = some (some (.ref C_ReasonError)))
    (bE_ReasonError : PySem.W.subIn K (.ref C_ReasonError) (.type "BaseException") = some true)
    (hd_ReasonError : PySem.W.hasDictIn K C_ReasonError = true)
    (ty_ReasonError : PySem.W.typeIn K (.ref C_ReasonError) = some (.type "type"))
    (g_TextError : PySem.W.nsIn K mainGlobals "TextError" = some (some (.ref C_TextError)))
    (bE_TextError : PySem.W.subIn K (.ref C_TextError) (.type "BaseException") = some true)
    (hd_TextError : PySem.W.hasDictIn K C_TextError = true)
    (ty_TextError : PySem.W.typeIn K (.ref C_TextError) = some (.type "type"))
    (g_TooMany : PySem.W.nsIn K mainGlobals "TooMany" = some (some (.ref C_TooMany)))
    (bE_TooMany : PySem.W.subIn K (.ref C_TooMany) (.type "BaseException") = some true)
    (hd_TooMany : PySem.W.hasDictIn K C_TooMany = true)
    (ty_TooMany : PySem.W.typeIn K (.ref C_TooMany) = some (.type "type"))
    (oget : PySem.W.specialIn K (.builtin "object.__class__") "__get__" = some (some (.builtin "getset_descriptor.__get__")))
    (otk : PySem.W.takesIn K (.builtin "object.__class__") = some true)
    (nosup : PySem.W.nsIn K mainGlobals "super" = some none)
    (any_ : PySem.W.nsIn K cStatics "thirdparty.any" = some none)
    (fi_CommandError : PySem.W.findIn K (.ref C_CommandError) "__init__" = some (some (.ref f_CommandError)))
    (ti_CommandError : PySem.W.typeIn K (.ref f_CommandError) = some (.type "function"))
    (l_CommandError : K.lookup f_CommandError = some ⟨oc_CommandError, od_CommandError, .func (PySem.W.fnX "__init__" "CommandError.__init__" (defArgs sI_CommandError) (defBody sI_CommandError) (defScope sI_CommandError) [("__class__", cc_CommandError)] .none kV_CommandError dc_CommandError pm_CommandError an_CommandError (.ref cda_CommandError) ct_CommandError), sl_CommandError⟩)
    (c_CommandError : PySem.W.codeIn K (.ref cda_CommandError) "CommandError.__init__" = true)
    (cc0_CommandError : K.lookup cc_CommandError = some ⟨cl_CommandError, cld_CommandError, .cell (some (.ref C_CommandError)), csl_CommandError⟩)
    (cd0_CommandError : K.lookup cda_CommandError = some ⟨ccl_CommandError, cdd_CommandError, .fields vs_CommandError, ccs_CommandError⟩)
    (cd1_CommandError : vs_CommandError[2]? = some (.str file_CommandError tf_CommandError))
    (cd2_CommandError : ((PySem.Challenge.pw_manyunknowns_k00_errors_and_limits.main.file : Str) == file_CommandError) = true)
    (ic_CommandError : PySem.W.isClsIn K C_CommandError = true)
    (fi_LogError : PySem.W.findIn K (.ref C_LogError) "__init__" = some (some (.ref f_LogError)))
    (ti_LogError : PySem.W.typeIn K (.ref f_LogError) = some (.type "function"))
    (l_LogError : K.lookup f_LogError = some ⟨oc_LogError, od_LogError, .func (PySem.W.fnX "__init__" "LogError.__init__" (defArgs sI_LogError) (defBody sI_LogError) (defScope sI_LogError) [("__class__", cc_LogError)] .none kV_LogError dc_LogError pm_LogError an_LogError (.ref cda_LogError) ct_LogError), sl_LogError⟩)
    (c_LogError : PySem.W.codeIn K (.ref cda_LogError) "LogError.__init__" = true)
    (cc0_LogError : K.lookup cc_LogError = some ⟨cl_LogError, cld_LogError, .cell (some (.ref C_LogError)), csl_LogError⟩)
    (cd0_LogError : K.lookup cda_LogError = some ⟨ccl_LogError, cdd_LogError, .fields vs_LogError, ccs_LogError⟩)
    (cd1_LogError : vs_LogError[2]? = some (.str file_LogError tf_LogError))
    (cd2_LogError : ((PySem.Challenge.pw_manyunknowns_k00_errors_and_limits.main.file : Str) == file_LogError) = true)
    (ic_LogError : PySem.W.isClsIn K C_LogError = true)
    (fi_ReasonError : PySem.W.findIn K (.ref C_ReasonError) "__init__" = some (some (.ref f_ReasonError)))
    (ti_ReasonError : PySem.W.typeIn K (.ref f_ReasonError) = some (.type "function"))
    (l_ReasonError : K.lookup f_ReasonError = some ⟨oc_ReasonError, od_ReasonError, .func (PySem.W.fnX "__init__" "ReasonError.__init__" (defArgs sI_ReasonError) (defBody sI_ReasonError) (defScope sI_ReasonError) [("__class__", cc_ReasonError)] .none kV_ReasonError dc_ReasonError pm_ReasonError an_ReasonError (.ref cda_ReasonError) ct_ReasonError), sl_ReasonError⟩)
    (c_ReasonError : PySem.W.codeIn K (.ref cda_ReasonError) "ReasonError.__init__" = true)
    (cc0_ReasonError : K.lookup cc_ReasonError = some ⟨cl_ReasonError, cld_ReasonError, .cell (some (.ref C_ReasonError)), csl_ReasonError⟩)
    (cd0_ReasonError : K.lookup cda_ReasonError = some ⟨ccl_ReasonError, cdd_ReasonError, .fields vs_ReasonError, ccs_ReasonError⟩)
    (cd1_ReasonError : vs_ReasonError[2]? = some (.str file_ReasonError tf_ReasonError))
    (cd2_ReasonError : ((PySem.Challenge.pw_manyunknowns_k00_errors_and_limits.main.file : Str) == file_ReasonError) = true)
    (ic_ReasonError : PySem.W.isClsIn K C_ReasonError = true)
    (fi_TextError : PySem.W.findIn K (.ref C_TextError) "__init__" = some (some (.ref f_TextError)))
    (ti_TextError : PySem.W.typeIn K (.ref f_TextError) = some (.type "function"))
    (l_TextError : K.lookup f_TextError = some ⟨oc_TextError, od_TextError, .func (PySem.W.fnX "__init__" "TextError.__init__" (defArgs sI_TextError) (defBody sI_TextError) (defScope sI_TextError) [("__class__", cc_TextError)] .none kV_TextError dc_TextError pm_TextError an_TextError (.ref cda_TextError) ct_TextError), sl_TextError⟩)
    (c_TextError : PySem.W.codeIn K (.ref cda_TextError) "TextError.__init__" = true)
    (cc0_TextError : K.lookup cc_TextError = some ⟨cl_TextError, cld_TextError, .cell (some (.ref C_TextError)), csl_TextError⟩)
    (cd0_TextError : K.lookup cda_TextError = some ⟨ccl_TextError, cdd_TextError, .fields vs_TextError, ccs_TextError⟩)
    (cd1_TextError : vs_TextError[2]? = some (.str file_TextError tf_TextError))
    (cd2_TextError : ((PySem.Challenge.pw_manyunknowns_k00_errors_and_limits.main.file : Str) == file_TextError) = true)
    (ic_TextError : PySem.W.isClsIn K C_TextError = true)
    (x_ArgumentError : K.lookup C_ArgumentError = some (excClassObj nm_ArgumentError q_ArgumentError C_ArgumentError N_ArgumentError bs_ArgumentError [.ref C_ReasonError, .ref C_IdealError, .type "ValueError", .type "Exception", .type "BaseException", .type "object"] true sn_ArgumentError sb_ArgumentError ab_ArgumentError col_ArgumentError dd_ArgumentError k0_ArgumentError k1_ArgumentError k2_ArgumentError k3_ArgumentError k5_ArgumentError "ValueError.__new__"))
    (sa_ArgumentError : PySem.W.findIn K (.ref C_ArgumentError) "__setattr__" = some (some (.builtin "object.__setattr__")))
    (kC_ArgumentError : PySem.W.keepIn K (.ref C_ArgumentError) = true)
    (in_ArgumentError : PySem.W.findIn K (.ref C_ArgumentError) "__init__" = some (some (.ref f_ReasonError)))
    (no_ArgumentError_reason : PySem.W.findIn K (.ref C_ArgumentError) "reason" = some none)
    (mr_ArgumentError : PySem.W.mroIn K C_ArgumentError (.ref C_ReasonError) = some true)
    (su_ArgumentError : PySem.W.ks_superIn K C_ArgumentError C_ReasonError "__init__" = some (some (.builtin "ValueError.__init__")))
    (ve_ArgumentError : PySem.W.subIn K (.ref C_ArgumentError) (.type "ValueError") = some true)
    (ga_ArgumentError : PySem.W.findIn K (.ref C_ArgumentError) "__getattribute__" = some (some (.builtin "BaseException.__getattribute__")))
    (gg_ArgumentError : PySem.W.findIn K (.ref C_ArgumentError) "__getattr__" = some none)
    (cl_ArgumentError : PySem.W.findIn K (.ref C_ArgumentError) "__class__" = some (some (.builtin "object.__class__")))
    (ob_ArgumentError : PySem.W.mroIn K C_ArgumentError (.type "object") = some true)
    (s_ArgumentError_ArgumentError : PySem.W.subIn K (.ref C_ArgumentError) (.ref C_ArgumentError) = some true)
    (k_ArgumentError_ArgumentError : PySem.W.kitOne K (.ref C_ArgumentError) (.ref C_ArgumentError) = some true)
    (s_ArgumentError_CheckError : PySem.W.subIn K (.ref C_ArgumentError) (.ref C_CheckError) = some false)
    (k_ArgumentError_CheckError : PySem.W.kitOne K (.ref C_ArgumentError) (.ref C_CheckError) = some false)
    (s_ArgumentError_CommandError : PySem.W.subIn K (.ref C_ArgumentError) (.ref C_CommandError) = some false)
    (k_ArgumentError_CommandError : PySem.W.kitOne K (.ref C_ArgumentError) (.ref C_CommandError) = some false)
    (s_ArgumentError_IdealError : PySem.W.subIn K (.ref C_ArgumentError) (.ref C_IdealError) = some true)
    (k_ArgumentError_IdealError : PySem.W.kitOne K (.ref C_ArgumentError) (.ref C_IdealError) = some true)
    (s_ArgumentError_LogError : PySem.W.subIn K (.ref C_ArgumentError) (.ref C_LogError) = some false)
    (k_ArgumentError_LogError : PySem.W.kitOne K (.ref C_ArgumentError) (.ref C_LogError) = some false)
    (s_ArgumentError_PaperError : PySem.W.subIn K (.ref C_ArgumentError) (.ref C_PaperError) = some false)
    (k_ArgumentError_PaperError : PySem.W.kitOne K (.ref C_ArgumentError) (.ref C_PaperError) = some false)
    (s_ArgumentError_ReasonError : PySem.W.subIn K (.ref C_ArgumentError) (.ref C_ReasonError) = some true)
    (k_ArgumentError_ReasonError : PySem.W.kitOne K (.ref C_ArgumentError) (.ref C_ReasonError) = some true)
    (s_ArgumentError_TextError : PySem.W.subIn K (.ref C_ArgumentError) (.ref C_TextError) = some false)
    (k_ArgumentError_TextError : PySem.W.kitOne K (.ref C_ArgumentError) (.ref C_TextError) = some false)
    (s_ArgumentError_TooMany : PySem.W.subIn K (.ref C_ArgumentError) (.ref C_TooMany) = some false)
    (k_ArgumentError_TooMany : PySem.W.kitOne K (.ref C_ArgumentError) (.ref C_TooMany) = some false)
    (kv_ArgumentError : PySem.W.kitOne K (.ref C_ArgumentError) (.type "ValueError") = some true)
    (x_PaperError : K.lookup C_PaperError = some (excClassObj nm_PaperError q_PaperError C_PaperError N_PaperError bs_PaperError [.ref C_ReasonError, .ref C_IdealError, .type "ValueError", .type "Exception", .type "BaseException", .type "object"] true sn_PaperError sb_PaperError ab_PaperError col_PaperError dd_PaperError k0_PaperError k1_PaperError k2_PaperError k3_PaperError k5_PaperError "ValueError.__new__"))
    (sa_PaperError : PySem.W.findIn K (.ref C_PaperError) "__setattr__" = some (some (.builtin "object.__setattr__")))
    (kC_PaperError : PySem.W.keepIn K (.ref C_PaperError) = true)
    (in_PaperError : PySem.W.findIn K (.ref C_PaperError) "__init__" = some (some (.ref f_ReasonError)))
    (no_PaperError_reason : PySem.W.findIn K (.ref C_PaperError) "reason" = some none)
    (mr_PaperError : PySem.W.mroIn K C_PaperError (.ref C_ReasonError) = some true)
    (su_PaperError : PySem.W.ks_superIn K C_PaperError C_ReasonError "__init__" = some (some (.builtin "ValueError.__init__")))
    (ve_PaperError : PySem.W.subIn K (.ref C_PaperError) (.type "ValueError") = some true)
    (ga_PaperError : PySem.W.findIn K (.ref C_PaperError) "__getattribute__" = some (some (.builtin "BaseException.__getattribute__")))
    (gg_PaperError : PySem.W.findIn K (.ref C_PaperError) "__getattr__" = some none)
    (cl_PaperError : PySem.W.findIn K (.ref C_PaperError) "__class__" = some (some (.builtin "object.__class__")))
    (ob_PaperError : PySem.W.mroIn K C_PaperError (.type "object") = some true)
    (s_PaperError_ArgumentError : PySem.W.subIn K (.ref C_PaperError) (.ref C_ArgumentError) = some false)
    (k_PaperError_ArgumentError : PySem.W.kitOne K (.ref C_PaperError) (.ref C_ArgumentError) = some false)
    (s_PaperError_CheckError : PySem.W.subIn K (.ref C_PaperError) (.ref C_CheckError) = some false)
    (k_PaperError_CheckError : PySem.W.kitOne K (.ref C_PaperError) (.ref C_CheckError) = some false)
    (s_PaperError_CommandError : PySem.W.subIn K (.ref C_PaperError) (.ref C_CommandError) = some false)
    (k_PaperError_CommandError : PySem.W.kitOne K (.ref C_PaperError) (.ref C_CommandError) = some false)
    (s_PaperError_IdealError : PySem.W.subIn K (.ref C_PaperError) (.ref C_IdealError) = some true)
    (k_PaperError_IdealError : PySem.W.kitOne K (.ref C_PaperError) (.ref C_IdealError) = some true)
    (s_PaperError_LogError : PySem.W.subIn K (.ref C_PaperError) (.ref C_LogError) = some false)
    (k_PaperError_LogError : PySem.W.kitOne K (.ref C_PaperError) (.ref C_LogError) = some false)
    (s_PaperError_PaperError : PySem.W.subIn K (.ref C_PaperError) (.ref C_PaperError) = some true)
    (k_PaperError_PaperError : PySem.W.kitOne K (.ref C_PaperError) (.ref C_PaperError) = some true)
    (s_PaperError_ReasonError : PySem.W.subIn K (.ref C_PaperError) (.ref C_ReasonError) = some true)
    (k_PaperError_ReasonError : PySem.W.kitOne K (.ref C_PaperError) (.ref C_ReasonError) = some true)
    (s_PaperError_TextError : PySem.W.subIn K (.ref C_PaperError) (.ref C_TextError) = some false)
    (k_PaperError_TextError : PySem.W.kitOne K (.ref C_PaperError) (.ref C_TextError) = some false)
    (s_PaperError_TooMany : PySem.W.subIn K (.ref C_PaperError) (.ref C_TooMany) = some false)
    (k_PaperError_TooMany : PySem.W.kitOne K (.ref C_PaperError) (.ref C_TooMany) = some false)
    (kv_PaperError : PySem.W.kitOne K (.ref C_PaperError) (.type "ValueError") = some true)
    (x_TooMany : K.lookup C_TooMany = some (excClassObj nm_TooMany q_TooMany C_TooMany N_TooMany bs_TooMany [.ref C_ReasonError, .ref C_IdealError, .type "ValueError", .type "Exception", .type "BaseException", .type "object"] true sn_TooMany sb_TooMany ab_TooMany col_TooMany dd_TooMany k0_TooMany k1_TooMany k2_TooMany k3_TooMany k5_TooMany "ValueError.__new__"))
    (sa_TooMany : PySem.W.findIn K (.ref C_TooMany) "__setattr__" = some (some (.builtin "object.__setattr__")))
    (kC_TooMany : PySem.W.keepIn K (.ref C_TooMany) = true)
    (in_TooMany : PySem.W.findIn K (.ref C_TooMany) "__init__" = some (some (.ref f_ReasonError)))
    (no_TooMany_reason : PySem.W.findIn K (.ref C_TooMany) "reason" = some none)
    (mr_TooMany : PySem.W.mroIn K C_TooMany (.ref C_ReasonError) = some true)
    (su_TooMany : PySem.W.ks_superIn K C_TooMany C_ReasonError "__init__" = some (some (.builtin "ValueError.__init__")))
    (ve_TooMany : PySem.W.subIn K (.ref C_TooMany) (.type "ValueError") = some true)
    (ga_TooMany : PySem.W.findIn K (.ref C_TooMany) "__getattribute__" = some (some (.builtin "BaseException.__getattribute__")))
    (gg_TooMany : PySem.W.findIn K (.ref C_TooMany) "__getattr__" = some none)
    (cl_TooMany : PySem.W.findIn K (.ref C_TooMany) "__class__" = some (some (.builtin "object.__class__")))
    (ob_TooMany : PySem.W.mroIn K C_TooMany (.type "object") = some true)
    (s_TooMany_ArgumentError : PySem.W.subIn K (.ref C_TooMany) (.ref C_ArgumentError) = some false)
    (k_TooMany_ArgumentError : PySem.W.kitOne K (.ref C_TooMany) (.ref C_ArgumentError) = some false)
    (s_TooMany_CheckError : PySem.W.subIn K (.ref C_TooMany) (.ref C_CheckError) = some false)
    (k_TooMany_CheckError : PySem.W.kitOne K (.ref C_TooMany) (.ref C_CheckError) = some false)
    (s_TooMany_CommandError : PySem.W.subIn K (.ref C_TooMany) (.ref C_CommandError) = some false)
    (k_TooMany_CommandError : PySem.W.kitOne K (.ref C_TooMany) (.ref C_CommandError) = some false)
    (s_TooMany_IdealError : PySem.W.subIn K (.ref C_TooMany) (.ref C_IdealError) = some true)
    (k_TooMany_IdealError : PySem.W.kitOne K (.ref C_TooMany) (.ref C_IdealError) = some true)
    (s_TooMany_LogError : PySem.W.subIn K (.ref C_TooMany) (.ref C_LogError) = some false)
    (k_TooMany_LogError : PySem.W.kitOne K (.ref C_TooMany) (.ref C_LogError) = some false)
    (s_TooMany_PaperError : PySem.W.subIn K (.ref C_TooMany) (.ref C_PaperError) = some false)
    (k_TooMany_PaperError : PySem.W.kitOne K (.ref C_TooMany) (.ref C_PaperError) = some false)
    (s_TooMany_ReasonError : PySem.W.subIn K (.ref C_TooMany) (.ref C_ReasonError) = some true)
    (k_TooMany_ReasonError : PySem.W.kitOne K (.ref C_TooMany) (.ref C_ReasonError) = some true)
    (s_TooMany_TextError : PySem.W.subIn K (.ref C_TooMany) (.ref C_TextError) = some false)
    (k_TooMany_TextError : PySem.W.kitOne K (.ref C_TooMany) (.ref C_TextError) = some false)
    (s_TooMany_TooMany : PySem.W.subIn K (.ref C_TooMany) (.ref C_TooMany) = some true)
    (k_TooMany_TooMany : PySem.W.kitOne K (.ref C_TooMany) (.ref C_TooMany) = some true)
    (kv_TooMany : PySem.W.kitOne K (.ref C_TooMany) (.type "ValueError") = some true)
    (x_CheckError : K.lookup C_CheckError = some (excClassObj nm_CheckError q_CheckError C_CheckError N_CheckError bs_CheckError [.ref C_ReasonError, .ref C_IdealError, .type "ValueError", .type "Exception", .type "BaseException", .type "object"] true sn_CheckError sb_CheckError ab_CheckError col_CheckError dd_CheckError k0_CheckError k1_CheckError k2_CheckError k3_CheckError k5_CheckError "ValueError.__new__"))
    (sa_CheckError : PySem.W.findIn K (.ref C_CheckError) "__setattr__" = some (some (.builtin "object.__setattr__")))
    (kC_CheckError : PySem.W.keepIn K (.ref C_CheckError) = true)
    (in_CheckError : PySem.W.findIn K (.ref C_CheckError) "__init__" = some (some (.ref f_ReasonError)))
    (no_CheckError_reason : PySem.W.findIn K (.ref C_CheckError) "reason" = some none)
    (mr_CheckError : PySem.W.mroIn K C_CheckError (.ref C_ReasonError) = some true)
    (su_CheckError : PySem.W.ks_superIn K C_CheckError C_ReasonError "__init__" = some (some (.builtin "ValueError.__init__")))
    (ve_CheckError : PySem.W.subIn K (.ref C_CheckError) (.type "ValueError") = some true)
    (ga_CheckError : PySem.W.findIn K (.ref C_CheckError) "__getattribute__" = some (some (.builtin "BaseException.__getattribute__")))
    (gg_CheckError : PySem.W.findIn K (.ref C_CheckError) "__getattr__" = some none)
    (cl_CheckError : PySem.W.findIn K (.ref C_CheckError) "__class__" = some (some (.builtin "object.__class__")))
    (ob_CheckError : PySem.W.mroIn K C_CheckError (.type "object") = some true)
    (s_CheckError_ArgumentError : PySem.W.subIn K (.ref C_CheckError) (.ref C_ArgumentError) = some false)
    (k_CheckError_ArgumentError : PySem.W.kitOne K (.ref C_CheckError) (.ref C_ArgumentError) = some false)
    (s_CheckError_CheckError : PySem.W.subIn K (.ref C_CheckError) (.ref C_CheckError) = some true)
    (k_CheckError_CheckError : PySem.W.kitOne K (.ref C_CheckError) (.ref C_CheckError) = some true)
    (s_CheckError_CommandError : PySem.W.subIn K (.ref C_CheckError) (.ref C_CommandError) = some false)
    (k_CheckError_CommandError : PySem.W.kitOne K (.ref C_CheckError) (.ref C_CommandError) = some false)
    (s_CheckError_IdealError : PySem.W.subIn K (.ref C_CheckError) (.ref C_IdealError) = some true)
    (k_CheckError_IdealError : PySem.W.kitOne K (.ref C_CheckError) (.ref C_IdealError) = some true)
    (s_CheckError_LogError : PySem.W.subIn K (.ref C_CheckError) (.ref C_LogError) = some false)
    (k_CheckError_LogError : PySem.W.kitOne K (.ref C_CheckError) (.ref C_LogError) = some false)
    (s_CheckError_PaperError : PySem.W.subIn K (.ref C_CheckError) (.ref C_PaperError) = some false)
    (k_CheckError_PaperError : PySem.W.kitOne K (.ref C_CheckError) (.ref C_PaperError) = some false)
    (s_CheckError_ReasonError : PySem.W.subIn K (.ref C_CheckError) (.ref C_ReasonError) = some true)
    (k_CheckError_ReasonError : PySem.W.kitOne K (.ref C_CheckError) (.ref C_ReasonError) = some true)
    (s_CheckError_TextError : PySem.W.subIn K (.ref C_CheckError) (.ref C_TextError) = some false)
    (k_CheckError_TextError : PySem.W.kitOne K (.ref C_CheckError) (.ref C_TextError) = some false)
    (s_CheckError_TooMany : PySem.W.subIn K (.ref C_CheckError) (.ref C_TooMany) = some false)
    (k_CheckError_TooMany : PySem.W.kitOne K (.ref C_CheckError) (.ref C_TooMany) = some false)
    (kv_CheckError : PySem.W.kitOne K (.ref C_CheckError) (.type "ValueError") = some true)
    (x_TextError : K.lookup C_TextError = some (excClassObj nm_TextError q_TextError C_TextError N_TextError bs_TextError [.ref C_IdealError, .type "ValueError", .type "Exception", .type "BaseException", .type "object"] true sn_TextError sb_TextError ab_TextError col_TextError dd_TextError k0_TextError k1_TextError k2_TextError k3_TextError k5_TextError "ValueError.__new__"))
    (sa_TextError : PySem.W.findIn K (.ref C_TextError) "__setattr__" = some (some (.builtin "object.__setattr__")))
    (kC_TextError : PySem.W.keepIn K (.ref C_TextError) = true)
    (no_TextError_at : PySem.W.findIn K (.ref C_TextError) "at" = some none)
    (mr_TextError : PySem.W.mroIn K C_TextError (.ref C_TextError) = some true)
    (su_TextError : PySem.W.ks_superIn K C_TextError C_TextError "__init__" = some (some (.builtin "ValueError.__init__")))
    (ve_TextError : PySem.W.subIn K (.ref C_TextError) (.type "ValueError") = some true)
    (ga_TextError : PySem.W.findIn K (.ref C_TextError) "__getattribute__" = some (some (.builtin "BaseException.__getattribute__")))
    (gg_TextError : PySem.W.findIn K (.ref C_TextError) "__getattr__" = some none)
    (cl_TextError : PySem.W.findIn K (.ref C_TextError) "__class__" = some (some (.builtin "object.__class__")))
    (ob_TextError : PySem.W.mroIn K C_TextError (.type "object") = some true)
    (s_TextError_ArgumentError : PySem.W.subIn K (.ref C_TextError) (.ref C_ArgumentError) = some false)
    (k_TextError_ArgumentError : PySem.W.kitOne K (.ref C_TextError) (.ref C_ArgumentError) = some false)
    (s_TextError_CheckError : PySem.W.subIn K (.ref C_TextError) (.ref C_CheckError) = some false)
    (k_TextError_CheckError : PySem.W.kitOne K (.ref C_TextError) (.ref C_CheckError) = some false)
    (s_TextError_CommandError : PySem.W.subIn K (.ref C_TextError) (.ref C_CommandError) = some false)
    (k_TextError_CommandError : PySem.W.kitOne K (.ref C_TextError) (.ref C_CommandError) = some false)
    (s_TextError_IdealError : PySem.W.subIn K (.ref C_TextError) (.ref C_IdealError) = some true)
    (k_TextError_IdealError : PySem.W.kitOne K (.ref C_TextError) (.ref C_IdealError) = some true)
    (s_TextError_LogError : PySem.W.subIn K (.ref C_TextError) (.ref C_LogError) = some false)
    (k_TextError_LogError : PySem.W.kitOne K (.ref C_TextError) (.ref C_LogError) = some false)
    (s_TextError_PaperError : PySem.W.subIn K (.ref C_TextError) (.ref C_PaperError) = some false)
    (k_TextError_PaperError : PySem.W.kitOne K (.ref C_TextError) (.ref C_PaperError) = some false)
    (s_TextError_ReasonError : PySem.W.subIn K (.ref C_TextError) (.ref C_ReasonError) = some false)
    (k_TextError_ReasonError : PySem.W.kitOne K (.ref C_TextError) (.ref C_ReasonError) = some false)
    (s_TextError_TextError : PySem.W.subIn K (.ref C_TextError) (.ref C_TextError) = some true)
    (k_TextError_TextError : PySem.W.kitOne K (.ref C_TextError) (.ref C_TextError) = some true)
    (s_TextError_TooMany : PySem.W.subIn K (.ref C_TextError) (.ref C_TooMany) = some false)
    (k_TextError_TooMany : PySem.W.kitOne K (.ref C_TextError) (.ref C_TooMany) = some false)
    (kv_TextError : PySem.W.kitOne K (.ref C_TextError) (.type "ValueError") = some true)
    (x_LogError : K.lookup C_LogError = some (excClassObj nm_LogError q_LogError C_LogError N_LogError bs_LogError [.ref C_IdealError, .type "ValueError", .type "Exception", .type "BaseException", .type "object"] true sn_LogError sb_LogError ab_LogError col_LogError dd_LogError k0_LogError k1_LogError k2_LogError k3_LogError k5_LogError "ValueError.__new__"))
    (sa_LogError : PySem.W.findIn K (.ref C_LogError) "__setattr__" = some (some (.builtin "object.__setattr__")))
    (kC_LogError : PySem.W.keepIn K (.ref C_LogError) = true)
    (no_LogError_number : PySem.W.findIn K (.ref C_LogError) "number" = some none)
    (no_LogError_reason : PySem.W.findIn K (.ref C_LogError) "reason" = some none)
    (mr_LogError : PySem.W.mroIn K C_LogError (.ref C_LogError) = some true)
    (su_LogError : PySem.W.ks_superIn K C_LogError C_LogError "__init__" = some (some (.builtin "ValueError.__init__")))
    (ve_LogError : PySem.W.subIn K (.ref C_LogError) (.type "ValueError") = some true)
    (ga_LogError : PySem.W.findIn K (.ref C_LogError) "__getattribute__" = some (some (.builtin "BaseException.__getattribute__")))
    (gg_LogError : PySem.W.findIn K (.ref C_LogError) "__getattr__" = some none)
    (cl_LogError : PySem.W.findIn K (.ref C_LogError) "__class__" = some (some (.builtin "object.__class__")))
    (ob_LogError : PySem.W.mroIn K C_LogError (.type "object") = some true)
    (s_LogError_ArgumentError : PySem.W.subIn K (.ref C_LogError) (.ref C_ArgumentError) = some false)
    (k_LogError_ArgumentError : PySem.W.kitOne K (.ref C_LogError) (.ref C_ArgumentError) = some false)
    (s_LogError_CheckError : PySem.W.subIn K (.ref C_LogError) (.ref C_CheckError) = some false)
    (k_LogError_CheckError : PySem.W.kitOne K (.ref C_LogError) (.ref C_CheckError) = some false)
    (s_LogError_CommandError : PySem.W.subIn K (.ref C_LogError) (.ref C_CommandError) = some false)
    (k_LogError_CommandError : PySem.W.kitOne K (.ref C_LogError) (.ref C_CommandError) = some false)
    (s_LogError_IdealError : PySem.W.subIn K (.ref C_LogError) (.ref C_IdealError) = some true)
    (k_LogError_IdealError : PySem.W.kitOne K (.ref C_LogError) (.ref C_IdealError) = some true)
    (s_LogError_LogError : PySem.W.subIn K (.ref C_LogError) (.ref C_LogError) = some true)
    (k_LogError_LogError : PySem.W.kitOne K (.ref C_LogError) (.ref C_LogError) = some true)
    (s_LogError_PaperError : PySem.W.subIn K (.ref C_LogError) (.ref C_PaperError) = some false)
    (k_LogError_PaperError : PySem.W.kitOne K (.ref C_LogError) (.ref C_PaperError) = some false)
    (s_LogError_ReasonError : PySem.W.subIn K (.ref C_LogError) (.ref C_ReasonError) = some false)
    (k_LogError_ReasonError : PySem.W.kitOne K (.ref C_LogError) (.ref C_ReasonError) = some false)
    (s_LogError_TextError : PySem.W.subIn K (.ref C_LogError) (.ref C_TextError) = some false)
    (k_LogError_TextError : PySem.W.kitOne K (.ref C_LogError) (.ref C_TextError) = some false)
    (s_LogError_TooMany : PySem.W.subIn K (.ref C_LogError) (.ref C_TooMany) = some false)
    (k_LogError_TooMany : PySem.W.kitOne K (.ref C_LogError) (.ref C_TooMany) = some false)
    (kv_LogError : PySem.W.kitOne K (.ref C_LogError) (.type "ValueError") = some true)
    (x_CommandError : K.lookup C_CommandError = some (excClassObj nm_CommandError q_CommandError C_CommandError N_CommandError bs_CommandError [.ref C_IdealError, .type "ValueError", .type "Exception", .type "BaseException", .type "object"] true sn_CommandError sb_CommandError ab_CommandError col_CommandError dd_CommandError k0_CommandError k1_CommandError k2_CommandError k3_CommandError k5_CommandError "ValueError.__new__"))
    (sa_CommandError : PySem.W.findIn K (.ref C_CommandError) "__setattr__" = some (some (.builtin "object.__setattr__")))
    (kC_CommandError : PySem.W.keepIn K (.ref C_CommandError) = true)
    (no_CommandError_line : PySem.W.findIn K (.ref C_CommandError) "line" = some none)
    (mr_CommandError : PySem.W.mroIn K C_CommandError (.ref C_CommandError) = some true)
    (su_CommandError : PySem.W.ks_superIn K C_CommandError C_CommandError "__init__" = some (some (.builtin "ValueError.__init__")))
    (ve_CommandError : PySem.W.subIn K (.ref C_CommandError) (.type "ValueError") = some true)
    (ga_CommandError : PySem.W.findIn K (.ref C_CommandError) "__getattribute__" = some (some (.builtin "BaseException.__getattribute__")))
    (gg_CommandError : PySem.W.findIn K (.ref C_CommandError) "__getattr__" = some none)
    (cl_CommandError : PySem.W.findIn K (.ref C_CommandError) "__class__" = some (some (.builtin "object.__class__")))
    (ob_CommandError : PySem.W.mroIn K C_CommandError (.type "object") = some true)
    (s_CommandError_ArgumentError : PySem.W.subIn K (.ref C_CommandError) (.ref C_ArgumentError) = some false)
    (k_CommandError_ArgumentError : PySem.W.kitOne K (.ref C_CommandError) (.ref C_ArgumentError) = some false)
    (s_CommandError_CheckError : PySem.W.subIn K (.ref C_CommandError) (.ref C_CheckError) = some false)
    (k_CommandError_CheckError : PySem.W.kitOne K (.ref C_CommandError) (.ref C_CheckError) = some false)
    (s_CommandError_CommandError : PySem.W.subIn K (.ref C_CommandError) (.ref C_CommandError) = some true)
    (k_CommandError_CommandError : PySem.W.kitOne K (.ref C_CommandError) (.ref C_CommandError) = some true)
    (s_CommandError_IdealError : PySem.W.subIn K (.ref C_CommandError) (.ref C_IdealError) = some true)
    (k_CommandError_IdealError : PySem.W.kitOne K (.ref C_CommandError) (.ref C_IdealError) = some true)
    (s_CommandError_LogError : PySem.W.subIn K (.ref C_CommandError) (.ref C_LogError) = some false)
    (k_CommandError_LogError : PySem.W.kitOne K (.ref C_CommandError) (.ref C_LogError) = some false)
    (s_CommandError_PaperError : PySem.W.subIn K (.ref C_CommandError) (.ref C_PaperError) = some false)
    (k_CommandError_PaperError : PySem.W.kitOne K (.ref C_CommandError) (.ref C_PaperError) = some false)
    (s_CommandError_ReasonError : PySem.W.subIn K (.ref C_CommandError) (.ref C_ReasonError) = some false)
    (k_CommandError_ReasonError : PySem.W.kitOne K (.ref C_CommandError) (.ref C_ReasonError) = some false)
    (s_CommandError_TextError : PySem.W.subIn K (.ref C_CommandError) (.ref C_TextError) = some false)
    (k_CommandError_TextError : PySem.W.kitOne K (.ref C_CommandError) (.ref C_TextError) = some false)
    (s_CommandError_TooMany : PySem.W.subIn K (.ref C_CommandError) (.ref C_TooMany) = some false)
    (k_CommandError_TooMany : PySem.W.kitOne K (.ref C_CommandError) (.ref C_TooMany) = some false)
    (kv_CommandError : PySem.W.kitOne K (.ref C_CommandError) (.type "ValueError") = some true)
    (b_ValueError : PySem.W.nsIn K mainGlobals "ValueError" = some none)
    (b_abs : PySem.W.nsIn K mainGlobals "abs" = some none)
    (b_int : PySem.W.nsIn K mainGlobals "int" = some none)
    (b_isinstance : PySem.W.nsIn K mainGlobals "isinstance" = some none)
    (b_len : PySem.W.nsIn K mainGlobals "len" = some none)
    (b_range : PySem.W.nsIn K mainGlobals "range" = some none)
    (b_repr : PySem.W.nsIn K mainGlobals "repr" = some none)
    (c_MAX_ANSWERS : PySem.W.nsIn K mainGlobals "MAX_ANSWERS" = some (some (.int 40 t_MAX_ANSWERS)))
    (c_MAX_ASKED : PySem.W.nsIn K mainGlobals "MAX_ASKED" = some (some (.int 8 t_MAX_ASKED)))
    (c_MAX_BASIS : PySem.W.nsIn K mainGlobals "MAX_BASIS" = some (some (.int 40 t_MAX_BASIS)))
    (c_MAX_CHOICES : PySem.W.nsIn K mainGlobals "MAX_CHOICES" = some (some (.int 4 t_MAX_CHOICES)))
    (c_MAX_CORNERS : PySem.W.nsIn K mainGlobals "MAX_CORNERS" = some (some (.int 12 t_MAX_CORNERS)))
    (c_MAX_COUNTED : PySem.W.nsIn K mainGlobals "MAX_COUNTED" = some (some (.int 40 t_MAX_COUNTED)))
    (c_MAX_DEGREE : PySem.W.nsIn K mainGlobals "MAX_DEGREE" = some (some (.int 12 t_MAX_DEGREE)))
    (c_MAX_ENTRY : PySem.W.nsIn K mainGlobals "MAX_ENTRY" = some (some (.int 20 t_MAX_ENTRY)))
    (c_MAX_EXPANDED : PySem.W.nsIn K mainGlobals "MAX_EXPANDED" = some (some (.int 4000 t_MAX_EXPANDED)))
    (c_MAX_FIBER : PySem.W.nsIn K mainGlobals "MAX_FIBER" = some (some (.int 3000 t_MAX_FIBER)))
    (c_MAX_GRID : PySem.W.nsIn K mainGlobals "MAX_GRID" = some (some (.int 256 t_MAX_GRID)))
    (c_MAX_GROUP : PySem.W.nsIn K mainGlobals "MAX_GROUP" = some (some (.int 24 t_MAX_GROUP)))
    (c_MAX_HELD : PySem.W.nsIn K mainGlobals "MAX_HELD" = some (some (.int 400 t_MAX_HELD)))
    (c_MAX_HELD_SYSTEMS : PySem.W.nsIn K mainGlobals "MAX_HELD_SYSTEMS" = some (some (.int 12 t_MAX_HELD_SYSTEMS)))
    (c_MAX_JOINED : PySem.W.nsIn K mainGlobals "MAX_JOINED" = some (some (.int 16 t_MAX_JOINED)))
    (c_MAX_LAID : PySem.W.nsIn K mainGlobals "MAX_LAID" = some (some (.int 7 t_MAX_LAID)))
    (c_MAX_LINES : PySem.W.nsIn K mainGlobals "MAX_LINES" = some (some (.int 200 t_MAX_LINES)))
    (c_MAX_MADE : PySem.W.nsIn K mainGlobals "MAX_MADE" = some (some (.int 8 t_MAX_MADE)))
    (c_MAX_MAKERS : PySem.W.nsIn K mainGlobals "MAX_MAKERS" = some (some (.int 8 t_MAX_MAKERS)))
    (c_MAX_NUMBER : PySem.W.nsIn K mainGlobals "MAX_NUMBER" = some (some (.int 1000000 t_MAX_NUMBER)))
    (c_MAX_PAIRS : PySem.W.nsIn K mainGlobals "MAX_PAIRS" = some (some (.int 600 t_MAX_PAIRS)))
    (c_MAX_PARTED : PySem.W.nsIn K mainGlobals "MAX_PARTED" = some (some (.int 10000000000 t_MAX_PARTED)))
    (c_MAX_PLACES : PySem.W.nsIn K mainGlobals "MAX_PLACES" = some (some (.int 8 t_MAX_PLACES)))
    (c_MAX_POINTS : PySem.W.nsIn K mainGlobals "MAX_POINTS" = some (some (.int 12 t_MAX_POINTS)))
    (c_MAX_POWER : PySem.W.nsIn K mainGlobals "MAX_POWER" = some (some (.int 30 t_MAX_POWER)))
    (c_MAX_RAISED : PySem.W.nsIn K mainGlobals "MAX_RAISED" = some (some (.int 12 t_MAX_RAISED)))
    (c_MAX_RELATED : PySem.W.nsIn K mainGlobals "MAX_RELATED" = some (some (.int 4 t_MAX_RELATED)))
    (c_MAX_ROWED : PySem.W.nsIn K mainGlobals "MAX_ROWED" = some (some (.int 4 t_MAX_ROWED)))
    (c_MAX_SIDE : PySem.W.nsIn K mainGlobals "MAX_SIDE" = some (some (.int 8 t_MAX_SIDE)))
    (c_MAX_SPLIT : PySem.W.nsIn K mainGlobals "MAX_SPLIT" = some (some (.int 300 t_MAX_SPLIT)))
    (c_MAX_START : PySem.W.nsIn K mainGlobals "MAX_START" = some (some (.int 60 t_MAX_START)))
    (c_MAX_STEPS : PySem.W.nsIn K mainGlobals "MAX_STEPS" = some (some (.int 3000 t_MAX_STEPS)))
    (c_MAX_TABLED : PySem.W.nsIn K mainGlobals "MAX_TABLED" = some (some (.int 4 t_MAX_TABLED)))
    (c_MAX_TERMS : PySem.W.nsIn K mainGlobals "MAX_TERMS" = some (some (.int 60 t_MAX_TERMS)))
    (c_MAX_TEXT : PySem.W.nsIn K mainGlobals "MAX_TEXT" = some (some (.int 6000 t_MAX_TEXT)))
    (c_MAX_TIED : PySem.W.nsIn K mainGlobals "MAX_TIED" = some (some (.int 66 t_MAX_TIED)))
    (c_MAX_UNKNOWNS : PySem.W.nsIn K mainGlobals "MAX_UNKNOWNS" = some (some (.int 4 t_MAX_UNKNOWNS)))
    (a__law_draws : PySem.W.nsIn K mainGlobals "_law_draws" = some (some (.ref d__law_draws)))
    (l__law_draws : K.lookup d__law_draws = some ⟨oc__law_draws, od__law_draws, .func (PySem.W.fnOf "_law_draws" "_law_draws" (defArgs st__law_draws) (defBody st__law_draws) (defScope st__law_draws) .none kV__law_draws dc__law_draws pm__law_draws an__law_draws cd__law_draws ct__law_draws), sl__law_draws⟩)
    (c__law_draws : PySem.W.codeIn K cd__law_draws "_law_draws" = true)
    (k__law_draws : PySem.W.keepIn K (.ref d__law_draws) = true)
    (a__law_more : PySem.W.nsIn K mainGlobals "_law_more" = some (some (.ref d__law_more)))
    (l__law_more : K.lookup d__law_more = some ⟨oc__law_more, od__law_more, .func (PySem.W.fnOf "_law_more" "_law_more" (defArgs st__law_more) (defBody st__law_more) (defScope st__law_more) .none kV__law_more dc__law_more pm__law_more an__law_more cd__law_more ct__law_more), sl__law_more⟩)
    (c__law_more : PySem.W.codeIn K cd__law_more "_law_more" = true)
    (k__law_more : PySem.W.keepIn K (.ref d__law_more) = true)
    (a__law_take : PySem.W.nsIn K mainGlobals "_law_take" = some (some (.ref d__law_take)))
    (l__law_take : K.lookup d__law_take = some ⟨oc__law_take, od__law_take, .func (PySem.W.fnOf "_law_take" "_law_take" (defArgs st__law_take) (defBody st__law_take) (defScope st__law_take) .none kV__law_take dc__law_take pm__law_take an__law_take cd__law_take ct__law_take), sl__law_take⟩)
    (c__law_take : PySem.W.codeIn K cd__law_take "_law_take" = true)
    (k__law_take : PySem.W.keepIn K (.ref d__law_take) = true)
    (a__law_one : PySem.W.nsIn K mainGlobals "_law_one" = some (some (.ref d__law_one)))
    (l__law_one : K.lookup d__law_one = some ⟨oc__law_one, od__law_one, .func (PySem.W.fnOf "_law_one" "_law_one" (defArgs st__law_one) (defBody st__law_one) (defScope st__law_one) .none kV__law_one dc__law_one pm__law_one an__law_one cd__law_one ct__law_one), sl__law_one⟩)
    (c__law_one : PySem.W.codeIn K cd__law_one "_law_one" = true)
    (k__law_one : PySem.W.keepIn K (.ref d__law_one) = true)
    (a__law_limits_right : PySem.W.nsIn K mainGlobals "_law_limits_right" = some (some (.ref d__law_limits_right)))
    (l__law_limits_right : K.lookup d__law_limits_right = some ⟨oc__law_limits_right, od__law_limits_right, .func (PySem.W.fnOf "_law_limits_right" "_law_limits_right" (defArgs st__law_limits_right) (defBody st__law_limits_right) (defScope st__law_limits_right) .none kV__law_limits_right dc__law_limits_right pm__law_limits_right an__law_limits_right cd__law_limits_right ct__law_limits_right), sl__law_limits_right⟩)
    (c__law_limits_right : PySem.W.codeIn K cd__law_limits_right "_law_limits_right" = true)
    (k__law_limits_right : PySem.W.keepIn K (.ref d__law_limits_right) = true)
    (a__law_raise : PySem.W.nsIn K mainGlobals "_law_raise" = some (some (.ref d__law_raise)))
    (l__law_raise : K.lookup d__law_raise = some ⟨oc__law_raise, od__law_raise, .func (PySem.W.fnOf "_law_raise" "_law_raise" (defArgs st__law_raise) (defBody st__law_raise) (defScope st__law_raise) .none kV__law_raise dc__law_raise pm__law_raise an__law_raise cd__law_raise ct__law_raise), sl__law_raise⟩)
    (c__law_raise : PySem.W.codeIn K cd__law_raise "_law_raise" = true)
    (k__law_raise : PySem.W.keepIn K (.ref d__law_raise) = true)
    (a__law_kinds : PySem.W.nsIn K mainGlobals "_law_kinds" = some (some (.ref d__law_kinds)))
    (l__law_kinds : K.lookup d__law_kinds = some ⟨oc__law_kinds, od__law_kinds, .func (PySem.W.fnOf "_law_kinds" "_law_kinds" (defArgs st__law_kinds) (defBody st__law_kinds) (defScope st__law_kinds) .none kV__law_kinds dc__law_kinds pm__law_kinds an__law_kinds cd__law_kinds ct__law_kinds), sl__law_kinds⟩)
    (c__law_kinds : PySem.W.codeIn K cd__law_kinds "_law_kinds" = true)
    (k__law_kinds : PySem.W.keepIn K (.ref d__law_kinds) = true)
    (a__law_caught : PySem.W.nsIn K mainGlobals "_law_caught" = some (some (.ref d__law_caught)))
    (l__law_caught : K.lookup d__law_caught = some ⟨oc__law_caught, od__law_caught, .func (PySem.W.fnOf "_law_caught" "_law_caught" (defArgs st__law_caught) (defBody st__law_caught) (defScope st__law_caught) .none kV__law_caught dc__law_caught pm__law_caught an__law_caught cd__law_caught ct__law_caught), sl__law_caught⟩)
    (c__law_caught : PySem.W.codeIn K cd__law_caught "_law_caught" = true)
    (k__law_caught : PySem.W.keepIn K (.ref d__law_caught) = true)
    (a__law_fields : PySem.W.nsIn K mainGlobals "_law_fields" = some (some (.ref d__law_fields)))
    (l__law_fields : K.lookup d__law_fields = some ⟨oc__law_fields, od__law_fields, .func (PySem.W.fnOf "_law_fields" "_law_fields" (defArgs st__law_fields) (defBody st__law_fields) (defScope st__law_fields) .none kV__law_fields dc__law_fields pm__law_fields an__law_fields cd__law_fields ct__law_fields), sl__law_fields⟩)
    (c__law_fields : PySem.W.codeIn K cd__law_fields "_law_fields" = true)
    (k__law_fields : PySem.W.keepIn K (.ref d__law_fields) = true)
    (a_law : PySem.W.nsIn K mainGlobals "law" = some (some (.ref d_law)))
    (l_law : K.lookup d_law = some ⟨oc_law, od_law, .func (PySem.W.fnOf "law" "law" (defArgs st_law) (defBody st_law) (defScope st_law) .none kV_law dc_law pm_law an_law cd_law ct_law), sl_law⟩)
    (c_law : PySem.W.codeIn K cd_law "law" = true)
    (k_law : PySem.W.keepIn K (.ref d_law) = true)
    : ∀ base : Heap, K.In base → base.Ns mainGlobals mg → FnD PySem.Challenge.pw_manyunknowns_k00_errors_and_limits w K mg base 5 "law" 1 (mFn 8 1 m_law) := by
  have G_ArgumentError : mg "ArgumentError" = some (.ref C_ArgumentError) := PySem.W.mg_of X G g_ArgumentError
  have G_CheckError : mg "CheckError" = some (.ref C_CheckError) := PySem.W.mg_of X G g_CheckError
  have G_CommandError : mg "CommandError" = some (.ref C_CommandError) := PySem.W.mg_of X G g_CommandError
  have G_IdealError : mg "IdealError" = some (.ref C_IdealError) := PySem.W.mg_of X G g_IdealError
  have G_LogError : mg "LogError" = some (.ref C_LogError) := PySem.W.mg_of X G g_LogError
  have G_PaperError : mg "PaperError" = some (.ref C_PaperError) := PySem.W.mg_of X G g_PaperError
  have G_ReasonError : mg "ReasonError" = some (.ref C_ReasonError) := PySem.W.mg_of X G g_ReasonError
  have G_TextError : mg "TextError" = some (.ref C_TextError) := PySem.W.mg_of X G g_TextError
  have G_TooMany : mg "TooMany" = some (.ref C_TooMany) := PySem.W.mg_of X G g_TooMany
  have T : Txt K mg := ⟨PySem.W.mg_none_of X G b_ValueError, PySem.W.mg_none_of X G b_abs, PySem.W.mg_none_of X G b_int, PySem.W.mg_none_of X G b_isinstance, PySem.W.mg_none_of X G b_len, PySem.W.mg_none_of X G b_range, PySem.W.mg_none_of X G b_repr, ⟨_, PySem.W.mg_of X G c_MAX_ANSWERS⟩, ⟨_, PySem.W.mg_of X G c_MAX_ASKED⟩, ⟨_, PySem.W.mg_of X G c_MAX_BASIS⟩, ⟨_, PySem.W.mg_of X G c_MAX_CHOICES⟩, ⟨_, PySem.W.mg_of X G c_MAX_CORNERS⟩, ⟨_, PySem.W.mg_of X G c_MAX_COUNTED⟩, ⟨_, PySem.W.mg_of X G c_MAX_DEGREE⟩, ⟨_, PySem.W.mg_of X G c_MAX_ENTRY⟩, ⟨_, PySem.W.mg_of X G c_MAX_EXPANDED⟩, ⟨_, PySem.W.mg_of X G c_MAX_FIBER⟩, ⟨_, PySem.W.mg_of X G c_MAX_GRID⟩, ⟨_, PySem.W.mg_of X G c_MAX_GROUP⟩, ⟨_, PySem.W.mg_of X G c_MAX_HELD⟩, ⟨_, PySem.W.mg_of X G c_MAX_HELD_SYSTEMS⟩, ⟨_, PySem.W.mg_of X G c_MAX_JOINED⟩, ⟨_, PySem.W.mg_of X G c_MAX_LAID⟩, ⟨_, PySem.W.mg_of X G c_MAX_LINES⟩, ⟨_, PySem.W.mg_of X G c_MAX_MADE⟩, ⟨_, PySem.W.mg_of X G c_MAX_MAKERS⟩, ⟨_, PySem.W.mg_of X G c_MAX_NUMBER⟩, ⟨_, PySem.W.mg_of X G c_MAX_PAIRS⟩, ⟨_, PySem.W.mg_of X G c_MAX_PARTED⟩, ⟨_, PySem.W.mg_of X G c_MAX_PLACES⟩, ⟨_, PySem.W.mg_of X G c_MAX_POINTS⟩, ⟨_, PySem.W.mg_of X G c_MAX_POWER⟩, ⟨_, PySem.W.mg_of X G c_MAX_RAISED⟩, ⟨_, PySem.W.mg_of X G c_MAX_RELATED⟩, ⟨_, PySem.W.mg_of X G c_MAX_ROWED⟩, ⟨_, PySem.W.mg_of X G c_MAX_SIDE⟩, ⟨_, PySem.W.mg_of X G c_MAX_SPLIT⟩, ⟨_, PySem.W.mg_of X G c_MAX_START⟩, ⟨_, PySem.W.mg_of X G c_MAX_STEPS⟩, ⟨_, PySem.W.mg_of X G c_MAX_TABLED⟩, ⟨_, PySem.W.mg_of X G c_MAX_TERMS⟩, ⟨_, PySem.W.mg_of X G c_MAX_TEXT⟩, ⟨_, PySem.W.mg_of X G c_MAX_TIED⟩, ⟨_, PySem.W.mg_of X G c_MAX_UNKNOWNS⟩⟩
  have Ini_CommandError : ExIni PySem.Challenge.pw_manyunknowns_k00_errors_and_limits K mg C_CommandError f_CommandError cc_CommandError cda_CommandError := ⟨⟨_, _, _, _, _, _, cd0_CommandError, cd1_CommandError, cd2_CommandError⟩, ⟨_, _, _, cc0_CommandError⟩, Option.isSome_iff_exists.mp ic_CommandError, PySem.W.mg_none_of X G nosup, by rfl, any_⟩
  have Ini_LogError : ExIni PySem.Challenge.pw_manyunknowns_k00_errors_and_limits K mg C_LogError f_LogError cc_LogError cda_LogError := ⟨⟨_, _, _, _, _, _, cd0_LogError, cd1_LogError, cd2_LogError⟩, ⟨_, _, _, cc0_LogError⟩, Option.isSome_iff_exists.mp ic_LogError, PySem.W.mg_none_of X G nosup, by rfl, any_⟩
  have Ini_ReasonError : ExIni PySem.Challenge.pw_manyunknowns_k00_errors_and_limits K mg C_ReasonError f_ReasonError cc_ReasonError cda_ReasonError := ⟨⟨_, _, _, _, _, _, cd0_ReasonError, cd1_ReasonError, cd2_ReasonError⟩, ⟨_, _, _, cc0_ReasonError⟩, Option.isSome_iff_exists.mp ic_ReasonError, PySem.W.mg_none_of X G nosup, by rfl, any_⟩
  have Ini_TextError : ExIni PySem.Challenge.pw_manyunknowns_k00_errors_and_limits K mg C_TextError f_TextError cc_TextError cda_TextError := ⟨⟨_, _, _, _, _, _, cd0_TextError, cd1_TextError, cd2_TextError⟩, ⟨_, _, _, cc0_TextError⟩, Option.isSome_iff_exists.mp ic_TextError, PySem.W.mg_none_of X G nosup, by rfl, any_⟩
  have ox_ArgumentError : OexC K C_ArgumentError := ⟨⟨_, _, _, _, _, _, _, _, _, _, _, _, _, _, _, x_ArgumentError, refsVE_end⟩, sa_ArgumentError, bE_ArgumentError, ty_ArgumentError, kC_ArgumentError⟩
  have E0_ArgumentError : ExCls K mg "ArgumentError" C_ArgumentError C_ReasonError f_ReasonError ["reason"] := ⟨G_ArgumentError, ox_ArgumentError, in_ArgumentError, ti_ReasonError, ⟨mr_ArgumentError, su_ArgumentError, ve_ArgumentError⟩, fun f hf => by simp only [List.mem_cons, List.not_mem_nil, or_false] at hf; subst hf; exact no_ArgumentError_reason⟩
  have ec_ArgumentError : ExcC K C_ArgumentError := ⟨ga_ArgumentError, gg_ArgumentError, bE_ArgumentError, hd_ArgumentError, cl_ArgumentError, oget, otk, ob_ArgumentError⟩
  have xf_ArgumentError : XfC K C_ArgumentError := ⟨ga_ArgumentError, gg_ArgumentError, bE_ArgumentError, hd_ArgumentError⟩
  have E_ArgumentError : ∀ base : Heap, ExD PySem.Challenge.pw_manyunknowns_k00_errors_and_limits w K mg base 1 "ArgumentError" ["reason"] := fun base => exd1 E0_ArgumentError Ini_ReasonError l_ReasonError c_ReasonError (nscope_by (by decide +kernel)) rfl (fun us hl => match us, hl with | [_, _], _ => rfl) (fun env => by rfl) rfl rfl rfl rfl (by decide) (by decide) (by decide) (by decide)
  have ox_PaperError : OexC K C_PaperError := ⟨⟨_, _, _, _, _, _, _, _, _, _, _, _, _, _, _, x_PaperError, refsVE_end⟩, sa_PaperError, bE_PaperError, ty_PaperError, kC_PaperError⟩
  have E0_PaperError : ExCls K mg "PaperError" C_PaperError C_ReasonError f_ReasonError ["reason"] := ⟨G_PaperError, ox_PaperError, in_PaperError, ti_ReasonError, ⟨mr_PaperError, su_PaperError, ve_PaperError⟩, fun f hf => by simp only [List.mem_cons, List.not_mem_nil, or_false] at hf; subst hf; exact no_PaperError_reason⟩
  have ec_PaperError : ExcC K C_PaperError := ⟨ga_PaperError, gg_PaperError, bE_PaperError, hd_PaperError, cl_PaperError, oget, otk, ob_PaperError⟩
  have xf_PaperError : XfC K C_PaperError := ⟨ga_PaperError, gg_PaperError, bE_PaperError, hd_PaperError⟩
  have E_PaperError : ∀ base : Heap, ExD PySem.Challenge.pw_manyunknowns_k00_errors_and_limits w K mg base 1 "PaperError" ["reason"] := fun base => exd1 E0_PaperError Ini_ReasonError l_ReasonError c_ReasonError (nscope_by (by decide +kernel)) rfl (fun us hl => match us, hl with | [_, _], _ => rfl) (fun env => by rfl) rfl rfl rfl rfl (by decide) (by decide) (by decide) (by decide)
  have ox_TooMany : OexC K C_TooMany := ⟨⟨_, _, _, _, _, _, _, _, _, _, _, _, _, _, _, x_TooMany, refsVE_end⟩, sa_TooMany, bE_TooMany, ty_TooMany, kC_TooMany⟩
  have E0_TooMany : ExCls K mg "TooMany" C_TooMany C_ReasonError f_ReasonError ["reason"] := ⟨G_TooMany, ox_TooMany, in_TooMany, ti_ReasonError, ⟨mr_TooMany, su_TooMany, ve_TooMany⟩, fun f hf => by simp only [List.mem_cons, List.not_mem_nil, or_false] at hf; subst hf; exact no_TooMany_reason⟩
  have ec_TooMany : ExcC K C_TooMany := ⟨ga_TooMany, gg_TooMany, bE_TooMany, hd_TooMany, cl_TooMany, oget, otk, ob_TooMany⟩
  have xf_TooMany : XfC K C_TooMany := ⟨ga_TooMany, gg_TooMany, bE_TooMany, hd_TooMany⟩
  have E_TooMany : ∀ base : Heap, ExD PySem.Challenge.pw_manyunknowns_k00_errors_and_limits w K mg base 1 "TooMany" ["reason"] := fun base => exd1 E0_TooMany Ini_ReasonError l_ReasonError c_ReasonError (nscope_by (by decide +kernel)) rfl (fun us hl => match us, hl with | [_, _], _ => rfl) (fun env => by rfl) rfl rfl rfl rfl (by decide) (by decide) (by decide) (by decide)
  have ox_CheckError : OexC K C_CheckError := ⟨⟨_, _, _, _, _, _, _, _, _, _, _, _, _, _, _, x_CheckError, refsVE_end⟩, sa_CheckError, bE_CheckError, ty_CheckError, kC_CheckError⟩
  have E0_CheckError : ExCls K mg "CheckError" C_CheckError C_ReasonError f_ReasonError ["reason"] := ⟨G_CheckError, ox_CheckError, in_CheckError, ti_ReasonError, ⟨mr_CheckError, su_CheckError, ve_CheckError⟩, fun f hf => by simp only [List.mem_cons, List.not_mem_nil, or_false] at hf; subst hf; exact no_CheckError_reason⟩
  have ec_CheckError : ExcC K C_CheckError := ⟨ga_CheckError, gg_CheckError, bE_CheckError, hd_CheckError, cl_CheckError, oget, otk, ob_CheckError⟩
  have xf_CheckError : XfC K C_CheckError := ⟨ga_CheckError, gg_CheckError, bE_CheckError, hd_CheckError⟩
  have E_CheckError : ∀ base : Heap, ExD PySem.Challenge.pw_manyunknowns_k00_errors_and_limits w K mg base 1 "CheckError" ["reason"] := fun base => exd1 E0_CheckError Ini_ReasonError l_ReasonError c_ReasonError (nscope_by (by decide +kernel)) rfl (fun us hl => match us, hl with | [_, _], _ => rfl) (fun env => by rfl) rfl rfl rfl rfl (by decide) (by decide) (by decide) (by decide)
  have ox_TextError : OexC K C_TextError := ⟨⟨_, _, _, _, _, _, _, _, _, _, _, _, _, _, _, x_TextError, refsVE_end⟩, sa_TextError, bE_TextError, ty_TextError, kC_TextError⟩
  have E0_TextError : ExCls K mg "TextError" C_TextError C_TextError f_TextError ["at"] := ⟨G_TextError, ox_TextError, fi_TextError, ti_TextError, ⟨mr_TextError, su_TextError, ve_TextError⟩, fun f hf => by simp only [List.mem_cons, List.not_mem_nil, or_false] at hf; subst hf; exact no_TextError_at⟩
  have ec_TextError : ExcC K C_TextError := ⟨ga_TextError, gg_TextError, bE_TextError, hd_TextError, cl_TextError, oget, otk, ob_TextError⟩
  have xf_TextError : XfC K C_TextError := ⟨ga_TextError, gg_TextError, bE_TextError, hd_TextError⟩
  have E_TextError : ∀ base : Heap, ExD PySem.Challenge.pw_manyunknowns_k00_errors_and_limits w K mg base 1 "TextError" ["at"] := fun base => exd1 E0_TextError Ini_TextError l_TextError c_TextError (nscope_by (by decide +kernel)) rfl (fun us hl => match us, hl with | [_, _], _ => rfl) (fun env => by rfl) rfl rfl rfl rfl (by decide) (by decide) (by decide) (by decide)
  have ox_LogError : OexC K C_LogError := ⟨⟨_, _, _, _, _, _, _, _, _, _, _, _, _, _, _, x_LogError, refsVE_end⟩, sa_LogError, bE_LogError, ty_LogError, kC_LogError⟩
  have E0_LogError : ExCls K mg "LogError" C_LogError C_LogError f_LogError ["number", "reason"] := ⟨G_LogError, ox_LogError, fi_LogError, ti_LogError, ⟨mr_LogError, su_LogError, ve_LogError⟩, fun f hf => by simp only [List.mem_cons, List.not_mem_nil, or_false] at hf; rcases hf with rfl | rfl; exact no_LogError_number; exact no_LogError_reason⟩
  have ec_LogError : ExcC K C_LogError := ⟨ga_LogError, gg_LogError, bE_LogError, hd_LogError, cl_LogError, oget, otk, ob_LogError⟩
  have xf_LogError : XfC K C_LogError := ⟨ga_LogError, gg_LogError, bE_LogError, hd_LogError⟩
  have E_LogError : ∀ base : Heap, ExD PySem.Challenge.pw_manyunknowns_k00_errors_and_limits w K mg base 1 "LogError" ["number", "reason"] := fun base => exd2 E0_LogError Ini_LogError l_LogError c_LogError (nscope_by (by decide +kernel)) rfl (fun us hl => match us, hl with | [_, _, _], _ => rfl) (fun env => by rfl) rfl rfl rfl rfl rfl (by decide) (by decide) (by decide) (by decide) (by decide) (by decide)
  have ox_CommandError : OexC K C_CommandError := ⟨⟨_, _, _, _, _, _, _, _, _, _, _, _, _, _, _, x_CommandError, refsVE_end⟩, sa_CommandError, bE_CommandError, ty_CommandError, kC_CommandError⟩
  have E0_CommandError : ExCls K mg "CommandError" C_CommandError C_CommandError f_CommandError ["line"] := ⟨G_CommandError, ox_CommandError, fi_CommandError, ti_CommandError, ⟨mr_CommandError, su_CommandError, ve_CommandError⟩, fun f hf => by simp only [List.mem_cons, List.not_mem_nil, or_false] at hf; subst hf; exact no_CommandError_line⟩
  have ec_CommandError : ExcC K C_CommandError := ⟨ga_CommandError, gg_CommandError, bE_CommandError, hd_CommandError, cl_CommandError, oget, otk, ob_CommandError⟩
  have xf_CommandError : XfC K C_CommandError := ⟨ga_CommandError, gg_CommandError, bE_CommandError, hd_CommandError⟩
  have E_CommandError : ∀ base : Heap, ExD PySem.Challenge.pw_manyunknowns_k00_errors_and_limits w K mg base 1 "CommandError" ["line"] := fun base => exd1 E0_CommandError Ini_CommandError l_CommandError c_CommandError (nscope_by (by decide +kernel)) rfl (fun us hl => match us, hl with | [_, _], _ => rfl) (fun env => by rfl) rfl rfl rfl rfl (by decide) (by decide) (by decide) (by decide)
  have F_reason : ExF K mg ["ArgumentError", "PaperError", "TooMany", "CheckError", "LogError"] "reason" := fun c hc => by
    simp only [List.mem_cons, List.not_mem_nil, or_false] at hc
    rcases hc with rfl | rfl | rfl | rfl | rfl
    · exact ⟨_, G_ArgumentError, xf_ArgumentError, no_ArgumentError_reason⟩
    · exact ⟨_, G_PaperError, xf_PaperError, no_PaperError_reason⟩
    · exact ⟨_, G_TooMany, xf_TooMany, no_TooMany_reason⟩
    · exact ⟨_, G_CheckError, xf_CheckError, no_CheckError_reason⟩
    · exact ⟨_, G_LogError, xf_LogError, no_LogError_reason⟩
  have F_at : ExF K mg ["TextError"] "at" := fun c hc => by
    simp only [List.mem_cons, List.not_mem_nil, or_false] at hc
    subst hc; exact ⟨_, G_TextError, xf_TextError, no_TextError_at⟩
  have F_number : ExF K mg ["LogError"] "number" := fun c hc => by
    simp only [List.mem_cons, List.not_mem_nil, or_false] at hc
    subst hc; exact ⟨_, G_LogError, xf_LogError, no_LogError_number⟩
  have F_line : ExF K mg ["CommandError"] "line" := fun c hc => by
    simp only [List.mem_cons, List.not_mem_nil, or_false] at hc
    subst hc; exact ⟨_, G_CommandError, xf_CommandError, no_CommandError_line⟩
  have EW : ExW K mg tbl owns := ew_of tbl owns [("ArgumentError", C_ArgumentError), ("CheckError", C_CheckError), ("CommandError", C_CommandError), ("IdealError", C_IdealError), ("LogError", C_LogError), ("PaperError", C_PaperError), ("ReasonError", C_ReasonError), ("TextError", C_TextError), ("TooMany", C_TooMany)]
    ⟨G_ArgumentError, G_CheckError, G_CommandError, G_IdealError, G_LogError, G_PaperError, G_ReasonError, G_TextError, G_TooMany, trivial⟩ (by rfl)
    ⟨⟨ec_ArgumentError, PySem.W.exm_ref bE_ArgumentError hd_ArgumentError ty_ArgumentError s_ArgumentError_ArgumentError, k_ArgumentError_ArgumentError⟩,
     ⟨ec_ArgumentError, PySem.W.exm_ref bE_CheckError hd_CheckError ty_CheckError s_ArgumentError_CheckError, k_ArgumentError_CheckError⟩,
     ⟨ec_ArgumentError, PySem.W.exm_ref bE_CommandError hd_CommandError ty_CommandError s_ArgumentError_CommandError, k_ArgumentError_CommandError⟩,
     ⟨ec_ArgumentError, PySem.W.exm_ref bE_IdealError hd_IdealError ty_IdealError s_ArgumentError_IdealError, k_ArgumentError_IdealError⟩,
     ⟨ec_ArgumentError, PySem.W.exm_ref bE_LogError hd_LogError ty_LogError s_ArgumentError_LogError, k_ArgumentError_LogError⟩,
     ⟨ec_ArgumentError, PySem.W.exm_ref bE_PaperError hd_PaperError ty_PaperError s_ArgumentError_PaperError, k_ArgumentError_PaperError⟩,
     ⟨ec_ArgumentError, PySem.W.exm_ref bE_ReasonError hd_ReasonError ty_ReasonError s_ArgumentError_ReasonError, k_ArgumentError_ReasonError⟩,
     ⟨ec_ArgumentError, PySem.W.exm_ref bE_TextError hd_TextError ty_TextError s_ArgumentError_TextError, k_ArgumentError_TextError⟩,
     ⟨ec_ArgumentError, PySem.W.exm_ref bE_TooMany hd_TooMany ty_TooMany s_ArgumentError_TooMany, k_ArgumentError_TooMany⟩,
     ⟨ec_ArgumentError, kv_ArgumentError⟩,
     ⟨ec_PaperError, PySem.W.exm_ref bE_ArgumentError hd_ArgumentError ty_ArgumentError s_PaperError_ArgumentError, k_PaperError_ArgumentError⟩,
     ⟨ec_PaperError, PySem.W.exm_ref bE_CheckError hd_CheckError ty_CheckError s_PaperError_CheckError, k_PaperError_CheckError⟩,
     ⟨ec_PaperError, PySem.W.exm_ref bE_CommandError hd_CommandError ty_CommandError s_PaperError_CommandError, k_PaperError_CommandError⟩,
     ⟨ec_PaperError, PySem.W.exm_ref bE_IdealError hd_IdealError ty_IdealError s_PaperError_IdealError, k_PaperError_IdealError⟩,
     ⟨ec_PaperError, PySem.W.exm_ref bE_LogError hd_LogError ty_LogError s_PaperError_LogError, k_PaperError_LogError⟩,
     ⟨ec_PaperError, PySem.W.exm_ref bE_PaperError hd_PaperError ty_PaperError s_PaperError_PaperError, k_PaperError_PaperError⟩,
     ⟨ec_PaperError, PySem.W.exm_ref bE_ReasonError hd_ReasonError ty_ReasonError s_PaperError_ReasonError, k_PaperError_ReasonError⟩,
     ⟨ec_PaperError, PySem.W.exm_ref bE_TextError hd_TextError ty_TextError s_PaperError_TextError, k_PaperError_TextError⟩,
     ⟨ec_PaperError, PySem.W.exm_ref bE_TooMany hd_TooMany ty_TooMany s_PaperError_TooMany, k_PaperError_TooMany⟩,
     ⟨ec_PaperError, kv_PaperError⟩,
     ⟨ec_TooMany, PySem.W.exm_ref bE_ArgumentError hd_ArgumentError ty_ArgumentError s_TooMany_ArgumentError, k_TooMany_ArgumentError⟩,
     ⟨ec_TooMany, PySem.W.exm_ref bE_CheckError hd_CheckError ty_CheckError s_TooMany_CheckError, k_TooMany_CheckError⟩,
     ⟨ec_TooMany, PySem.W.exm_ref bE_CommandError hd_CommandError ty_CommandError s_TooMany_CommandError, k_TooMany_CommandError⟩,
     ⟨ec_TooMany, PySem.W.exm_ref bE_IdealError hd_IdealError ty_IdealError s_TooMany_IdealError, k_TooMany_IdealError⟩,
     ⟨ec_TooMany, PySem.W.exm_ref bE_LogError hd_LogError ty_LogError s_TooMany_LogError, k_TooMany_LogError⟩,
     ⟨ec_TooMany, PySem.W.exm_ref bE_PaperError hd_PaperError ty_PaperError s_TooMany_PaperError, k_TooMany_PaperError⟩,
     ⟨ec_TooMany, PySem.W.exm_ref bE_ReasonError hd_ReasonError ty_ReasonError s_TooMany_ReasonError, k_TooMany_ReasonError⟩,
     ⟨ec_TooMany, PySem.W.exm_ref bE_TextError hd_TextError ty_TextError s_TooMany_TextError, k_TooMany_TextError⟩,
     ⟨ec_TooMany, PySem.W.exm_ref bE_TooMany hd_TooMany ty_TooMany s_TooMany_TooMany, k_TooMany_TooMany⟩,
     ⟨ec_TooMany, kv_TooMany⟩,
     ⟨ec_CheckError, PySem.W.exm_ref bE_ArgumentError hd_ArgumentError ty_ArgumentError s_CheckError_ArgumentError, k_CheckError_ArgumentError⟩,
     ⟨ec_CheckError, PySem.W.exm_ref bE_CheckError hd_CheckError ty_CheckError s_CheckError_CheckError, k_CheckError_CheckError⟩,
     ⟨ec_CheckError, PySem.W.exm_ref bE_CommandError hd_CommandError ty_CommandError s_CheckError_CommandError, k_CheckError_CommandError⟩,
     ⟨ec_CheckError, PySem.W.exm_ref bE_IdealError hd_IdealError ty_IdealError s_CheckError_IdealError, k_CheckError_IdealError⟩,
     ⟨ec_CheckError, PySem.W.exm_ref bE_LogError hd_LogError ty_LogError s_CheckError_LogError, k_CheckError_LogError⟩,
     ⟨ec_CheckError, PySem.W.exm_ref bE_PaperError hd_PaperError ty_PaperError s_CheckError_PaperError, k_CheckError_PaperError⟩,
     ⟨ec_CheckError, PySem.W.exm_ref bE_ReasonError hd_ReasonError ty_ReasonError s_CheckError_ReasonError, k_CheckError_ReasonError⟩,
     ⟨ec_CheckError, PySem.W.exm_ref bE_TextError hd_TextError ty_TextError s_CheckError_TextError, k_CheckError_TextError⟩,
     ⟨ec_CheckError, PySem.W.exm_ref bE_TooMany hd_TooMany ty_TooMany s_CheckError_TooMany, k_CheckError_TooMany⟩,
     ⟨ec_CheckError, kv_CheckError⟩,
     ⟨ec_TextError, PySem.W.exm_ref bE_ArgumentError hd_ArgumentError ty_ArgumentError s_TextError_ArgumentError, k_TextError_ArgumentError⟩,
     ⟨ec_TextError, PySem.W.exm_ref bE_CheckError hd_CheckError ty_CheckError s_TextError_CheckError, k_TextError_CheckError⟩,
     ⟨ec_TextError, PySem.W.exm_ref bE_CommandError hd_CommandError ty_CommandError s_TextError_CommandError, k_TextError_CommandError⟩,
     ⟨ec_TextError, PySem.W.exm_ref bE_IdealError hd_IdealError ty_IdealError s_TextError_IdealError, k_TextError_IdealError⟩,
     ⟨ec_TextError, PySem.W.exm_ref bE_LogError hd_LogError ty_LogError s_TextError_LogError, k_TextError_LogError⟩,
     ⟨ec_TextError, PySem.W.exm_ref bE_PaperError hd_PaperError ty_PaperError s_TextError_PaperError, k_TextError_PaperError⟩,
     ⟨ec_TextError, PySem.W.exm_ref bE_ReasonError hd_ReasonError ty_ReasonError s_TextError_ReasonError, k_TextError_ReasonError⟩,
     ⟨ec_TextError, PySem.W.exm_ref bE_TextError hd_TextError ty_TextError s_TextError_TextError, k_TextError_TextError⟩,
     ⟨ec_TextError, PySem.W.exm_ref bE_TooMany hd_TooMany ty_TooMany s_TextError_TooMany, k_TextError_TooMany⟩,
     ⟨ec_TextError, kv_TextError⟩,
     ⟨ec_LogError, PySem.W.exm_ref bE_ArgumentError hd_ArgumentError ty_ArgumentError s_LogError_ArgumentError, k_LogError_ArgumentError⟩,
     ⟨ec_LogError, PySem.W.exm_ref bE_CheckError hd_CheckError ty_CheckError s_LogError_CheckError, k_LogError_CheckError⟩,
     ⟨ec_LogError, PySem.W.exm_ref bE_CommandError hd_CommandError ty_CommandError s_LogError_CommandError, k_LogError_CommandError⟩,
     ⟨ec_LogError, PySem.W.exm_ref bE_IdealError hd_IdealError ty_IdealError s_LogError_IdealError, k_LogError_IdealError⟩,
     ⟨ec_LogError, PySem.W.exm_ref bE_LogError hd_LogError ty_LogError s_LogError_LogError, k_LogError_LogError⟩,
     ⟨ec_LogError, PySem.W.exm_ref bE_PaperError hd_PaperError ty_PaperError s_LogError_PaperError, k_LogError_PaperError⟩,
     ⟨ec_LogError, PySem.W.exm_ref bE_ReasonError hd_ReasonError ty_ReasonError s_LogError_ReasonError, k_LogError_ReasonError⟩,
     ⟨ec_LogError, PySem.W.exm_ref bE_TextError hd_TextError ty_TextError s_LogError_TextError, k_LogError_TextError⟩,
     ⟨ec_LogError, PySem.W.exm_ref bE_TooMany hd_TooMany ty_TooMany s_LogError_TooMany, k_LogError_TooMany⟩,
     ⟨ec_LogError, kv_LogError⟩,
     ⟨ec_CommandError, PySem.W.exm_ref bE_ArgumentError hd_ArgumentError ty_ArgumentError s_CommandError_ArgumentError, k_CommandError_ArgumentError⟩,
     ⟨ec_CommandError, PySem.W.exm_ref bE_CheckError hd_CheckError ty_CheckError s_CommandError_CheckError, k_CommandError_CheckError⟩,
     ⟨ec_CommandError, PySem.W.exm_ref bE_CommandError hd_CommandError ty_CommandError s_CommandError_CommandError, k_CommandError_CommandError⟩,
     ⟨ec_CommandError, PySem.W.exm_ref bE_IdealError hd_IdealError ty_IdealError s_CommandError_IdealError, k_CommandError_IdealError⟩,
     ⟨ec_CommandError, PySem.W.exm_ref bE_LogError hd_LogError ty_LogError s_CommandError_LogError, k_CommandError_LogError⟩,
     ⟨ec_CommandError, PySem.W.exm_ref bE_PaperError hd_PaperError ty_PaperError s_CommandError_PaperError, k_CommandError_PaperError⟩,
     ⟨ec_CommandError, PySem.W.exm_ref bE_ReasonError hd_ReasonError ty_ReasonError s_CommandError_ReasonError, k_CommandError_ReasonError⟩,
     ⟨ec_CommandError, PySem.W.exm_ref bE_TextError hd_TextError ty_TextError s_CommandError_TextError, k_CommandError_TextError⟩,
     ⟨ec_CommandError, PySem.W.exm_ref bE_TooMany hd_TooMany ty_TooMany s_CommandError_TooMany, k_CommandError_TooMany⟩,
     ⟨ec_CommandError, kv_CommandError⟩,
     trivial⟩ (by rfl)
  have F0__law_draws := fun_mk (st := st__law_draws) l__law_draws c__law_draws k__law_draws
  have F0__law_more := fun_mk (st := st__law_more) l__law_more c__law_more k__law_more
  have F0__law_take := fun_mk (st := st__law_take) l__law_take c__law_take k__law_take
  have F0__law_one := fun_mk (st := st__law_one) l__law_one c__law_one k__law_one
  have F0__law_limits_right := fun_mk (st := st__law_limits_right) l__law_limits_right c__law_limits_right k__law_limits_right
  have F0__law_raise := fun_mk (st := st__law_raise) l__law_raise c__law_raise k__law_raise
  have F0__law_kinds := fun_mk (st := st__law_kinds) l__law_kinds c__law_kinds k__law_kinds
  have F0__law_caught := fun_mk (st := st__law_caught) l__law_caught c__law_caught k__law_caught
  have F0__law_fields := fun_mk (st := st__law_fields) l__law_fields c__law_fields k__law_fields
  have F0_law := fun_mk (st := st_law) l_law c_law k_law
  intro base hk hn
  have Z__law_draws := ok__law_draws (P := PySem.Challenge.pw_manyunknowns_k00_errors_and_limits) (w := w) (base := base) T F0__law_draws (PySem.W.mg_of X G a__law_draws) 
  have Z__law_more := ok__law_more (P := PySem.Challenge.pw_manyunknowns_k00_errors_and_limits) (w := w) (base := base) T F0__law_more (PySem.W.mg_of X G a__law_more) 
  have Z__law_take := ok__law_take (P := PySem.Challenge.pw_manyunknowns_k00_errors_and_limits) (w := w) (base := base) T F0__law_take (PySem.W.mg_of X G a__law_take) Z__law_more
  have Z__law_one := ok__law_one (P := PySem.Challenge.pw_manyunknowns_k00_errors_and_limits) (w := w) (base := base) T F0__law_one (PySem.W.mg_of X G a__law_one) Z__law_take
  have Z__law_limits_right := ok__law_limits_right (P := PySem.Challenge.pw_manyunknowns_k00_errors_and_limits) (w := w) (base := base) T F0__law_limits_right (PySem.W.mg_of X G a__law_limits_right) 
  have Z__law_raise := ok__law_raise (P := PySem.Challenge.pw_manyunknowns_k00_errors_and_limits) (w := w) (base := base) T F0__law_raise (PySem.W.mg_of X G a__law_raise)  (E_ArgumentError base) (E_CheckError base) (E_CommandError base) (E_LogError base) (E_PaperError base) (E_TextError base) (E_TooMany base)
  have Z__law_kinds := ok__law_kinds (P := PySem.Challenge.pw_manyunknowns_k00_errors_and_limits) (w := w) (base := base) T F0__law_kinds (PySem.W.mg_of X G a__law_kinds)  EW
  have Z__law_caught := ok__law_caught (P := PySem.Challenge.pw_manyunknowns_k00_errors_and_limits) (w := w) (base := base) T F0__law_caught (PySem.W.mg_of X G a__law_caught) Z__law_kinds Z__law_raise EW
  have Z__law_fields := ok__law_fields (P := PySem.Challenge.pw_manyunknowns_k00_errors_and_limits) (w := w) (base := base) T F0__law_fields (PySem.W.mg_of X G a__law_fields) Z__law_raise EW F_at F_line F_number F_reason
  have Z_law := ok_law (P := PySem.Challenge.pw_manyunknowns_k00_errors_and_limits) (w := w) (base := base) T F0_law (PySem.W.mg_of X G a_law) Z__law_caught Z__law_draws Z__law_fields Z__law_limits_right Z__law_one
  exact Z_law
end K00
end

section
set_option Elab.async false
set_option linter.all false
set_option maxRecDepth 100000
set_option maxHeartbeats 4000000
namespace K00
open PySem PySem.Spec PyProof.Rows L2 DL
theorem more_ok (ns : List Int) (p : Int) (st : Sto) : ∃ v, g__law_more [.val (.lst (ns.map .int)), .val (.int p)] st = some (.ok (.val (.int v)), st) := by
  unfold g__law_more mFn m__law_more
  have h1 : ∀ i : Int, smallF i 48271 = true := fun i => smallF_r _ _ (by decide)
  have h2 : ∀ i : Int, smallF i 16807 = true := fun i => smallF_r _ _ (by decide)
  have h3 : ∀ i : Int, smallF 69621 i = true := fun i => smallF_l _ _ (by decide)
  have hr : ∀ st : Sto, rangeOf1 [Va.val (D.int 3)] st = some (.ok (intsR 0 3), st) := fun st => range1 3 st (by decide)
  simp only [List.length_cons, List.length_nil, noExc, and_self, if_true, Nat.reduceAdd, List.map_cons, List.map_nil, List.replicate, Nat.reduceSub, List.cons_append, List.nil_append]
  simp only [mSeq_eq, mFor_eq]
  simp [DL.mul_int, DL.mod_int, h1, h2, h3, hr]
  generalize hm : (p * 48271 + ((ns.length : Nat) : Int) + 11) % 2147483629 = m
  have L := forGo_inv (g := gVar 3) (body := b1__law_more) (fun ρ st' => st' = st ∧ ∃ m x, ρ = [some (.val (.lst (ns.map .int))), some (.val (.int p)), some (.val (.int m)), x]) (intsR 0 3) (fun d hd ρ st' hP => ?_) [some (.val (.lst (ns.map .int))), some (.val (.int p)), some (.val (.int m)), none] st ⟨rfl, m, none, rfl⟩
  · obtain ⟨ρ', st', e, rfl, m', x, rfl⟩ := L
    rw [e]
    simp [DL.fdiv_int]
  · obtain ⟨k, rfl, hk0, hk1⟩ := mem_intsR hd
    obtain ⟨rfl, m', x, rfl⟩ := hP
    have h4 : smallF p (k + 5) = true := smallF_r _ _ ⟨by omega, by omega⟩
    refine ⟨_, rfl, ?_⟩
    by_cases hn : ns = []
    · subst hn
      refine ⟨[some (.val (.lst [])), some (.val (.int p)), some (.val (.int ((m' * 16807 + 69621 * k + 5) % 2147483629))), some (.val (.int k))], st', ?_, rfl, _, _, rfl⟩
      simp [b1__law_more, DL.mul_int, DL.mod_int, h2, h3]
    · have hlen : (0 : Int) < (ns.length : Nat) := by
        have := List.length_pos_iff.mpr hn
        omega
      obtain ⟨v, hv, hi⟩ := atI_mod (ns.map D.int) (p * (k + 5) + k) (by simpa using hn)
      obtain ⟨z, hz, rfl⟩ := List.mem_map.mp hv
      rw [List.length_map] at hi
      have hne : ns.isEmpty = false := by cases ns with | nil => exact absurd rfl hn | cons a r => rfl
      refine ⟨[some (.val (.lst (ns.map .int))), some (.val (.int p)), some (.val (.int (((m' + z) * 16807 + 69621 * k + 5) % 2147483629))), some (.val (.int k))], st', ?_, rfl, _, _, rfl⟩
      simp [b1__law_more, DL.mul_int, h2, h3, h4, hne, hn, DL.mod_int _ _ _ hlen, ix_lst _ _ _ _ hi, DL.mod_int _ 2147483629]
end K00
end

section
set_option Elab.async false
set_option linter.all false
set_option maxRecDepth 100000
set_option maxHeartbeats 4000000
namespace K00
open PySem PySem.Spec PyProof.Rows L2 DL
theorem ix_at (p : Int) (st : Sto) : opIx (.obj 0) (.val (.int 0)) (Ob.lst [.int p] :: st) = some (.ok (.val (.int p)), Ob.lst [.int p] :: st) := rfl
theorem set_at (p q : Int) (st : Sto) : setIx (.obj 0) (.val (.int 0)) (.val (.int q)) (Ob.lst [.int p] :: st) = some (.ok (), Ob.lst [.int q] :: st) := rfl
theorem ix_in (ns : List Int) (p : Int) (h0 : 0 ≤ p) (h : p < (ns.length : Nat)) : ∃ z, atI (ns.map D.int) p = some (.int z) := by
  have hj : p.toNat < ns.length := by omega
  refine ⟨ns[p.toNat], ?_⟩
  have : (ns.map D.int)[p.toNat]? = some (D.int ns[p.toNat]) := by simp [hj]
  have q := atI_nat this
  rw [Int.toNat_of_nonneg h0] at q
  exact q
theorem take_ok (ns : List Int) (p many : Int) (st : Sto) (h0 : 0 ≤ p) (hm : 0 < many) :
    ∃ r, 0 ≤ r ∧ r < many ∧ g__law_take [.val (.lst (ns.map .int)), .obj 0, .val (.int many)] (Ob.lst [.int p] :: st) = some (.ok (.val (.int r)), Ob.lst [.int (p + 1)] :: st) := by
  have key : ∃ z, g__law_take [.val (.lst (ns.map .int)), .obj 0, .val (.int many)] (Ob.lst [.int p] :: st) = some (.ok (.val (.int (z % many))), Ob.lst [.int (p + 1)] :: st) := by
    by_cases hp : p < (ns.length : Nat)
    · obtain ⟨z, hz⟩ := ix_in ns p h0 hp
      refine ⟨z, ?_⟩
      unfold g__law_take mFn m__law_take
      simp [mSetIx, noExc, ix_at, set_at, hp, ix_lst _ _ _ _ hz, DL.mod_int _ _ _ hm, List.replicate]
    · obtain ⟨v, hv⟩ := more_ok ns p (Ob.lst [.int (p + 1)] :: st)
      refine ⟨v, ?_⟩
      unfold g__law_take mFn m__law_take
      simp [mSetIx, noExc, ix_at, set_at, hp, hv, DL.mod_int _ _ _ hm, List.replicate]
  obtain ⟨z, hz⟩ := key
  exact ⟨z % many, Int.emod_nonneg _ (by omega), Int.emod_lt_of_pos _ hm, hz⟩
theorem one_ok (ds : List D) (ns : List Int) (p : Int) (st : Sto) (h0 : 0 ≤ p) (hd : ds ≠ []) :
    ∃ d, d ∈ ds ∧ g__law_one [.val (.lst ds), .val (.lst (ns.map .int)), .obj 0] (Ob.lst [.int p] :: st) = some (.ok (.val d), Ob.lst [.int (p + 1)] :: st) := by
  have hl : (0 : Int) < (ds.length : Nat) := by
    have := List.length_pos_iff.mpr hd
    omega
  obtain ⟨r, r0, r1, hr⟩ := take_ok ns p (ds.length : Nat) st h0 hl
  have hj : r.toNat < ds.length := by omega
  have hi : atI ds r = some ds[r.toNat] := by
    have := atI_nat (List.getElem?_eq_getElem hj)
    rw [Int.toNat_of_nonneg r0] at this
    exact this
  refine ⟨ds[r.toNat], List.getElem_mem hj, ?_⟩
  unfold g__law_one mFn m__law_one
  simp [noExc, hr, ix_lst _ _ _ _ hi]
end K00
end

section
set_option Elab.async false
set_option linter.all false
set_option maxRecDepth 100000
set_option maxHeartbeats 4000000
set_option maxHeartbeats 400000
namespace K00
open PySem PySem.Spec PyProof.Rows L2 DL
theorem mApp_eq (mo me : En → M Va) (ρ : En) (st : Sto) : mApp mo me ρ st = (match mo ρ st with | none => none | some (.ok o, st') => (if isObjList o st' = true then M.bind (me ρ) (fun v => appendV o v) st' else none) | some (.ex c fs, st') => some (.ex c fs, st')) := by
  unfold mApp M.bind
  cases mo ρ st with
  | none => rfl
  | some p =>
    obtain ⟨r, st'⟩ := p
    cases r <;> rfl
theorem mkObj_nil (st : Sto) : mkObj [] st = some (.ok (.obj st.length), st ++ [.lst []]) := by
  unfold mkObj
  simp only [vals_nil, List.length_nil, Nat.zero_le, if_true]
theorem freeze_0 (ds : List D) : freeze (.obj 0) [.lst ds] = some (.ok (.val (.lst ds)), [.dead]) := rfl
theorem pow18 : ((10 : Int) ^ (18 : Int).toNat) = 1000000000000000000 := by decide
theorem opPow18 (st : Sto) : opPow (.val (.int 10)) (.val (.int 18)) st = some (.ok (.val (.int 1000000000000000000)), st) := by
  show (if (0:Int) ≤ 18 ∧ (18:Int) ≤ 1000000 ∧ (10:Int).natAbs < 2 ^ 64 then M.pure _ else stuck) st = _
  rw [if_pos (by decide), pow18]; rfl
theorem b1_ok (a c x4 x5 : Option Va) (ds : List Int) (rest : Int) (k : Int) (hl : ds.length < sizeLine) :
    ∃ ds' rest', b1__law_draws [a, some (.obj 0), c, some (.val (.int rest)), some (.val (.int k)), x5] [.lst (ds.map .int)] = some (.nx [a, some (.obj 0), c, some (.val (.int rest')), some (.val (.int k)), x5], [.lst ((ds' : List Int).map .int)]) ∧ ds'.length ≤ ds.length + 1 := by
  by_cases h : 0 < rest
  · refine ⟨ds ++ [rest % 1009], rest / 1009, ?_, by simp⟩
    have e := append_lst 0 (.int (rest % 1009)) (ds.map D.int) [.lst (ds.map .int)] rfl (by simpa using hl)
    simp [b1__law_draws, h, mApp_eq, DL.mod_int, DL.fdiv_int, e]
  · refine ⟨ds, rest, ?_, by omega⟩
    simp [b1__law_draws, h]
theorem b2_ok (a c d : Option Va) (ds : List Int) (m : Int) (k : Int) (h0 : 0 ≤ k) (h1 : k < 100) (hl : ds.length < sizeLine) :
    ∃ ds' m', b2__law_draws [a, some (.obj 0), c, d, some (.val (.int k)), some (.val (.int m))] [.lst (ds.map .int)] = some (.nx [a, some (.obj 0), c, d, some (.val (.int k)), some (.val (.int m'))], [.lst ((ds' : List Int).map .int)]) ∧ ds'.length ≤ ds.length + 1 := by
  have h2 : smallF m 16807 = true := smallF_r _ _ (by decide)
  have h3 : smallF 69621 k = true := smallF_l _ _ (by decide)
  refine ⟨ds ++ [(m * 16807 + 69621 * k + 5) % 2147483629 / 1009], (m * 16807 + 69621 * k + 5) % 2147483629, ?_, by simp⟩
  have e := append_lst 0 (.int ((m * 16807 + 69621 * k + 5) % 2147483629 / 1009)) (ds.map D.int) [.lst (ds.map .int)] rfl (by simpa using hl)
  simp [b2__law_draws, mApp_eq, DL.mul_int, DL.mod_int, DL.fdiv_int, h2, h3, e]
theorem b3_ok (a x3 x4 x5 : Option Va) (ds : List Int) (cell : Int) (hl : ds.length + 60 < sizeLine) :
    ∃ ds' y3 y4 y5, b3__law_draws [a, some (.obj 0), some (.val (.int cell)), x3, x4, x5] [.lst (ds.map .int)] = some (.nx [a, some (.obj 0), some (.val (.int cell)), y3, y4, y5], [.lst ((ds' : List Int).map .int)]) ∧ ds'.length ≤ ds.length + 60 := by
  have hr60 : ∀ st : Sto, rangeOf1 [Va.val (D.int 60)] st = some (.ok (intsR 0 60), st) := fun st => range1 60 st (by decide)
  have hr12 : ∀ st : Sto, rangeOf1 [Va.val (D.int 12)] st = some (.ok (intsR 0 12), st) := fun st => range1 12 st (by decide)
  have h48 : ∀ i : Int, smallF i 48271 = true := fun i => smallF_r _ _ (by decide)
  generalize hrest : (if cell < 0 then -cell else cell) = rest
  by_cases hbig : (1000000000000000000 : Int) ≤ rest
  · obtain ⟨ρ', st', e, ds', r', x4', rfl, rfl, hle⟩ := forGo_invN (g := gVar 4) (body := b1__law_draws) (fun i ρ st => ∃ (ds' : List Int) (r' : Int) (x4' : Option Va), ρ = [a, some (.obj 0), some (.val (.int cell)), some (.val (.int r')), x4', x5] ∧ st = [.lst (ds'.map .int)] ∧ ds'.length ≤ ds.length + i) (intsR 0 60) 0
      (fun d hd i ρ st hi ⟨ds', r', x4', e1, e2, hle⟩ => by
        obtain ⟨k, rfl, k0, k1⟩ := mem_intsR hd
        subst e1 e2
        simp at hi
        obtain ⟨ds2, r2, e3, h3⟩ := b1_ok a (some (.val (.int cell))) none x5 ds' r' k (by omega)
        exact ⟨_, rfl, _, _, e3, ds2, r2, _, rfl, rfl, by omega⟩)
      [a, some (.obj 0), some (.val (.int cell)), some (.val (.int rest)), x4, x5] [.lst (ds.map .int)] ⟨ds, rest, x4, rfl, rfl, by omega⟩
    refine ⟨ds', some (.val (.int r')), x4', x5, ?_, by simpa using hle⟩
    simp [b3__law_draws, hrest, opPow18, hbig, hr60, e]
  · obtain ⟨ρ', st', e, ds', r', x4', rfl, rfl, hle⟩ := forGo_invN (g := gVar 4) (body := b2__law_draws) (fun i ρ st => ∃ (ds' : List Int) (m' : Int) (x4' : Option Va), ρ = [a, some (.obj 0), some (.val (.int cell)), some (.val (.int rest)), x4', some (.val (.int m'))] ∧ st = [.lst (ds'.map .int)] ∧ ds'.length ≤ ds.length + i) (intsR 0 12) 0
      (fun d hd i ρ st hi ⟨ds', r', x4', e1, e2, hle⟩ => by
        obtain ⟨k, rfl, k0, k1⟩ := mem_intsR hd
        subst e1 e2
        simp at hi
        obtain ⟨ds2, r2, e3, h3⟩ := b2_ok a (some (.val (.int cell))) (some (.val (.int rest))) ds' r' k k0 (by omega) (by omega)
        exact ⟨_, rfl, _, _, e3, ds2, r2, _, rfl, rfl, by omega⟩)
      [a, some (.obj 0), some (.val (.int cell)), some (.val (.int rest)), x4, some (.val (.int ((rest * 48271 + 11) % 2147483647)))] [.lst (ds.map .int)] ⟨ds, _, x4, rfl, rfl, by omega⟩
    refine ⟨ds', some (.val (.int rest)), x4', some (.val (.int r')), ?_, by simp at hle; omega⟩
    simp [b3__law_draws, hrest, opPow18, hbig, hr12, e, DL.mul_int, DL.mod_int, h48]
theorem draws_ok (ns : List Int) (hn : ns.length ≤ 63) : ∃ ds : List Int, g__law_draws [.scr ns] [] = some (.ok (.val (.lst (ds.map .int))), []) := by
  have hcut : DL.cutD (ns.map D.int) none (some 63) = ns.map D.int := by
    unfold DL.cutD
    have e1 : HT.sIx (ns.map D.int).length 0 none = 0 := rfl
    have e2 : HT.sIx (ns.map D.int).length (ns.map D.int).length (some 63) = (ns.map D.int).length := by
      have := HT.sIx_nat (ns.map D.int).length (ns.map D.int).length 63
      rw [show ((63 : Nat) : Int) = 63 from rfl] at this
      rw [this]
      simp; omega
    rw [e1, e2]
    simp only [Nat.sub_zero, List.drop_zero]
    exact List.take_length
  obtain ⟨ρ', st', e, ds', y2, y3, y4, y5, rfl, rfl, hle⟩ := forGo_invN (g := gVar 2) (body := b3__law_draws) (fun i ρ st => ∃ (ds' : List Int) (y2 y3 y4 y5 : Option Va), ρ = [some (.scr ns), some (.obj 0), y2, y3, y4, y5] ∧ st = [.lst (ds'.map .int)] ∧ ds'.length ≤ 60 * i) (ns.map D.int) 0
    (fun d hd i ρ st hi ⟨ds', y2, y3, y4, y5, e1, e2, hle⟩ => by
      obtain ⟨cell, _, rfl⟩ := List.mem_map.mp hd
      subst e1 e2
      simp at hi
      obtain ⟨ds2, z3, z4, z5, e3, h3⟩ := b3_ok (some (.scr ns)) y3 y4 y5 ds' cell (by rw [sizeLine_eq]; omega)
      exact ⟨_, rfl, _, _, e3, ds2, _, _, _, _, rfl, rfl, by omega⟩)
    [some (.scr ns), some (.obj 0), none, none, none, none] [.lst []] ⟨[], none, none, none, none, rfl, rfl, by simp⟩
  refine ⟨ds', ?_⟩
  unfold g__law_draws mFn m__law_draws
  have hsl : slOf (.scr ns) none (some 63) [.lst []] = some (.ok (.val (.lst (ns.map .int))), [.lst []]) := by
    show some (R.ok (Va.val (D.lst (DL.cutD (ns.map .int) none (some 63)))), _) = _
    rw [hcut]
  have hs : mSlice (mVar 0) mNoPart (mPart (mC (.int 63))) [some (.scr ns), some (.obj 0), none, none, none, none] [.lst []] = some (.ok (.val (.lst (ns.map .int))), [.lst []]) := by
    unfold mSlice
    simp only [bind_eq, mVar0, mNoPart, pure_eq, mPart, mC_eq, asPart, calm_eq, hsl]
  have hf : mSeqI (mSlice (mVar 0) mNoPart (mPart (mC (.int 63)))) [some (.scr ns), some (.obj 0), none, none, none, none] [.lst []] = some (.ok (ns.map .int), [.lst []]) := by
    unfold mSeqI
    simp only [bind_eq, hs, seqOf, pure_eq]
  simp only [List.length_cons, List.length_nil, noExc, and_self, if_true, Nat.reduceAdd, List.map_cons, List.map_nil, List.replicate, Nat.reduceSub, List.cons_append, List.nil_append]
  simp only [mSeq_eq, mSet_eq, mObj_eq, bind_eq, mNil_eq, mkObj_nil, onE_ok, List.set_cons_succ, List.set_cons_zero, List.nil_append, List.length_nil, mFor_eq, hf, e, mRet_eq, mFrz_eq, mVarS, mVar0, freeze_0, bodyR_rt, cutR_val, List.take_zero]
end K00
end

section
set_option Elab.async false
set_option linter.all false
set_option maxRecDepth 100000
set_option maxHeartbeats 1000000
namespace K00
open PySem PySem.Spec PyProof.Rows L2 DL
theorem limits_ok : g__law_limits_right [] [Ob.lst [.int 0]] = some (.ok (.val (.bl true)), [Ob.lst [.int 0]]) := by
  with_unfolding_all kernel_rfl
def boolsK (k : Nat) : List D := (List.range 7).map fun j => .bl (decide (j = k))
theorem caught0 (one other : D) (p : Int) : g__law_caught [.val (.int 0), .val one, .val other] [.lst [.int p]] = some (.ok (.val (.lst (boolsK 0))), [.lst [.int p]]) := by with_unfolding_all rfl
theorem caught1 (one other : D) (p : Int) : g__law_caught [.val (.int 1), .val one, .val other] [.lst [.int p]] = some (.ok (.val (.lst (boolsK 1))), [.lst [.int p]]) := by with_unfolding_all rfl
theorem fields0 (one other : D) (p : Int) : g__law_fields [.val (.int 0), .val one, .val other] [.lst [.int p]] = some (.ok (.val (.tup [one])), [.lst [.int p]]) := by with_unfolding_all rfl
theorem fields5 (one other : D) (p : Int) : g__law_fields [.val (.int 5), .val one, .val other] [.lst [.int p]] = some (.ok (.val (.tup [one, other])), [.lst [.int p]]) := by with_unfolding_all rfl
end K00
end

section
set_option Elab.async false
set_option linter.all false
set_option maxRecDepth 100000
set_option maxHeartbeats 4000000
namespace K00
open PySem PySem.Spec PyProof.Rows L2 DL
theorem caughtK : ∀ k : Nat, k < 7 → ∀ (one other : D) (p : Int), g__law_caught [.val (.int (k : Nat)), .val one, .val other] [.lst [.int p]] = some (.ok (.val (.lst (boolsK k))), [.lst [.int p]])
  | 0, _, one, other, p => by with_unfolding_all rfl
  | 1, _, one, other, p => by with_unfolding_all rfl
  | 2, _, one, other, p => by with_unfolding_all rfl
  | 3, _, one, other, p => by with_unfolding_all rfl
  | 4, _, one, other, p => by with_unfolding_all rfl
  | 5, _, one, other, p => by with_unfolding_all rfl
  | 6, _, one, other, p => by with_unfolding_all rfl
  | _ + 7, h, _, _, _ => by omega
def fld (k : Nat) (one other : D) : List D := if k = 5 then [one, other] else [one]
theorem fieldsK : ∀ k : Nat, k < 7 → ∀ (one other : D) (p : Int), g__law_fields [.val (.int (k : Nat)), .val one, .val other] [.lst [.int p]] = some (.ok (.val (.tup (fld k one other))), [.lst [.int p]])
  | 0, _, one, other, p => by with_unfolding_all rfl
  | 1, _, one, other, p => by with_unfolding_all rfl
  | 2, _, one, other, p => by with_unfolding_all rfl
  | 3, _, one, other, p => by with_unfolding_all rfl
  | 4, _, one, other, p => by with_unfolding_all rfl
  | 5, _, one, other, p => by with_unfolding_all rfl
  | 6, _, one, other, p => by with_unfolding_all rfl
  | _ + 7, h, _, _, _ => by omega
def vals10 : List D := [.str "word", .str "", .str "form", .int 0, .int 17, .int (-3), .non, .tup [.str "a", .int 5], .str "a line", .bl true]
def fine (d : D) : Bool := okR d && shD (.str (py d).shown) && PyData.eqv (py (.str (py d).shown)) (py (.str (py d).shown))
theorem fine1 : (vals10.all fun d => fine (.tup [d])) = true := by decide +kernel
theorem fine2 : (vals10.all fun d => vals10.all fun e => fine (.tup [d, e])) = true := by decide +kernel
theorem fineK (k : Nat) {d e : D} (hd : d ∈ vals10) (he : e ∈ vals10) : fine (.tup (fld k d e)) = true := by
  unfold fld
  split
  · exact List.all_eq_true.mp (List.all_eq_true.mp fine2 d hd) e he
  · exact List.all_eq_true.mp fine1 d hd
theorem repr_fine {d : D} (h : fine d = true) (st : Sto) : bRepr [.val d] st = some (.ok (.val (.str (py d).shown)), st) := by
  unfold fine at h
  simp only [Bool.and_eq_true] at h
  unfold bRepr
  simp only [deref, h.1.1, if_true]
theorem ne_fine {d : D} (h : fine d = true) (st : Sto) : opNe (.val (.str (py d).shown)) (.val (.str (py d).shown)) st = some (.ok (.val (.bl false)), st) := by
  unfold fine at h
  simp only [Bool.and_eq_true] at h
  unfold opNe
  simp only [deref, h.1.2, h.2, and_self, if_true, Bool.not_true]
theorem ne_bools : ∀ k : Nat, k < 7 → ∀ st : Sto, opNe (.val (.lst (boolsK k))) (.val (.lst (boolsK k))) st = some (.ok (.val (.bl false)), st)
  | 0, _, st => by with_unfolding_all rfl
  | 1, _, st => by with_unfolding_all rfl
  | 2, _, st => by with_unfolding_all rfl
  | 3, _, st => by with_unfolding_all rfl
  | 4, _, st => by with_unfolding_all rfl
  | 5, _, st => by with_unfolding_all rfl
  | 6, _, st => by with_unfolding_all rfl
  | _ + 7, h, _ => by omega
theorem comp_ok : ∀ k : Nat, k < 7 → ∀ (a b c d e f g : Option Va) (st0 : Ob), mLc (mArgI rangeOf1 (mCons (mC (.int 7)) mNil)) (gVar 7) mYes (mBin (fun a b => calm (opEq a b)) (mVar 7) (mVar 4)) [7] [a, b, c, d, some (.val (.int (k : Nat))), e, f, g] [st0] = some (.ok (.val (.lst (boolsK k))), [st0])
  | 0, _, _, _, _, _, _, _, _, _ => by with_unfolding_all rfl
  | 1, _, _, _, _, _, _, _, _, _ => by with_unfolding_all rfl
  | 2, _, _, _, _, _, _, _, _, _ => by with_unfolding_all rfl
  | 3, _, _, _, _, _, _, _, _, _ => by with_unfolding_all rfl
  | 4, _, _, _, _, _, _, _, _, _ => by with_unfolding_all rfl
  | 5, _, _, _, _, _, _, _, _, _ => by with_unfolding_all rfl
  | 6, _, _, _, _, _, _, _, _, _ => by with_unfolding_all rfl
  | _ + 7, h, _, _, _, _, _, _, _, _ => by omega
end K00
end

section
set_option Elab.async false
set_option linter.all false
set_option maxRecDepth 100000
set_option maxHeartbeats 4000000
namespace K00
open PySem PySem.Spec PyProof.Rows L2 DL
theorem want_ok (k : Nat) (a b c d : Option Va) (one other : D) (g : Option Va) (st0 : Ob) (h5 : smallF 0 0 = true) :
    mIf (mT (mBin (fun a b => calm (opEq a b)) (mVar 4) (mC (.int 5)))) (mTup (mCons (mVar 5) (mCons (mVar 6) mNil))) (mTup (mCons (mVar 5) mNil)) [a, b, c, d, some (.val (.int (k : Nat))), some (.val one), some (.val other), g] [st0] = some (.ok (.val (.tup (fld k one other))), [st0]) := by
  have e : opEq (.val (.int (k : Nat))) (.val (.int 5)) [st0] = some (.ok (.val (.bl (decide (k = 5)))), [st0]) := by
    have e1 : PyData.eqv (py (.int (k : Nat))) (py (.int 5)) = decide (k = 5) := by
      by_cases h : k = 5
      · subst h; rfl
      · rw [decide_eq_false h]
        have : ((k : Nat) : Int) ≠ 5 := by omega
        simp [py, PyData.eqv, this]
    unfold opEq
    simp only [deref, e1]
    rfl
  unfold fld
  by_cases h : k = 5
  · subst h; rfl
  · simp only [mIf_eq, bind_eq, mT_eq, mBin_eq, mVarS, mVar0, mC_eq, calm_eq, e, asBool_eq, decide_eq_false h, Bool.false_eq_true, if_false, if_neg h]
    rfl
theorem step_ok (ns : List Int) (sc : Option Va) (p : Int) (k : Nat) (hk : k < 7) (h0 : 0 ≤ p) (x5 x6 x7 : Option Va) :
    ∃ one other, b1_law [sc, some (.val (.lst (ns.map .int))), some (.obj 0), some (.val (.lst vals10)), some (.val (.int (k : Nat))), x5, x6, x7] [.lst [.int p]] = some (.nx [sc, some (.val (.lst (ns.map .int))), some (.obj 0), some (.val (.lst vals10)), some (.val (.int (k : Nat))), some (.val one), some (.val other), x7], [.lst [.int (p + 1 + 1)]]) := by
  obtain ⟨one, h1, e1⟩ := one_ok vals10 ns p [] h0 (by decide)
  obtain ⟨other, h2, e2⟩ := one_ok vals10 ns (p + 1) [] (by omega) (by decide)
  refine ⟨one, other, ?_⟩
  have c := caughtK k hk one other (p + 1 + 1)
  have f := fieldsK k hk one other (p + 1 + 1)
  have q := comp_ok k hk sc (some (.val (.lst (ns.map .int)))) (some (.obj 0)) (some (.val (.lst vals10))) (some (.val one)) (some (.val other)) x7 (.lst [.int (p + 1 + 1)])
  have w := want_ok k sc (some (.val (.lst (ns.map .int)))) (some (.obj 0)) (some (.val (.lst vals10))) one other x7 (.lst [.int (p + 1 + 1)]) rfl
  have n1 := ne_bools k hk [.lst [.int (p + 1 + 1)]]
  have fi := fineK k h1 h2
  have r := repr_fine fi [.lst [.int (p + 1 + 1)]]
  have n2 := ne_fine fi [.lst [.int (p + 1 + 1)]]
  have e0 : mPar [5, 6] (mCons (mCall g__law_one (mCons (mVar 3) (mCons (mVar 1) (mCons (mVar 2) mNil)))) (mCons (mCall g__law_one (mCons (mVar 3) (mCons (mVar 1) (mCons (mVar 2) mNil)))) mNil)) [sc, some (.val (.lst (ns.map .int))), some (.obj 0), some (.val (.lst vals10)), some (.val (.int (k : Nat))), x5, x6, x7] [.lst [.int p]] = some (.nx [sc, some (.val (.lst (ns.map .int))), some (.obj 0), some (.val (.lst vals10)), some (.val (.int (k : Nat))), some (.val one), some (.val other), x7], [.lst [.int (p + 1 + 1)]]) := by
    unfold mPar
    simp only [mCons_eq, mCall_eq, bind_eq, mVarS, mVar0, mNil_eq, pure_eq, e1, e2, onE_ok]
    rfl
  unfold b1_law
  simp only [mSeq_eq, e0, mIfS_eq, mT_eq, bind_eq, mBin_eq, mCall_eq, mCons_eq, mVarS, mVar0, mNil_eq, pure_eq, c, q, calm_eq, n1, asBool_eq, onE_ok, Bool.false_eq_true, if_false, mNx_eq, mBlt_eq, f, w, r, n2]
theorem pure_law (ns : List Int) (hn : ns.length ≤ 63) : ∃ st, mFn 8 1 m_law [.scr ns] [] = some (.ok (.val (.bl true)), st) := by
  obtain ⟨ds, hd⟩ := draws_ok ns hn
  have hr : ∀ st : Sto, rangeOf1 [Va.val (D.int 7)] st = some (.ok (intsR 0 7), st) := fun st => range1 7 st (by decide)
  obtain ⟨ρ', st', e, p, x4, x5, x6, x7, rfl, rfl, hp⟩ := forGo_inv (g := gVar 4) (body := b1_law) (fun ρ st => ∃ (p : Int) (x4 x5 x6 x7 : Option Va), ρ = [some (.scr ns), some (.val (.lst (ds.map .int))), some (.obj 0), some (.val (.lst vals10)), x4, x5, x6, x7] ∧ st = [.lst [.int p]] ∧ 0 ≤ p) (intsR 0 7)
    (fun d hd ρ st ⟨p, x4, x5, x6, x7, e1, e2, h0⟩ => by
      obtain ⟨k, rfl, k0, k1⟩ := mem_intsR hd
      subst e1 e2
      obtain ⟨one, other, e⟩ := step_ok ds (some (.scr ns)) p k.toNat (by omega) h0 x5 x6 x7
      rw [Int.toNat_of_nonneg k0] at e
      exact ⟨_, rfl, _, _, e, _, _, _, _, _, rfl, rfl, by omega⟩)
    [some (.scr ns), some (.val (.lst (ds.map .int))), some (.obj 0), some (.val (.lst vals10)), none, none, none, none] [.lst [.int 0]] ⟨0, none, none, none, none, rfl, rfl, by omega⟩
  have hv : mLst (mCons (mC (.str "word")) (mCons (mC (.str "")) (mCons (mC (.str "form")) (mCons (mC (.int 0)) (mCons (mC (.int 17)) (mCons (mNeg (mC (.int 3))) (mCons (mC .non) (mCons (mTup (mCons (mC (.str "a")) (mCons (mC (.int 5)) mNil))) (mCons (mC (.str "a line")) (mCons (mC (.bl true)) mNil)))))))))) [some (.scr ns), some (.val (.lst (ds.map .int))), some (.obj 0), none, none, none, none, none] [.lst [.int 0]] = some (.ok (.val (.lst vals10)), [.lst [.int 0]]) := by with_unfolding_all rfl
  refine ⟨[], ?_⟩
  have ho : ∀ ρ : En, mObj (mCons (mC (.int 0)) mNil) ρ [] = some (.ok (.obj 0), [.lst [.int 0]]) := fun ρ => by with_unfolding_all rfl
  unfold mFn m_law
  simp only [List.length_cons, List.length_nil, noExc, and_self, if_true, Nat.reduceAdd, List.map_cons, List.map_nil, List.replicate, Nat.reduceSub, List.cons_append, List.nil_append]
  simp only [mSeq_eq, mSet_eq, mCall_eq, mCons_eq, mNil_eq, bind_eq, pure_eq, mVar0, hd, onE_ok, List.set_cons_succ, List.set_cons_zero, ho, mIfS_eq, mNot_eq, mT_eq, limits_ok, asBool_eq, Bool.not_true, Bool.false_eq_true, if_false, mNx_eq]
  rw [hv]
  simp only [onE_ok, List.set_cons_succ, List.set_cons_zero, mFor_eq, mArgI_eq, mCons_eq, mC_eq, mNil_eq, bind_eq, pure_eq, hr, e, mRet_eq, bodyR_rt, cutR_val, List.take_zero]
end K00
end

section
set_option Elab.async false
open PySem PySem.W PyProof.Rows
set_option maxRecDepth 100000
set_option maxHeartbeats 0
theorem PySem.Challenge.cw_manyunknowns_k00_errors_and_limits_holds : PySem.Challenge.rw_manyunknowns_k00_errors_and_limits.Holds := by
  w_on; o_law; k_head; (case hw => w_witness2)
  k_fill
  refine DL.walk_d (l := PySem.Challenge.rw_manyunknowns_k00_errors_and_limits) (n := 63) (k := 5) (NL := 8) (m := K00.m_law) (y := "law") rfl (by decide) rfl ⟨rfl, by decide, by decide⟩ (fun w h Y => PySem.W.kIn_of Y) ?F rfl K00.pure_law
  case F =>
    intro w mg fa h KX G hmg
    refine' K00.all_mk KX G hmg ?g_ArgumentError ?bE_ArgumentError ?hd_ArgumentError ?ty_ArgumentError ?g_CheckError ?bE_CheckError ?hd_CheckError ?ty_CheckError ?g_CommandError ?bE_CommandError ?hd_CommandError ?ty_CommandError ?g_IdealError ?bE_IdealError ?hd_IdealError ?ty_IdealError ?g_LogError ?bE_LogError ?hd_LogError ?ty_LogError ?g_PaperError ?bE_PaperError ?hd_PaperError ?ty_PaperError ?g_ReasonError ?bE_ReasonError ?hd_ReasonError ?ty_ReasonError ?g_TextError ?bE_TextError ?hd_TextError ?ty_TextError ?g_TooMany ?bE_TooMany ?hd_TooMany ?ty_TooMany ?oget ?otk ?nosup ?any_ ?fi_CommandError ?ti_CommandError ?l_CommandError ?c_CommandError ?cc0_CommandError ?cd0_CommandError ?cd1_CommandError ?cd2_CommandError ?ic_CommandError ?fi_LogError ?ti_LogError ?l_LogError ?c_LogError ?cc0_LogError ?cd0_LogError ?cd1_LogError ?cd2_LogError ?ic_LogError ?fi_ReasonError ?ti_ReasonError ?l_ReasonError ?c_ReasonError ?cc0_ReasonError ?cd0_ReasonError ?cd1_ReasonError ?cd2_ReasonError ?ic_ReasonError ?fi_TextError ?ti_TextError ?l_TextError ?c_TextError ?cc0_TextError ?cd0_TextError ?cd1_TextError ?cd2_TextError ?ic_TextError ?x_ArgumentError ?sa_ArgumentError ?kC_ArgumentError ?in_ArgumentError ?no_ArgumentError_reason ?mr_ArgumentError ?su_ArgumentError ?ve_ArgumentError ?ga_ArgumentError ?gg_ArgumentError ?cl_ArgumentError ?ob_ArgumentError ?s_ArgumentError_ArgumentError ?k_ArgumentError_ArgumentError ?s_ArgumentError_CheckError ?k_ArgumentError_CheckError ?s_ArgumentError_CommandError ?k_ArgumentError_CommandError ?s_ArgumentError_IdealError ?k_ArgumentError_IdealError ?s_ArgumentError_LogError ?k_ArgumentError_LogError ?s_ArgumentError_PaperError ?k_ArgumentError_PaperError ?s_ArgumentError_ReasonError ?k_ArgumentError_ReasonError ?s_ArgumentError_TextError ?k_ArgumentError_TextError ?s_ArgumentError_TooMany ?k_ArgumentError_TooMany ?kv_ArgumentError ?x_PaperError ?sa_PaperError ?kC_PaperError ?in_PaperError ?no_PaperError_reason ?mr_PaperError ?su_PaperError ?ve_PaperError ?ga_PaperError ?gg_PaperError ?cl_PaperError ?ob_PaperError ?s_PaperError_ArgumentError ?k_PaperError_ArgumentError ?s_PaperError_CheckError ?k_PaperError_CheckError ?s_PaperError_CommandError ?k_PaperError_CommandError ?s_PaperError_IdealError ?k_PaperError_IdealError ?s_PaperError_LogError ?k_PaperError_LogError ?s_PaperError_PaperError ?k_PaperError_PaperError ?s_PaperError_ReasonError ?k_PaperError_ReasonError ?s_PaperError_TextError ?k_PaperError_TextError ?s_PaperError_TooMany ?k_PaperError_TooMany ?kv_PaperError ?x_TooMany ?sa_TooMany ?kC_TooMany ?in_TooMany ?no_TooMany_reason ?mr_TooMany ?su_TooMany ?ve_TooMany ?ga_TooMany ?gg_TooMany ?cl_TooMany ?ob_TooMany ?s_TooMany_ArgumentError ?k_TooMany_ArgumentError ?s_TooMany_CheckError ?k_TooMany_CheckError ?s_TooMany_CommandError ?k_TooMany_CommandError ?s_TooMany_IdealError ?k_TooMany_IdealError ?s_TooMany_LogError ?k_TooMany_LogError ?s_TooMany_PaperError ?k_TooMany_PaperError ?s_TooMany_ReasonError ?k_TooMany_ReasonError ?s_TooMany_TextError ?k_TooMany_TextError ?s_TooMany_TooMany ?k_TooMany_TooMany ?kv_TooMany ?x_CheckError ?sa_CheckError ?kC_CheckError ?in_CheckError ?no_CheckError_reason ?mr_CheckError ?su_CheckError ?ve_CheckError ?ga_CheckError ?gg_CheckError ?cl_CheckError ?ob_CheckError ?s_CheckError_ArgumentError ?k_CheckError_ArgumentError ?s_CheckError_CheckError ?k_CheckError_CheckError ?s_CheckError_CommandError ?k_CheckError_CommandError ?s_CheckError_IdealError ?k_CheckError_IdealError ?s_CheckError_LogError ?k_CheckError_LogError ?s_CheckError_PaperError ?k_CheckError_PaperError ?s_CheckError_ReasonError ?k_CheckError_ReasonError ?s_CheckError_TextError ?k_CheckError_TextError ?s_CheckError_TooMany ?k_CheckError_TooMany ?kv_CheckError ?x_TextError ?sa_TextError ?kC_TextError ?no_TextError_at ?mr_TextError ?su_TextError ?ve_TextError ?ga_TextError ?gg_TextError ?cl_TextError ?ob_TextError ?s_TextError_ArgumentError ?k_TextError_ArgumentError ?s_TextError_CheckError ?k_TextError_CheckError ?s_TextError_CommandError ?k_TextError_CommandError ?s_TextError_IdealError ?k_TextError_IdealError ?s_TextError_LogError ?k_TextError_LogError ?s_TextError_PaperError ?k_TextError_PaperError ?s_TextError_ReasonError ?k_TextError_ReasonError ?s_TextError_TextError ?k_TextError_TextError ?s_TextError_TooMany ?k_TextError_TooMany ?kv_TextError ?x_LogError ?sa_LogError ?kC_LogError ?no_LogError_number ?no_LogError_reason ?mr_LogError ?su_LogError ?ve_LogError ?ga_LogError ?gg_LogError ?cl_LogError ?ob_LogError ?s_LogError_ArgumentError ?k_LogError_ArgumentError ?s_LogError_CheckError ?k_LogError_CheckError ?s_LogError_CommandError ?k_LogError_CommandError ?s_LogError_IdealError ?k_LogError_IdealError ?s_LogError_LogError ?k_LogError_LogError ?s_LogError_PaperError ?k_LogError_PaperError ?s_LogError_ReasonError ?k_LogError_ReasonError ?s_LogError_TextError ?k_LogError_TextError ?s_LogError_TooMany ?k_LogError_TooMany ?kv_LogError ?x_CommandError ?sa_CommandError ?kC_CommandError ?no_CommandError_line ?mr_CommandError ?su_CommandError ?ve_CommandError ?ga_CommandError ?gg_CommandError ?cl_CommandError ?ob_CommandError ?s_CommandError_ArgumentError ?k_CommandError_ArgumentError ?s_CommandError_CheckError ?k_CommandError_CheckError ?s_CommandError_CommandError ?k_CommandError_CommandError ?s_CommandError_IdealError ?k_CommandError_IdealError ?s_CommandError_LogError ?k_CommandError_LogError ?s_CommandError_PaperError ?k_CommandError_PaperError ?s_CommandError_ReasonError ?k_CommandError_ReasonError ?s_CommandError_TextError ?k_CommandError_TextError ?s_CommandError_TooMany ?k_CommandError_TooMany ?kv_CommandError ?b_ValueError ?b_abs ?b_int ?b_isinstance ?b_len ?b_range ?b_repr ?c_MAX_ANSWERS ?c_MAX_ASKED ?c_MAX_BASIS ?c_MAX_CHOICES ?c_MAX_CORNERS ?c_MAX_COUNTED ?c_MAX_DEGREE ?c_MAX_ENTRY ?c_MAX_EXPANDED ?c_MAX_FIBER ?c_MAX_GRID ?c_MAX_GROUP ?c_MAX_HELD ?c_MAX_HELD_SYSTEMS ?c_MAX_JOINED ?c_MAX_LAID ?c_MAX_LINES ?c_MAX_MADE ?c_MAX_MAKERS ?c_MAX_NUMBER ?c_MAX_PAIRS ?c_MAX_PARTED ?c_MAX_PLACES ?c_MAX_POINTS ?c_MAX_POWER ?c_MAX_RAISED ?c_MAX_RELATED ?c_MAX_ROWED ?c_MAX_SIDE ?c_MAX_SPLIT ?c_MAX_START ?c_MAX_STEPS ?c_MAX_TABLED ?c_MAX_TERMS ?c_MAX_TEXT ?c_MAX_TIED ?c_MAX_UNKNOWNS ?a__law_draws ?l__law_draws ?c__law_draws ?k__law_draws ?a__law_more ?l__law_more ?c__law_more ?k__law_more ?a__law_take ?l__law_take ?c__law_take ?k__law_take ?a__law_one ?l__law_one ?c__law_one ?k__law_one ?a__law_limits_right ?l__law_limits_right ?c__law_limits_right ?k__law_limits_right ?a__law_raise ?l__law_raise ?c__law_raise ?k__law_raise ?a__law_kinds ?l__law_kinds ?c__law_kinds ?k__law_kinds ?a__law_caught ?l__law_caught ?c__law_caught ?k__law_caught ?a__law_fields ?l__law_fields ?c__law_fields ?k__law_fields ?a_law ?l_law ?c_law ?k_law
    (case g_ArgumentError => k_is)
    (case bE_ArgumentError => k_is)
    (case hd_ArgumentError => k_is)
    (case ty_ArgumentError => k_is)
    (case g_CheckError => k_is)
    (case bE_CheckError => k_is)
    (case hd_CheckError => k_is)
    (case ty_CheckError => k_is)
    (case g_CommandError => k_is)
    (case bE_CommandError => k_is)
    (case hd_CommandError => k_is)
    (case ty_CommandError => k_is)
    (case g_IdealError => k_is)
    (case bE_IdealError => k_is)
    (case hd_IdealError => k_is)
    (case ty_IdealError => k_is)
    (case g_LogError => k_is)
    (case bE_LogError => k_is)
    (case hd_LogError => k_is)
    (case ty_LogError => k_is)
    (case g_PaperError => k_is)
    (case bE_PaperError => k_is)
    (case hd_PaperError => k_is)
    (case ty_PaperError => k_is)
    (case g_ReasonError => k_is)
    (case bE_ReasonError => k_is)
    (case hd_ReasonError => k_is)
    (case ty_ReasonError => k_is)
    (case g_TextError => k_is)
    (case bE_TextError => k_is)
    (case hd_TextError => k_is)
    (case ty_TextError => k_is)
    (case g_TooMany => k_is)
    (case bE_TooMany => k_is)
    (case hd_TooMany => k_is)
    (case ty_TooMany => k_is)
    (case oget => k_is)
    (case otk => k_is)
    (case nosup => k_is)
    (case any_ => k_is)
    (case fi_CommandError => k_is)
    (case ti_CommandError => k_is)
    (case l_CommandError => k_is)
    (case c_CommandError => k_is)
    (case cc0_CommandError => k_is)
    (case cd0_CommandError => k_is)
    (case cd1_CommandError => first | rfl | exact rfl)
    (case cd2_CommandError => first | rfl | decide +kernel)
    (case ic_CommandError => k_is)
    (case fi_LogError => k_is)
    (case ti_LogError => k_is)
    (case l_LogError => k_is)
    (case c_LogError => k_is)
    (case cc0_LogError => k_is)
    (case cd0_LogError => k_is)
    (case cd1_LogError => first | rfl | exact rfl)
    (case cd2_LogError => first | rfl | decide +kernel)
    (case ic_LogError => k_is)
    (case fi_ReasonError => k_is)
    (case ti_ReasonError => k_is)
    (case l_ReasonError => k_is)
    (case c_ReasonError => k_is)
    (case cc0_ReasonError => k_is)
    (case cd0_ReasonError => k_is)
    (case cd1_ReasonError => first | rfl | exact rfl)
    (case cd2_ReasonError => first | rfl | decide +kernel)
    (case ic_ReasonError => k_is)
    (case fi_TextError => k_is)
    (case ti_TextError => k_is)
    (case l_TextError => k_is)
    (case c_TextError => k_is)
    (case cc0_TextError => k_is)
    (case cd0_TextError => k_is)
    (case cd1_TextError => first | rfl | exact rfl)
    (case cd2_TextError => first | rfl | decide +kernel)
    (case ic_TextError => k_is)
    (case x_ArgumentError => k_is)
    (case sa_ArgumentError => k_is)
    (case kC_ArgumentError => k_is)
    (case in_ArgumentError => k_is)
    (case no_ArgumentError_reason => k_is)
    (case mr_ArgumentError => k_is)
    (case su_ArgumentError => ks_is)
    (case ve_ArgumentError => k_is)
    (case ga_ArgumentError => k_is)
    (case gg_ArgumentError => k_is)
    (case cl_ArgumentError => k_is)
    (case ob_ArgumentError => k_is)
    (case s_ArgumentError_ArgumentError => k_is)
    (case k_ArgumentError_ArgumentError => kit_is)
    (case s_ArgumentError_CheckError => k_is)
    (case k_ArgumentError_CheckError => kit_is)
    (case s_ArgumentError_CommandError => k_is)
    (case k_ArgumentError_CommandError => kit_is)
    (case s_ArgumentError_IdealError => k_is)
    (case k_ArgumentError_IdealError => kit_is)
    (case s_ArgumentError_LogError => k_is)
    (case k_ArgumentError_LogError => kit_is)
    (case s_ArgumentError_PaperError => k_is)
    (case k_ArgumentError_PaperError => kit_is)
    (case s_ArgumentError_ReasonError => k_is)
    (case k_ArgumentError_ReasonError => kit_is)
    (case s_ArgumentError_TextError => k_is)
    (case k_ArgumentError_TextError => kit_is)
    (case s_ArgumentError_TooMany => k_is)
    (case k_ArgumentError_TooMany => kit_is)
    (case kv_ArgumentError => kit_is)
    (case x_PaperError => k_is)
    (case sa_PaperError => k_is)
    (case kC_PaperError => k_is)
    (case in_PaperError => k_is)
    (case no_PaperError_reason => k_is)
    (case mr_PaperError => k_is)
    (case su_PaperError => ks_is)
    (case ve_PaperError => k_is)
    (case ga_PaperError => k_is)
    (case gg_PaperError => k_is)
    (case cl_PaperError => k_is)
    (case ob_PaperError => k_is)
    (case s_PaperError_ArgumentError => k_is)
    (case k_PaperError_ArgumentError => kit_is)
    (case s_PaperError_CheckError => k_is)
    (case k_PaperError_CheckError => kit_is)
    (case s_PaperError_CommandError => k_is)
    (case k_PaperError_CommandError => kit_is)
    (case s_PaperError_IdealError => k_is)
    (case k_PaperError_IdealError => kit_is)
    (case s_PaperError_LogError => k_is)
    (case k_PaperError_LogError => kit_is)
    (case s_PaperError_PaperError => k_is)
    (case k_PaperError_PaperError => kit_is)
    (case s_PaperError_ReasonError => k_is)
    (case k_PaperError_ReasonError => kit_is)
    (case s_PaperError_TextError => k_is)
    (case k_PaperError_TextError => kit_is)
    (case s_PaperError_TooMany => k_is)
    (case k_PaperError_TooMany => kit_is)
    (case kv_PaperError => kit_is)
    (case x_TooMany => k_is)
    (case sa_TooMany => k_is)
    (case kC_TooMany => k_is)
    (case in_TooMany => k_is)
    (case no_TooMany_reason => k_is)
    (case mr_TooMany => k_is)
    (case su_TooMany => ks_is)
    (case ve_TooMany => k_is)
    (case ga_TooMany => k_is)
    (case gg_TooMany => k_is)
    (case cl_TooMany => k_is)
    (case ob_TooMany => k_is)
    (case s_TooMany_ArgumentError => k_is)
    (case k_TooMany_ArgumentError => kit_is)
    (case s_TooMany_CheckError => k_is)
    (case k_TooMany_CheckError => kit_is)
    (case s_TooMany_CommandError => k_is)
    (case k_TooMany_CommandError => kit_is)
    (case s_TooMany_IdealError => k_is)
    (case k_TooMany_IdealError => kit_is)
    (case s_TooMany_LogError => k_is)
    (case k_TooMany_LogError => kit_is)
    (case s_TooMany_PaperError => k_is)
    (case k_TooMany_PaperError => kit_is)
    (case s_TooMany_ReasonError => k_is)
    (case k_TooMany_ReasonError => kit_is)
    (case s_TooMany_TextError => k_is)
    (case k_TooMany_TextError => kit_is)
    (case s_TooMany_TooMany => k_is)
    (case k_TooMany_TooMany => kit_is)
    (case kv_TooMany => kit_is)
    (case x_CheckError => k_is)
    (case sa_CheckError => k_is)
    (case kC_CheckError => k_is)
    (case in_CheckError => k_is)
    (case no_CheckError_reason => k_is)
    (case mr_CheckError => k_is)
    (case su_CheckError => ks_is)
    (case ve_CheckError => k_is)
    (case ga_CheckError => k_is)
    (case gg_CheckError => k_is)
    (case cl_CheckError => k_is)
    (case ob_CheckError => k_is)
    (case s_CheckError_ArgumentError => k_is)
    (case k_CheckError_ArgumentError => kit_is)
    (case s_CheckError_CheckError => k_is)
    (case k_CheckError_CheckError => kit_is)
    (case s_CheckError_CommandError => k_is)
    (case k_CheckError_CommandError => kit_is)
    (case s_CheckError_IdealError => k_is)
    (case k_CheckError_IdealError => kit_is)
    (case s_CheckError_LogError => k_is)
    (case k_CheckError_LogError => kit_is)
    (case s_CheckError_PaperError => k_is)
    (case k_CheckError_PaperError => kit_is)
    (case s_CheckError_ReasonError => k_is)
    (case k_CheckError_ReasonError => kit_is)
    (case s_CheckError_TextError => k_is)
    (case k_CheckError_TextError => kit_is)
    (case s_CheckError_TooMany => k_is)
    (case k_CheckError_TooMany => kit_is)
    (case kv_CheckError => kit_is)
    (case x_TextError => k_is)
    (case sa_TextError => k_is)
    (case kC_TextError => k_is)
    (case no_TextError_at => k_is)
    (case mr_TextError => k_is)
    (case su_TextError => ks_is)
    (case ve_TextError => k_is)
    (case ga_TextError => k_is)
    (case gg_TextError => k_is)
    (case cl_TextError => k_is)
    (case ob_TextError => k_is)
    (case s_TextError_ArgumentError => k_is)
    (case k_TextError_ArgumentError => kit_is)
    (case s_TextError_CheckError => k_is)
    (case k_TextError_CheckError => kit_is)
    (case s_TextError_CommandError => k_is)
    (case k_TextError_CommandError => kit_is)
    (case s_TextError_IdealError => k_is)
    (case k_TextError_IdealError => kit_is)
    (case s_TextError_LogError => k_is)
    (case k_TextError_LogError => kit_is)
    (case s_TextError_PaperError => k_is)
    (case k_TextError_PaperError => kit_is)
    (case s_TextError_ReasonError => k_is)
    (case k_TextError_ReasonError => kit_is)
    (case s_TextError_TextError => k_is)
    (case k_TextError_TextError => kit_is)
    (case s_TextError_TooMany => k_is)
    (case k_TextError_TooMany => kit_is)
    (case kv_TextError => kit_is)
    (case x_LogError => k_is)
    (case sa_LogError => k_is)
    (case kC_LogError => k_is)
    (case no_LogError_number => k_is)
    (case no_LogError_reason => k_is)
    (case mr_LogError => k_is)
    (case su_LogError => ks_is)
    (case ve_LogError => k_is)
    (case ga_LogError => k_is)
    (case gg_LogError => k_is)
    (case cl_LogError => k_is)
    (case ob_LogError => k_is)
    (case s_LogError_ArgumentError => k_is)
    (case k_LogError_ArgumentError => kit_is)
    (case s_LogError_CheckError => k_is)
    (case k_LogError_CheckError => kit_is)
    (case s_LogError_CommandError => k_is)
    (case k_LogError_CommandError => kit_is)
    (case s_LogError_IdealError => k_is)
    (case k_LogError_IdealError => kit_is)
    (case s_LogError_LogError => k_is)
    (case k_LogError_LogError => kit_is)
    (case s_LogError_PaperError => k_is)
    (case k_LogError_PaperError => kit_is)
    (case s_LogError_ReasonError => k_is)
    (case k_LogError_ReasonError => kit_is)
    (case s_LogError_TextError => k_is)
    (case k_LogError_TextError => kit_is)
    (case s_LogError_TooMany => k_is)
    (case k_LogError_TooMany => kit_is)
    (case kv_LogError => kit_is)
    (case x_CommandError => k_is)
    (case sa_CommandError => k_is)
    (case kC_CommandError => k_is)
    (case no_CommandError_line => k_is)
    (case mr_CommandError => k_is)
    (case su_CommandError => ks_is)
    (case ve_CommandError => k_is)
    (case ga_CommandError => k_is)
    (case gg_CommandError => k_is)
    (case cl_CommandError => k_is)
    (case ob_CommandError => k_is)
    (case s_CommandError_ArgumentError => k_is)
    (case k_CommandError_ArgumentError => kit_is)
    (case s_CommandError_CheckError => k_is)
    (case k_CommandError_CheckError => kit_is)
    (case s_CommandError_CommandError => k_is)
    (case k_CommandError_CommandError => kit_is)
    (case s_CommandError_IdealError => k_is)
    (case k_CommandError_IdealError => kit_is)
    (case s_CommandError_LogError => k_is)
    (case k_CommandError_LogError => kit_is)
    (case s_CommandError_PaperError => k_is)
    (case k_CommandError_PaperError => kit_is)
    (case s_CommandError_ReasonError => k_is)
    (case k_CommandError_ReasonError => kit_is)
    (case s_CommandError_TextError => k_is)
    (case k_CommandError_TextError => kit_is)
    (case s_CommandError_TooMany => k_is)
    (case k_CommandError_TooMany => kit_is)
    (case kv_CommandError => kit_is)
    (case b_ValueError => k_is)
    (case b_abs => k_is)
    (case b_int => k_is)
    (case b_isinstance => k_is)
    (case b_len => k_is)
    (case b_range => k_is)
    (case b_repr => k_is)
    (case c_MAX_ANSWERS => k_is)
    (case c_MAX_ASKED => k_is)
    (case c_MAX_BASIS => k_is)
    (case c_MAX_CHOICES => k_is)
    (case c_MAX_CORNERS => k_is)
    (case c_MAX_COUNTED => k_is)
    (case c_MAX_DEGREE => k_is)
    (case c_MAX_ENTRY => k_is)
    (case c_MAX_EXPANDED => k_is)
    (case c_MAX_FIBER => k_is)
    (case c_MAX_GRID => k_is)
    (case c_MAX_GROUP => k_is)
    (case c_MAX_HELD => k_is)
    (case c_MAX_HELD_SYSTEMS => k_is)
    (case c_MAX_JOINED => k_is)
    (case c_MAX_LAID => k_is)
    (case c_MAX_LINES => k_is)
    (case c_MAX_MADE => k_is)
    (case c_MAX_MAKERS => k_is)
    (case c_MAX_NUMBER => k_is)
    (case c_MAX_PAIRS => k_is)
    (case c_MAX_PARTED => k_is)
    (case c_MAX_PLACES => k_is)
    (case c_MAX_POINTS => k_is)
    (case c_MAX_POWER => k_is)
    (case c_MAX_RAISED => k_is)
    (case c_MAX_RELATED => k_is)
    (case c_MAX_ROWED => k_is)
    (case c_MAX_SIDE => k_is)
    (case c_MAX_SPLIT => k_is)
    (case c_MAX_START => k_is)
    (case c_MAX_STEPS => k_is)
    (case c_MAX_TABLED => k_is)
    (case c_MAX_TERMS => k_is)
    (case c_MAX_TEXT => k_is)
    (case c_MAX_TIED => k_is)
    (case c_MAX_UNKNOWNS => k_is)
    (case a__law_draws => k_is)
    (case l__law_draws => k_is)
    (case c__law_draws => k_is)
    (case k__law_draws => k_is)
    (case a__law_more => k_is)
    (case l__law_more => k_is)
    (case c__law_more => k_is)
    (case k__law_more => k_is)
    (case a__law_take => k_is)
    (case l__law_take => k_is)
    (case c__law_take => k_is)
    (case k__law_take => k_is)
    (case a__law_one => k_is)
    (case l__law_one => k_is)
    (case c__law_one => k_is)
    (case k__law_one => k_is)
    (case a__law_limits_right => k_is)
    (case l__law_limits_right => k_is)
    (case c__law_limits_right => k_is)
    (case k__law_limits_right => k_is)
    (case a__law_raise => k_is)
    (case l__law_raise => k_is)
    (case c__law_raise => k_is)
    (case k__law_raise => k_is)
    (case a__law_kinds => k_is)
    (case l__law_kinds => k_is)
    (case c__law_kinds => k_is)
    (case k__law_kinds => k_is)
    (case a__law_caught => k_is)
    (case l__law_caught => k_is)
    (case c__law_caught => k_is)
    (case k__law_caught => k_is)
    (case a__law_fields => k_is)
    (case l__law_fields => k_is)
    (case c__law_fields => k_is)
    (case k__law_fields => k_is)
    (case a_law => k_is)
    (case l_law => k_is)
    (case c_law => k_is)
    (case k_law => k_is)
end
