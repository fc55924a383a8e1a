import PyProof.Rows.All
import Wide.All
import OpenK.AllK
import Wide.FinOn
import KE.KExcSuper
import HandS.ExcInit
import HandS.ExcSuper
import HandS.NestedK
import HandS.ForMost
import HandS.Exc
import HandS.TryOnly
import HandS.TryMany
import HandS.ExcOwn
import HandS.ExcField
import HandS.ExcIs
import HandS.WordsExc
import HandS.TupAny
import HandS.TupLe
import HandS.TupMul
import HandS.Conv
import HandS.Deep
import HandS.Wide
import HandS.IsInst
import HandS.DictTup
import HandS.Walk
import HandS.Zip
import KE.KExcIs
import PyProof.P3In
import PyProof.ReprRoads
import HandS.HotCalls
import HandS.EndBits
import KE.DataCmp
import KE.SortCalls
import KE.KTupSum
import KE.DataAny
import KE.KRevSl
import HandS.Style
import PyProof.Rows.RuleB_bool
import KE.KDictZip
import KE.GoesEnum
import PySem.Challenge.RW_manyunknowns_k30_whole_powers_and_orders
section
set_option Elab.async false
set_option linter.all false
set_option maxRecDepth 100000
set_option maxHeartbeats 4000000
/-! super().__init__(..) within the __init__ of an own exception class over ValueError, in a context of HandS; and the promise of such a def. -/
namespace EXS
open PySem PySem.Spec PyProof.Rows L2 NdefX PySem.Calls

section
variable {X : Cx} {pins : List (Addr × Obj)} {σ : L2.St} {H : Hp} {s : Shared}
/-- the bound ValueError.__init__, called -/
theorem call_ve {a u C : Addr} {us : List Value} {Q : Value → Shared → Prop} (T : OexC X.K C) (I : Inv X pins σ H s) (e : H a = some (exo a C none)) (hu : s.heap.get? u = some (PySem.W.kxs_mw "ValueError.__init__" a)) (hl : us.length ≤ sizeLine)
    (h : ∀ s', Inv X pins σ H s' → Q .none s') : wpAny (model X.prog X.w) X.A (call (.ref u) us) Q X.xe s := by
  obtain ⟨nm, q, N, bs, bm, sn, sub, ab, col, dd, k0, k1, k2, k3, k5, hC, hbm⟩ := T.cls
  obtain ⟨t1, ho⟩ := exo_at I.hok e
  obtain ⟨hp, g, d, t, os⟩ := s
  refine wpAny_call (codeAny_of_tree ?_)
  show wpAny _ X.A.in1 (callAny (.ref u) ⟨us, []⟩) _ _ _
  simp only [callAny]
  refine wpAny_bind (wpAny_load hu ?_)
  simp only [PySem.W.kxs_mw, show (Value.type "method-wrapper" == Value.type "method" || Value.type "method-wrapper" == Value.type "builtin_function_or_method" || Value.type "method-wrapper" == Value.type "method-wrapper") = true by decide, if_true]
  refine PySem.W.KFB.if_so (by decide) ?_
  refine wpAny_bind (PySem.ESX.check_bound F.excBase_ValueError (I.kIn _ _ hC) ho rfl ?_)
  refine wpAny_bind (wpAny_pure (wpAny_pure ?_))
  refine ⟨plainId_quiet F.excBase_ValueError.init.plain _, codeAny_builtin F.excBase_ValueError.initEntry ?_⟩
  refine PySem.W.exc_init_tree (cls := .ref C) (t0 := t1) (dv := none) (c2 := .none) (c3 := .none) (b4 := .bool false) ho hl fun h' k hx _ => ?_
  have J := I.write (t' := t) (x := a) (e := a) (o := exo a C none) (by rw [e]; exact True.intro) (.inl rfl) k ⟨_, hx⟩ (exo_ok hx)
  have eu : upd H a (exo a C none) = H := by
    funext b
    by_cases hb : b = a
    · rw [hb, upd_same, e]
    · rw [upd_ne hb]
  rw [eu] at J
  exact h _ J
end

/-- what the text and the written part say of a def f whose closure holds the class D -/
structure SupC (X : Cx) (f cc D : Addr) (ar : Arg) : Prop where
  ks : X.env.kindOf "super" = some .globalImplicit
  kc : X.env.kindOf "__class__" = some .free
  fu : X.env.func = some f
  lk : ∃ oc od fd osl, X.K.lookup f = some ⟨oc, od, .func fd, osl⟩ ∧ (fd.params.posonlyargs ++ fd.params.args).head? = some ar
  code : ∃ cda ccl cdd vs ccs file tf, X.env.code = .ref cda ∧ X.K.lookup cda = some ⟨ccl, cdd, .fields vs, ccs⟩ ∧ vs[2]? = some (.str file tf) ∧ ((X.prog.main.file : Str) == file) = true
  cell : X.env.cells.lookup ("__class__" : Str) = some cc
  cellK : ∃ cl cld csl, X.K.lookup cc = some ⟨cl, cld, .cell (some (.ref D)), csl⟩
  clsD : ∃ cdD, PySem.W.clsIn X.K D = some cdD
  nosup : X.mg "super" = none
  top : (X.prog.main.scope.names.lookup ("super" : Str)).isSome = false
  any : PySem.W.nsIn X.K cStatics "thirdparty.any" = some none
/-- .. and of a class C below D -/
structure SupD (K : PySem.W.Frag) (C D : Addr) : Prop where
  sub : PySem.W.mroIn K C (.ref D) = some true
  meth : PySem.W.ks_superIn K C D "__init__" = some (some (.builtin "ValueError.__init__"))
  ve : PySem.W.subIn K (.ref C) (.type "ValueError") = some true
section
open PySem.W PySem.Calls
variable {X : Cx} {σ : L2.St} {H : Hp} {s : Shared}
theorem sup_first {a C D f cc : Addr} {ar : Arg} {i : Nat} {body : List Stmt} {p0 p1 p2 p3 p4 : Pos} {e : Expr} {es : List Expr} {ta : TA} {R : Hp → Prop}
    (S : SupC X f cc D ar) (T : OexC X.K C) (TD : SupD X.K C D) (I : Inv X [] σ H s) (hN : X.N[i]? = some ar.arg) (hl : X.env.kindOf ar.arg = some .local) (hi : σ[i]? = some (some (.ref a))) (ea : H a = some (exo a C none))
    (hA : X.stack = X.env :: X.outer) (ha : PA X (e :: es) ta) (h : ta σ H fun vs H1 => vs.length ≤ 1000 ∧ H1 a = some (exo a C none) ∧ R H1)
    (hs : swapsWith (.Call (.Attribute (.Call (.Name "super" p0) [] [] p1) "__init__" p2) (e :: es) [] p3) none p4.line X.env = pure false := by rfl)
    {pl : Sem Bool} (hc : eval (.Call (.Attribute (.Call (.Name "super" p0) [] [] p1) "__init__" p2) (e :: es) [] p3) X.env = (do
      let ov ← attributeBase (.Call (.Name "super" p0) [] [] p1) "__init__" X.env (eval (.Call (.Name "super" p0) [] [] p1) X.env)
      standAt p2.atName
      let (f, first) ← holding [ov] (getMethod ov "__init__" pl)
      callWith p3 f first (backTo p3 (starEach (e :: es) X.env)) []) := by rfl)
    (he : starEach (e :: es) X.env = (false, eval e X.env) :: starEach es X.env := by rfl) (hpl : (backTo p3 (starEach es X.env)).any (·.1) = false := by rfl) :
    _root_.PySem.wpAt (model X.prog X.w) X.A (.func body X.env) (exec (.Expr (.Call (.Attribute (.Call (.Name "super" p0) [] [] p1) "__init__" p2) (e :: es) [] p3) p4) X.env) (fun fl s' => fl = .next ∧ ∃ H', Inv X [] σ H' s' ∧ R H') X.xe s := by
  obtain ⟨oc, od, fd, osl, hlk, hp⟩ := S.lk
  obtain ⟨cda, ccl, cdd, vs, ccs, file, tf, hco, hcode, hvs, hfile⟩ := S.code
  obtain ⟨cl, cld, csl, hcell⟩ := S.cellK
  obtain ⟨cdD, hD⟩ := S.clsD
  have XK := I.kIn
  obtain ⟨oD, hD1, hD2⟩ : ∃ oD, s.heap.get? D = some oD ∧ oD.data = .cls cdD := by
    unfold PySem.W.clsIn at hD
    split at hD
    · rename_i c d cd' sl ho
      cases hD
      exact ⟨_, XK _ _ ho, rfl⟩
    · cases hD
  obtain ⟨t1, hoa⟩ := exo_at I.hok ea
  obtain ⟨mb, hb1, hb2⟩ := I.mod.blt
  obtain ⟨m, hn, hlk2⟩ := I.loc
  obtain ⟨ua, rua, look⟩ := hlk2 i ar.arg _ hN hi (.inl hl)
  obtain rfl : ua = Value.ref a := rua
  have hself : m ar.arg = some (.ref a) := by
    rcases look with ⟨_, z⟩ | ⟨k, _⟩
    · exact z
    · rcases k with k | k <;> (rw [hl] at k; cases k)
  have hnl : ∀ {so : Addr}, s.heap.objs.size ≤ so → H so = none := fun z => I.hok.fresh z
  refine ks_wpAt_Expr_any (ks_wpAt_MethodCall (pl := pl) ?_ hc) I.quiet hs
  refine ks_wpAt_super_base S.ks S.kc (by decide) S.fu (XK _ _ hlk) rfl hp hco (XK _ _ hcode) rfl hvs hfile S.top ?_
  refine PySem.W.ks_loadName_global I.ok.kind S.ks (loadGlobal_builtin (by rw [I.ok.glob]; exact I.mod.glob.keeps I.bk) S.nosup (by rw [I.ok.blt]; exact hb1.keeps I.bk) ((hb2 "super" (by decide)).trans (c := some (.type "super")) (by with_unfolding_all rfl)) ⟨rfl, ?_⟩)
  refine wpAny_loadName_free I.ok.kind S.kc S.cell ⟨_, XK _ _ hcell, rfl⟩ ?_
  refine wpAny_loadName_local I.ok.kind hl hn hself ?_
  obtain ⟨hp0, g, d, tk, os⟩ := s
  refine ks_wpAny_isType_cls hD1 hD2 ⟨rfl, ?_⟩
  refine ks_wpAny_call_super hD1 hD2 hoa rfl (fun c z => by cases z) (PySem.W.looks_mroIn XK TD.sub) (fun h1 e1 k1 => ?_)
  have I1 : Inv X [] σ H ⟨h1, g, d, tk, os⟩ := I.kept (t' := tk) k1
  -- the method
  have hm := TD.meth
  cases hcC : PySem.W.clsIn X.K C with
  | none => unfold PySem.W.ks_superIn at hm; rw [hcC] at hm; cases hm
  | some cd =>
    unfold PySem.W.ks_superIn at hm
    rw [hcC] at hm
    have J : PySem.W.InstAt h1 a _ C none := ⟨k1 _ _ hoa, rfl, rfl, trivial⟩
    have hI : PySem.W.Looks (model X.prog X.w) h1 (isInstance (.ref a) (.type "ValueError")) true := J.type.andThen (PySem.W.looks_subIn I1.kIn TD.ve)
    refine PySem.W.kxs_getMethod PySem.W.kxs_ValueError e1 (PySem.W.looks_opaque I1.kIn S.any) (l₀ := cd.mro) ?_ rfl I1.kIn hm hI (PySem.W.ks_ne I1.kIn J hcC) (by decide) ?_
    · exact fun A Q E s k q => wpAny_bind ((PySem.W.looks_clsIn I1.kIn hcC) A _ E s k (wpAny_pure q))
    have k2 : ∀ b o, h1.get? b = some o → (h1.push (PySem.W.kxs_mw "ValueError.__init__" a)).get? b = some o := fun b o z => Heap.get?_push_of_some _ z
    have hu : (h1.push (PySem.W.kxs_mw "ValueError.__init__" a)).get? h1.objs.size = some (PySem.W.kxs_mw "ValueError.__init__" a) := Heap.get?_push_at rfl rfl
    have I2 : Inv X [] σ H ⟨h1.push (PySem.W.kxs_mw "ValueError.__init__" a), g, d, tk + 1, os⟩ := I1.kept (t' := tk + 1) k2
    have nu : H h1.objs.size = none := I1.hok.fresh (Nat.le_refl _)
    have I3 : Inv X [(h1.objs.size, PySem.W.kxs_mw "ValueError.__init__" a)] σ H ⟨h1.push (PySem.W.kxs_mw "ValueError.__init__" a), g, d, tk + 1, os⟩ := I2.pins_of fun p hp => by
      have e : p = (h1.objs.size, PySem.W.kxs_mw "ValueError.__init__" a) := by simpa using hp
      subst e
      exact ⟨hu, nu, fun z => absurd I1.lt (by rw [← z]; exact Nat.lt_irrefl _), I1.nofs (Nat.le_refl _), fun v z => by cases z⟩
    show wpAny _ _ (callWith p3 (.ref h1.objs.size) [] (backTo p3 (starEach (e :: es) X.env)) []) _ _ _
    rw [he]
    refine PySem.W.kxs_callWith (i := "ValueError.__init__") (x := a) (by show (false || (backTo p3 (starEach es X.env)).any (·.1)) = false; rw [hpl]; rfl) ?_
    refine evalArgs_plain ?_
    have hrun := ha.run p3 [(h1.objs.size, PySem.W.kxs_mw "ValueError.__init__" a)] _ σ H _ I3 h
    rw [he] at hrun
    refine wpAny_mono hrun (fun us s4 hq => ?_) fun _ _ z => z
    obtain ⟨vs4, H4, I4, r4, l4, ea4, q4⟩ := hq
    have hu4 := (I4.pin (h1.objs.size, PySem.W.kxs_mw "ValueError.__init__" a) (List.mem_append_right _ (by simp))).1
    refine ⟨hu4, ?_⟩
    refine call_ve T I4 ea4 hu4 (by show us.length ≤ sizeLine; rw [← r4.length, sizeLine_eq]; omega) fun s5 I5 => ?_
    exact ⟨rfl, H4, I5.pins_of fun p hp => absurd hp (by simp), q4⟩
end

section
variable {P : Program} {w : World} {K : PySem.W.Frag} {mg : Str → Option Value} {base : Heap} {N ps : List Str} {k : Nat} {f cc cda D : Addr} {name qual : Str} {params : Arguments} {scope : Scope} {dV kV doc pm ct oc : Value} {an od : Option Addr} {osl : Array (Option Value)} {sp : Sp} {CX : CXT}
  {p0 p1 p2 p3 p4 : Pos} {e : Expr} {es : List Expr} {rest : List Stmt} {ar : Arg}
/-- the def whose first statement is super().__init__(e, ..) -/
theorem fn_sup (lk : K.lookup f = some ⟨oc, od, .func (PySem.W.fnX name qual params (.Expr (.Call (.Attribute (.Call (.Name "super" p0) [] [] p1) "__init__" p2) (e :: es) [] p3) p4 :: rest) scope [("__class__", cc)] dV kV doc pm an (.ref cda) ct), osl⟩)
    (hcd : PySem.W.codeIn K (.ref cda) qual = true) (S : NScope N ps [("__class__" : Str)] scope) (len : ∀ vs H Q E, sp vs H Q E → vs.length = ps.length)
    (hcell : ∃ cl cld csl, K.lookup cc = some ⟨cl, cld, .cell (some (.ref D)), csl⟩)
    (hS : ∀ (A : Around) (outer : List Env) (s : Shared) (H : Hp) (E : XK), SupC (ncx CX P w K mg base N ⟨name, qual, params, (.Expr (.Call (.Attribute (.Call (.Name "super" p0) [] [] p1) "__init__" p2) (e :: es) [] p3) p4 :: rest), scope, [("__class__", cc)], cda⟩ f A outer s H E) f cc D ar)
    (hN : N[0]? = some ar.arg) (hl : scope.names.lookup ar.arg = some .local)
    (hs : ∀ env : Env, swapsWith (.Call (.Attribute (.Call (.Name "super" p0) [] [] p1) "__init__" p2) (e :: es) [] p3) none p4.line env = pure false)
    {pl : Sem Bool} (hc : ∀ env : Env, eval (.Call (.Attribute (.Call (.Name "super" p0) [] [] p1) "__init__" p2) (e :: es) [] p3) env = (do
      let ov ← attributeBase (.Call (.Name "super" p0) [] [] p1) "__init__" env (eval (.Call (.Name "super" p0) [] [] p1) env)
      standAt p2.atName
      let (f, first) ← holding [ov] (getMethod ov "__init__" pl)
      callWith p3 f first (backTo p3 (starEach (e :: es) env)) []))
    (he : ∀ env : Env, starEach (e :: es) env = (false, eval e env) :: starEach es env) (hpl : ∀ env : Env, (backTo p3 (starEach es env)).any (·.1) = false)
    (hbody : ∀ (X : Cx), X.N = N → X.K = K → X.env.scope = scope → X.calm = true → ∃ ta t, PA X (e :: es) ta ∧ PSs X rest t ∧ ∀ (H : Hp) (vs : List V) (Q : VK) (E : XK), sp vs H Q E → ∃ (a C : Addr) (ys : List V), vs = .ref a :: ys ∧ H a = some (exo a C none) ∧ OexC K C ∧ SupD K C D ∧
      ta (startF N vs [none]) H fun us H1 => us.length ≤ 1000 ∧ H1 a = some (exo a C none) ∧ t { nx := fun _ H' => Q .non H', rt := Q } (startF N vs [none]) H1) :
    FnOk P w K mg base CX (k + 1) f (PySem.W.fnX name qual params (.Expr (.Call (.Attribute (.Call (.Name "super" p0) [] [] p1) "__init__" p2) (e :: es) [] p3) p4 :: rest) scope [("__class__", cc)] dV kV doc pm an (.ref cda) ct) ps sp := by
  refine ⟨len, fun A outer s H args us vs Q E hr e0 hb r hsp => ?_⟩
  have hl' := len _ _ _ _ hsp
  have KX : K.In s.heap := e0.mod.kin.keeps fun b o e => (e0.bs b o e).1
  have lim : s.heap.NoLimit := e0.mod.nolimit.keeps fun b o e => (e0.bs b o e).1
  refine ks_codeAny_call_defAt (binds := ps.zip us) hr.depth (KX _ _ lk) rfl lim (PySem.W.codeRec_of KX hcd) rfl hb S.nocell (fun ⟨n, _⟩ hy => S.par n (List.of_mem_zip hy).1) (fun h₁ hns kp => ?_) S.co S.gen S.kind
  let F : NF := ⟨name, qual, params, (.Expr (.Call (.Attribute (.Call (.Name "super" p0) [] [] p1) "__init__" p2) (e :: es) [] p3) p4 :: rest), scope, [("__class__", cc)], cda⟩
  obtain ⟨cl, cld, csl, hce⟩ := hcell
  have hbcc : base.get? cc = some ⟨cl, cld, .cell (some (.ref D)), csl⟩ := e0.mod.kin _ _ hce
  have hlk : ∀ {y : Str} {c : Addr}, ([(("__class__" : Str), cc)] : List (Str × Addr)).lookup y = some c → y = ("__class__" : Str) ∧ c = cc := fun {y c} z => by
    simp only [List.lookup] at z
    split at z
    · rename_i q
      exact ⟨by simpa using q, (Option.some.inj z).symm⟩
    · cases z
  have CA : CellsAt F.cl [("__class__" : Str)] [none] s.heap H := ⟨rfl, fun y c z => by
      obtain ⟨_, rfl⟩ := hlk z
      exact ⟨(e0.bs _ _ hbcc).2, _, _, (e0.bs _ _ hbcc).1, rfl⟩, fun x y c z1 z2 => by rw [(hlk z1).1, (hlk z2).1], fun i y z => by
      have z1 : y = ("__class__" : Str) := by
        cases i with
        | zero => simpa using z.symm
        | succ i => simp at z
      subst z1
      refine ⟨cc, by simp [F, List.lookup], fun v q => ?_⟩
      cases i with
      | zero => simp at q
      | succ i => simp at q⟩
  have I : Inv (ncx CX P w K mg base N F f A outer s H E) [] (startF N vs [none]) H { s with heap := h₁, toks := s.toks + (ps.zip us).length } := inv_startN S hr.hd e0 hl' r CA hns kp
  obtain ⟨ta, t, pa, pr, hq⟩ := hbody (ncx CX P w K mg base N F f A outer s H E) rfl rfl rfl rfl
  obtain ⟨a, C, ys, rfl, ea, T, TD, h1⟩ := hq H vs Q E hsp
  have fin : ∀ {σ' : L2.St} {H' : Hp} {v : V} {u : Value} {s' : Shared}, Inv (ncx CX P w K mg base N F f A outer s H E) [] σ' H' s' → L2.RelV v u → Q v H' → CE outer P w H s Q u s' :=
    fun {σ' H' v u s'} J rv q => ⟨v, H', J.os, J.bare, J.base, J.hok, rv, q⟩
  show _root_.PySem.wpAt (model P w) (A.deeper (envF F f s.heap.objs.size)) (.func F.body (envF F f s.heap.objs.size)) (execs F.body (envF F f s.heap.objs.size)) _ _ _
  refine ks_wpAt_execs_cons ?_
  refine ks_wpAt_mono (sup_first (hS A outer s H E) T TD I hN hl (by simp [startF]) ea rfl pa h1 (hs _) (hc _) (he _) (hpl _)) (fun fl s' hfl => ?_) (fun er s' z => z)
  obtain ⟨rfl, H', J, q⟩ := hfl
  refine wpAt_of_wpAny (wpAny_mono (pr.run [] s' _ H' _ J q) (fun fl s'' hs' => ?_) fun _ _ z => z)
  cases fl with
  | ret u =>
    obtain ⟨v, σ', H', J, rv, q⟩ := hs'
    exact fin J rv q
  | next =>
    obtain ⟨σ', H', J, q⟩ := hs'
    exact fin (v := V.non) (u := Value.none) J rfl q
  | brk =>
    obtain ⟨_, _, _, q⟩ := hs'
    exact False.elim q
  | cont =>
    obtain ⟨_, _, _, q⟩ := hs'
    exact False.elim q
end
end EXS
end

section
set_option Elab.async false
set_option linter.all false
set_option maxRecDepth 100000
set_option maxHeartbeats 4000000
/-! The layer of plain data over HandS: values as trees, what may change in a store. -/
namespace DL
open PySem PySem.Spec PyProof.Rows L2

/-- plain data; lst: a list that nobody changes any more; glo x: what the module's name x holds (a def, a class) -/
inductive D where
  | non | bl (b : Bool) | int (i : Int) | str (x : Str) | tup (xs : List D) | lst (xs : List D) | glo (x : Str)
/-- an expression's value: plain data, what stands at the place k of the store, the exception that a suite holds, or the law's script -/
inductive Va where
  | val (d : D) | obj (k : Nat) | exc (c : Str) (fs : List (Str × D)) | scr (ns : List Int)
/-- what may change -/
inductive Ob where
  | lst (xs : List D) | dK (kvs : List (Key × D)) | dT (kvs : List (List Key × D)) | dead
abbrev Sto := List Ob
/-- where the store's objects are (none: it is dead) -/
abbrev Mu := List (Option Addr)
structure Ks where
  K : PySem.W.Frag
  mg : Str → Option Value
  /-- the exception of a suite: where it is, its class, its dict -/
  ex : Option (Addr × Value × Option Addr)

mutual
def DV (S : Ks) (μ : Mu) (H : Hp) : D → V → Prop
  | .non, v => v = .non
  | .bl b, v => v = .bl b
  | .int i, v => v = .int i
  | .str x, v => v = .str x
  | .tup ds, v => ∃ a xs, v = .ref a ∧ SqT S.K H a xs ∧ DVs S μ H ds xs
  | .lst ds, v => ∃ a xs, v = .ref a ∧ some a ∉ μ ∧ Rd H a (.lst xs) ∧ DVs S μ H ds xs
  | .glo x, v => ∃ a, v = .ref a ∧ S.mg x = some (.ref a)
def DVs (S : Ks) (μ : Mu) (H : Hp) : List D → List V → Prop
  | [], vs => vs = []
  | d :: ds, vs => ∃ v r, vs = v :: r ∧ DV S μ H d v ∧ DVs S μ H ds r
end
def KVs (S : Ks) (μ : Mu) (H : Hp) {κ : Type} : List (κ × D) → List (κ × V) → Prop
  | [], ys => ys = []
  | (k, d) :: r, ys => ∃ v t, ys = (k, v) :: t ∧ DV S μ H d v ∧ KVs S μ H r t
/-- an exception of the class c with these fields -/
def XR (S : Ks) (μ : Mu) (H : Hp) (c : Str) (fs : List (Str × D)) (cv : Value) (dx : Option Addr) : Prop :=
  (∃ C, cv = .ref C ∧ S.mg c = some (.ref C)) ∧ ∃ d ys, dx = some d ∧ some d ∉ μ ∧ H d = some (.xd ys) ∧ KVs S μ H fs ys
/-- the law's script -/
def LS (S : Ks) (μ : Mu) (H : Hp) (a : Addr) (xs : List V) : Prop := (some a ∉ μ ∧ Rd H a (.lst xs)) ∨
  ∃ (o : Obj) (its : Array Value) (n : Nat), S.K.lookup a = some o ∧ o.cls = .type "list" ∧ o.dict = none ∧ o.data = .seq its n ∧ its.size ≤ sizeLine ∧ Vals xs its.toList
def AV (S : Ks) (μ : Mu) (H : Hp) : Va → V → Prop
  | .val d, v => DV S μ H d v
  | .obj k, v => ∃ a, v = .ref a ∧ k < μ.length ∧ ∀ b, μ[k]? = some (some b) → b = a
  | .exc c fs, v => ∃ a cv dx, S.ex = some (a, cv, dx) ∧ v = .ref a ∧ XR S μ H c fs cv dx
  | .scr ns, v => ∃ a, v = .ref a ∧ LS S μ H a (ns.map V.int)
def AVs (S : Ks) (μ : Mu) (H : Hp) : List Va → List V → Prop
  | [], vs => vs = []
  | d :: ds, vs => ∃ v r, vs = v :: r ∧ AV S μ H d v ∧ AVs S μ H ds r
def OV (S : Ks) (μ : Mu) (H : Hp) (a : Addr) : Ob → Prop
  | .lst ds => ∃ xs, H a = some (.lst xs) ∧ DVs S μ H ds xs
  | .dK kvs => ∃ ys, H a = some (.dK ys) ∧ KVs S μ H kvs ys
  | .dT kvs => ∃ ys, H a = some (.dT ys) ∧ KVs S μ H kvs ys
  | .dead => False
structure SV (S : Ks) (μ : Mu) (H : Hp) (st : Sto) : Prop where
  len : μ.length = st.length
  inj : ∀ (i j : Nat) (a : Addr), μ[i]? = some (some a) → μ[j]? = some (some a) → i = j
  here : ∀ (k : Nat) (o : Ob), st[k]? = some o → (∃ a, μ[k]? = some (some a) ∧ OV S μ H a o) ∨ (μ[k]? = some none ∧ o = .dead)
/-- how things go on -/
structure Ev (μ : Mu) (H : Hp) (μ' : Mu) (H' : Hp) : Prop where
  tups : ∀ a xs, H a = some (.tup xs) → H' a = some (.tup xs)
  frzs : ∀ a o u, H a = some (.frz o u) → H' a = some (.frz o u)
  keep : ∀ a o, H a = some o → some a ∉ μ → H' a = some o
  len : μ.length ≤ μ'.length
  pre : ∀ k : Nat, k < μ.length → μ'[k]? = μ[k]? ∨ μ'[k]? = some none
  new : ∀ a : Addr, some a ∈ μ' → some a ∈ μ ∨ H a = none

theorem Ev.refl (μ : Mu) (H : Hp) : Ev μ H μ H := ⟨fun _ _ h => h, fun _ _ _ h => h, fun _ _ h _ => h, Nat.le_refl _, fun _ _ => .inl rfl, fun _ h => .inl h⟩
theorem Ev.trans {μ μ1 μ2 : Mu} {H H1 H2 : Hp} (x : Ev μ H μ1 H1) (y : Ev μ1 H1 μ2 H2) : Ev μ H μ2 H2 := by
  refine ⟨fun a xs h => y.tups a xs (x.tups a xs h), fun a o u h => y.frzs a o u (x.frzs a o u h), fun a o h n => ?_, Nat.le_trans x.len y.len, fun k hk => ?_, fun a h => ?_⟩
  · refine y.keep a o (x.keep a o h n) fun z => ?_
    rcases x.new a z with q | q
    · exact n q
    · rw [h] at q; cases q
  · rcases y.pre k (Nat.lt_of_lt_of_le hk x.len) with q | q
    · rcases x.pre k hk with p | p
      · exact .inl (q.trans p)
      · exact .inr (q.trans p)
    · exact .inr q
  · rcases y.new a h with q | q
    · exact x.new a q
    · by_cases n : some a ∈ μ
      · exact .inl n
      · refine .inr ?_
        cases e : H a with
        | none => rfl
        | some o =>
          have := x.keep a o e n
          rw [q] at this; cases this
theorem Ev.ix {μ μ' : Mu} {H H' : Hp} (x : Ev μ H μ' H') {k : Nat} {a : Addr} (hk : k < μ.length) (h : μ'[k]? = some (some a)) : μ[k]? = some (some a) := by
  rcases x.pre k hk with q | q
  · rw [← q]; exact h
  · rw [q] at h; cases h
theorem Rd.go {μ μ' : Mu} {H H' : Hp} (x : Ev μ H μ' H') {a : Addr} {u : HO} (n : some a ∉ μ) (h : Rd H a u) : Rd H' a u := by
  rcases h with h | ⟨o, h⟩
  · exact .inl (x.keep a _ h n)
  · exact .inr ⟨o, x.frzs a o u h⟩
theorem SqT.go {K : PySem.W.Frag} {μ μ' : Mu} {H H' : Hp} (x : Ev μ H μ' H') {a : Addr} {xs : List V} (h : SqT K H a xs) : SqT K H' a xs := by
  rcases h with (h | ⟨o, h⟩) | h
  · exact .inl (.inl (x.tups a _ h))
  · exact .inl (.inr ⟨o, x.frzs a o _ h⟩)
  · exact .inr h
theorem Rd.some {H : Hp} {a : Addr} {u : HO} (h : Rd H a u) : ∃ o, H a = some o := by
  rcases h with h | ⟨o, h⟩ <;> exact ⟨_, h⟩
theorem Ev.out {μ μ' : Mu} {H H' : Hp} (x : Ev μ H μ' H') {a : Addr} {u : HO} (n : some a ∉ μ) (h : Rd H a u) : some a ∉ μ' := fun z => by
  rcases x.new a z with q | q
  · exact n q
  · obtain ⟨o, e⟩ := Rd.some h
    rw [e] at q; cases q
section
variable {S : Ks} {μ μ' : Mu} {H H' : Hp}
mutual
theorem DV.go (x : Ev μ H μ' H') : ∀ (d : D) {v : V}, DV S μ H d v → DV S μ' H' d v
  | .non, v, h => by simpa only [DV] using h
  | .bl b, v, h => by simpa only [DV] using h
  | .int i, v, h => by simpa only [DV] using h
  | .str s, v, h => by simpa only [DV] using h
  | .tup ds, v, h => by
    simp only [DV] at h ⊢
    obtain ⟨a, xs, e, q, r⟩ := h
    exact ⟨a, xs, e, SqT.go x q, DVs.go x ds r⟩
  | .lst ds, v, h => by
    simp only [DV] at h ⊢
    obtain ⟨a, xs, e, n, q, r⟩ := h
    exact ⟨a, xs, e, x.out n q, Rd.go x n q, DVs.go x ds r⟩
  | .glo g, v, h => by simpa only [DV] using h
theorem DVs.go (x : Ev μ H μ' H') : ∀ (ds : List D) {vs : List V}, DVs S μ H ds vs → DVs S μ' H' ds vs
  | [], vs, h => by simpa only [DVs] using h
  | d :: ds, vs, h => by
    simp only [DVs] at h ⊢
    obtain ⟨v, r, e, q, t⟩ := h
    exact ⟨v, r, e, DV.go x d q, DVs.go x ds t⟩
end
theorem KVs.go {κ : Type} (x : Ev μ H μ' H') : ∀ (kvs : List (κ × D)) {ys : List (κ × V)}, KVs S μ H kvs ys → KVs S μ' H' kvs ys
  | [], ys, h => h
  | (k, d) :: r, ys, h => by
    obtain ⟨v, t, e, q, w⟩ := h
    exact ⟨v, t, e, DV.go x d q, KVs.go x r w⟩
theorem XR.go (x : Ev μ H μ' H') {c : Str} {fs : List (Str × D)} {cv : Value} {dx : Option Addr} (h : XR S μ H c fs cv dx) : XR S μ' H' c fs cv dx := by
  obtain ⟨h1, d, ys, e1, n, e2, q⟩ := h
  exact ⟨h1, d, ys, e1, x.out n (.inl e2), x.keep _ _ e2 n, KVs.go x fs q⟩
theorem AV.go (x : Ev μ H μ' H') : ∀ (d : Va) {v : V}, AV S μ H d v → AV S μ' H' d v
  | .val d, v, h => DV.go x d h
  | .obj k, v, h => let ⟨a, e, l, q⟩ := h; ⟨a, e, Nat.lt_of_lt_of_le l x.len, fun b hb => q b (x.ix l hb)⟩
  | .exc c fs, v, h => let ⟨a, cv, dx, e1, e2, q⟩ := h; ⟨a, cv, dx, e1, e2, XR.go x q⟩
  | .scr ns, v, h => let ⟨a, e1, q⟩ := h; ⟨a, e1, q.imp (fun ⟨n, r⟩ => ⟨x.out n r, Rd.go x n r⟩) id⟩
theorem AVs.go (x : Ev μ H μ' H') : ∀ (ds : List Va) {vs : List V}, AVs S μ H ds vs → AVs S μ' H' ds vs
  | [], vs, h => h
  | d :: ds, vs, h => let ⟨v, r, e, q, t⟩ := h; ⟨v, r, e, AV.go x d q, AVs.go x ds t⟩
theorem DVs.length : ∀ {ds : List D} {vs : List V}, DVs S μ H ds vs → vs.length = ds.length
  | [], vs, h => by simp only [DVs] at h; subst h; rfl
  | d :: ds, vs, h => by
    simp only [DVs] at h
    obtain ⟨v, r, e, _, t⟩ := h
    subst e
    simp [DVs.length t]
theorem DVs.nil : DVs S μ H [] [] := by simp only [DVs]
theorem DVs.cons {d : D} {ds : List D} {v : V} {vs : List V} (h : DV S μ H d v) (t : DVs S μ H ds vs) : DVs S μ H (d :: ds) (v :: vs) := by
  simp only [DVs]; exact ⟨v, vs, rfl, h, t⟩
theorem DVs.append : ∀ {ds es : List D} {vs ws : List V}, DVs S μ H ds vs → DVs S μ H es ws → DVs S μ H (ds ++ es) (vs ++ ws)
  | [], es, vs, ws, h, t => by simp only [DVs] at h; subst h; exact t
  | d :: ds, es, vs, ws, h, t => by
    simp only [DVs] at h
    obtain ⟨v, r, e, q, w⟩ := h
    subst e
    exact DVs.cons q (DVs.append w t)
theorem DVs.get : ∀ {ds : List D} {vs : List V} {i : Nat} {d : D}, DVs S μ H ds vs → ds[i]? = some d → ∃ v, vs[i]? = some v ∧ DV S μ H d v
  | [], vs, i, d, h, e => by simp at e
  | d :: ds, vs, 0, d', h, e => by
    simp only [DVs] at h
    obtain ⟨v, r, e1, q, w⟩ := h
    subst e1
    simp at e; subst e
    exact ⟨v, rfl, q⟩
  | d :: ds, vs, i + 1, d', h, e => by
    simp only [DVs] at h
    obtain ⟨v, r, e1, q, w⟩ := h
    subst e1
    simp at e
    obtain ⟨v', e2, q2⟩ := DVs.get (i := i) w e
    exact ⟨v', by simpa using e2, q2⟩
theorem DVs.get' {ds : List D} {vs : List V} {i : Nat} {v : V} (h : DVs S μ H ds vs) (e : vs[i]? = some v) : ∃ d, ds[i]? = some d ∧ DV S μ H d v := by
  have hi : i < ds.length := by rw [← h.length]; exact (List.getElem?_eq_some_iff.mp e).1
  obtain ⟨v', e2, q⟩ := h.get (d := ds[i]) (List.getElem?_eq_getElem hi)
  rw [e] at e2; cases e2
  exact ⟨_, List.getElem?_eq_getElem hi, q⟩
theorem DVs.take : ∀ {ds : List D} {vs : List V} (n : Nat), DVs S μ H ds vs → DVs S μ H (ds.take n) (vs.take n)
  | ds, vs, 0, h => by simp only [List.take_zero]; exact DVs.nil
  | [], vs, n + 1, h => by simp only [DVs] at h; subst h; simp; exact DVs.nil
  | d :: ds, vs, n + 1, h => by
    simp only [DVs] at h
    obtain ⟨v, r, e, q, w⟩ := h
    subst e
    exact DVs.cons q (DVs.take n w)
theorem DVs.drop : ∀ {ds : List D} {vs : List V} (n : Nat), DVs S μ H ds vs → DVs S μ H (ds.drop n) (vs.drop n)
  | ds, vs, 0, h => h
  | [], vs, n + 1, h => by simp only [DVs] at h; subst h; simp; exact DVs.nil
  | d :: ds, vs, n + 1, h => by
    simp only [DVs] at h
    obtain ⟨v, r, e, q, w⟩ := h
    subst e
    exact DVs.drop n w
theorem DVs.set : ∀ {ds : List D} {vs : List V} (i : Nat) {d : D} {v : V}, DVs S μ H ds vs → DV S μ H d v → DVs S μ H (ds.set i d) (vs.set i v)
  | [], vs, i, d, v, h, q => by simp only [DVs] at h; subst h; simp; exact DVs.nil
  | d :: ds, vs, 0, d', v', h, q => by
    simp only [DVs] at h
    obtain ⟨v, r, e, q', w⟩ := h
    subst e
    exact DVs.cons q w
  | d :: ds, vs, i + 1, d', v', h, q => by
    simp only [DVs] at h
    obtain ⟨v, r, e, q', w⟩ := h
    subst e
    exact DVs.cons q' (DVs.set i w q)
theorem DVs.reverse : ∀ {ds : List D} {vs : List V}, DVs S μ H ds vs → DVs S μ H ds.reverse vs.reverse
  | [], vs, h => by simp only [DVs] at h; subst h; exact DVs.nil
  | d :: ds, vs, h => by
    simp only [DVs] at h
    obtain ⟨v, r, e, q', w⟩ := h
    subst e
    simp only [List.reverse_cons]
    exact DVs.append (DVs.reverse w) (DVs.cons q' DVs.nil)
theorem AVs.length : ∀ {ds : List Va} {vs : List V}, AVs S μ H ds vs → vs.length = ds.length
  | [], vs, h => by cases h; rfl
  | d :: ds, vs, h => by
    obtain ⟨v, r, e, _, t⟩ := h
    subst e
    simp [AVs.length t]
theorem AVs.nil : AVs S μ H [] [] := rfl
theorem AVs.cons {d : Va} {ds : List Va} {v : V} {vs : List V} (h : AV S μ H d v) (t : AVs S μ H ds vs) : AVs S μ H (d :: ds) (v :: vs) := ⟨v, vs, rfl, h, t⟩
theorem AVs.get : ∀ {ds : List Va} {vs : List V} {i : Nat} {d : Va}, AVs S μ H ds vs → ds[i]? = some d → ∃ v, vs[i]? = some v ∧ AV S μ H d v
  | [], vs, i, d, h, e => by simp at e
  | d :: ds, vs, 0, d', h, e => by
    obtain ⟨v, r, e1, q, w⟩ := h
    subst e1
    simp at e; subst e
    exact ⟨v, rfl, q⟩
  | d :: ds, vs, i + 1, d', h, e => by
    obtain ⟨v, r, e1, q, w⟩ := h
    subst e1
    simp at e
    obtain ⟨v', e2, q2⟩ := AVs.get (i := i) w e
    exact ⟨v', by simpa using e2, q2⟩
theorem OV.here {a : Addr} : ∀ {o : Ob}, OV S μ H a o → ∃ u, H a = some u ∧ (∀ xs, u ≠ .tup xs) ∧ (∀ o' u', u ≠ .frz o' u')
  | .lst ds, h => by obtain ⟨xs, e, _⟩ := h; exact ⟨_, e, fun _ z => (nomatch z), fun _ _ z => (nomatch z)⟩
  | .dK kvs, h => by obtain ⟨xs, e, _⟩ := h; exact ⟨_, e, fun _ z => (nomatch z), fun _ _ z => (nomatch z)⟩
  | .dT kvs, h => by obtain ⟨xs, e, _⟩ := h; exact ⟨_, e, fun _ z => (nomatch z), fun _ _ z => (nomatch z)⟩
theorem OV.go {b : Addr} (x : Ev μ H μ' H') (k : ∀ u, H b = some u → H' b = some u) : ∀ {o : Ob}, OV S μ H b o → OV S μ' H' b o
  | .lst ds, h => let ⟨xs, e, q⟩ := h; ⟨xs, k _ e, DVs.go x ds q⟩
  | .dK kvs, h => let ⟨xs, e, q⟩ := h; ⟨xs, k _ e, KVs.go x kvs q⟩
  | .dT kvs, h => let ⟨xs, e, q⟩ := h; ⟨xs, k _ e, KVs.go x kvs q⟩
/-- what stands at a place of the store is no tuple, nothing locked -/
theorem SV.mem {st : Sto} (s : SV S μ H st) {a : Addr} (h : some a ∈ μ) : ∃ u, H a = some u ∧ (∀ xs, u ≠ .tup xs) ∧ (∀ o' u', u ≠ .frz o' u') := by
  obtain ⟨k, hk, e⟩ := List.mem_iff_getElem.mp h
  have hs : k < st.length := by rw [← s.len]; exact hk
  rcases s.here k st[k] (List.getElem?_eq_getElem hs) with ⟨a', e1, o1⟩ | ⟨e1, _⟩
  · rw [List.getElem?_eq_getElem hk, e] at e1
    cases e1
    exact OV.here o1
  · rw [List.getElem?_eq_getElem hk, e] at e1
    cases e1
/-- the object that an A names -/
theorem SV.at {st : Sto} (s : SV S μ H st) {k : Nat} {o : Ob} {v : V} (e : st[k]? = some o) (hd : o ≠ .dead) (h : AV S μ H (.obj k) v) : ∃ a, v = .ref a ∧ μ[k]? = some (some a) ∧ some a ∈ μ ∧ OV S μ H a o := by
  obtain ⟨a, e1, _, q⟩ := h
  rcases s.here k o e with ⟨b, e2, o2⟩ | ⟨_, z⟩
  · have := q b e2
    subst this
    exact ⟨b, e1, e2, List.mem_of_getElem? e2, o2⟩
  · exact absurd z hd
theorem Ev.made {p : Addr} {o : HO} (hp : H p = none) : Ev μ H μ (upd H p o) :=
  ⟨fun a xs h => by rw [upd_ne (ne_of_none h hp)]; exact h, fun a u w h => by rw [upd_ne (ne_of_none h hp)]; exact h, fun a u h _ => by rw [upd_ne (ne_of_none h hp)]; exact h, Nat.le_refl _, fun _ _ => .inl rfl, fun _ h => .inl h⟩
theorem SV.made {st : Sto} {p : Addr} {o : HO} (sv : SV S μ H st) (hp : H p = none) : SV S μ (upd H p o) st :=
  ⟨sv.len, sv.inj, fun k ob e => (sv.here k ob e).imp (fun ⟨b, e1, q⟩ => ⟨b, e1, OV.go (Ev.made hp) (fun u h => by rw [upd_ne (ne_of_none h hp)]; exact h) q⟩) id⟩
theorem SV.out {st : Sto} {p : Addr} (sv : SV S μ H st) (hp : H p = none) : some p ∉ μ := fun h => by
  obtain ⟨u, e, _⟩ := sv.mem h
  rw [hp] at e; cases e
/-- a new object of the store -/
theorem Ev.newOb {p : Addr} {o : HO} (hp : H p = none) : Ev μ H (μ ++ [some p]) (upd H p o) :=
  ⟨(Ev.made (μ := μ) hp).tups, (Ev.made (μ := μ) hp).frzs, (Ev.made (μ := μ) hp).keep, by simp, fun k hk => .inl (List.getElem?_append_left hk), fun a h => by
    rcases List.mem_append.mp h with q | q
    · exact .inl q
    · simp at q; subst q; exact .inr hp⟩
theorem SV.newOb {st : Sto} {p : Addr} {o : HO} {ob : Ob} (sv : SV S μ H st) (hp : H p = none) (h : OV S (μ ++ [some p]) (upd H p o) p ob) : SV S (μ ++ [some p]) (upd H p o) (st ++ [ob]) := by
  have hn := sv.out hp
  refine ⟨by simp [sv.len], fun i j a h1 h2 => ?_, fun k o' e => ?_⟩
  · have key : ∀ {i : Nat}, (μ ++ [some p])[i]? = some (some a) → (i < μ.length ∧ μ[i]? = some (some a)) ∨ (i = μ.length ∧ a = p) := fun {i} h => by
      by_cases hi : i < μ.length
      · rw [List.getElem?_append_left hi] at h; exact .inl ⟨hi, h⟩
      · rw [List.getElem?_append_right (by omega)] at h
        have : i - μ.length = 0 := by
          cases z : i - μ.length with
          | zero => rfl
          | succ n => rw [z] at h; simp at h
        rw [this] at h
        simp at h
        exact .inr ⟨by omega, h.symm⟩
    rcases key h1 with ⟨l1, e1⟩ | ⟨l1, e1⟩ <;> rcases key h2 with ⟨l2, e2⟩ | ⟨l2, e2⟩
    · exact sv.inj i j a e1 e2
    · subst e2; exact absurd (List.mem_of_getElem? e1) hn
    · subst e1; exact absurd (List.mem_of_getElem? e2) hn
    · omega
  · by_cases hk : k < st.length
    · rw [List.getElem?_append_left hk] at e
      have hk' : k < μ.length := by rw [sv.len]; exact hk
      rw [List.getElem?_append_left hk']
      exact (sv.here k o' e).imp (fun ⟨b, e1, q⟩ => ⟨b, e1, OV.go (Ev.newOb hp) (fun u h => by rw [upd_ne (ne_of_none h hp)]; exact h) q⟩) id
    · rw [List.getElem?_append_right (by omega)] at e
      have : k - st.length = 0 := by
        cases z : k - st.length with
        | zero => rfl
        | succ n => rw [z] at e; simp at e
      rw [this] at e
      simp at e
      subst e
      have ek : k = μ.length := by rw [sv.len]; omega
      subst ek
      exact .inl ⟨p, by simp, h⟩
/-- an object of the store is written anew -/
theorem Ev.wr {k : Nat} {a : Addr} {o : HO} {st : Sto} (sv : SV S μ H st) (e : μ[k]? = some (some a)) : Ev μ H μ (upd H a o) := by
  obtain ⟨u, hu, n1, n2⟩ := sv.mem (List.mem_of_getElem? e)
  refine ⟨fun b xs h => ?_, fun b w x h => ?_, fun b w h n => ?_, Nat.le_refl _, fun _ _ => .inl rfl, fun _ h => .inl h⟩
  · rw [upd_ne (fun z => by subst z; rw [hu] at h; cases h; exact n1 _ rfl)]; exact h
  · rw [upd_ne (fun z => by subst z; rw [hu] at h; cases h; exact n2 _ _ rfl)]; exact h
  · rw [upd_ne (fun z => by subst z; exact n (List.mem_of_getElem? e))]; exact h
theorem SV.wr {k : Nat} {a : Addr} {o : HO} {ob : Ob} {st : Sto} (sv : SV S μ H st) (e : μ[k]? = some (some a)) (h : OV S μ (upd H a o) a ob) : SV S μ (upd H a o) (st.set k ob) := by
  refine ⟨by simp [sv.len], sv.inj, fun j o' ej => ?_⟩
  by_cases hj : k = j
  · subst hj
    have hk : k < st.length := by rw [← sv.len]; exact (List.getElem?_eq_some_iff.mp e).1
    rw [List.getElem?_set_self hk] at ej
    cases ej
    exact .inl ⟨a, e, h⟩
  · rw [List.getElem?_set_ne hj] at ej
    refine (sv.here j o' ej).imp (fun ⟨b, e1, q⟩ => ⟨b, e1, OV.go (Ev.wr sv e) (fun u h => ?_) q⟩) id
    rw [upd_ne (fun z => hj (by subst z; exact (sv.inj _ _ _ e e1)))]
    exact h
/-- an object of the store is let go -/
theorem mem_set_none {k : Nat} {a : Addr} (h : some a ∈ μ.set k none) : some a ∈ μ := by
  rcases List.mem_or_eq_of_mem_set h with q | q
  · exact q
  · cases q
theorem get_set_none {k j : Nat} {a : Addr} (h : (μ.set k none)[j]? = some (some a)) : j ≠ k ∧ μ[j]? = some (some a) := by
  by_cases hj : k = j
  · subst hj
    by_cases hk : k < μ.length
    · rw [List.getElem?_set_self hk] at h; cases h
    · rw [List.getElem?_eq_none (by simpa using hk)] at h; cases h
  · rw [List.getElem?_set_ne hj] at h
    exact ⟨fun z => hj z.symm, h⟩
theorem Ev.gone (k : Nat) : Ev μ H (μ.set k none) H :=
  ⟨fun _ _ h => h, fun _ _ _ h => h, fun _ _ h _ => h, by simp, fun j hj => by
    by_cases h : k = j
    · subst h; exact .inr (List.getElem?_set_self hj)
    · exact .inl (List.getElem?_set_ne h), fun a h => .inl (mem_set_none h)⟩
theorem SV.gone {st : Sto} (sv : SV S μ H st) (k : Nat) : SV S (μ.set k none) H (st.set k .dead) := by
  refine ⟨by simp [sv.len], fun i j a h1 h2 => sv.inj i j a (get_set_none h1).2 (get_set_none h2).2, fun j o e => ?_⟩
  by_cases hj : k = j
  · subst hj
    by_cases hk : k < st.length
    · rw [List.getElem?_set_self hk] at e
      cases e
      exact .inr ⟨List.getElem?_set_self (by rw [sv.len]; exact hk), rfl⟩
    · rw [List.getElem?_eq_none (by simpa using hk)] at e; cases e
  · rw [List.getElem?_set_ne hj] at e ⊢
    exact (sv.here j o e).imp (fun ⟨b, e1, q⟩ => ⟨b, e1, OV.go (Ev.gone k) (fun u h => h) q⟩) id
/-- a live address is at one place alone: it is not live any more -/
theorem SV.notin {st : Sto} (sv : SV S μ H st) {k : Nat} {a : Addr} (e : μ[k]? = some (some a)) : some a ∉ μ.set k none := fun h => by
  obtain ⟨j, hj⟩ := List.mem_iff_getElem?.mp h
  obtain ⟨n, q⟩ := get_set_none hj
  exact n (sv.inj _ _ _ q e)
/-- what is younger than n is forgotten -/
theorem Ev.cut {μ1 : Mu} {H1 : Hp} (x : Ev μ H μ1 H1) : Ev μ H (μ1.take μ.length) H1 :=
  ⟨x.tups, x.frzs, x.keep, by simp [x.len], fun k hk => by rw [List.getElem?_take_of_lt hk]; exact x.pre k hk, fun a h => x.new a (List.mem_of_mem_take h)⟩
/-- what a smaller map of the store leaves true -/
structure Le (μ μ' : Mu) : Prop where
  sub : ∀ a : Addr, some a ∈ μ' → some a ∈ μ
mutual
theorem DV.le (x : Le μ μ') : ∀ (d : D) {v : V}, DV S μ H d v → DV S μ' H d v
  | .non, v, h => by simpa only [DV] using h
  | .bl b, v, h => by simpa only [DV] using h
  | .int i, v, h => by simpa only [DV] using h
  | .str s, v, h => by simpa only [DV] using h
  | .tup ds, v, h => by
    simp only [DV] at h ⊢
    obtain ⟨a, xs, e, q, r⟩ := h
    exact ⟨a, xs, e, q, DVs.le x ds r⟩
  | .lst ds, v, h => by
    simp only [DV] at h ⊢
    obtain ⟨a, xs, e, n, q, r⟩ := h
    exact ⟨a, xs, e, fun z => n (x.sub a z), q, DVs.le x ds r⟩
  | .glo g, v, h => by simpa only [DV] using h
theorem DVs.le (x : Le μ μ') : ∀ (ds : List D) {vs : List V}, DVs S μ H ds vs → DVs S μ' H ds vs
  | [], vs, h => by simpa only [DVs] using h
  | d :: ds, vs, h => by
    simp only [DVs] at h ⊢
    obtain ⟨v, r, e, q, t⟩ := h
    exact ⟨v, r, e, DV.le x d q, DVs.le x ds t⟩
end
theorem KVs.le {κ : Type} (x : Le μ μ') : ∀ (kvs : List (κ × D)) {ys : List (κ × V)}, KVs S μ H kvs ys → KVs S μ' H kvs ys
  | [], ys, h => h
  | (k, d) :: r, ys, h => by
    obtain ⟨v, t, e, q, w⟩ := h
    exact ⟨v, t, e, DV.le x d q, KVs.le x r w⟩
theorem XR.le (x : Le μ μ') {c : Str} {fs : List (Str × D)} {cv : Value} {dx : Option Addr} (h : XR S μ H c fs cv dx) : XR S μ' H c fs cv dx := by
  obtain ⟨h1, d, ys, e1, n, e2, q⟩ := h
  exact ⟨h1, d, ys, e1, fun z => n (x.sub d z), e2, KVs.le x fs q⟩
theorem OV.le {b : Addr} (x : Le μ μ') : ∀ {o : Ob}, OV S μ H b o → OV S μ' H b o
  | .lst ds, h => let ⟨xs, e, q⟩ := h; ⟨xs, e, DVs.le x ds q⟩
  | .dK kvs, h => let ⟨xs, e, q⟩ := h; ⟨xs, e, KVs.le x kvs q⟩
  | .dT kvs, h => let ⟨xs, e, q⟩ := h; ⟨xs, e, KVs.le x kvs q⟩
theorem Le.take (n : Nat) : Le μ (μ.take n) := ⟨fun a h => List.mem_of_mem_take h⟩
theorem SV.cut {st : Sto} (sv : SV S μ H st) (n : Nat) : SV S (μ.take n) H (st.take n) := by
  refine ⟨by simp [sv.len], fun i j a h1 h2 => ?_, fun k o e => ?_⟩
  · have key : ∀ {i : Nat}, (μ.take n)[i]? = some (some a) → μ[i]? = some (some a) := fun {i} h => by
      by_cases hi : i < n
      · rw [List.getElem?_take_of_lt hi] at h; exact h
      · rw [List.getElem?_take_eq_none (by omega)] at h; cases h
    exact sv.inj i j a (key h1) (key h2)
  · by_cases hi : k < n
    · rw [List.getElem?_take_of_lt hi] at e ⊢
      exact (sv.here k o e).imp (fun ⟨b, e1, q⟩ => ⟨b, e1, OV.le (Le.take n) q⟩) id
    · rw [List.getElem?_take_eq_none (by omega)] at e; cases e
end
end DL
end

section
set_option Elab.async false
set_option linter.all false
set_option maxRecDepth 100000
set_option maxHeartbeats 4000000
/-! Computations over plain data, and what they promise of an expression, a test, a statement. -/
namespace DL
open PySem PySem.Spec PyProof.Rows L2

inductive R (α : Type) where
  | ok (a : α) | ex (c : Str) (fs : List (Str × D))
def M (α : Type) := Sto → Option (R α × Sto)
def M.bind {α β : Type} (m : M α) (f : α → M β) : M β := fun st => match m st with
  | none => none
  | some (.ok a, st') => f a st'
  | some (.ex c fs, st') => some (.ex c fs, st')
def M.pure {α : Type} (a : α) : M α := fun st => some (.ok a, st)
instance : Monad M where
  pure := M.pure
  bind := M.bind
def stuck {α : Type} : M α := fun _ => none
def raise {α : Type} (c : Str) (fs : List (Str × D)) : M α := fun st => some (.ex c fs, st)
abbrev En := List (Option Va)

/-- what is to be shown of a computation's end -/
def Fin {α : Type} (S : Ks) (E : XK) (μ : Mu) (H : Hp) (K : α → Sto → Mu → Hp → Prop) : Option (R α × Sto) → Prop
  | none => False
  | some (.ok a, st') => ∀ μ' H', Ev μ H μ' H' → SV S μ' H' st' → K a st' μ' H'
  | some (.ex c fs, st') => ∀ cv dx μ' H', Ev μ H μ' H' → SV S μ' H' st' → XR S μ' H' c fs cv dx → E cv dx H'
section
variable {S : Ks} {E : XK} {μ μ1 : Mu} {H H1 : Hp} {α β : Type}
theorem Fin.go (x : Ev μ H μ1 H1) {K : α → Sto → Mu → Hp → Prop} : ∀ {r : Option (R α × Sto)}, Fin S E μ H K r → Fin S E μ1 H1 K r
  | none, h => h
  | some (.ok a, st'), h => fun μ' H' e s => h μ' H' (x.trans e) s
  | some (.ex c fs, st'), h => fun cv dx μ' H' e s => h cv dx μ' H' (x.trans e) s
theorem Fin.map {K K' : α → Sto → Mu → Hp → Prop} (f : ∀ a st1 μ1 H1, Ev μ H μ1 H1 → SV S μ1 H1 st1 → K a st1 μ1 H1 → K' a st1 μ1 H1) : ∀ {r : Option (R α × Sto)}, Fin S E μ H K r → Fin S E μ H K' r
  | none, h => h
  | some (.ok a, st'), h => fun μ' H' e s => f a st' μ' H' e s (h μ' H' e s)
  | some (.ex c fs, st'), h => h
theorem Fin.bind {m : M α} {f : α → M β} {st : Sto} {K : β → Sto → Mu → Hp → Prop} (h : Fin S E μ H K (M.bind m f st)) :
    Fin S E μ H (fun a st1 μ1 H1 => Fin S E μ1 H1 K (f a st1)) (m st) := by
  unfold M.bind at h
  cases e : m st with
  | none => rw [e] at h; exact h
  | some p =>
    obtain ⟨r, st'⟩ := p
    rw [e] at h
    cases r with
    | ok a => exact fun μ' H' ev sv => Fin.go ev h
    | ex c fs => exact h
theorem Fin.pure {a : α} {st : Sto} {K : α → Sto → Mu → Hp → Prop} (sv : SV S μ H st) (h : Fin S E μ H K (M.pure a st)) : K a st μ H := h μ H (Ev.refl μ H) sv
end
/-- the slots hold the data -/
structure EV (S : Ks) (μ : Mu) (H : Hp) (ρ : En) (σ : L2.St) : Prop where
  len : ρ.length = σ.length
  here : ∀ (i : Nat) (d : Va), ρ[i]? = some (some d) → ∃ v, σ[i]? = some (some v) ∧ AV S μ H d v
theorem EV.go {S : Ks} {μ μ1 : Mu} {H H1 : Hp} {ρ : En} {σ : L2.St} (x : Ev μ H μ1 H1) (h : EV S μ H ρ σ) : EV S μ1 H1 ρ σ :=
  ⟨h.len, fun i d e => let ⟨v, a, b⟩ := h.here i d e; ⟨v, a, AV.go x d b⟩⟩
theorem EV.set {S : Ks} {μ : Mu} {H : Hp} {ρ : En} {σ : L2.St} (h : EV S μ H ρ σ) (i : Nat) {d : Va} {v : V} (q : AV S μ H d v) : EV S μ H (ρ.set i (some d)) (σ.set i (some v)) := by
  refine ⟨by simp [h.len], fun j d' e => ?_⟩
  by_cases hj : i = j
  · subst hj
    have hi : i < ρ.length := by
      by_cases z : i < ρ.length
      · exact z
      · rw [List.getElem?_eq_none (by simpa using z)] at e; cases e
    rw [List.getElem?_set_self hi] at e
    cases e
    exact ⟨v, List.getElem?_set_self (by rw [← h.len]; exact hi), q⟩
  · rw [List.getElem?_set_ne hj] at e
    obtain ⟨v', e1, q1⟩ := h.here j d' e
    exact ⟨v', by rw [List.getElem?_set_ne hj]; exact e1, q1⟩
/-- a slot's data forgotten -/
theorem EV.drop {S : Ks} {μ : Mu} {H : Hp} {ρ : En} {σ : L2.St} (h : EV S μ H ρ σ) (i : Nat) (v : Option V) : EV S μ H (ρ.set i none) (σ.set i v) := by
  refine ⟨by simp [h.len], fun j d' e => ?_⟩
  by_cases hj : i = j
  · subst hj
    by_cases z : i < ρ.length
    · rw [List.getElem?_set_self z] at e; cases e
    · rw [List.getElem?_eq_none (by simpa using z)] at e; cases e
  · rw [List.getElem?_set_ne hj] at e
    obtain ⟨v', e1, q1⟩ := h.here j d' e
    exact ⟨v', by rw [List.getElem?_set_ne hj]; exact e1, q1⟩
def wipeE (ρ : En) : List Nat → En
  | [] => ρ
  | v :: vs => (wipeE ρ vs).set v none
theorem EV.wipe {S : Ks} {μ : Mu} {H : Hp} {ρ : En} {σ : L2.St} (h : EV S μ H ρ σ) : ∀ vs : List Nat, EV S μ H (wipeE ρ vs) (L2.wipe σ vs)
  | [] => h
  | v :: vs => (EV.wipe h vs).drop v none

abbrev ExI := Option (Addr × Value × Option Addr)
abbrev ks (X : Cx) (x : ExI) : Ks := ⟨X.K, X.mg, x⟩
abbrev WE (W : WX) (σ : L2.St) : XK := fun c d H => W c d σ H
/-- the readings that a computation gives -/
def tD (S : Ks) (W : WX) (m : En → M Va) : TE := fun σ H Q => ∃ μ st ρ, EV S μ H ρ σ ∧ SV S μ H st ∧ Fin S (WE W σ) μ H (fun d _ μ' H' => ∀ v, AV S μ' H' d v → Q v H') (m ρ st)
def tDT (S : Ks) (W : WX) (m : En → M Bool) : TT := fun σ H Q => ∃ μ st ρ, EV S μ H ρ σ ∧ SV S μ H st ∧ Fin S (WE W σ) μ H (fun b _ _ H' => Q b H') (m ρ st)
def tDA (S : Ks) (W : WX) (m : En → M (List Va)) : TA := fun σ H Q => ∃ μ st ρ, EV S μ H ρ σ ∧ SV S μ H st ∧ Fin S (WE W σ) μ H (fun ds _ μ' H' => ∀ vs, AVs S μ' H' ds vs → Q vs H') (m ρ st)
/-- an expression, a test, arguments compute m -/
def ED (X : Cx) (x : ExI) (W : WX) (e : Expr) (m : En → M Va) : Prop := PE X e (tD (ks X x) W m)
def TD (X : Cx) (x : ExI) (W : WX) (e : Expr) (m : En → M Bool) : Prop := PT X e (tDT (ks X x) W m)
def WD (X : Cx) (x : ExI) (W : WX) (e : Expr) (m : En → M Bool) : Prop := PW X e (tDT (ks X x) W m)
def AD (X : Cx) (x : ExI) (W : WX) (es : List Expr) (m : En → M (List Va)) : Prop := PA X es (tDA (ks X x) W m)
theorem PE.imp {X : Cx} {e : Expr} {t t' : TE} (h : PE X e t) (f : ∀ σ H Q, t' σ H Q → t σ H Q) : PE X e t' := ⟨fun pins s σ H Q I q => h.run pins s σ H Q I (f σ H Q q)⟩
theorem PT.imp {X : Cx} {e : Expr} {t t' : TT} (h : PT X e t) (f : ∀ σ H Q, t' σ H Q → t σ H Q) : PT X e t' := ⟨fun pins s σ H Q I q => h.run pins s σ H Q I (f σ H Q q)⟩
theorem PW.imp {X : Cx} {e : Expr} {t t' : TT} (h : PW X e t) (f : ∀ σ H Q, t' σ H Q → t σ H Q) : PW X e t' := ⟨fun whole pins s σ H Q I q => h.run whole pins s σ H Q I (f σ H Q q)⟩
theorem PA.imp {X : Cx} {e : List Expr} {t t' : TA} (h : PA X e t) (f : ∀ σ H Q, t' σ H Q → t σ H Q) : PA X e t' := ⟨fun pos pins s σ H Q I q => h.run pos pins s σ H Q I (f σ H Q q)⟩
theorem PS.imp {X : Cx} {e : Stmt} {t t' : TS} (h : PS X e t) (f : ∀ D σ H, t' D σ H → t D σ H) : PS X e t' := ⟨fun pins s σ H D I q => h.run pins s σ H D I (f D σ H q)⟩
theorem PSs.imp {X : Cx} {e : List Stmt} {t t' : TS} (h : PSs X e t) (f : ∀ D σ H, t' D σ H → t D σ H) : PSs X e t' := ⟨fun pins s σ H D I q => h.run pins s σ H D I (f D σ H q)⟩
theorem ED.of {X : Cx} {x : ExI} {W : WX} {e : Expr} {m : En → M Va} {t : TE} (h : PE X e t)
    (f : ∀ (σ : L2.St) (H : Hp) (Q : VK) (μ : Mu) (st : Sto) (ρ : En), EV (ks X x) μ H ρ σ → SV (ks X x) μ H st → Fin (ks X x) (WE W σ) μ H (fun d _ μ' H' => ∀ v, AV (ks X x) μ' H' d v → Q v H') (m ρ st) → t σ H Q) : ED X x W e m :=
  PE.imp h fun σ H Q ⟨μ, st, ρ, ev, sv, h⟩ => f σ H Q μ st ρ ev sv h
theorem TD.of {X : Cx} {x : ExI} {W : WX} {e : Expr} {m : En → M Bool} {t : TT} (h : PT X e t)
    (f : ∀ (σ : L2.St) (H : Hp) (Q : Bool → Hp → Prop) (μ : Mu) (st : Sto) (ρ : En), EV (ks X x) μ H ρ σ → SV (ks X x) μ H st → Fin (ks X x) (WE W σ) μ H (fun b _ _ H' => Q b H') (m ρ st) → t σ H Q) : TD X x W e m :=
  PT.imp h fun σ H Q ⟨μ, st, ρ, ev, sv, h⟩ => f σ H Q μ st ρ ev sv h
theorem WD.of {X : Cx} {x : ExI} {W : WX} {e : Expr} {m : En → M Bool} {t : TT} (h : PW X e t)
    (f : ∀ (σ : L2.St) (H : Hp) (Q : Bool → Hp → Prop) (μ : Mu) (st : Sto) (ρ : En), EV (ks X x) μ H ρ σ → SV (ks X x) μ H st → Fin (ks X x) (WE W σ) μ H (fun b _ _ H' => Q b H') (m ρ st) → t σ H Q) : WD X x W e m :=
  PW.imp h fun σ H Q ⟨μ, st, ρ, ev, sv, h⟩ => f σ H Q μ st ρ ev sv h
theorem AD.of {X : Cx} {x : ExI} {W : WX} {e : List Expr} {m : En → M (List Va)} {t : TA} (h : PA X e t)
    (f : ∀ (σ : L2.St) (H : Hp) (Q : List V → Hp → Prop) (μ : Mu) (st : Sto) (ρ : En), EV (ks X x) μ H ρ σ → SV (ks X x) μ H st → Fin (ks X x) (WE W σ) μ H (fun d _ μ' H' => ∀ v, AVs (ks X x) μ' H' d v → Q v H') (m ρ st) → t σ H Q) : AD X x W e m :=
  PA.imp h fun σ H Q ⟨μ, st, ρ, ev, sv, h⟩ => f σ H Q μ st ρ ev sv h

/-! ### names, constants -/
def mVar (i : Nat) : En → M Va := fun ρ => match ρ[i]? with
  | some (some d) => M.pure d
  | _ => stuck
def mC (d : D) : En → M Va := fun _ => M.pure (.val d)
/-- an answer that is plain data -/
def asVal : Va → M D
  | .val d => M.pure d
  | _ => stuck
section
variable {X : Cx} {x : ExI} {W : WX} {pos : Pos}
theorem ed_var (i : Nat) {y : Str} (hN : X.N[i]? = some y := by rfl) (hv : Vis X.env.scope y := by first | exact Or.inl rfl | exact Or.inr (Or.inl rfl) | exact Or.inr (Or.inr rfl)) (hd : (y == ("__debug__" : Str)) = false := by decide)
    (hcd : (y == ("__classdict__" : Str)) = false := by decide) : ED X x W (.Name y pos) (mVar i) := by
  refine ED.of (pe_var hN hv hd hcd) fun σ H Q μ st ρ ev sv h => ?_
  unfold mVar at h
  cases e : ρ[i]? with
  | none => rw [e] at h; exact h.elim
  | some o =>
    rw [e] at h
    cases o with
    | none => exact h.elim
    | some d =>
      obtain ⟨v, e1, q⟩ := ev.here i d e
      exact ⟨v, e1, Fin.pure sv h v q⟩
theorem ed_c {e : Expr} {v : V} {d : D} (h : PE X e (tC v)) (q : ∀ S μ H, DV S μ H d v) : ED X x W e (mC d) :=
  ED.of h fun σ H Q μ st ρ ev sv h => Fin.pure sv h v (q _ _ _)
theorem ed_int {i : Int} {j} : ED X x W (.Constant (.int i) j pos) (mC (.int i)) := ed_c pe_int fun _ _ _ => by simp only [DV]
theorem ed_bl {b : Bool} {j} : ED X x W (.Constant (.bool b) j pos) (mC (.bl b)) := ed_c pe_bl fun _ _ _ => by simp only [DV]
theorem ed_non {j} : ED X x W (.Constant .none j pos) (mC .non) := ed_c pe_non fun _ _ _ => by simp only [DV]
theorem ed_str {y : Str} {j} : ED X x W (.Constant (.str y) j pos) (mC (.str y)) := ed_c pe_str fun _ _ _ => by simp only [DV]
/-- a def's or a class's name as a value -/
theorem ed_glo {y : Str} {f : Addr} (hm : X.mg y = some (.ref f)) (hg : Gl X y := by rfl) (hd : (y == ("__debug__" : Str)) = false := by decide) : ED X x W (.Name y pos) (mC (.glo y)) :=
  ED.of (pe_glob (v := .ref f) hg hm rfl hd) fun σ H Q μ st ρ ev sv h => Fin.pure sv h _ (by simp only [AV, DV]; exact ⟨f, rfl, hm⟩)
/-- a module's number, text -/
theorem ed_gint {y : Str} {i : Int} {t : Tok} (hm : X.mg y = some (.int i t)) (hg : Gl X y := by rfl) (hd : (y == ("__debug__" : Str)) = false := by decide) : ED X x W (.Name y pos) (mC (.int i)) :=
  ed_c (pe_glob (v := .int i) hg hm ⟨t, rfl⟩ hd) fun _ _ _ => by simp only [DV]
theorem ed_gstr {y : Str} {z : Str} {t : Tok} (hm : X.mg y = some (.str z t)) (hg : Gl X y := by rfl) (hd : (y == ("__debug__" : Str)) = false := by decide) : ED X x W (.Name y pos) (mC (.str z)) :=
  ed_c (pe_glob (v := .str z) hg hm ⟨t, rfl⟩ hd) fun _ _ _ => by simp only [DV]
end

/-! ### operators -/
def OpD (X : Cx) (x : ExI) (f : Value → Value → Sem Value) (g : Va → Va → M Va) : Prop :=
  OpR X f fun x1 y H Q => ∃ (E : XK) (μ : Mu) (st : Sto) (a b : Va), SV (ks X x) μ H st ∧ AV (ks X x) μ H a x1 ∧ AV (ks X x) μ H b y ∧ (∀ c d H, ¬ E c d H) ∧ Fin (ks X x) E μ H (fun d _ μ' H' => ∀ v, AV (ks X x) μ' H' d v → Q v H') (g a b st)
def mBin (g : Va → Va → M Va) (ma mb : En → M Va) : En → M Va := fun ρ => M.bind (ma ρ) fun a => M.bind (mb ρ) fun b => g a b
/-- a computation that raises nothing (and where it would, it is stuck) -/
def calm {α : Type} (m : M α) : M α := fun st => match m st with
  | some (.ok a, st') => some (.ok a, st')
  | _ => none
theorem Fin.calm {S : Ks} {E : XK} {μ : Mu} {H : Hp} {α : Type} {K : α → Sto → Mu → Hp → Prop} {m : M α} {st : Sto} (h : Fin S E μ H K (DL.calm m st)) : Fin S (fun _ _ _ => False) μ H K (m st) := by
  unfold DL.calm at h
  cases e : m st with
  | none => rw [e] at h; exact h
  | some p =>
    obtain ⟨r, st'⟩ := p
    rw [e] at h
    cases r with
    | ok a => exact h
    | ex c fs => exact h.elim
/-- a rule for a value's operation, by cases of data -/
theorem OpD.of {X : Cx} {x : ExI} {f : Value → Value → Sem Value} {g : Va → Va → M Va} {r : R2} (h : OpR X f r)
    (k : ∀ (E : XK) (H : Hp) (μ : Mu) (st : Sto) (a b : Va) (x1 y : V) (Q : VK), SV (ks X x) μ H st → AV (ks X x) μ H a x1 → AV (ks X x) μ H b y →
      Fin (ks X x) E μ H (fun d _ μ' H' => ∀ v, AV (ks X x) μ' H' d v → Q v H') (g a b st) → (∀ c d H, ¬ E c d H) → r x1 y H Q) : OpD X x f g :=
  fun pins s σ H x1 y v u Q I rx ry ⟨E, μ, st, a, b, sv, ha, hb, hE, h1⟩ => h pins s σ H x1 y v u Q I rx ry (k E H μ st a b x1 y Q sv ha hb h1 hE)
section
variable {X : Cx} {x : ExI} {W : WX} {pos : Pos} {a b : Expr} {ma mb : En → M Va} {g : Va → Va → M Va}
theorem bin_fin {σ : L2.St} {H : Hp} {μ : Mu} {st : Sto} {ρ : En} {Q : VK} {r : R2}
    (hr : ∀ (H : Hp) (μ : Mu) (st : Sto) (a b : Va) (x1 y : V) (Q : VK), SV (ks X x) μ H st → AV (ks X x) μ H a x1 → AV (ks X x) μ H b y → Fin (ks X x) (fun _ _ _ => False) μ H (fun d _ μ' H' => ∀ v, AV (ks X x) μ' H' d v → Q v H') (g a b st) → r x1 y H Q)
    (ev : EV (ks X x) μ H ρ σ) (sv : SV (ks X x) μ H st) (h : Fin (ks X x) (WE W σ) μ H (fun d _ μ' H' => ∀ v, AV (ks X x) μ' H' d v → Q v H') (mBin (fun a b => calm (g a b)) ma mb ρ st)) :
    tOp r (tD (ks X x) W ma) (tD (ks X x) W mb) σ H Q := by
  refine ⟨μ, st, ρ, ev, sv, Fin.map (fun a st1 μ1 H1 e1 s1 h1 v hv => ?_) (Fin.bind h)⟩
  refine ⟨μ1, st1, ρ, ev.go e1, s1, Fin.map (fun b st2 μ2 H2 e2 s2 h2 w hw => ?_) (Fin.bind h1)⟩
  exact hr H2 μ2 st2 a b v w Q s2 (AV.go e2 a hv) hw (Fin.calm h2)
theorem ed_op {op : Operator} (ho : OpD X x (binaryOp op) g) (ha : ED X x W a ma) (hb : ED X x W b mb) : ED X x W (.BinOp a op b pos) (mBin (fun a b => calm (g a b)) ma mb) :=
  ED.of (pe_op ho ha hb) fun σ H Q μ st ρ ev sv h => bin_fin (fun H μ st a b x1 y Q sv ha hb h => ⟨_, μ, st, a, b, sv, ha, hb, fun _ _ _ z => z, h⟩) ev sv h
theorem ed_cmp {op : CmpOp} (ho : OpD X x (compareOp op) g) (ha : ED X x W a ma) (hb : ED X x W b mb) (hm : behindInMarks op b = false := by first | exact nomark _ | with_unfolding_all rfl) : ED X x W (.Compare a [op] [b] pos) (mBin (fun a b => calm (g a b)) ma mb) :=
  ED.of (pe_cmpR ho ha hb hm) fun σ H Q μ st ρ ev sv h => bin_fin (fun H μ st a b x1 y Q sv ha hb h => ⟨_, μ, st, a, b, sv, ha, hb, fun _ _ _ z => z, h⟩) ev sv h
/-- an expression that is a truth value, as a test -/
def asBool : Va → M Bool
  | .val (.bl b) => M.pure b
  | _ => stuck
def mT (m : En → M Va) : En → M Bool := fun ρ => M.bind (m ρ) asBool
theorem asBool_fin {S : Ks} {E : XK} {μ : Mu} {H : Hp} {K : Bool → Sto → Mu → Hp → Prop} {d : Va} {st : Sto} {v : V} (sv : SV S μ H st) (h : Fin S E μ H K (asBool d st)) (hv : AV S μ H d v) : ∃ b, v = .bl b ∧ K b st μ H := by
  cases d with
  | obj k => exact h.elim
  | exc c fs => exact h.elim
  | scr ns => exact h.elim
  | val d =>
    cases d with
    | bl b =>
      simp only [AV, DV] at hv
      subst hv
      exact ⟨b, rfl, Fin.pure sv h⟩
    | non | int | str | tup | lst | glo => exact h.elim
theorem td_val {e : Expr} {m : En → M Va} (h : ED X x W e m) (he : ∀ whole, isTrue e X.env whole = (do let v ← whole; standAt e.pos; holding [v] (truthy v)) := by intro _; rfl) : TD X x W e (mT m) := by
  refine TD.of (pt_val h he) fun σ H Q μ st ρ ev sv hf => ?_
  exact ⟨μ, st, ρ, ev, sv, Fin.map (fun d st1 μ1 H1 e1 s1 h1 v hv => asBool_fin (d := d) (K := fun b _ _ H' => Q b H') s1 h1 hv) (Fin.bind (m := m ρ) (f := asBool) hf)⟩
theorem td_cmp {op : CmpOp} (ho : OpD X x (compareOp op) g) (ha : ED X x W a ma) (hb : ED X x W b mb) (hm : behindInMarks op b = false := by first | exact nomark _ | with_unfolding_all rfl) : TD X x W (.Compare a [op] [b] pos) (mT (mBin (fun a b => calm (g a b)) ma mb)) := by
  refine TD.of (pt_cmpR ho ha hb hm) fun σ H Q μ st ρ ev sv h => ?_
  exact bin_fin (fun H μ st a b x1 y Q sv ha hb h => ⟨_, μ, st, a, b, sv, ha, hb, fun _ _ _ z => z, h⟩) ev sv (Fin.map (fun d st1 μ1 H1 e1 s1 h1 v hv => asBool_fin (d := d) (K := fun b _ _ H' => Q b H') s1 h1 hv) (Fin.bind (m := mBin (fun a b => calm (g a b)) ma mb ρ) (f := asBool) h))
/-! ### and, or, not, if -/
def mAnd (ta tb : En → M Bool) : En → M Bool := fun ρ => M.bind (ta ρ) fun b => if b = true then tb ρ else M.pure false
def mOr (ta tb : En → M Bool) : En → M Bool := fun ρ => M.bind (ta ρ) fun b => if b = true then M.pure true else tb ρ
def mNot (ta : En → M Bool) : En → M Bool := fun ρ => M.bind (ta ρ) fun b => M.pure (!b)
variable {m1 m2 : En → M Bool} {rest : List Expr}
theorem td_w {e : Expr} (h : WD X x W e m1) : TD X x W e m1 := L2.PW.pt h
theorem wd_and1 (ha : TD X x W a m1) : WD X x W (.BoolOp .And [a] pos) m1 := pw_and1 ha
theorem wd_or1 (ha : TD X x W a m1) : WD X x W (.BoolOp .Or [a] pos) m1 := pw_or1 ha
theorem wd_and (ha : TD X x W a m1) (hb : WD X x W (.BoolOp .And (b :: rest) pos) m2) : WD X x W (.BoolOp .And (a :: b :: rest) pos) (mAnd m1 m2) := by
  refine WD.of (pw_and ha hb) fun σ H Q μ st ρ ev sv hf => ?_
  refine ⟨μ, st, ρ, ev, sv, Fin.map (fun d st1 μ1 H1 e1 s1 h1 => ?_) (Fin.bind hf)⟩
  cases d with
  | true => exact iteT ⟨μ1, st1, ρ, ev.go e1, s1, h1⟩
  | false => exact iteF (Fin.pure s1 h1)
theorem wd_or (ha : TD X x W a m1) (hb : WD X x W (.BoolOp .Or (b :: rest) pos) m2) : WD X x W (.BoolOp .Or (a :: b :: rest) pos) (mOr m1 m2) := by
  refine WD.of (pw_or ha hb) fun σ H Q μ st ρ ev sv hf => ?_
  refine ⟨μ, st, ρ, ev, sv, Fin.map (fun d st1 μ1 H1 e1 s1 h1 => ?_) (Fin.bind hf)⟩
  cases d with
  | true => exact iteT (Fin.pure s1 h1)
  | false => exact iteF ⟨μ1, st1, ρ, ev.go e1, s1, h1⟩
theorem td_not (ha : TD X x W a m1) : TD X x W (.UnaryOp .Not a pos) (mNot m1) := by
  refine TD.of (pt_not ha) fun σ H Q μ st ρ ev sv hf => ?_
  exact ⟨μ, st, ρ, ev, sv, Fin.map (fun d st1 μ1 H1 e1 s1 h1 => Fin.pure s1 h1) (Fin.bind (m := m1 ρ) (f := fun b => M.pure (!b)) hf)⟩
def mIf {α : Type} (c : En → M Bool) (ma mb : En → M α) : En → M α := fun ρ => M.bind (c ρ) fun b => if b = true then ma ρ else mb ρ
theorem ed_if {c : Expr} (hc : TD X x W c m1) (ha : ED X x W a ma) (hb : ED X x W b mb) : ED X x W (.IfExp c a b pos) (mIf m1 ma mb) := by
  refine ED.of (pe_ifExp hc ha hb) fun σ H Q μ st ρ ev sv hf => ?_
  refine ⟨μ, st, ρ, ev, sv, Fin.map (fun d st1 μ1 H1 e1 s1 h1 => ?_) (Fin.bind hf)⟩
  cases d with
  | true => exact iteT ⟨μ1, st1, ρ, ev.go e1, s1, h1⟩
  | false => exact iteF ⟨μ1, st1, ρ, ev.go e1, s1, h1⟩
/-- not e, a truth value, as a value; a and b, a or b of truth values -/
def mNotV (m : En → M Va) : En → M Va := fun ρ => M.bind (mT m ρ) fun b => M.pure (.val (.bl (!b)))
theorem ed_not (h : ED X x W a ma) : ED X x W (.UnaryOp .Not a pos) (mNotV ma) := by
  refine ED.of (pe_not h) fun σ H Q μ st ρ ev sv hf => ?_
  refine ⟨μ, st, ρ, ev, sv, Fin.map (fun d st1 μ1 H1 e1 s1 h1 v hv => ?_) (Fin.bind (Fin.bind hf))⟩
  obtain ⟨b, e, h2⟩ := asBool_fin s1 h1 hv
  exact ⟨b, e, Fin.pure s1 h2 _ (by simp only [AV, DV])⟩
def mAndV (ma mb : En → M Va) : En → M Va := fun ρ => M.bind (mT ma ρ) fun b => if b = true then mb ρ else M.pure (.val (.bl false))
def mOrV (ma mb : En → M Va) : En → M Va := fun ρ => M.bind (mT ma ρ) fun b => if b = true then M.pure (.val (.bl true)) else mb ρ
theorem ed_one {op} (h : ED X x W a ma) : ED X x W (.BoolOp op [a] pos) ma := pe_one h
theorem ed_and (ha : ED X x W a ma) (hb : ED X x W (.BoolOp .And (b :: rest) pos) mb) : ED X x W (.BoolOp .And (a :: b :: rest) pos) (mAndV ma mb) := by
  refine ED.of (pe_and ha hb) fun σ H Q μ st ρ ev sv hf => ?_
  refine ⟨μ, st, ρ, ev, sv, Fin.map (fun d st1 μ1 H1 e1 s1 h1 v hv => ?_) (Fin.bind (Fin.bind hf))⟩
  obtain ⟨c, e, h2⟩ := asBool_fin s1 h1 hv
  refine ⟨c, e, ?_⟩
  cases c with
  | true => exact iteT ⟨μ1, st1, ρ, ev.go e1, s1, h2⟩
  | false => exact iteF (Fin.pure s1 h2 _ (by simp only [AV, DV]))
theorem ed_or (ha : ED X x W a ma) (hb : ED X x W (.BoolOp .Or (b :: rest) pos) mb) : ED X x W (.BoolOp .Or (a :: b :: rest) pos) (mOrV ma mb) := by
  refine ED.of (pe_or ha hb) fun σ H Q μ st ρ ev sv hf => ?_
  refine ⟨μ, st, ρ, ev, sv, Fin.map (fun d st1 μ1 H1 e1 s1 h1 v hv => ?_) (Fin.bind (Fin.bind hf))⟩
  obtain ⟨c, e, h2⟩ := asBool_fin s1 h1 hv
  refine ⟨c, e, ?_⟩
  cases c with
  | true => exact iteT (Fin.pure s1 h2 _ (by simp only [AV, DV]))
  | false => exact iteF ⟨μ1, st1, ρ, ev.go e1, s1, h2⟩

/-! ### arguments -/
def mNil : En → M (List Va) := fun _ => M.pure []
def mCons (ma : En → M Va) (mr : En → M (List Va)) : En → M (List Va) := fun ρ => M.bind (ma ρ) fun d => M.bind (mr ρ) fun ds => M.pure (d :: ds)
variable {es : List Expr} {mr : En → M (List Va)}
theorem ad_nil : AD X x W [] mNil := AD.of pa_nil fun σ H Q μ st ρ ev sv h => Fin.pure sv h [] AVs.nil
theorem ad_cons (ha : ED X x W a ma) (hr : AD X x W es mr) (hs : starEach (a :: es) X.env = (false, eval a X.env) :: starEach es X.env := by rfl) : AD X x W (a :: es) (mCons ma mr) := by
  refine AD.of (pa_cons ha hr hs) fun σ H Q μ st ρ ev sv hf => ?_
  refine ⟨μ, st, ρ, ev, sv, Fin.map (fun d st1 μ1 H1 e1 s1 h1 v hv => ?_) (Fin.bind hf)⟩
  refine ⟨μ1, st1, ρ, ev.go e1, s1, Fin.map (fun ds st2 μ2 H2 e2 s2 h2 vs hvs => ?_) (Fin.bind h1)⟩
  exact Fin.pure s2 h2 _ (AVs.cons (AV.go e2 d hv) hvs)
/-! ### new tuples, new lists -/
def vals : List Va → Option (List D)
  | [] => some []
  | .val d :: r => (vals r).map (d :: ·)
  | _ :: _ => none
theorem vals_dvs {S : Ks} {μ : Mu} {H : Hp} : ∀ {as : List Va} {ds : List D} {vs : List V}, vals as = some ds → AVs S μ H as vs → DVs S μ H ds vs
  | [], ds, vs, e, h => by cases e; cases h; exact DVs.nil
  | .val d :: r, ds, vs, e, h => by
    obtain ⟨v, t, ev, q, w⟩ := h
    subst ev
    unfold vals at e
    cases er : vals r with
    | none => rw [er] at e; cases e
    | some ds' => rw [er] at e; cases e; exact DVs.cons q (vals_dvs er w)
  | .obj k :: r, ds, vs, e, h => by unfold vals at e; cases e
  | .exc c fs :: r, ds, vs, e, h => by unfold vals at e; cases e
  | .scr ns :: r, ds, vs, e, h => by unfold vals at e; cases e
def mkTup (as : List Va) : M Va := match vals as with
  | some ds => if ds.length ≤ sizeLine then M.pure (.val (.tup ds)) else stuck
  | none => stuck
def mkLst (as : List Va) : M Va := match vals as with
  | some ds => if ds.length ≤ sizeLine then M.pure (.val (.lst ds)) else stuck
  | none => stuck
/-- a new list that will be changed -/
def mkObj (as : List Va) : M Va := fun st => match vals as with
  | some ds => if ds.length ≤ sizeLine then some (.ok (.obj st.length), st ++ [.lst ds]) else none
  | none => none
def mTup (m : En → M (List Va)) : En → M Va := fun ρ => M.bind (m ρ) mkTup
def mLst (m : En → M (List Va)) : En → M Va := fun ρ => M.bind (m ρ) mkLst
def mObj (m : En → M (List Va)) : En → M Va := fun ρ => M.bind (m ρ) mkObj
theorem ed_tup {k : Nat} (h : AD X x W es mr) : ED X x W (.Tuple es k pos) (mTup mr) := by
  refine ED.of (pe_tup h) fun σ H Q μ st ρ ev sv hf => ?_
  refine ⟨μ, st, ρ, ev, sv, Fin.map (fun as st1 μ1 H1 e1 s1 h1 vs hv => ?_) (Fin.bind hf)⟩
  unfold mkTup at h1
  cases e : vals as with
  | none => rw [e] at h1; exact h1.elim
  | some ds =>
    rw [e] at h1
    have hd := vals_dvs e hv
    by_cases z : ds.length ≤ sizeLine
    · simp only [if_pos z] at h1
      refine ⟨by rw [hd.length]; exact z, fun q hq => ?_⟩
      exact h1 μ1 _ (Ev.made hq) (s1.made hq) _ (by simp only [AV, DV]; exact ⟨q, vs, rfl, SqT.of upd_same, DVs.go (Ev.made hq) ds hd⟩)
    · simp only [if_neg z] at h1; exact h1.elim
theorem ed_lst (h : AD X x W es mr) : ED X x W (.List es pos) (mLst mr) := by
  refine ED.of (pe_lst h) fun σ H Q μ st ρ ev sv hf => ?_
  refine ⟨μ, st, ρ, ev, sv, Fin.map (fun as st1 μ1 H1 e1 s1 h1 vs hv => ?_) (Fin.bind hf)⟩
  unfold mkLst at h1
  cases e : vals as with
  | none => rw [e] at h1; exact h1.elim
  | some ds =>
    rw [e] at h1
    have hd := vals_dvs e hv
    by_cases z : ds.length ≤ sizeLine
    · simp only [if_pos z] at h1
      refine ⟨by rw [hd.length]; exact z, fun q hq => ?_⟩
      exact h1 μ1 _ (Ev.made hq) (s1.made hq) _ (by simp only [AV, DV]; exact ⟨q, vs, rfl, s1.out hq, .inl upd_same, DVs.go (Ev.made hq) ds hd⟩)
    · simp only [if_neg z] at h1; exact h1.elim
theorem AV.newOb {S : Ks} {μ : Mu} {H : Hp} {st : Sto} {q : Addr} (len : μ.length = st.length) : AV S (μ ++ [some q]) H (.obj st.length) (.ref q) :=
  ⟨q, rfl, by simp [len], fun b hb => by rw [← len] at hb; simp at hb; exact hb.symm⟩
theorem ed_obj (h : AD X x W es mr) : ED X x W (.List es pos) (mObj mr) := by
  refine ED.of (pe_lst h) fun σ H Q μ st ρ ev sv hf => ?_
  refine ⟨μ, st, ρ, ev, sv, Fin.map (fun as st1 μ1 H1 e1 s1 h1 vs hv => ?_) (Fin.bind hf)⟩
  unfold mkObj at h1
  cases e : vals as with
  | none => rw [e] at h1; exact h1.elim
  | some ds =>
    rw [e] at h1
    have hd := vals_dvs e hv
    by_cases z : ds.length ≤ sizeLine
    · simp only [if_pos z] at h1
      refine ⟨by rw [hd.length]; exact z, fun q hq => ?_⟩
      refine h1 _ _ (Ev.newOb hq) (s1.newOb (o := .lst vs) (ob := .lst ds) hq ⟨vs, upd_same, DVs.go (Ev.newOb hq) ds hd⟩) _ ?_
      exact AV.newOb s1.len
    · simp only [if_neg z] at h1; exact h1.elim
/-- a list that nobody will change any more -/
def freeze : Va → M Va
  | .val d => M.pure (.val d)
  | .obj k => fun st => match st[k]? with
    | some (.lst ds) => some (.ok (.val (.lst ds)), st.set k .dead)
    | _ => none
  | _ => stuck
def mFrz (m : En → M Va) : En → M Va := fun ρ => M.bind (m ρ) freeze
theorem ed_frz (h : ED X x W a ma) : ED X x W a (mFrz ma) := by
  refine PE.imp h fun σ H Q ⟨μ, st, ρ, ev, sv, hf⟩ => ⟨μ, st, ρ, ev, sv, Fin.map (fun d st1 μ1 H1 e1 s1 h1 v hv => ?_) (Fin.bind hf)⟩
  cases d with
  | val d => exact Fin.pure s1 h1 v hv
  | exc c fs => exact h1.elim
  | scr ns => exact h1.elim
  | obj k =>
    unfold freeze at h1
    cases e : st1[k]? with
    | none => simp only [e] at h1; exact h1.elim
    | some o =>
      simp only [e] at h1
      cases o with
      | lst ds =>
        obtain ⟨a, ev1, hk, hm, ho⟩ := s1.at e (fun z => nomatch z) hv
        obtain ⟨xs, hx, hd⟩ := ho
        subst ev1
        exact h1 _ _ (Ev.gone k) (s1.gone k) _ (by simp only [AV, DV]; exact ⟨a, xs, rfl, s1.notin hk, .inl hx, DVs.go (Ev.gone k) ds hd⟩)
      | dK _ | dT _ | dead => exact h1.elim
end
end DL
end

section
set_option Elab.async false
set_option linter.all false
set_option maxRecDepth 100000
set_option maxHeartbeats 4000000
/-! Statements, defs, calls over plain data. -/
namespace DL
open PySem PySem.Spec PyProof.Rows L2

/-- how statements end -/
inductive Fl where
  | nx (ρ : En) | rt (d : Va) | bk (ρ : En) | ct (ρ : En) | ex (ρ : En) (c : Str) (fs : List (Str × D))
abbrev MS := Sto → Option (Fl × Sto)
def FinS (S : Ks) (W : WX) (Ds : Ends) (μ : Mu) (H : Hp) : Option (Fl × Sto) → Prop
  | none => False
  | some (.nx ρ, st) => ∀ μ' H' σ, Ev μ H μ' H' → SV S μ' H' st → EV S μ' H' ρ σ → Ds.nx σ H'
  | some (.rt d, st) => ∀ μ' H' v, Ev μ H μ' H' → SV S μ' H' st → AV S μ' H' d v → Ds.rt v H'
  | some (.bk ρ, st) => ∀ μ' H' σ, Ev μ H μ' H' → SV S μ' H' st → EV S μ' H' ρ σ → Ds.bk σ H'
  | some (.ct ρ, st) => ∀ μ' H' σ, Ev μ H μ' H' → SV S μ' H' st → EV S μ' H' ρ σ → Ds.ct σ H'
  | some (.ex ρ c fs, st) => ∀ cv dx μ' H' σ, Ev μ H μ' H' → SV S μ' H' st → EV S μ' H' ρ σ → XR S μ' H' c fs cv dx → W cv dx σ H'
def tDS (S : Ks) (W : WX) (m : En → MS) : TS := fun Ds σ H => ∃ μ st ρ, EV S μ H ρ σ ∧ SV S μ H st ∧ FinS S W Ds μ H (m ρ st)
def SD (X : Cx) (x : ExI) (W : WX) (s : Stmt) (m : En → MS) : Prop := PS X s (tDS (ks X x) W m)
def SDs (X : Cx) (x : ExI) (W : WX) (s : List Stmt) (m : En → MS) : Prop := PSs X s (tDS (ks X x) W m)
theorem FinS.go {S : Ks} {W : WX} {Ds : Ends} {μ μ1 : Mu} {H H1 : Hp} (x : Ev μ H μ1 H1) : ∀ {r : Option (Fl × Sto)}, FinS S W Ds μ H r → FinS S W Ds μ1 H1 r
  | none, h => h
  | some (.nx ρ, st), h => fun μ' H' σ e s v => h μ' H' σ (x.trans e) s v
  | some (.rt d, st), h => fun μ' H' σ e s v => h μ' H' σ (x.trans e) s v
  | some (.bk ρ, st), h => fun μ' H' σ e s v => h μ' H' σ (x.trans e) s v
  | some (.ct ρ, st), h => fun μ' H' σ e s v => h μ' H' σ (x.trans e) s v
  | some (.ex ρ c fs, st), h => fun cv dx μ' H' σ e s v => h cv dx μ' H' σ (x.trans e) s v
theorem SD.of {X : Cx} {x : ExI} {W : WX} {s : Stmt} {m : En → MS} {t : TS} (h : PS X s t)
    (f : ∀ (Ds : Ends) (σ : L2.St) (H : Hp) (μ : Mu) (st : Sto) (ρ : En), EV (ks X x) μ H ρ σ → SV (ks X x) μ H st → FinS (ks X x) W Ds μ H (m ρ st) → t Ds σ H) : SD X x W s m :=
  PS.imp h fun Ds σ H ⟨μ, st, ρ, ev, sv, h⟩ => f Ds σ H μ st ρ ev sv h
theorem SDs.of {X : Cx} {x : ExI} {W : WX} {s : List Stmt} {m : En → MS} {t : TS} (h : PSs X s t)
    (f : ∀ (Ds : Ends) (σ : L2.St) (H : Hp) (μ : Mu) (st : Sto) (ρ : En), EV (ks X x) μ H ρ σ → SV (ks X x) μ H st → FinS (ks X x) W Ds μ H (m ρ st) → t Ds σ H) : SDs X x W s m :=
  PSs.imp h fun Ds σ H ⟨μ, st, ρ, ev, sv, h⟩ => f Ds σ H μ st ρ ev sv h
/-- an expression's answer handed on -/
def onE {α : Type} (r : Option (R α × Sto)) (ρ : En) (k : α → MS) : Option (Fl × Sto) := match r with
  | none => none
  | some (.ok a, st) => k a st
  | some (.ex c fs, st) => some (.ex ρ c fs, st)
theorem FinS.onE {S : Ks} {W : WX} {Ds : Ends} {μ : Mu} {H : Hp} {α : Type} {k : α → MS} {ρ : En} {σ : L2.St} (ev : EV S μ H ρ σ) : ∀ {r : Option (R α × Sto)}, FinS S W Ds μ H (onE r ρ k) →
    Fin S (WE W σ) μ H (fun a st1 μ1 H1 => FinS S W Ds μ1 H1 (k a st1)) r
  | none, h => h
  | some (.ok a, st), h => fun μ' H' e s => FinS.go e h
  | some (.ex c fs, st), h => fun cv dx μ' H' e s q => h cv dx μ' H' σ e s (ev.go e) q
theorem FinS.nx {S : Ks} {W : WX} {Ds : Ends} {μ : Mu} {H : Hp} {ρ : En} {σ : L2.St} {st : Sto} (sv : SV S μ H st) (ev : EV S μ H ρ σ) (h : FinS S W Ds μ H (some (.nx ρ, st))) : Ds.nx σ H := h μ H σ (Ev.refl μ H) sv ev

def mNx : En → MS := fun ρ st => some (.nx ρ, st)
def mBk : En → MS := fun ρ st => some (.bk ρ, st)
def mCt : En → MS := fun ρ st => some (.ct ρ, st)
def mSeq (m1 m2 : En → MS) : En → MS := fun ρ st => match m1 ρ st with
  | some (.nx ρ', st') => m2 ρ' st'
  | r => r
def mSet (i : Nat) (m : En → M Va) : En → MS := fun ρ st => onE (m ρ st) ρ fun a st' => some (.nx (ρ.set i (some a)), st')
def mExpr (m : En → M Va) : En → MS := fun ρ st => onE (m ρ st) ρ fun _ st' => some (.nx ρ, st')
def mRet (m : En → M Va) : En → MS := fun ρ st => onE (m ρ st) ρ fun a st' => some (.rt a, st')
def mRetN : En → MS := fun ρ st => some (.rt (.val .non), st)
def mIfS (c : En → M Bool) (a b : En → MS) : En → MS := fun ρ st => onE (c ρ st) ρ fun t st' => if t = true then a ρ st' else b ρ st'
/-- several slots set -/
def setAll (σ : L2.St) : List Nat → List V → L2.St
  | i :: l, v :: vs => setAll (σ.set i (some v)) l vs
  | _, _ => σ
def setAllE (ρ : En) : List Nat → List Va → En
  | i :: l, v :: vs => setAllE (ρ.set i (some v)) l vs
  | _, _ => ρ
theorem EV.setMany {S : Ks} {μ : Mu} {H : Hp} : ∀ {l : List Nat} {ρ : En} {σ : L2.St} {as : List Va} {vs : List V}, EV S μ H ρ σ → AVs S μ H as vs → EV S μ H (setAllE ρ l as) (DL.setAll σ l vs)
  | [], ρ, σ, as, vs, h, q => by cases as <;> cases vs <;> exact h
  | i :: l, ρ, σ, [], vs, h, q => by cases q; exact h
  | i :: l, ρ, σ, a :: as, vs, h, q => by
    obtain ⟨v, r, rfl, q1, q2⟩ := q
    exact EV.setMany (l := l) (h.set i q1) q2
theorem AVs.append {S : Ks} {μ : Mu} {H : Hp} : ∀ {ds es : List Va} {vs ws : List V}, AVs S μ H ds vs → AVs S μ H es ws → AVs S μ H (ds ++ es) (vs ++ ws)
  | [], es, vs, ws, h, t => by cases h; exact t
  | d :: ds, es, vs, ws, h, t => by
    obtain ⟨v, r, rfl, q, w⟩ := h
    exact ⟨v, r ++ ws, rfl, q, AVs.append w t⟩
theorem AVs.reverse {S : Ks} {μ : Mu} {H : Hp} : ∀ {ds : List Va} {vs : List V}, AVs S μ H ds vs → AVs S μ H ds.reverse vs.reverse
  | [], vs, h => by cases h; exact AVs.nil
  | d :: ds, vs, h => by
    obtain ⟨v, r, rfl, q', w⟩ := h
    simp only [List.reverse_cons]
    exact AVs.append (AVs.reverse w) (AVs.cons q' AVs.nil)
theorem AVs.vals {S : Ks} {μ : Mu} {H : Hp} : ∀ {ds : List D} {vs : List V}, DVs S μ H ds vs → AVs S μ H (ds.map .val) vs
  | [], vs, h => by simp only [DVs] at h; exact h
  | d :: ds, vs, h => by
    simp only [DVs] at h
    obtain ⟨v, r, rfl, q, w⟩ := h
    exact ⟨v, r, rfl, q, AVs.vals w⟩
section
variable {X : Cx} {x : ExI} {W : WX} {pos : Pos} {s : Stmt} {ss : List Stmt} {m m1 m2 : En → MS} {e : Expr} {me : En → M Va}
theorem sds_nil : SDs X x W [] mNx := SDs.of pss_nil fun Ds σ H μ st ρ ev sv h => FinS.nx sv ev h
theorem sds_cons (h1 : SD X x W s m1) (h2 : SDs X x W ss m2) : SDs X x W (s :: ss) (mSeq m1 m2) := by
  refine SDs.of (pss_cons h1 h2) fun Ds σ H μ st ρ ev sv h => ⟨μ, st, ρ, ev, sv, ?_⟩
  unfold mSeq at h
  cases e : m1 ρ st with
  | none => rw [e] at h; exact h
  | some p =>
    obtain ⟨f, st'⟩ := p
    rw [e] at h
    cases f with
    | nx ρ' => exact fun μ' H' σ' ev' sv' q => ⟨μ', st', ρ', q, sv', FinS.go ev' h⟩
    | rt d => exact h
    | bk ρ' => exact h
    | ct ρ' => exact h
    | ex ρ' c fs => exact h
theorem sds_one (h1 : SD X x W s m1) : SDs X x W [s] m1 := by
  refine SDs.of (pss_one h1) fun Ds σ H μ st ρ ev sv h => ⟨μ, st, ρ, ev, sv, h⟩
theorem sd_pass : SD X x W (.Pass pos) mNx := SD.of ps_pass fun Ds σ H μ st ρ ev sv h => FinS.nx sv ev h
theorem sd_break : SD X x W (.Break pos) mBk := SD.of ps_break fun Ds σ H μ st ρ ev sv h => h μ H σ (Ev.refl μ H) sv ev
theorem sd_continue : SD X x W (.Continue pos) mCt := SD.of ps_continue fun Ds σ H μ st ρ ev sv h => h μ H σ (Ev.refl μ H) sv ev
theorem sd_expr (he : ED X x W e me) (hs : swapsWith e none pos.line X.env = pure false := by rfl) : SD X x W (.Expr e pos) (mExpr me) := by
  refine SD.of (ps_expr he hs) fun Ds σ H μ st ρ ev sv h => ⟨μ, st, ρ, ev, sv, Fin.map (fun a st1 μ1 H1 e1 s1 h1 v hv => ?_) (FinS.onE ev h)⟩
  exact FinS.nx s1 (ev.go e1) h1
theorem sd_ret (he : ED X x W e me) : SD X x W (.Return (some e) pos) (mRet me) := by
  refine SD.of (ps_ret he) fun Ds σ H μ st ρ ev sv h => ⟨μ, st, ρ, ev, sv, Fin.map (fun a st1 μ1 H1 e1 s1 h1 v hv => ?_) (FinS.onE ev h)⟩
  exact h1 μ1 H1 v (Ev.refl _ _) s1 hv
theorem sd_retN : SD X x W (.Return none pos) mRetN := SD.of ps_retN fun Ds σ H μ st ρ ev sv h => h μ H .non (Ev.refl _ _) sv (by simp only [AV, DV])
theorem sd_if {c : Expr} {a b : List Stmt} {mc : En → M Bool} (hc : TD X x W c mc) (ha : SDs X x W a m1) (hb : SDs X x W b m2) : SD X x W (.If c a b pos) (mIfS mc m1 m2) := by
  refine SD.of (ps_if hc ha hb) fun Ds σ H μ st ρ ev sv h => ⟨μ, st, ρ, ev, sv, Fin.map (fun t st1 μ1 H1 e1 s1 h1 => ?_) (FinS.onE ev h)⟩
  cases t with
  | true => exact iteT ⟨μ1, st1, ρ, ev.go e1, s1, h1⟩
  | false => exact iteF ⟨μ1, st1, ρ, ev.go e1, s1, h1⟩
theorem sd_set (i : Nat) {y : Str} {pos' : Pos} (he : ED X x W e me) (hN : X.N.Nodup := by assumption) (hi : X.N[i]? = some y := by rfl) (hx : Loc X.env.scope y := by first | exact Or.inl rfl | exact Or.inr rfl)
    (hs : swapsWith e (some (.Name y pos')) pos.line X.env = pure false := by rfl) (hf : X.fn y = true ∨ X.env.scope.names.lookup y = some .local := by first | exact .inl rfl | exact .inr rfl) : SD X x W (.Assign [.Name y pos'] e pos) (mSet i me) := by
  refine SD.of (ps_set hN hi hx he hs hf) fun Ds σ H μ st ρ ev sv h => ⟨μ, st, ρ, ev, sv, Fin.map (fun a st1 μ1 H1 e1 s1 h1 v hv => ?_) (FinS.onE ev h)⟩
  exact FinS.nx s1 ((ev.go e1).set i hv) h1
/-! ### a, b, .. = x, y, .. with plain local names -/
theorem store_all {pins : List (Addr × Obj)} {H : Hp} {Q : Unit → Shared → Prop} (hN : X.N.Nodup) : ∀ (l : List (Nat × Str)) (vs : List V) (us : List Value) (σ : L2.St) (s : Shared), L2.Inv X pins σ H s → Vals vs us → vs.length = l.length →
    (∀ p ∈ l, X.N[p.1]? = some p.2 ∧ X.env.scope.names.lookup p.2 = some .local) → (∀ s', L2.Inv X pins (setAll σ (l.map (·.1)) vs) H s' → Q () s') →
    wpAny (model X.prog X.w) X.A (assignInOrder (l.map fun p v => bindName X.env p.2 v) us) Q X.xe s
  | [], vs, us, σ, s, I, r, hl, hp, h => by
    cases r with
    | nil => exact assignInOrder_nil (h s I)
    | cons p q => simp at hl
  | p :: l, vs, us, σ, s, I, r, hl, hp, h => by
    cases r with
    | nil => simp at hl
    | @cons v u vs us rv rr =>
      obtain ⟨h1, h2⟩ := hp p (by simp)
      refine assignInOrder_cons (wpAny_bindName (store_ok I hN h1 (.inl h2) rv (fun s2 I2 => ?_) (.inr h2)))
      exact store_all hN l vs us _ s2 I2 rr (by simpa using hl) (fun p hp' => hp p (by simp [hp'])) h
def tParN (l : List Nat) (ta : TA) : TS := fun Ds σ H => ta σ H fun vs H1 => vs.length = l.length ∧ Ds.nx (setAll σ l.reverse vs.reverse) H1
theorem Paired.reverse {α β : Type} {F : α → β → Prop} {xs : List α} {us : List β} (h : Paired F xs us) : Paired F xs.reverse us.reverse := by
  have app : ∀ {xs ys : List α} {us ws : List β}, Paired F xs us → Paired F ys ws → Paired F (xs ++ ys) (us ++ ws) := by
    intro xs ys us ws h1 h2
    induction h1 with
    | nil => exact h2
    | cons r _ ih => exact .cons r ih
  induction h with
  | nil => exact .nil
  | cons r t ih => simp only [List.reverse_cons]; exact app ih (.cons r .nil)
theorem ps_parN {tg es : List Expr} {l : List (Nat × Str)} {ta : TA} {kt pt k2 pt2} (hc : X.calm = true) (hN : X.N.Nodup) (hl : ∀ p ∈ l, X.N[p.1]? = some p.2 ∧ X.env.scope.names.lookup p.2 = some .local) (hz : es.length ≤ 1000) (hlen : es.length = l.length)
    (ha : PA X es ta) (hw : swappedStores [.Tuple tg kt pt] (.Tuple es k2 pt2) X.env = pure (some (l.map (·.2)))) (hs : swapsWithSole [.Tuple tg kt pt] (.Tuple es k2 pt2) pos.line X.env = pure false := by rfl) :
    PS X (.Assign [.Tuple tg kt pt] (.Tuple es k2 pt2) pos) (tParN (l.map (·.1)) ta) := by
  refine ⟨fun pins s σ H D I h => ?_⟩
  refine Assign_Tuple_swapped (Tuple_ (thn (ha.run _ pins s σ H _ I h) fun us s1 ⟨vs, H1, I1, r1, q1, q2⟩ => ?_)) hs hw
  have hlv : vs.length = l.length := by simpa using q1
  refine wpAny_newObj_type ?_ (by show us.toArray.size ≤ sizeLine; rw [List.size_toArray, ← Paired.length r1, hlv, ← hlen, sizeLine_eq]; omega)
  have I2 : L2.Inv X pins σ H1 { s1 with heap := s1.heap.push { cls := .type "tuple", data := .seq us.toArray } } := I1.kept (t' := s1.toks) fun b o e => Heap.get?_push_of_some _ e
  have hn : (l.map (·.2)).length = us.toArray.size := by rw [List.length_map, List.size_toArray, ← Paired.length r1, hlv]
  rw [hn]
  refine unpackItems_tuple (items := us.toArray) (I.ok.hd hc) (IsTup.new s1.heap _) fun h' hx' => ?_
  have I3 := I2.kept (h' := h') (t' := s1.toks) fun b o e => hx' b o (Nat.ne_of_lt (Heap.lt_size e)) e
  rw [← List.map_reverse, List.map_map]
  have key := store_all (Q := fun _ s' => SP X pins D .next s') hN l.reverse vs.reverse us.reverse σ _ I3 (Paired.reverse r1) (by simp [hlv]) (fun p hp => hl p (by simpa using hp)) (fun s' J => ⟨_, H1, by rw [List.map_reverse] at J; exact J, q2⟩)
  exact key
def ParOk (X : Cx) : List (Nat × Str) → Prop
  | [] => True
  | p :: l => (X.N[p.1]? = some p.2 ∧ X.env.scope.names.lookup p.2 = some .local) ∧ ParOk X l
theorem ParOk.all {X : Cx} : ∀ {l : List (Nat × Str)}, ParOk X l → ∀ p ∈ l, X.N[p.1]? = some p.2 ∧ X.env.scope.names.lookup p.2 = some .local
  | q :: l, h, p, hp => by
    rcases List.mem_cons.mp hp with e | hp
    · subst e; exact h.1
    · exact ParOk.all h.2 p hp
def mPar (l : List Nat) (m : En → M (List Va)) : En → MS := fun ρ st => onE (m ρ st) ρ fun as st' => if as.length = l.length then some (.nx (setAllE ρ l.reverse as.reverse), st') else none
theorem sd_par {tg es : List Expr} (l : List (Nat × Str)) {ma : En → M (List Va)} {kt pt k2 pt2} (ha : AD X x W es ma) (hc : X.calm = true := by rfl) (hN : X.N.Nodup := by assumption) (hl : ParOk X l := by repeat' first | exact trivial | exact rfl | constructor) (hz : es.length ≤ 1000 := by exact (by decide)) (hlen : es.length = l.length := by rfl)
    (hw : swappedStores [.Tuple tg kt pt] (.Tuple es k2 pt2) X.env = pure (some (l.map (·.2))) := by rfl) (hs : swapsWithSole [.Tuple tg kt pt] (.Tuple es k2 pt2) pos.line X.env = pure false := by rfl) :
    SD X x W (.Assign [.Tuple tg kt pt] (.Tuple es k2 pt2) pos) (mPar (l.map (·.1)) ma) := by
  refine SD.of (ps_parN hc hN hl.all hz hlen ha hw hs) fun Ds σ H μ st ρ ev sv h => ⟨μ, st, ρ, ev, sv, Fin.map (fun as st1 μ1 H1 e1 s1 h1 vs hv => ?_) (FinS.onE ev h)⟩
  by_cases z : as.length = (l.map (·.1)).length
  · simp only [if_pos z] at h1
    exact ⟨by rw [hv.length, z], FinS.nx s1 (EV.setMany (ev.go e1) hv.reverse) h1⟩
  · simp only [if_neg z] at h1; exact h1.elim
/-! ### targets -/
def tDG (S : Ks) (ls : List Nat) (g : Va → En → Option En) : TG := fun v σ H Q => ∃ μ st ρ a, EV S μ H ρ σ ∧ SV S μ H st ∧ AV S μ H a v ∧ match g a ρ with
  | none => False
  | some ρ' => ∀ σ', EV S μ H ρ' σ' → (∀ vs, (∀ i ∈ ls, i ∈ vs) → L2.wipe σ' vs = L2.wipe σ vs) → Q σ' H
def tDGs (S : Ks) (ls : List Nat) (g : List D → En → Option En) : TGs := fun vs σ H Q => ∃ μ st ρ ds, EV S μ H ρ σ ∧ SV S μ H st ∧ DVs S μ H ds vs ∧ match g ds ρ with
  | none => False
  | some ρ' => ∀ σ', EV S μ H ρ' σ' → (∀ vs, (∀ i ∈ ls, i ∈ vs) → L2.wipe σ' vs = L2.wipe σ vs) → Q σ' H
def GD (X : Cx) (x : ExI) (tg : Expr) (ls : List Nat) (g : Va → En → Option En) : Prop := PG X tg (tDG (ks X x) ls g)
def GDs (X : Cx) (x : ExI) (tg : List Expr) (ls : List Nat) (g : List D → En → Option En) : Prop := PGs X tg (tDGs (ks X x) ls g)
theorem wipe_get (σ : L2.St) (j : Nat) : ∀ vs : List Nat, (L2.wipe σ vs)[j]? = if j < σ.length ∧ j ∈ vs then some none else σ[j]?
  | [] => by simp [L2.wipe]
  | v :: vs => by
    unfold L2.wipe
    by_cases h : v = j
    · subst h
      by_cases hl : v < σ.length
      · rw [List.getElem?_set_self (by rw [L2.wipe_length]; exact hl), if_pos ⟨hl, by simp⟩]
      · rw [List.getElem?_eq_none (by rw [List.length_set, L2.wipe_length]; omega), if_neg (fun z => hl z.1), List.getElem?_eq_none (by omega)]
    · rw [List.getElem?_set_ne h, wipe_get σ j vs]
      have e : (j ∈ v :: vs) ↔ j ∈ vs := by simp [Ne.symm h]
      simp only [e]
theorem wipe_set (σ : L2.St) (i : Nat) (v : Option V) (vs : List Nat) (h : i ∈ vs) : L2.wipe (σ.set i v) vs = L2.wipe σ vs := by
  apply List.ext_getElem?
  intro j
  rw [wipe_get, wipe_get, List.length_set]
  by_cases hj : i = j
  · subst hj
    by_cases hl : i < σ.length
    · rw [if_pos ⟨hl, h⟩, if_pos ⟨hl, h⟩]
    · rw [if_neg (fun z => hl z.1), if_neg (fun z => hl z.1), List.getElem?_eq_none (by simpa using hl), List.getElem?_eq_none (by omega)]
  · rw [List.getElem?_set_ne hj]
def gVar (i : Nat) : Va → En → Option En := fun a ρ => some (ρ.set i (some a))
theorem gd_name (i : Nat) {y : Str} (hN : X.N.Nodup := by assumption) (hi : X.N[i]? = some y := by rfl) (hx : Loc X.env.scope y := by first | exact Or.inl rfl | exact Or.inr rfl) (hf : X.fn y = true ∨ X.env.scope.names.lookup y = some .local := by first | exact .inl rfl | exact .inr rfl) : GD X x (.Name y pos) [i] (gVar i) := by
  refine ⟨fun pins s σ H v u Q I r q => (pg_name hN hi hx hf).run pins s σ H v u Q I r ?_⟩
  obtain ⟨μ, st, ρ, a, ev, sv, av, h⟩ := q
  exact h _ (ev.set i av) fun vs hv => wipe_set _ _ _ _ (hv i (by simp))
def gNilD : List D → En → Option En
  | [], ρ => some ρ
  | _, _ => none
def gConsD (g : Va → En → Option En) (gs : List D → En → Option En) : List D → En → Option En
  | d :: ds, ρ => (g (.val d) ρ).bind (gs ds)
  | [], _ => none
theorem gds_nil : GDs X x [] [] gNilD := by
  refine ⟨fun pins s σ H v u Q I r q => pgs_nil.run pins s σ H v u Q I r ?_⟩
  obtain ⟨μ, st, ρ, ds, ev, sv, dv, h⟩ := q
  cases ds with
  | nil => simp only [DVs] at dv; exact ⟨dv, h σ ev fun _ _ => rfl⟩
  | cons d ds => exact h.elim
theorem gds_cons {ls ls' : List Nat} {es : List Expr} {g : Va → En → Option En} {gs : List D → En → Option En} (h1 : GD X x e ls g) (h2 : GDs X x es ls' gs)
    (hs : (assignEach (e :: es) X.env).map (·.2) = assign e X.env :: (assignEach es X.env).map (·.2) := by rfl) : GDs X x (e :: es) (ls ++ ls') (gConsD g gs) := by
  refine ⟨fun pins s σ H v u Q I r q => (pgs_cons h1 h2 hs).run pins s σ H v u Q I r ?_⟩
  obtain ⟨μ, st, ρ, ds, ev, sv, dv, h⟩ := q
  cases ds with
  | nil => exact h.elim
  | cons d ds =>
    simp only [DVs] at dv
    obtain ⟨v1, r1, rfl, q1, q2⟩ := dv
    refine ⟨v1, r1, rfl, μ, st, ρ, .val d, ev, sv, q1, ?_⟩
    simp only [gConsD] at h
    cases e1 : g (.val d) ρ with
    | none => simp only [e1, Option.bind_none] at h
    | some ρ1 =>
      simp only [e1, Option.bind_some] at h
      refine fun σ1 ev1 w1 => ⟨μ, st, ρ1, ds, ev1, sv, q2, ?_⟩
      have h : match gs ds ρ1 with | none => False | some ρ' => ∀ σ', EV (ks X x) μ H ρ' σ' → (∀ vs, (∀ i ∈ ls ++ ls', i ∈ vs) → L2.wipe σ' vs = L2.wipe σ vs) → Q σ' H := h
      cases e2 : gs ds ρ1 with
      | none => rw [e2] at h; exact h
      | some ρ2 =>
        rw [e2] at h
        exact fun σ2 ev2 w2 => h σ2 ev2 fun vs hv => (w2 vs fun i hi => hv i (by simp [hi])).trans (w1 vs fun i hi => hv i (by simp [hi]))
def gTupD (n : Nat) (gs : List D → En → Option En) : Va → En → Option En
  | .val (.tup ds), ρ => if ds.length = n then gs ds ρ else none
  | _, _ => none
theorem gd_tup {ls : List Nat} {es : List Expr} {k n : Nat} {gs : List D → En → Option En} (h : GDs X x es ls gs) (hc : X.calm = true := by rfl) (hn : (assignEach es X.env).length = n := by rfl) (hst : (assignEach es X.env).findIdx? (·.1) = none := by rfl) : GD X x (.Tuple es k pos) ls (gTupD n gs) := by
  refine ⟨fun pins s σ H v u Q I r q => (pg_tup hc h hn hst).run pins s σ H v u Q I r ?_⟩
  obtain ⟨μ, st, ρ, a, ev, sv, av, h⟩ := q
  cases a with
  | obj k => exact h.elim
  | exc c fs => exact h.elim
  | scr ns => exact h.elim
  | val d =>
    cases d with
    | tup ds =>
      simp only [AV, DV] at av
      obtain ⟨p, xs, e1, sq, dv⟩ := av
      unfold gTupD at h
      by_cases z : ds.length = n
      · simp only [if_pos z] at h
        exact ⟨p, xs, e1, sq, by rw [dv.length]; exact z, μ, st, ρ, ds, ev, sv, dv, h⟩
      · simp only [if_neg z] at h
    | non | bl | int | str | lst | glo => exact h.elim
/-- a target gets a value -/
def mAsg (g : Va → En → Option En) (m : En → M Va) : En → MS := fun ρ st => onE (m ρ st) ρ fun a st' => match g a ρ with
  | some ρ' => some (.nx ρ', st')
  | none => none
theorem sd_asg {tg : Expr} {ls : List Nat} {g : Va → En → Option En} (he : ED X x W e me) (hg : GD X x tg ls g) (hs : swapsWithSole [tg] e pos.line X.env = pure false := by rfl) (hw : swappedStores [tg] e X.env = pure none := by rfl) (h1 : (assignEach [tg] X.env).map (·.2) = [assign tg X.env] := by rfl) : SD X x W (.Assign [tg] e pos) (mAsg g me) := by
  refine SD.of (ps_asg he hg hs hw h1) fun Ds σ H μ st ρ ev sv h => ⟨μ, st, ρ, ev, sv, Fin.map (fun a st1 μ1 H1 e1 s1 h1 v hv => ?_) (FinS.onE ev h)⟩
  refine ⟨μ1, st1, ρ, a, ev.go e1, s1, hv, ?_⟩
  cases e2 : g a ρ with
  | none => simp only [e2] at h1; exact h1
  | some ρ' => simp only [e2] at h1; exact fun σ' ev' _ => FinS.nx s1 ev' h1
end
end DL
end

section
set_option Elab.async false
set_option linter.all false
set_option maxRecDepth 100000
set_option maxHeartbeats 4000000
/-! Defs, calls, own exceptions over plain data. -/
namespace DL
open PySem PySem.Spec PyProof.Rows L2

/-- behind a call the store is as long as ahead of it; a new object that is handed out stands behind it -/
def cutR (n : Nat) : Option (R Va × Sto) → Option (R Va × Sto)
  | some (.ok (.val d), st) => some (.ok (.val d), st.take n)
  | some (.ok (.obj k), st) => if k < n then some (.ok (.obj k), st.take n) else match st[k]? with
    | some .dead => none
    | some o => some (.ok (.obj n), st.take n ++ [o])
    | none => none
  | some (.ex c fs, st) => some (.ex c fs, st.take n)
  | _ => none
section
variable {S : Ks} {μ μ' : Mu} {H H' : Hp}
theorem SV.addOb {st : Sto} {a : Addr} {o : Ob} (sv : SV S μ H st) (hn : some a ∉ μ) (hle : ∀ b o', OV S μ H b o' → OV S (μ ++ [some a]) H b o') (h : OV S (μ ++ [some a]) H a o) : SV S (μ ++ [some a]) H (st ++ [o]) := by
  refine ⟨by simp [sv.len], fun i j b h1 h2 => ?_, fun k o' e => ?_⟩
  · have key : ∀ {i : Nat}, (μ ++ [some a])[i]? = some (some b) → (i < μ.length ∧ μ[i]? = some (some b)) ∨ (i = μ.length ∧ b = a) := fun {i} h => by
      by_cases hi : i < μ.length
      · rw [List.getElem?_append_left hi] at h; exact .inl ⟨hi, h⟩
      · rw [List.getElem?_append_right (by omega)] at h
        have : i - μ.length = 0 := by
          cases z : i - μ.length with
          | zero => rfl
          | succ n => rw [z] at h; simp at h
        rw [this] at h
        simp at h
        exact .inr ⟨by omega, h.symm⟩
    rcases key h1 with ⟨l1, e1⟩ | ⟨l1, e1⟩ <;> rcases key h2 with ⟨l2, e2⟩ | ⟨l2, e2⟩
    · exact sv.inj i j b e1 e2
    · subst e2; exact absurd (List.mem_of_getElem? e1) hn
    · subst e1; exact absurd (List.mem_of_getElem? e2) hn
    · omega
  · by_cases hk : k < st.length
    · rw [List.getElem?_append_left hk] at e
      have hk' : k < μ.length := by rw [sv.len]; exact hk
      rw [List.getElem?_append_left hk']
      exact (sv.here k o' e).imp (fun ⟨b, e1, q⟩ => ⟨b, e1, hle b o' q⟩) id
    · rw [List.getElem?_append_right (by omega)] at e
      have : k - st.length = 0 := by
        cases z : k - st.length with
        | zero => rfl
        | succ n => rw [z] at e; simp at e
      rw [this] at e
      simp at e
      subst e
      have ek : k = μ.length := by rw [sv.len]; omega
      subst ek
      exact .inl ⟨a, by simp, h⟩
theorem Fin.cut {E : XK} {Q : VK} {n : Nat} (hn : μ.length = n) : ∀ {r : Option (R Va × Sto)}, Fin S E μ H (fun a _ μ' H' => ∀ v, AV S μ' H' a v → Q v H') (cutR n r) → Fin S E μ H (fun a _ μ' H' => ∀ v, AV S μ' H' a v → Q v H') r
  | none, h => h
  | some (.ok (.exc c fs), st), h => by unfold cutR at h; exact h.elim
  | some (.ok (.scr ns), st), h => by unfold cutR at h; exact h.elim
  | some (.ex c fs, st), h => by
    unfold cutR at h
    subst hn
    exact fun cv dx μ' H' ev sv q => h cv dx _ H' ev.cut (sv.cut _) (XR.le (Le.take _) q)
  | some (.ok (.val d), st), h => by
    unfold cutR at h
    subst hn
    exact fun μ' H' ev sv v q => h _ H' ev.cut (sv.cut _) v (DV.le (Le.take _) d q)
  | some (.ok (.obj k), st), h => by
    unfold cutR at h
    subst hn
    by_cases hk : k < μ.length
    · simp only [if_pos hk] at h
      refine fun μ' H' ev sv v q => h _ H' ev.cut (sv.cut _) v ?_
      obtain ⟨a, e, l, q⟩ := q
      refine ⟨a, e, by rw [List.length_take]; omega, fun b hb => q b ?_⟩
      rw [List.getElem?_take_of_lt hk] at hb
      exact hb
    · simp only [if_neg hk] at h
      cases e : st[k]? with
      | none => simp only [e] at h; exact h.elim
      | some o =>
        simp only [e] at h
        have hd : o ≠ .dead := fun z => by subst z; exact h.elim
        intro μ' H' ev sv v q
        obtain ⟨a, e1, hm, hmem, ov⟩ := sv.at e hd q
        have hna : some a ∉ μ'.take μ.length := fun z => by
          obtain ⟨j, hj⟩ := List.mem_iff_getElem?.mp z
          by_cases hjn : j < μ.length
          · rw [List.getElem?_take_of_lt hjn] at hj
            exact hk ((sv.inj _ _ _ hj hm) ▸ hjn)
          · rw [List.getElem?_take_eq_none (by omega)] at hj; cases hj
        have le : Le μ' (μ'.take μ.length ++ [some a]) := ⟨fun b hb => by
          rcases List.mem_append.mp hb with z | z
          · exact List.mem_of_mem_take z
          · simp at z; subst z; exact hmem⟩
        have Ev1 : Ev μ H (μ'.take μ.length ++ [some a]) H' := ⟨ev.tups, ev.frzs, ev.keep, by rw [List.length_append, List.length_take]; have := ev.len; simp; omega, fun k hk => by
            rw [List.getElem?_append_left (by rw [List.length_take]; have := ev.len; omega), List.getElem?_take_of_lt hk]; exact ev.pre k hk, fun b hb => ev.new b (le.sub b hb)⟩
        have lent : (μ'.take μ.length).length = μ.length := by rw [List.length_take]; have := ev.len; omega
        have Sv1 : SV S (μ'.take μ.length ++ [some a]) H' (st.take μ.length ++ [o]) := by
          have sc := sv.cut μ.length
          refine ⟨by simp [sv.len], fun i j b h1 h2 => ?_, fun k2 o' ek => ?_⟩
          · have key : ∀ {i : Nat}, (μ'.take μ.length ++ [some a])[i]? = some (some b) → (i < μ.length ∧ μ'[i]? = some (some b)) ∨ (i = μ.length ∧ b = a) := fun {i} h => by
              by_cases hi : i < μ.length
              · rw [List.getElem?_append_left (by rw [lent]; exact hi), List.getElem?_take_of_lt hi] at h; exact .inl ⟨hi, h⟩
              · rw [List.getElem?_append_right (by omega), lent] at h
                have : i - μ.length = 0 := by
                  cases z : i - μ.length with
                  | zero => rfl
                  | succ n => rw [z] at h; simp at h
                rw [this] at h
                simp at h
                exact .inr ⟨by omega, h.symm⟩
            rcases key h1 with ⟨l1, f1⟩ | ⟨l1, f1⟩ <;> rcases key h2 with ⟨l2, f2⟩ | ⟨l2, f2⟩
            · exact sv.inj i j b f1 f2
            · rw [f2] at f1; exact absurd ((sv.inj _ _ _ f1 hm) ▸ l1) hk
            · rw [f1] at f2; exact absurd ((sv.inj _ _ _ f2 hm) ▸ l2) hk
            · omega
          · have lens : (st.take μ.length).length = μ.length := by rw [List.length_take, ← sv.len]; have := ev.len; omega
            by_cases hi : k2 < μ.length
            · rw [List.getElem?_append_left (by rw [lens]; exact hi), List.getElem?_take_of_lt hi] at ek
              rw [List.getElem?_append_left (by rw [lent]; exact hi), List.getElem?_take_of_lt hi]
              exact (sv.here k2 o' ek).imp (fun ⟨b, e1, q⟩ => ⟨b, e1, OV.le le q⟩) id
            · rw [List.getElem?_append_right (by omega), lens] at ek
              have : k2 - μ.length = 0 := by
                cases z : k2 - μ.length with
                | zero => rfl
                | succ n => rw [z] at ek; simp at ek
              rw [this] at ek
              simp at ek
              subst ek
              have ek : k2 = μ.length := by omega
              subst ek
              exact .inl ⟨a, by rw [List.getElem?_append_right (by omega), lent]; simp, OV.le le ov⟩
        have hav : AV S (μ'.take μ.length ++ [some a]) H' (.obj μ.length) v := ⟨a, e1, by simp [lent], fun b hb => by
          rw [List.getElem?_append_right (by omega), lent] at hb
          simp at hb
          exact hb.symm⟩
        cases o with
        | dead => exact absurd rfl hd
        | lst ds => exact h _ H' Ev1 Sv1 v hav
        | dK kvs => exact h _ H' Ev1 Sv1 v hav
        | dT kvs => exact h _ H' Ev1 Sv1 v hav
end
/-- what a def over n arguments promises: it computes g -/
def spD (S : Ks) (n : Nat) (g : List Va → M Va) : Sp := fun vs H Q E => ∃ μ st as, SV S μ H st ∧ AVs S μ H as vs ∧ as.length = n ∧ Fin S E μ H (fun a _ μ' H' => ∀ v, AV S μ' H' a v → Q v H') (g as st)
/-- a def's promise where no repr is under way -/
structure FnG (P : Program) (w : World) (K : PySem.W.Frag) (mg : Str → Option Value) (base : Heap) (k : Nat) (f : Addr) (fd : FuncData) (ps : List Str) (sp : Sp) : Prop where
  len : ∀ vs H Q E, sp vs H Q E → vs.length = ps.length
  run : ∀ (A : Around) (outer : List Env) (s : Shared) (H : Hp) (args : Args) (us : List Value) (vs : List V) (Q : VK) (E : XK), Room k A → A.guards = some [] → Env0 P w K mg base A outer s H → BindsTo s fd args (ps.zip us) → Vals vs us → sp vs H Q E →
    codeAny (model P w) A (.call (.ref f) args) (CR (L2.CX P w) outer P w H s Q E) s
theorem FnG.mono {P : Program} {w : World} {K : PySem.W.Frag} {mg : Str → Option Value} {base : Heap} {j k : Nat} {f : Addr} {fd : FuncData} {ps : List Str} {sp : Sp} (F : FnG P w K mg base j f fd ps sp) (h : j ≤ k) :
    FnG P w K mg base k f fd ps sp := ⟨F.len, fun A outer s H args us vs Q E hr => F.run A outer s H args us vs Q E (hr.mono h)⟩
theorem fn_ofG {P : Program} {w : World} {K : PySem.W.Frag} {mg : Str → Option Value} {base : Heap} {k : Nat} {f : Addr} {name qual : Str} {params : Arguments} {body : List Stmt} {scope : Scope} {dV kV doc pm cdv ct oc : Value} {an od : Option Addr}
    {osl : Array (Option Value)} {N ps : List Str} {sp : Sp} (lk : K.lookup f = some ⟨oc, od, .func (PySem.W.fnOf name qual params body scope dV kV doc pm an cdv ct), osl⟩) (hcd : PySem.W.codeIn K cdv qual = true) (S : FnScope N ps scope)
    (len : ∀ vs H Q E, sp vs H Q E → vs.length = ps.length)
    (hbody : ∀ (A : Around) (outer : List Env) (s : Shared) (H : Hp) (vs : List V) (Q : VK) (E : XK), Room k (A.deeper (envOfC qual scope s.heap.objs.size f cdv)) → A.guards = some [] → sp vs H Q E →
      ∃ t, PSs (cxOf (L2.CX P w) P w K mg base N qual scope f cdv A outer s H E) body t ∧ t { nx := fun _ H' => Q .non H', rt := Q } (L2.start N vs) H) :
    FnG P w K mg base (k + 1) f (PySem.W.fnOf name qual params body scope dV kV doc pm an cdv ct) ps sp := by
  refine ⟨len, fun A outer s H args us vs Q E hr hG e0 hb r hsp => ?_⟩
  have hl := len _ _ _ _ hsp
  have KX : K.In s.heap := e0.mod.kin.keeps fun b o e => (e0.bs b o e).1
  have lim : s.heap.NoLimit := e0.mod.nolimit.keeps fun b o e => (e0.bs b o e).1
  have hkind : ∀ y ∈ ps.zip us, scope.names.lookup y.1 = some .local ∨ (scope.names.lookup y.1 = some .cell ∧ ((cellsFrom (s.heap.objs.size + 1) scope.names []).lookup y.1).isSome = true) := fun ⟨n, v⟩ hy => by
    rcases S.par n (List.of_mem_zip hy).1 with q | q
    · exact .inl q
    · exact .inr ⟨q, PySem.W.cellsFrom_some _ _ _ (.inl q)⟩
  refine codeAny_call_function hr.depth (KX _ _ lk) rfl S.co S.gen rfl (PySem.W.codeRec_of KX hcd) (hb _ _ _ _ ?_)
  refine wpAny_newFunctionEnv_cells S.kind hkind fun env he s1 x => ?_
  subst he
  refine ⟨lim.keeps x.toInCall.keep, codeAny_func ?_⟩
  obtain ⟨t, ht, hq⟩ := hbody A outer s H vs Q E (hr.deeper _) hG hsp
  have I : L2.Inv (cxOf (L2.CX P w) P w K mg base N qual scope f cdv A outer s H E) [] (L2.start N vs) H s1 := inv_start S hr.hd e0 hl r x
  refine wpAny_mono (ht.run [] s1 (L2.start N vs) H _ I hq) (fun fl s' hs => ?_) fun e s' hs => hs
  have fin : ∀ {σ' : L2.St} {H' : Hp} {v : V} {u : Value}, L2.Inv (cxOf (L2.CX P w) P w K mg base N qual scope f cdv A outer s H E) [] σ' H' s' → RelV v u → Q v H' → CE outer P w H s Q u s' :=
    fun {σ' H' v u} J rv q => ⟨v, H', J.os, J.bare, J.base, J.hok, rv, q⟩
  cases fl with
  | ret u =>
    obtain ⟨v, σ', H', J, rv, q⟩ := hs
    exact fin J rv q
  | next =>
    obtain ⟨σ', H', J, q⟩ := hs
    exact fin (v := V.non) (u := Value.none) J rfl q
  | brk =>
    obtain ⟨_, _, _, q⟩ := hs
    exact False.elim q
  | cont =>
    obtain ⟨_, _, _, q⟩ := hs
    exact False.elim q
/-- the def that the module's name y holds -/
def FnD (P : Program) (w : World) (K : PySem.W.Frag) (mg : Str → Option Value) (base : Heap) (k : Nat) (y : Str) (n : Nat) (g : List Va → M Va) : Prop :=
  ∃ (f : Addr) (fd : FuncData) (ps : List Str), FnG P w K mg base k f fd ps (spD ⟨K, mg, none⟩ n g) ∧ Binds K fd ps [] ∧ PySem.W.keepIn K (.ref f) = true ∧ mg y = some (.ref f)
theorem FnD.mono {P : Program} {w : World} {K : PySem.W.Frag} {mg : Str → Option Value} {base : Heap} {j k : Nat} {y : Str} {n : Nat} {g : List Va → M Va} (F : FnD P w K mg base j y n g) (h : j ≤ k) : FnD P w K mg base k y n g :=
  let ⟨f, fd, ps, F1, r⟩ := F
  ⟨f, fd, ps, F1.mono h, r⟩
/-- the arguments hold no exception -/
def noExc : List Va → Bool
  | [] => true
  | .exc _ _ :: _ => false
  | _ :: r => noExc r
section
variable {K : PySem.W.Frag} {mg : Str → Option Value} {x x' : ExI} {μ : Mu} {H : Hp}
mutual
theorem DV.exi : ∀ (d : D) {v : V}, DV ⟨K, mg, x⟩ μ H d v → DV ⟨K, mg, x'⟩ μ H d v
  | .non, v, h => by simpa only [DV] using h
  | .bl b, v, h => by simpa only [DV] using h
  | .int i, v, h => by simpa only [DV] using h
  | .str s, v, h => by simpa only [DV] using h
  | .tup ds, v, h => by
    simp only [DV] at h ⊢
    obtain ⟨a, xs, e, q, r⟩ := h
    exact ⟨a, xs, e, q, DVs.exi ds r⟩
  | .lst ds, v, h => by
    simp only [DV] at h ⊢
    obtain ⟨a, xs, e, n, q, r⟩ := h
    exact ⟨a, xs, e, n, q, DVs.exi ds r⟩
  | .glo g, v, h => by simpa only [DV] using h
theorem DVs.exi : ∀ (ds : List D) {vs : List V}, DVs ⟨K, mg, x⟩ μ H ds vs → DVs ⟨K, mg, x'⟩ μ H ds vs
  | [], vs, h => by simpa only [DVs] using h
  | d :: ds, vs, h => by
    simp only [DVs] at h ⊢
    obtain ⟨v, r, e, q, t⟩ := h
    exact ⟨v, r, e, DV.exi d q, DVs.exi ds t⟩
end
theorem KVs.exi {κ : Type} : ∀ (kvs : List (κ × D)) {ys : List (κ × V)}, KVs ⟨K, mg, x⟩ μ H kvs ys → KVs ⟨K, mg, x'⟩ μ H kvs ys
  | [], ys, h => h
  | (k, d) :: r, ys, h => by
    obtain ⟨v, t, e, q, w⟩ := h
    exact ⟨v, t, e, DV.exi d q, KVs.exi r w⟩
theorem OV.exi {b : Addr} : ∀ {o : Ob}, OV ⟨K, mg, x⟩ μ H b o → OV ⟨K, mg, x'⟩ μ H b o
  | .lst ds, h => let ⟨xs, e, q⟩ := h; ⟨xs, e, DVs.exi ds q⟩
  | .dK kvs, h => let ⟨xs, e, q⟩ := h; ⟨xs, e, KVs.exi kvs q⟩
  | .dT kvs, h => let ⟨xs, e, q⟩ := h; ⟨xs, e, KVs.exi kvs q⟩
theorem XR.exi {c : Str} {fs : List (Str × D)} {cv : Value} {dx : Option Addr} (h : XR ⟨K, mg, x⟩ μ H c fs cv dx) : XR ⟨K, mg, x'⟩ μ H c fs cv dx :=
  let ⟨h1, d, ys, e1, n, e2, q⟩ := h
  ⟨h1, d, ys, e1, n, e2, KVs.exi fs q⟩
theorem SV.exi {st : Sto} (h : SV ⟨K, mg, x⟩ μ H st) : SV ⟨K, mg, x'⟩ μ H st :=
  ⟨h.len, h.inj, fun k o e => (h.here k o e).imp (fun ⟨a, e, q⟩ => ⟨a, e, OV.exi q⟩) id⟩
theorem noExc_go : ∀ {as : List Va} {vs : List V}, noExc as = true → AVs ⟨K, mg, x⟩ μ H as vs → AVs ⟨K, mg, x'⟩ μ H as vs
  | [], vs, e, h => h
  | .val d :: as, vs, e, h => let ⟨v, r, e1, q, t⟩ := h; ⟨v, r, e1, DV.exi d q, noExc_go (as := as) e t⟩
  | .obj k :: as, vs, e, h => let ⟨v, r, e1, q, t⟩ := h; ⟨v, r, e1, q, noExc_go (as := as) e t⟩
  | .exc c fs :: as, vs, e, h => by unfold noExc at e; cases e
  | .scr ns :: as, vs, e, h => let ⟨v, r, e1, q, t⟩ := h; ⟨v, r, e1, q, noExc_go (as := as) e t⟩
/-- the ends of a call, for the caller -/
theorem Fin.exi {E : XK} {Q : VK} {n : Nat} {μ : Mu} {H : Hp} : ∀ {r : Option (R Va × Sto)}, Fin ⟨K, mg, x⟩ E μ H (fun a _ μ' H' => ∀ v, AV ⟨K, mg, x⟩ μ' H' a v → Q v H') (cutR n r) → Fin ⟨K, mg, x'⟩ E μ H (fun a _ μ' H' => ∀ v, AV ⟨K, mg, x'⟩ μ' H' a v → Q v H') (cutR n r) := fun {r} h => by
  cases e : cutR n r with
  | none => rw [e] at h; exact h
  | some p =>
    obtain ⟨f, st⟩ := p
    rw [e] at h
    cases f with
    | ex c fs => exact fun cv dx μ' H' ev sv q => h cv dx μ' H' ev sv.exi q.exi
    | ok a =>
      refine fun μ' H' ev sv v q => h μ' H' ev sv.exi v ?_
      cases a with
      | val d => exact DV.exi d q
      | obj k => exact q
      | exc c fs =>
        exfalso
        revert e
        unfold cutR
        split
        · intro z; cases z
        · split
          · intro z; cases z
          · split
            · intro z; cases z
            · intro z; cases z
            · intro z; cases z
        · intro z; cases z
        · intro z; cases z
      | scr ns => exact q
end
/-- the ends of a body -/
def bodyR : Option (Fl × Sto) → Option (R Va × Sto)
  | some (.nx _, st) => some (.ok (.val .non), st)
  | some (.rt a, st) => some (.ok a, st)
  | some (.ex _ c fs, st) => some (.ex c fs, st)
  | _ => none
/-- a def with NL names, n of them parameters -/
def mFn (NL n : Nat) (m : En → MS) : List Va → M Va := fun as st => if as.length = n ∧ noExc as = true then cutR st.length (bodyR (m (as.map some ++ List.replicate (NL - n) none) st)) else none
theorem EV.start {S : Ks} {μ : Mu} {H : Hp} {N : List Str} : ∀ {as : List Va} {vs : List V}, AVs S μ H as vs → EV S μ H (as.map some ++ List.replicate (N.length - as.length) none) (L2.start N vs) := fun {as vs} h => by
  have hl := h.length
  refine ⟨by simp [L2.start, hl], fun i d e => ?_⟩
  by_cases hi : i < as.length
  · rw [List.getElem?_append_left (by simpa using hi), List.getElem?_map] at e
    have e1 : as[i]? = some d := by
      cases q : as[i]? with
      | none => rw [q] at e; cases e
      | some z => rw [q] at e; cases e; rfl
    obtain ⟨v, e2, q⟩ := h.get e1
    refine ⟨v, ?_, q⟩
    unfold L2.start
    rw [List.getElem?_append_left (by simp; omega), List.getElem?_map, e2]; rfl
  · rw [List.getElem?_append_right (by simpa using hi)] at e
    rw [List.getElem?_replicate] at e
    split at e <;> cases e
theorem FinS.body {S : Ks} {E : XK} {Q : VK} {μ : Mu} {H : Hp} : ∀ {r : Option (Fl × Sto)}, Fin S E μ H (fun a _ μ' H' => ∀ v, AV S μ' H' a v → Q v H') (bodyR r) → FinS S (fun c d _ H => E c d H) { nx := fun _ H' => Q .non H', rt := Q } μ H r
  | none, h => h
  | some (.nx ρ, st), h => fun μ' H' σ e s v => h μ' H' e s .non (by simp only [AV, DV])
  | some (.rt a, st), h => fun μ' H' v e s q => h μ' H' e s v q
  | some (.ex ρ c fs, st), h => fun cv dx μ' H' σ e s v q => h cv dx μ' H' e s q
  | some (.bk ρ, st), h => h.elim
  | some (.ct ρ, st), h => h.elim
section
variable {P : Program} {w : World} {K : PySem.W.Frag} {mg : Str → Option Value} {base : Heap}
/-- THE RULE for a def -/
theorem fn_d {y qual : Str} {st : Stmt} {f : Addr} {fd : FuncData} {N ps : List Str} {k n : Nat} {m : En → MS} (F : Fun K y qual st f fd) (Sc : FnScope N ps (defScope st)) (hm : mg y = some (.ref f)) (hn : ps.length = n)
    (hb : ∀ (kV doc pm : Value) (an : Option Addr) (cdv ct : Value) (us : List Value), us.length = ps.length → bindArgs (PySem.W.fnOf y qual (defArgs st) (defBody st) (defScope st) .none kV doc pm an cdv ct) ⟨us, []⟩ = pure (ps.zip us))
    (hbody : ∀ (cdv : Value) (A : Around) (outer : List Env) (s : Shared) (H : Hp) (E : XK), Room k (A.deeper (envOfC qual (defScope st) s.heap.objs.size f cdv)) → (A.deeper (envOfC qual (defScope st) s.heap.objs.size f cdv)).guards = some [] →
      SDs (cxOf (L2.CX P w) P w K mg base N qual (defScope st) f cdv A outer s H E) none (fun c d _ H => E c d H) (defBody st) m) : FnD P w K mg base (k + 1) y n (mFn N.length n m) := by
  refine ⟨f, fd, ps, ?_, F.binds hb, F.kp, hm⟩
  obtain ⟨oc, od, kV, doc, pm, an, cdv, ct, osl, rfl, lk, hcd⟩ := F.ex
  refine fn_ofG lk hcd Sc (fun vs H Q E h => ?_) (fun A outer s H vs Q E hr hG h => ?_)
  · obtain ⟨μ, st, as, sv, av, hl, _⟩ := h
    rw [av.length, hl, hn]
  · obtain ⟨μ, st1, as, sv, av, hl, h⟩ := h
    refine ⟨_, hbody cdv A outer s H E hr hG, μ, st1, _, EV.start (N := N) av, sv, FinS.body ?_⟩
    unfold mFn at h
    by_cases z : as.length = n ∧ noExc as = true
    · rw [if_pos z] at h
      rw [z.1]
      exact Fin.cut sv.len h
    · rw [if_neg z] at h; exact h.elim
end
/-! ### calls -/
theorem call_takes {X : Cx} {W : WX} (tk : Takes X W) {pins : List (Addr × Obj)} {σ : L2.St} {H : Hp} {s : Shared} {e : Value} {s' : Shared} (I : L2.Inv X pins σ H s) (c : L2.CX X.prog X.w X.stack H s (WE W σ) e s') : X.xe e s' :=
  tk _ _ (XE.of_call I (fun _ _ _ h => h) c)
theorem run_fnW {X : Cx} {W : WX} {k : Nat} {f : Addr} {fd : FuncData} {ps : List Str} {sp : Sp} {pins : List (Addr × Obj)} {σ : L2.St} {H : Hp} {s : Shared} {Q : VK} {us : List Value} {vs : List V} (F : FnG X.prog X.w X.K X.mg X.base k f fd ps sp) (hr : Room k X.A) (hG : X.A.guards = some []) (hb : Binds X.K fd ps []) (tk : Takes X W)
    (I : L2.Inv X pins σ H s) (r : Vals vs us) (h : sp vs H Q (WE W σ)) : wpAny (model X.prog X.w) X.A (call (.ref f) us) (EP X pins σ Q) X.xe s := by
  have hl : (us ++ []).length = ps.length := by
    rw [List.append_nil, ← r.length]
    exact F.len _ _ _ _ h
  have hb' := hb s us I.kIn hl
  rw [List.append_nil] at hb'
  refine wpAny_call (codeAny_mono (F.run X.A X.stack s H ⟨us, []⟩ us vs Q (WE W σ) hr hG I.env0 hb' r h) fun r s' hq => ?_)
  cases r with
  | error e => exact call_takes tk I hq
  | ok fl =>
    cases fl with
    | ret u => exact I.after hq
    | next => exact False.elim hq
    | brk => exact False.elim hq
    | cont => exact False.elim hq
def mCall (g : List Va → M Va) (m : En → M (List Va)) : En → M Va := fun ρ => M.bind (m ρ) g
section
variable {X : Cx} {x : ExI} {W : WX} {pos p : Pos} {e : Expr} {es : List Expr} {m : En → M (List Va)} {k n : Nat} {g : List Va → M Va} {y : Str} {N n' : Nat} {mb : En → MS}
/-- what spD wants of arguments -/
theorem spD_of {σ : L2.St} {μ : Mu} {H : Hp} {st : Sto} {as : List Va} {vs : List V} {Q : VK} (sv : SV (ks X x) μ H st) (av : AVs (ks X x) μ H as vs)
    (h : Fin (ks X x) (WE W σ) μ H (fun a _ μ' H' => ∀ v, AV (ks X x) μ' H' a v → Q v H') (mFn N n mb as st)) : spD ⟨X.K, X.mg, none⟩ n (mFn N n mb) vs H Q (WE W σ) := by
  unfold mFn at h
  by_cases z : as.length = n ∧ noExc as = true
  · refine ⟨μ, st, as, sv.exi, noExc_go z.2 av, z.1, ?_⟩
    unfold mFn
    rw [if_pos z] at h ⊢
    exact Fin.exi h
  · rw [if_neg z] at h; exact h.elim
/-- f(e, ..), f a def of the module -/
theorem ed_call (F : FnD X.prog X.w X.K X.mg X.base k y n (mFn N n mb)) (hr : Room k X.A) (hG : X.A.guards = some []) (tk : Takes X W) (ha : AD X x W (e :: es) m) (hg : Gl X y := by rfl) (hdb : (y == ("__debug__" : Str)) = false := by decide)
    (he : starEach (e :: es) X.env = (false, eval e X.env) :: starEach es X.env := by rfl) (hpl : (backTo pos (starEach es X.env)).any (·.1) = false := by rfl) : ED X x W (.Call (.Name y p) (e :: es) [] pos) (mCall (mFn N n mb) m) := by
  obtain ⟨f, fd, ps, F1, hb, hk, hm⟩ := F
  refine ⟨fun pins s σ H Q I h => ?_⟩
  obtain ⟨μ, st, ρ, ev, sv, h⟩ := h
  refine wpAny_Call_Name_kw (ld_glob I hg hm ?_ hdb)
  refine PySem.W.callWith_K (h₀ := X.base) I.ok.mod.kin hk (thn (L2.PA.run ha pos pins s σ H (fun vs H1 => spD ⟨X.K, X.mg, none⟩ n (mFn N n mb) vs H1 Q (WE W σ)) I ⟨μ, st, ρ, ev, sv, Fin.map (fun as st1 μ1 H1 e1 s1 h1 vs hv => spD_of s1 hv h1) (Fin.bind h)⟩) fun us s1 ⟨vs, H1, I1, r, q⟩ => ⟨I1.kIn, ?_⟩) he hpl
  exact run_fnW F1 hr hG hb tk I1 r q
/-- f() -/
theorem ed_call0 (F : FnD X.prog X.w X.K X.mg X.base k y n (mFn N n mb)) (hr : Room k X.A) (hG : X.A.guards = some []) (tk : Takes X W) (hg : Gl X y := by rfl) (hdb : (y == ("__debug__" : Str)) = false := by decide) : ED X x W (.Call (.Name y p) [] [] pos) (mCall (mFn N n mb) mNil) := by
  obtain ⟨f, fd, ps, F1, hb, hk, hm⟩ := F
  refine ⟨fun pins s σ H Q I h => ?_⟩
  obtain ⟨μ, st, ρ, ev, sv, h⟩ := h
  refine wpAny_Call_Name_kw (ld_glob I hg hm ?_ hdb)
  refine PySem.W.callWith_K0 I.kIn hk (run_fnW F1 hr hG hb tk I .nil (spD_of (x := x) (as := []) sv AVs.nil ?_))
  exact h
end
end DL
end

section
set_option Elab.async false
set_option linter.all false
set_option maxRecDepth 100000
set_option maxHeartbeats 4000000
/-! Loops and comprehensions over plain data. -/
namespace DL
open PySem PySem.Spec PyProof.Rows L2

/-- the iterator walks ds, whatever else goes on -/
def WalkD (S : Ks) (μ : Mu) (H : Hp) (ds : List D) (J : It) : Prop :=
  ∃ (G : Hp → Prop) (Y : Nat → Hp → V → Hp → Prop), Walk J ds.length G Y ∧ (∀ μ2 H2, Ev μ H μ2 H2 → G H2) ∧
    ∀ i μ2 H2 v H3, Ev μ H μ2 H2 → i < ds.length → Y i H2 v H3 → ∃ d, ds[i]? = some d ∧ DV S μ2 H3 d v ∧ Ev μ2 H2 μ2 H3 ∧ ∀ st, SV S μ2 H2 st → SV S μ2 H3 st
def tDI (S : Ks) (W : WX) (m : En → M (List D)) : TI := fun σ H R => ∃ μ st ρ, EV S μ H ρ σ ∧ SV S μ H st ∧ Fin S (WE W σ) μ H (fun ds _ μ' H' => ∀ J, WalkD S μ' H' ds J → R J H') (m ρ st)
def ID (X : Cx) (x : ExI) (W : WX) (tg iter : Expr) (m : En → M (List D)) : Prop := PI X tg iter (tDI (ks X x) W m)
theorem PI.imp {X : Cx} {tg e : Expr} {t t' : TI} (h : PI X tg e t) (f : ∀ σ H Q, t' σ H Q → t σ H Q) : PI X tg e t' := ⟨fun pins s σ H Q I q => h.run pins s σ H Q I (f σ H Q q)⟩
theorem ID.of {X : Cx} {x : ExI} {W : WX} {tg e : Expr} {m : En → M (List D)} {t : TI} (h : PI X tg e t)
    (f : ∀ (σ : L2.St) (H : Hp) (Q : It → Hp → Prop) (μ : Mu) (st : Sto) (ρ : En), EV (ks X x) μ H ρ σ → SV (ks X x) μ H st → Fin (ks X x) (WE W σ) μ H (fun ds _ μ' H' => ∀ J, WalkD (ks X x) μ' H' ds J → Q J H') (m ρ st) → t σ H Q) : ID X x W tg e m :=
  PI.imp h fun σ H Q ⟨μ, st, ρ, ev, sv, h⟩ => f σ H Q μ st ρ ev sv h

/-- lists and tuples -/
def iSeq (K : PySem.W.Frag) (tl : TE) : TI := fun σ H R => tl σ H fun x H1 => ∃ a xs, x = .ref a ∧ ((SqL K H1 a xs ∧ R (Itl K a) H1) ∨ (SqT K H1 a xs ∧ R (Itt K a) H1))
theorem pi_seq {X : Cx} {tg l : Expr} {tl : TE} (hl : PE X l tl) : PI X tg l (iSeq X.K tl) := by
  refine ⟨fun pins s σ H R I h => ?_⟩
  refine thn (hl.run pins s σ H _ I h) fun v s1 ⟨x, H1, I1, r1, q1⟩ => ?_
  obtain ⟨a, xs, e, q⟩ := q1
  subst e
  cases r1
  rcases q with ⟨hq, q⟩ | ⟨hq, q⟩
  · obtain ⟨its, rv, p, hz⟩ := I1.list hq
    refine wpAny_pyIter_list p.isList ?_
    refine ⟨s1.heap.objs.size, [s1.heap.objs.size], _, _, H1, rfl, I1.kept (t' := s1.toks) fun b o e => Heap.get?_push_of_some _ e, turn_list a _, ⟨_, Heap.get?_push_size _ rfl, rfl, rfl⟩, fun b hb => ?_, q⟩
    have e : b = s1.heap.objs.size := by simpa using hb
    subst e
    exact I1.fpOk (Nat.le_refl _) (I1.hok.fresh (Nat.le_refl _))
  · obtain ⟨its, rv, p, hz⟩ := I1.tuple hq
    refine wpAny_pyIter_tuple (show s1.heap.IsTuple a its.toArray from p) ?_
    refine ⟨s1.heap.objs.size, [s1.heap.objs.size], _, _, H1, rfl, I1.kept (t' := s1.toks) fun b o e => Heap.get?_push_of_some _ e, turn_tuple a _, ⟨_, Heap.get?_push_size _ rfl, rfl, rfl⟩, fun b hb => ?_, q⟩
    have e : b = s1.heap.objs.size := by simpa using hb
    subst e
    exact I1.fpOk (Nat.le_refl _) (I1.hok.fresh (Nat.le_refl _))
/-- the items of a list or tuple -/
def seqOf : Va → M (List D)
  | .val (.lst ds) => M.pure ds
  | .val (.tup ds) => M.pure ds
  | _ => stuck
def mSeqI (m : En → M Va) : En → M (List D) := fun ρ => M.bind (m ρ) seqOf
theorem rd_sql {K : PySem.W.Frag} {H : Hp} {a : Addr} {xs : List V} (h : Rd H a (.lst xs)) : SqL K H a xs := .inl h
theorem walkD_list {S : Ks} {μ : Mu} {H : Hp} {ds : List D} {a : Addr} {xs : List V} (n : some a ∉ μ) (h : Rd H a (.lst xs)) (dv : DVs S μ H ds xs) : WalkD S μ H ds (Itl S.K a) := by
  have hl := dv.length
  refine ⟨fun H => SqL S.K H a xs, YAt xs, by rw [← hl]; exact walk_list, fun μ2 H2 e => rd_sql (Rd.go e n h), fun i μ2 H2 v H3 e hi y => ?_⟩
  obtain ⟨rfl, y⟩ := y
  obtain ⟨d, h1, h2⟩ := (DVs.go e ds dv).get' y
  exact ⟨d, h1, h2, Ev.refl _ _, fun st s => s⟩
theorem walkD_tup {S : Ks} {μ : Mu} {H : Hp} {ds : List D} {a : Addr} {xs : List V} (h : SqT S.K H a xs) (dv : DVs S μ H ds xs) : WalkD S μ H ds (Itt S.K a) := by
  have hl := dv.length
  refine ⟨fun H => SqT S.K H a xs, YAt xs, by rw [← hl]; exact walk_tup, fun μ2 H2 e => SqT.go e h, fun i μ2 H2 v H3 e hi y => ?_⟩
  obtain ⟨rfl, y⟩ := y
  obtain ⟨d, h1, h2⟩ := (DVs.go e ds dv).get' y
  exact ⟨d, h1, h2, Ev.refl _ _, fun st s => s⟩
section
variable {X : Cx} {x : ExI} {W : WX} {pos p : Pos} {e e2 tg iter elt : Expr} {es : List Expr} {me m1 m2 : En → M Va} {mi : En → M (List D)} {ma : En → M (List Va)}
theorem id_seq (h : ED X x W e me) : ID X x W tg e (mSeqI me) := by
  refine ID.of (pi_seq h) fun σ H Q μ st ρ ev sv hf => ⟨μ, st, ρ, ev, sv, Fin.map (fun a st1 μ1 H1 e1 s1 h1 v hv => ?_) (Fin.bind hf)⟩
  cases a with
  | obj k => exact h1.elim
  | exc c fs => exact h1.elim
  | scr ns => exact h1.elim
  | val d =>
    cases d with
    | lst ds =>
      simp only [AV, DV] at hv
      obtain ⟨a, xs, rfl, n, q, r⟩ := hv
      exact ⟨a, xs, rfl, .inl ⟨rd_sql q, Fin.pure s1 h1 _ (walkD_list (S := ks X x) n q r)⟩⟩
    | tup ds =>
      simp only [AV, DV] at hv
      obtain ⟨a, xs, rfl, q, r⟩ := hv
      exact ⟨a, xs, rfl, .inr ⟨q, Fin.pure s1 h1 _ (walkD_tup (S := ks X x) q r)⟩⟩
    | non | bl | int | str | glo => exact h1.elim
/-! ### ranges -/
def intsR (lo : Int) (n : Nat) : List D := (List.range n).map fun i => .int (lo + (i : Nat))
def intsC (lo c : Int) (n : Nat) : List D := (List.range n).map fun i => .int (lo + (i : Nat) * c)
def B62 (i : Int) : Prop := -(2 ^ 62) ≤ i ∧ i < 2 ^ 62
instance (i : Int) : Decidable (B62 i) := by unfold B62; exact inferInstance
def rangeOf1 : List Va → M (List D)
  | [.val (.int j)] => if B62 j then M.pure (intsR 0 j.toNat) else stuck
  | _ => stuck
def rangeOf2 : List Va → M (List D)
  | [.val (.int i), .val (.int j)] => if B62 i ∧ B62 j then M.pure (intsR i (j - i).toNat) else stuck
  | _ => stuck
def rangeOf3 : List Va → M (List D)
  | [.val (.int i), .val (.int j), .val (.int c)] => if B62 i ∧ B62 j ∧ c = -1 then M.pure (intsC i (-1) (i - j).toNat) else stuck
  | _ => stuck
def mArgI (f : List Va → M (List D)) (m : En → M (List Va)) : En → M (List D) := fun ρ => M.bind (m ρ) f
theorem walkD_range {S : Ks} {μ : Mu} {H : Hp} {lo : Int} {n : Nat} : WalkD S μ H (intsR lo n) (Itr lo n) := by
  have hl : (intsR lo n).length = n := by simp [intsR]
  refine ⟨fun _ => True, YFn fun i => .int (lo + i), by rw [hl]; exact walk_range, fun _ _ _ => trivial, fun i μ2 H2 v H3 e hi y => ?_⟩
  obtain ⟨rfl, rfl⟩ := y
  rw [hl] at hi
  exact ⟨.int (lo + i), by simp [intsR, List.getElem?_range, hi], by simp only [DV], Ev.refl _ _, fun st s => s⟩
theorem walkD_rangeC {S : Ks} {μ : Mu} {H : Hp} {lo c : Int} {n : Nat} : WalkD S μ H (intsC lo c n) (Itc lo c n) := by
  have hl : (intsC lo c n).length = n := by simp [intsC]
  refine ⟨fun _ => True, YFn fun i => .int (lo + (i : Nat) * c), by rw [hl]; exact walk_rangeC, fun _ _ _ => trivial, fun i μ2 H2 v H3 e hi y => ?_⟩
  obtain ⟨rfl, rfl⟩ := y
  rw [hl] at hi
  exact ⟨.int (lo + (i : Nat) * c), by simp [intsC, List.getElem?_range, hi], by simp only [DV], Ev.refl _ _, fun st s => s⟩
theorem avs_cons {S : Ks} {μ : Mu} {H : Hp} {a : Va} {as : List Va} {vs : List V} (h : AVs S μ H (a :: as) vs) : ∃ v r, vs = v :: r ∧ AV S μ H a v ∧ AVs S μ H as r := h
theorem avs_nil {S : Ks} {μ : Mu} {H : Hp} {vs : List V} (h : AVs S μ H [] vs) : vs = [] := h
theorem av_int {S : Ks} {μ : Mu} {H : Hp} {i : Int} {v : V} (h : AV S μ H (.val (.int i)) v) : v = .int i := by simpa only [AV, DV] using h
theorem id_range1 (hm : X.mg "range" = none) (ha : AD X x W [e] ma) (hg : Gl X "range" := by rfl) (hs : starEach [e] X.env = [(false, eval e X.env)] := by rfl) : ID X x W tg (.Call (.Name "range" p) [e] [] pos) (mArgI rangeOf1 ma) := by
  refine ID.of (pi_range1 hg hm ha hs) fun σ H Q μ st ρ ev sv hf => ⟨μ, st, ρ, ev, sv, Fin.map (fun as st1 μ1 H1 e1 s1 h1 v hv => ?_) (Fin.bind hf)⟩
  unfold rangeOf1 at h1
  split at h1
  · rename_i j
    obtain ⟨v1, r, rfl, q1, q2⟩ := avs_cons hv
    have := avs_nil q2
    have := av_int q1
    subst_vars
    split at h1
    · rename_i z
      exact ⟨j, rfl, z.1, z.2, Fin.pure s1 h1 _ walkD_range⟩
    · exact h1.elim
  · exact h1.elim
theorem id_range2 (hm : X.mg "range" = none) (ha : AD X x W [e, e2] ma) (hg : Gl X "range" := by rfl) (hs : starEach [e, e2] X.env = [(false, eval e X.env), (false, eval e2 X.env)] := by rfl) (hs2 : starEach [e2] X.env = [(false, eval e2 X.env)] := by rfl) : ID X x W tg (.Call (.Name "range" p) [e, e2] [] pos) (mArgI rangeOf2 ma) := by
  refine ID.of (pi_range2 hg hm ha hs hs2) fun σ H Q μ st ρ ev sv hf => ⟨μ, st, ρ, ev, sv, Fin.map (fun as st1 μ1 H1 e1 s1 h1 v hv => ?_) (Fin.bind hf)⟩
  unfold rangeOf2 at h1
  split at h1
  · rename_i i j
    obtain ⟨v1, r, rfl, q1, q2⟩ := avs_cons hv
    obtain ⟨v2, r, rfl, q3, q4⟩ := avs_cons q2
    have := avs_nil q4
    have := av_int q1
    have := av_int q3
    subst_vars
    split at h1
    · rename_i z
      exact ⟨i, j, rfl, ⟨z.1.1, z.1.2, z.2.1, z.2.2⟩, Fin.pure s1 h1 _ walkD_range⟩
    · exact h1.elim
  · exact h1.elim
theorem id_range3 {e3 : Expr} (hm : X.mg "range" = none) (ha : AD X x W [e, e2, e3] ma) (hg : Gl X "range" := by rfl) (hs : starEach [e, e2, e3] X.env = (false, eval e X.env) :: starEach [e2, e3] X.env := by rfl) (hpl : (backTo pos (starEach [e2, e3] X.env)).any (·.1) = false := by rfl) : ID X x W tg (.Call (.Name "range" p) [e, e2, e3] [] pos) (mArgI rangeOf3 ma) := by
  refine ID.of (pi_range3 hg hm ha hs hpl) fun σ H Q μ st ρ ev sv hf => ⟨μ, st, ρ, ev, sv, Fin.map (fun as st1 μ1 H1 e1 s1 h1 v hv => ?_) (Fin.bind hf)⟩
  unfold rangeOf3 at h1
  split at h1
  · rename_i i j c
    obtain ⟨v1, r, rfl, q1, q2⟩ := avs_cons hv
    obtain ⟨v2, r, rfl, q3, q4⟩ := avs_cons q2
    obtain ⟨v3, r, rfl, q5, q6⟩ := avs_cons q4
    have := avs_nil q6
    have := av_int q1
    have := av_int q3
    have := av_int q5
    subst_vars
    split at h1
    · rename_i z
      obtain ⟨z1, z2, rfl⟩ := z
      exact ⟨i, j, -1, _, rfl, RgC.neg z1.1 z1.2 z2.1 z2.2, Fin.pure s1 h1 _ walkD_rangeC⟩
    · exact h1.elim
  · exact h1.elim
/-! ### zip of two lists or two tuples -/
def zipD (xs ys : List D) : List D := (xs.zip ys).map fun p => .tup [p.1, p.2]
def zipOf : List Va → M (List D)
  | [.val (.lst xs), .val (.lst ys)] => M.pure (zipD xs ys)
  | [.val (.tup xs), .val (.tup ys)] => M.pure (zipD xs ys)
  | _ => stuck
theorem zip_get {xs ys : List D} {i : Nat} {a b : D} (h1 : xs[i]? = some a) (h2 : ys[i]? = some b) : (zipD xs ys)[i]? = some (.tup [a, b]) := by
  simp [zipD, List.getElem?_map, List.zip, List.getElem?_zipWith, h1, h2]
theorem walkD_pair {S : Ks} {μ : Mu} {H : Hp} {ds es : List D} {xs ys : List V} {J : It} {G : Hp → Prop} (w : Walk J (zipD ds es).length G (YPair (fun i => xs[i]?) (fun i => ys[i]?))) (hG : ∀ μ2 H2, Ev μ H μ2 H2 → G H2) (d1 : DVs S μ H ds xs) (d2 : DVs S μ H es ys) : WalkD S μ H (zipD ds es) J := by
  refine ⟨G, _, w, hG, fun i μ2 H2 v H3 e hi y => ?_⟩
  obtain ⟨T, a, b, rfl, hT, rfl, h1, h2⟩ := y
  obtain ⟨da, g1, q1⟩ := (DVs.go e ds d1).get' h1
  obtain ⟨db, g2, q2⟩ := (DVs.go e es d2).get' h2
  refine ⟨_, zip_get g1 g2, ?_, Ev.made hT, fun st s => s.made hT⟩
  simp only [DV]
  exact ⟨T, _, rfl, SqT.of upd_same, DVs.cons (DV.go (Ev.made hT) da q1) (DVs.cons (DV.go (Ev.made hT) db q2) DVs.nil)⟩
theorem walk_zipT {K : PySem.W.Frag} {a b : Addr} {xs ys : List V} {n : Nat} (hn : n = min xs.length ys.length) : Walk (RZ.ItzT K a b) n (fun H => SqT K H a xs ∧ SqT K H b ys) (YPair (fun i => xs[i]?) (fun i => ys[i]?)) := by
  subst hn
  refine ⟨fun i _ hi q => ?_, fun _ q => ⟨xs, ys, q.1, q.2, by omega⟩, fun i H v H' _ q y => ?_⟩
  · have h1 : i < xs.length := by omega
    have h2 : i < ys.length := by omega
    exact ⟨xs, ys, xs[i], ys[i], q.1, q.2, by simp [h1], by simp [h2]⟩
  · obtain ⟨T, x, z, h1, h2, h3, h4, h5⟩ := y
    exact ⟨T, x, z, h1, h2, h3, h4 xs q.1, h5 ys q.2⟩
theorem id_zip {elts : List Expr} {kk : Nat} {tpos : Pos} (hm : X.mg "zip" = none) (ha : AD X x W [e, e2] ma) (hg : Gl X "zip" := by rfl) (hs : starEach [e, e2] X.env = (false, eval e X.env) :: starEach [e2] X.env := by rfl) (hpl : (backTo pos (starEach [e2] X.env)).any (·.1) = false := by rfl) :
    ID X x W (.Tuple elts kk tpos) (.Call (.Name "zip" p) [e, e2] [] pos) (mArgI zipOf ma) := by
  refine ID.of (RZ.pi_zipA hg hm ha hs hpl) fun σ H Q μ st ρ ev sv hf => ⟨μ, st, ρ, ev, sv, Fin.map (fun as st1 μ1 H1 e1 s1 h1 v hv => ?_) (Fin.bind hf)⟩
  unfold zipOf at h1
  split at h1
  · rename_i ds es
    obtain ⟨v1, r, rfl, q1, q2⟩ := avs_cons hv
    obtain ⟨v2, r, rfl, q3, q4⟩ := avs_cons q2
    have := avs_nil q4
    subst this
    simp only [AV, DV] at q1 q3
    obtain ⟨a, xs, rfl, n1, c1, d1⟩ := q1
    obtain ⟨b, ys, rfl, n2, c2, d2⟩ := q3
    refine ⟨a, b, xs, ys, rfl, .inl ⟨rd_sql c1, rd_sql c2, Fin.pure s1 h1 _ ?_⟩⟩
    exact walkD_pair (S := ks X x) (walk_zip (by simp [zipD, d1.length, d2.length])) (fun μ2 H2 e => ⟨rd_sql (Rd.go e n1 c1), rd_sql (Rd.go e n2 c2)⟩) d1 d2
  · rename_i ds es
    obtain ⟨v1, r, rfl, q1, q2⟩ := avs_cons hv
    obtain ⟨v2, r, rfl, q3, q4⟩ := avs_cons q2
    have := avs_nil q4
    subst this
    simp only [AV, DV] at q1 q3
    obtain ⟨a, xs, rfl, c1, d1⟩ := q1
    obtain ⟨b, ys, rfl, c2, d2⟩ := q3
    refine ⟨a, b, xs, ys, rfl, .inr ⟨c1, c2, Fin.pure s1 h1 _ ?_⟩⟩
    exact walkD_pair (S := ks X x) (walk_zipT (by simp [zipD, d1.length, d2.length])) (fun μ2 H2 e => ⟨SqT.go e c1, SqT.go e c2⟩) d1 d2
  · exact h1.elim
/-! ### for -/
def forGo (g : Va → En → Option En) (body : En → MS) : List D → En → MS
  | [], ρ, st => some (.nx ρ, st)
  | d :: r, ρ, st => match g (.val d) ρ with
    | none => none
    | some ρ1 => match body ρ1 st with
      | some (.nx ρ2, st2) => forGo g body r ρ2 st2
      | some (.ct ρ2, st2) => forGo g body r ρ2 st2
      | some (.bk ρ2, st2) => some (.nx ρ2, st2)
      | r => r
def mFor (it : En → M (List D)) (g : Va → En → Option En) (body : En → MS) : En → MS := fun ρ st => onE (it ρ st) ρ fun ds st' => forGo g body ds ρ st'
theorem sd_for {ls : List Nat} {g : Va → En → Option En} {body : List Stmt} {mb : En → MS} (hp : PassesOwn (model X.prog X.w) X.A X.env X.xe) (hi : ID X x W tg iter mi) (hg : GD X x tg ls g) (hb : SDs X x W body mb) (hc : X.calm = true := by rfl)
    (hs : ∀ x, foldedSetIterable iter X.env x = pure x := by intro _; rfl) : SD X x W (.For tg iter body [] pos) (mFor mi g mb) := by
  refine SD.of (ps_for hp hc hi hg hb hs) fun Ds σ H μ st ρ ev sv h => ⟨μ, st, ρ, ev, sv, Fin.map (fun ds st1 μ1 H1 e1 s1 h1 J hJ => ?_) (FinS.onE ev h)⟩
  obtain ⟨G, Y, w, hG, hY⟩ := hJ
  refine for_it w (fun i σ H => ∃ μ' st' ρ', EV (ks X x) μ' H ρ' σ ∧ SV (ks X x) μ' H st' ∧ Ev μ1 H1 μ' H ∧ FinS (ks X x) W Ds μ' H (forGo g mb (ds.drop i) ρ' st')) ⟨μ1, st1, ρ, ev.go e1, s1, Ev.refl _ _, h1⟩
    (fun i σ H _ ⟨μ', st', ρ', _, _, e, _⟩ => hG μ' H e) (fun i v σ H H' hi ⟨μ', st', ρ', ev', sv', e, h2⟩ y => ?_) (fun σ H ⟨μ', st', ρ', ev', sv', e, h2⟩ => ?_)
  · obtain ⟨d, hd, dv, ey, sy⟩ := hY i μ' H v H' e hi y
    have hdrop : ds.drop i = d :: ds.drop (i + 1) := by
      rw [List.drop_eq_getElem_cons hi]
      rw [List.getElem?_eq_getElem hi] at hd
      rw [Option.some.inj hd]
    rw [hdrop] at h2
    unfold forGo at h2
    refine ⟨μ', st', ρ', .val d, ev'.go ey, sy st' sv', dv, ?_⟩
    cases e2 : g (.val d) ρ' with
    | none => simp only [e2] at h2; exact h2
    | some ρ1 =>
      simp only [e2] at h2
      refine fun σ' ev1 _ => ⟨μ', st', ρ1, ev1, sy st' sv', ?_⟩
      cases e3 : mb ρ1 st' with
      | none => simp only [e3] at h2; exact h2
      | some p =>
        obtain ⟨f, st2⟩ := p
        simp only [e3] at h2
        cases f with
        | nx ρ2 => exact fun μ2 H2 σ2 ev2 sv2 q => ⟨μ2, st2, ρ2, q, sv2, (e.trans ey).trans ev2, FinS.go (ey.trans ev2) h2⟩
        | ct ρ2 => exact fun μ2 H2 σ2 ev2 sv2 q => ⟨μ2, st2, ρ2, q, sv2, (e.trans ey).trans ev2, FinS.go (ey.trans ev2) h2⟩
        | bk ρ2 => exact fun μ2 H2 σ2 ev2 sv2 q => h2 μ2 H2 σ2 (ey.trans ev2) sv2 q
        | rt a => exact fun μ2 H2 v ev2 sv2 q => h2 μ2 H2 v (ey.trans ev2) sv2 q
        | ex ρ2 c fs => exact fun cv dx μ2 H2 σ2 ev2 sv2 q => h2 cv dx μ2 H2 σ2 (ey.trans ev2) sv2 q
  · rw [List.drop_length] at h2
    exact FinS.nx sv' ev' h2
/-! ### while -/
def whileGo (c : En → M Bool) (body : En → MS) : Nat → En → MS
  | 0, _, _ => none
  | n + 1, ρ, st => onE (c ρ st) ρ fun b st1 => if b = true then (match body ρ st1 with
      | some (.nx ρ2, st2) => whileGo c body n ρ2 st2
      | some (.ct ρ2, st2) => whileGo c body n ρ2 st2
      | some (.bk ρ2, st2) => some (.nx ρ2, st2)
      | r => r) else some (.nx ρ, st1)
theorem sd_while {c : Expr} {body : List Stmt} {mc : En → M Bool} {mb : En → MS} (fuel : Nat) (hp : PassesOwn (model X.prog X.w) X.A X.env X.xe) (hc : TD X x W c mc) (hb : SDs X x W body mb) : SD X x W (.While c body [] pos) (whileGo mc mb fuel) := by
  refine SD.of (ps_while hp hc hb) fun Ds σ H μ st ρ ev sv h => ?_
  refine ⟨fun n σ H => ∃ μ' st' ρ', EV (ks X x) μ' H ρ' σ ∧ SV (ks X x) μ' H st' ∧ FinS (ks X x) W Ds μ' H (whileGo mc mb n ρ' st'), ⟨fuel, μ, st, ρ, ev, sv, h⟩, ?_⟩
  rintro n σ H ⟨μ', st', ρ', ev', sv', h2⟩
  cases n with
  | zero => exact h2.elim
  | succ n =>
    unfold whileGo at h2
    refine ⟨μ', st', ρ', ev', sv', Fin.map (fun b st1 μ1 H1 e1 s1 h1 => ?_) (FinS.onE ev' h2)⟩
    cases b with
    | false => exact iteF (FinS.nx s1 (ev'.go e1) h1)
    | true =>
      refine iteT ⟨fun σ2 H2 => ∃ μ2 st2 ρ2, EV (ks X x) μ2 H2 ρ2 σ2 ∧ SV (ks X x) μ2 H2 st2 ∧ FinS (ks X x) W Ds μ2 H2 (whileGo mc mb n ρ2 st2), fun σ2 H2 q => ⟨n, Nat.lt_succ_self n, q⟩, μ1, st1, ρ', ev'.go e1, s1, ?_⟩
      simp only [if_true] at h1
      cases e3 : mb ρ' st1 with
      | none => simp only [e3] at h1; exact h1
      | some p =>
        obtain ⟨f, st2⟩ := p
        simp only [e3] at h1
        cases f with
        | nx ρ2 => exact fun μ2 H2 σ2 ev2 sv2 q => ⟨μ2, st2, ρ2, q, sv2, FinS.go ev2 h1⟩
        | ct ρ2 => exact fun μ2 H2 σ2 ev2 sv2 q => ⟨μ2, st2, ρ2, q, sv2, FinS.go ev2 h1⟩
        | bk ρ2 => exact h1
        | rt a => exact h1
        | ex ρ2 c fs => exact h1
end
end DL
end

section
set_option Elab.async false
set_option linter.all false
set_option maxRecDepth 100000
set_option maxHeartbeats 4000000
/-! List comprehensions over plain data. -/
namespace DL
open PySem PySem.Spec PyProof.Rows L2

abbrev W0 : WX := fun _ _ _ _ => False
def mYes : En → M Bool := fun _ => M.pure true
def PTsD (X : Cx) (x : ExI) (ifs : List Expr) (m : En → M Bool) : Prop := PTs X ifs (tDT (ks X x) W0 m)
theorem PTs.imp {X : Cx} {e : List Expr} {t t' : TT} (h : PTs X e t) (f : ∀ σ H Q, t' σ H Q → t σ H Q) : PTs X e t' := ⟨fun pins s σ H Q I q => h.run pins s σ H Q I (f σ H Q q)⟩
theorem ptsD_nil {X : Cx} {x : ExI} : PTsD X x [] mYes := PTs.imp pts_nil fun σ H Q ⟨μ, st, ρ, ev, sv, h⟩ => Fin.pure sv h
theorem ptsD_one {X : Cx} {x : ExI} {c : Expr} {m : En → M Bool} (h : TD X x W0 c m) : PTsD X x [c] m := pts_one h
/-- the turns of a comprehension; its new list stands at the store's place n -/
def lcGo (n : Nat) (g : Va → En → Option En) (mt : En → M Bool) (me : En → M Va) (ρ : En) : List D → M Va
  | [], st => match st[n]? with
    | some (.lst acc) => some (.ok (.val (.lst acc)), st.take n)
    | _ => none
  | d :: r, st => match g (.val d) ρ with
    | none => none
    | some ρ2 => M.bind (mt ρ2) (fun b => if b = true then M.bind (me ρ2) (fun y st3 => match y with
        | .val y => (match st3[n]? with
          | some (.lst acc) => if acc.length < sizeLine then lcGo n g mt me ρ r (st3.set n (.lst (acc ++ [y]))) else none
          | _ => none)
        | _ => none) else lcGo n g mt me ρ r) st
def mLc (it : En → M (List D)) (g : Va → En → Option En) (mt : En → M Bool) (me : En → M Va) (vs : List Nat) : En → M Va := fun ρ => M.bind (it ρ) fun ds => calm fun st => lcGo st.length g mt me (wipeE ρ vs) ds (st ++ [.lst []])
theorem Fin.bindB {S : Ks} {E : XK} {μ μ1 : Mu} {H H1 : Hp} {α β : Type} (x : Ev μ H μ1 H1) {m : M α} {f : α → M β} {st : Sto} {K : β → Sto → Mu → Hp → Prop} (h : Fin S E μ H K (M.bind m f st)) :
    Fin S E μ1 H1 (fun a st1 _ _ => Fin S E μ H K (f a st1)) (m st) := by
  unfold M.bind at h
  cases e : m st with
  | none => rw [e] at h; exact h
  | some p =>
    obtain ⟨r, st'⟩ := p
    rw [e] at h
    cases r with
    | ok a => exact fun μ' H' ev sv => h
    | ex c fs => exact Fin.go x h
theorem Ev.old {μ1 μ : Mu} {H1 H : Hp} {n : Nat} {a : Addr} {S : Ks} {st : Sto} {o : Ob} (e : Ev μ1 H1 μ H) (h : μ1[n]? = some (some a)) (sv : SV S μ H st) (ho : st[n]? = some o) (hd : o ≠ .dead) : μ[n]? = some (some a) ∧ OV S μ H a o := by
  rcases sv.here n o ho with ⟨b, e1, q⟩ | ⟨_, z⟩
  · have hn : n < μ1.length := (List.getElem?_eq_some_iff.mp h).1
    rcases e.pre n hn with p | p
    · rw [p, h] at e1
      cases e1
      exact ⟨p.trans h, q⟩
    · rw [p] at e1; cases e1
  · exact absurd z hd
section
variable {X : Cx} {x : ExI} {W : WX} {pos p : Pos} {tg iter elt : Expr} {ifs : List Expr} {mi : En → M (List D)}
theorem lc_fin {ls : List Nat} {g : Va → En → Option En} {mt : En → M Bool} {me : En → M Va} {own : List (Str × Nat)} (hls : ∀ i ∈ ls, i ∈ own.map (·.2)) {σ : L2.St} {H : Hp} {Q : VK} {μ : Mu} {st : Sto} {ρ : En} (ev : EV (ks X x) μ H ρ σ) (sv : SV (ks X x) μ H st)
    (hf : Fin (ks X x) (WE W σ) μ H (fun d _ μ' H' => ∀ v, AV (ks X x) μ' H' d v → Q v H') (mLc mi g mt me (own.map (·.2)) ρ st)) :
    tLc (tDI (ks X x) W mi) (tDG (ks X x) ls g) (tDT (ks X x) W0 mt) (tD (ks X x) W0 me) (own.map (·.2)) σ H Q := by
  refine ⟨μ, st, ρ, ev, sv, Fin.map (fun ds st1 μ1 H1 e1 s1 h1 J hJ D hD => ?_) (Fin.bind hf)⟩
  obtain ⟨G, Y, w, hG, hY⟩ := hJ
  have ev1 := ev.go e1
  have hn : μ1.length = st1.length := s1.len
  have nD : some D ∉ μ1 := s1.out hD
  have E1 : Ev μ1 H1 (μ1 ++ [some D]) (upd H1 D (.lst [])) := Ev.newOb hD
  have S1 : SV (ks X x) (μ1 ++ [some D]) (upd H1 D (.lst [])) (st1 ++ [.lst []]) := s1.newOb hD ⟨[], upd_same, DVs.nil⟩
  have hat : (μ1 ++ [some D])[st1.length]? = some (some D) := by rw [← hn]; simp
  have h2 := Fin.calm h1
  refine lc_it w (fun i H => ∃ μ' st', SV (ks X x) μ' H st' ∧ Ev (μ1 ++ [some D]) (upd H1 D (.lst [])) μ' H ∧ Fin (ks X x) (fun _ _ _ => False) μ1 H1 (fun a _ μ' H' => (∀ v, AV (ks X x) μ' H' a v → Q v H')) (lcGo st1.length g mt me (wipeE ρ (own.map (·.2))) (ds.drop i) st'))
    ⟨_, _, S1, Ev.refl _ _, ?_⟩ (fun i H _ ⟨μ', st', _, e, _⟩ => hG μ' H (E1.trans e)) (fun i v H H' hi ⟨μ', st', sv', e, h2⟩ y => ?_) (fun H ⟨μ', st', sv', e, h2⟩ => ?_)
  · exact h2
  · obtain ⟨d, hd, dv, ey, sy⟩ := hY i μ' H v H' (E1.trans e) hi y
    have hdrop : ds.drop i = d :: ds.drop (i + 1) := by
      rw [List.drop_eq_getElem_cons hi]
      rw [List.getElem?_eq_getElem hi] at hd
      rw [Option.some.inj hd]
    rw [hdrop] at h2
    unfold lcGo at h2
    have evw := ((ev1.go (E1.trans (e.trans ey))).wipe (own.map (·.2)))
    refine ⟨μ', st', _, .val d, evw, sy st' sv', dv, ?_⟩
    cases e2 : g (.val d) (wipeE ρ (own.map (·.2))) with
    | none => simp only [e2] at h2; exact h2
    | some ρ2 =>
      simp only [e2] at h2
      refine fun σ2 ev2 w2 => ⟨?_, μ', st', ρ2, ev2, sy st' sv', Fin.map (fun b st3 μ3 H3 e3 s3 h3 => ?_) (Fin.bindB ((E1.trans e).trans ey) h2)⟩
      · rw [w2 _ hls]
        apply List.ext_getElem?
        intro j
        rw [wipe_get]
        split
        · rename_i z
          rw [L2.wipe_length] at z
          rw [wipe_get, if_pos z]
        · rfl
      cases b with
      | false =>
        refine iteF ⟨μ3, st3, s3, (e.trans ey).trans e3, h3⟩
      | true =>
        refine iteT ⟨μ3, st3, ρ2, ev2.go e3, s3, Fin.map (fun yv st4 μ4 H4 e4 s4 h4 v4 hv4 => ?_) (Fin.bindB ((E1.trans (e.trans ey)).trans e3) h3)⟩
        cases yv with
        | obj k => exact h4.elim
        | exc c fs => exact h4.elim
        | scr ns => exact h4.elim
        | val yd =>
          simp only at h4
          cases e5 : st4[st1.length]? with
          | none => simp only [e5] at h4; exact h4.elim
          | some o =>
            simp only [e5] at h4
            cases o with
            | dK _ => exact h4.elim
            | dT _ => exact h4.elim
            | dead => exact h4.elim
            | lst acc =>
              simp only at h4
              by_cases z : acc.length < sizeLine
              · rw [if_pos z] at h4
                have E4 := (e.trans ey).trans (e3.trans e4)
                obtain ⟨m4, o4⟩ := Ev.old E4 hat s4 e5 (fun z => nomatch z)
                obtain ⟨xs, hx, dx⟩ := o4
                refine ⟨xs, hx, by rw [dx.length]; exact z, ?_⟩
                have Ew : Ev μ4 H4 μ4 (upd H4 D (.lst (xs ++ [v4]))) := Ev.wr s4 m4
                refine ⟨μ4, _, s4.wr (ob := .lst (acc ++ [yd])) m4 ⟨_, upd_same, DVs.append (DVs.go Ew acc dx) (DVs.cons (DV.go Ew yd hv4) DVs.nil)⟩, E4.trans Ew, h4⟩
              · rw [if_neg z] at h4; exact h4.elim
  · rw [List.drop_length] at h2
    unfold lcGo at h2
    cases ha : st'[st1.length]? with
    | none => simp only [ha] at h2; exact h2.elim
    | some o =>
      simp only [ha] at h2
      cases o with
      | dK _ => exact h2.elim
      | dT _ => exact h2.elim
      | dead => exact h2.elim
      | lst acc =>
        obtain ⟨m4, xs, hx, dx⟩ := Ev.old e hat sv' ha (fun z => nomatch z)
        have hcut : Ev μ1 H1 (μ'.take μ1.length) H := (E1.trans e).cut
        have hsv : SV (ks X x) (μ'.take μ1.length) H (st'.take μ1.length) := sv'.cut _
        rw [← hn] at h2 m4
        refine h2 _ H hcut hsv (.ref D) ?_
        simp only [AV, DV]
        refine ⟨D, xs, rfl, fun z => ?_, .inl hx, DVs.le (Le.take _) acc dx⟩
        obtain ⟨j, hj⟩ := List.mem_iff_getElem?.mp z
        by_cases hjn : j < μ1.length
        · rw [List.getElem?_take_of_lt hjn] at hj
          exact absurd (sv'.inj _ _ _ hj m4) (by omega)
        · rw [List.getElem?_take_eq_none (by omega)] at hj; cases hj
theorem ed_lc {ls : List Nat} {g : Va → En → Option En} {mt : En → M Bool} {me : En → M Va} {scope : Scope} (own : List (Str × Nat)) (hi : ID X x W tg iter mi)
    (hg : ∀ (s : Shared) (H : Hp) (C : Addr) (cl : List (Str × Addr)) (fp : List Addr), GD (X.blk s H scope (compEnvC scope cl C X.env) fp) x tg ls g)
    (ht : ∀ (s : Shared) (H : Hp) (C : Addr) (cl : List (Str × Addr)) (fp : List Addr), PTsD (X.blk s H scope (compEnvC scope cl C X.env) fp) x ifs mt)
    (he : ∀ (s : Shared) (H : Hp) (C : Addr) (cl : List (Str × Addr)) (fp : List Addr), ED (X.blk s H scope (compEnvC scope cl C X.env) fp) x W0 elt me)
    (hls : ∀ i ∈ ls, i ∈ own.map (·.2) := by decide) (ok : blkC X.N X.env.scope scope own = true := by rfl) (hc : X.calm = true := by rfl) (hN : X.N.Nodup := by assumption) (hs : ∀ x, foldedSetIterable iter X.env x = pure x := by intro _; rfl) :
    ED X x W (.ListComp elt [⟨tg, iter, ifs, 0⟩] scope pos) (mLc mi g mt me (own.map (·.2))) := by
  refine ED.of (pe_lc (wi := tDI (ks X x) W mi) (g := tDG (ks X x) ls g) (tt := tDT (ks X x) W0 mt) (te := tD (ks X x) W0 me) hc hN hi (blkOk_by ok) hg ht he hs) fun σ H Q μ st ρ ev sv hf => lc_fin hls ev sv hf
end
end DL
end

section
set_option Elab.async false
set_option linter.all false
set_option maxRecDepth 100000
set_option maxHeartbeats 4000000
/-! Own exceptions raised and caught, over plain data. -/
namespace DL
open PySem PySem.Spec PyProof.Rows L2

/-- what an own exception's __init__ promises: the fields fs are set -/
def spI (C : Addr) (fs : List Str) : Sp := fun vs H Q E => ∃ (a : Addr) (ys : List V), vs = .ref a :: ys ∧ ys.length = fs.length ∧ H a = some (exo a C none) ∧
  ∀ (H' : Hp) (d : Addr), H d = none → d ≠ a → H' a = some (exo a C (some d)) → H' d = some (exd d (fs.zip ys).reverse) → (∀ b, b ≠ a → b ≠ d → H' b = H b) → Q .non H'
def ExD (P : Program) (w : World) (K : PySem.W.Frag) (mg : Str → Option Value) (base : Heap) (k : Nat) (y : Str) (fs : List Str) : Prop :=
  ∃ (C fI : Addr) (fd : FuncData) (ps : List Str), mg y = some (.ref C) ∧ OexC K C ∧ PySem.W.findIn K (.ref C) "__init__" = some (some (.ref fI)) ∧ PySem.W.typeIn K (.ref fI) = some (.type "function") ∧
    FnOk P w K mg base (L2.CX P w) k fI fd ps (spI C fs) ∧ Binds K fd ps []
def mRaise (y : Str) (fs : List Str) (m : En → M (List Va)) : En → MS := fun ρ st => onE (m ρ st) ρ fun as st' => match vals as with
  | some ds => if ds.length = fs.length ∧ ds.length ≤ 1000 then some (.ex ρ y (fs.zip ds).reverse, st') else none
  | none => none
theorem KVs.app {S : Ks} {μ : Mu} {H : Hp} {κ : Type} : ∀ {xs ys : List (κ × D)} {us ws : List (κ × V)}, KVs S μ H xs us → KVs S μ H ys ws → KVs S μ H (xs ++ ys) (us ++ ws)
  | [], ys, us, ws, h, t => by cases h; exact t
  | (k, d) :: r, ys, us, ws, h, t => by
    obtain ⟨v, t1, rfl, q, w⟩ := h
    exact ⟨v, t1 ++ ws, rfl, q, KVs.app w t⟩
theorem KVs.zip {S : Ks} {μ : Mu} {H : Hp} {κ : Type} : ∀ {fs : List κ} {ds : List D} {vs : List V}, DVs S μ H ds vs → KVs S μ H (fs.zip ds) (fs.zip vs)
  | [], ds, vs, h => by simp [KVs]
  | f :: fs, [], vs, h => by simp only [DVs] at h; subst h; simp [KVs]
  | f :: fs, d :: ds, vs, h => by
    simp only [DVs] at h
    obtain ⟨v, r, rfl, q, w⟩ := h
    exact ⟨v, fs.zip r, rfl, q, KVs.zip w⟩
theorem KVs.rev {S : Ks} {μ : Mu} {H : Hp} {κ : Type} : ∀ {xs : List (κ × D)} {us : List (κ × V)}, KVs S μ H xs us → KVs S μ H xs.reverse us.reverse
  | [], us, h => by cases h; simp [KVs]
  | (k, d) :: r, us, h => by
    obtain ⟨v, t1, rfl, q, w⟩ := h
    simp only [List.reverse_cons]
    exact KVs.app (KVs.rev w) ⟨v, [], rfl, q, rfl⟩
section
variable {X : Cx} {x : ExI} {W : WX} {pos pos' p : Pos} {e : Expr} {es : List Expr} {ma : En → M (List Va)} {k : Nat} {y : Str} {fs : List Str}
theorem sd_raise (T : ExD X.prog X.w X.K X.mg X.base k y fs) (hr : Room (k + 1) X.A) (tk : Takes X W) (ha : AD X x W (e :: es) ma) (hc : X.calm = true := by rfl) (hg : Gl X y := by rfl) (hdb : (y == ("__debug__" : Str)) = false := by decide)
    (he : starEach (e :: es) X.env = (false, eval e X.env) :: starEach es X.env := by rfl) (hpl : (backTo pos (starEach es X.env)).any (·.1) = false := by rfl) : SD X x W (.Raise (some (.Call (.Name y p) (e :: es) [] pos)) none pos') (mRaise y fs ma) := by
  obtain ⟨C, fI, fd, ps, hm, TO, iC, tI, F1, hb⟩ := T
  refine SD.of (ps_raise hc tk (pmk_oex (dvs := []) TO iC tI F1 hr hb .nil (fun pins σ H s er s' I c => passes_call (E := fun _ _ _ => False) tk (fun _ _ _ _ z => z.elim) pins σ H s er s' I c) hg hm ha hdb he hpl)) fun Ds σ H μ st ρ ev sv h => ?_
  refine ⟨μ, st, ρ, ev, sv, Fin.map (fun as st1 μ1 H1 e1 s1 h1 vs hv => ?_) (FinS.onE ev h)⟩
  cases ev2 : vals as with
  | none => simp only [ev2] at h1; exact h1.elim
  | some ds =>
    simp only [ev2] at h1
    have dv := vals_dvs ev2 hv
    by_cases z : ds.length = fs.length ∧ ds.length ≤ 1000
    · rw [if_pos z] at h1
      refine ⟨by rw [dv.length]; exact z.2, fun a ha1 => ?_⟩
      refine ⟨a, vs, by simp, by rw [dv.length]; exact z.1, upd_same, fun H' d hd hda h2 h3 h4 => ⟨rfl, d, _, h2, h3, ?_, ?_⟩⟩
      · rw [upd_ne hda] at hd; exact hd
      · have hd1 : H1 d = none := by rw [upd_ne hda] at hd; exact hd
        have eH : upd (del H' a) d (.xd (fs.zip vs).reverse) = upd H1 d (.xd (fs.zip vs).reverse) := by
          funext b
          by_cases hb1 : b = d
          · subst hb1; rw [upd_same, upd_same]
          · rw [upd_ne hb1, upd_ne hb1]
            by_cases hb2 : b = a
            · subst hb2; rw [del_same, ha1]
            · rw [del_ne hb2, h4 b hb2 hb1, upd_ne hb2]
        rw [eH]
        have Em : Ev μ1 H1 μ1 (upd H1 d (.xd (fs.zip vs).reverse)) := Ev.made hd1
        refine h1 (.ref C) (some d) μ1 _ σ Em (s1.made hd1) ((ev.go e1).go Em) ⟨⟨C, rfl, hm⟩, d, _, rfl, s1.out hd1, upd_same, ?_⟩
        exact KVs.go Em _ (KVs.rev (KVs.zip dv))
    · rw [if_neg z] at h1; exact h1.elim
end
/-! ### try: several clauses, with names or without -/
def wManyN (K : PySem.W.Frag) (Wout : WX) (D : Ends) : List (Value × Option Nat × (Addr → Value → Option Addr → TS)) → WX
  | [] => Wout
  | (c, o, ts) :: r => fun cls d σ H => ∃ b, PySem.W.exmOne K cls c = some b ∧ (b = true → ∀ a, H a = none → (match o with
      | none => ts a cls d D σ H
      | some i => ts a cls d { nx := fun σ' H' => D.nx (σ'.set i none) H', rt := D.rt, bk := fun σ' H' => D.bk (σ'.set i none) H', ct := fun σ' H' => D.ct (σ'.set i none) H' } (σ.set i (some (.ref a))) H)) ∧ (b = false → wManyN K Wout D r cls d σ H)
inductive HdsN (X : Cx) : List ExceptHandler → List (Value × Option Nat × (Addr → Value → Option Addr → TS)) → Prop
  | nil : HdsN X [] []
  | consU {x : Str} {c : Value} {ts : Addr → Value → Option Addr → TS} {b₀ : Stmt} {suite : List Stmt} {np pos' : Pos} {hds : List ExceptHandler} {l : List (Value × Option Nat × (Addr → Value → Option Addr → TS))} (hc : Names X x c)
      (hsu : ∀ (a : Addr) (oe : Obj) (cls : Value) (d : Option Addr) (pn : List (Addr × Obj)), Zc cls d oe → (∃ vs, oe.data = .fields vs) → PSs (X.suite a ((a, oe) :: pn)) (b₀ :: suite) (ts a cls d)) (r : HdsN X hds l) :
      HdsN X (.ExceptHandler (some (.Name x np)) none (b₀ :: suite) pos' :: hds) ((c, none, ts) :: l)
  | consN {x n : Str} {i : Nat} {c : Value} {ts : Addr → Value → Option Addr → TS} {b₀ : Stmt} {suite : List Stmt} {np pos' : Pos} {hds : List ExceptHandler} {l : List (Value × Option Nat × (Addr → Value → Option Addr → TS))} (hc : Names X x c) (hN : X.N.Nodup) (hi : X.N[i]? = some n) (hln : X.env.kindOf n = some .local)
      (hsu : ∀ (a : Addr) (oe : Obj) (cls : Value) (d : Option Addr) (pn : List (Addr × Obj)), Zc cls d oe → (∃ vs, oe.data = .fields vs) → PSs (X.suite a ((a, oe) :: pn)) (b₀ :: suite) (ts a cls d)) (r : HdsN X hds l) :
      HdsN X (.ExceptHandler (some (.Name x np)) (some n) (b₀ :: suite) pos' :: hds) ((c, some i, ts) :: l)
section
variable {X : Cx} {body : List Stmt} {h₀ : ExceptHandler} {hds : List ExceptHandler} {l : List (Value × Option Nat × (Addr → Value → Option Addr → TS))} {pos : Pos} {tb : WX → TS} {Wout : WX}
theorem ps_try_manyN (hs : X.stack = X.env :: X.outer) (hf : X.env.frame = some X.env.locals) (tk : Takes X Wout)
    (hb : ∀ (W : WX) (pn : List (Addr × Obj)) (xe : Value → Shared → Prop), Takes (X.tr pn xe) W → PassesOwn (model X.prog X.w) X.A X.env xe → PSs (X.tr pn xe) body (tb W))
    (hh : HdsN X (h₀ :: hds) l) : PS X (.Try body (h₀ :: hds) [] [] pos) (fun D σ H => tb (wManyN X.K Wout D l) D σ H) := by
  refine ⟨fun pins s σ H D I h => ?_⟩
  have ok := I.ok
  have hfr : X.A.frames = some (X.env :: X.outer) := by rw [ok.frames, hs]
  refine wpAny_Try_except ?_
  refine wpAny_mono ((hb (wManyN X.K Wout D l) (X.pn ++ pins) (fun e s₁ => wpAny (model X.prog X.w) X.A (noteFrame e X.env) (fun _ s₂ => wpAny (model X.prog X.w) X.A (setFlight e none) (fun _ s₃ =>
    wpAny (model X.prog X.w) X.A (handleBy e X.env (h₀ :: hds)) (SP X pins D) X.xe s₃) X.xe s₂) X.xe s₁) (fun u s' xx => ?_) PassesOwn.looking).run [] s σ H D (I.toTry _) h) (fun f s1 hsp => ?_) (fun e s1 he => he)
  · -- the catch
    obtain ⟨a, B, sI, pins', σ', H', cls, d, rfl, J', nb, up, sky, na, os, ag, w⟩ := xx
    have J : L2.Inv X pins σ' H' sI := J'.ofTry ok
    have sky' : Sky B (X.env :: X.outer) a (Zc cls d) X.env.locals s'.heap := by rw [← hs]; exact sky
    show wpAny (model X.prog X.w) X.A (noteFrame (.ref a) X.env) _ _ _
    refine Sky.land Zc.steady hfr hf sky' fun h3 fl3 up3 => ?_
    have J3 : L2.Inv X pins σ' H' { s' with heap := h3 } := J.landed nb fl3.1 (up.trans up3) os ag
    obtain ⟨oe3, vs3, he3, hz3, hd3⟩ := fl3.there
    have notFr : ∀ {h : Heap} {o : Obj} {vs : Array Value}, h.FunFrames B (X.env :: X.outer) → h.get? a = some o → o.data = .fields vs → a ∉ frs (X.env :: X.outer) := fun {h o vs} ff e dd hm => by
      obtain ⟨_, o', e', hnf⟩ := ff.mem hm
      rw [e] at e'; cases e'
      exact hnf _ dd
    have nfr := notFr fl3.2.2.1 he3 hd3
    have nL : a ≠ X.env.locals := fun z => nfr (List.mem_filterMap.mpr ⟨X.env, List.mem_cons_self, by rw [hf, z]⟩)
    have nF : a ∉ X.fs := fun hm => by
      obtain ⟨e, he, q⟩ := List.mem_filterMap.mp hm
      exact nfr (List.mem_filterMap.mpr ⟨e, List.mem_cons_of_mem _ he, q⟩)
    have S3 := J3.suite he3 hd3 na nL nF
    have go : ∀ {hds' : List ExceptHandler} {l' : List (Value × Option Nat × (Addr → Value → Option Addr → TS))}, HdsN X hds' l' → wManyN X.K Wout D l' cls d σ' H' →
        wpAny (model X.prog X.w) X.A (handleBy (.ref a) X.env hds') (SP X pins D) X.xe { s' with heap := h3 } := by
      intro hds' l' hk
      induction hk with
      | nil =>
        intro w
        refine wpAny_handleBy_nil ?_
        obtain ⟨k1, k2, k3, oe, vs, T, oT, ts', he, hz, hd, h1, hr⟩ := id fl3
        unfold PySem.passOn
        refine wpAny_bind (wpAny_field he hd h1 ?_)
        rw [if_neg (show ¬ ((Value.ref T == Value.none) = true) from by simp)]
        have fin : wpAny (model X.prog X.w) X.A (setFlight (.ref a) X.env.frame) (fun _ s4 => wpAny (model X.prog X.w) X.A (throw (.ref a) : Sem Flow) (SP X pins D) X.xe s4) X.xe { s' with heap := h3 } := by
          rw [hf]
          refine HandSPX.setFlight_upZ fl3 fun h4 hh4 up4 => wpAny_throw (tk _ _ ?_)
          exact ⟨a, B, sI, pins, σ', H', cls, d, rfl, J, nb, (up.trans up3).trans up4, .inr (.inr (by rw [hs]; exact hh4)), na, os, ag, w⟩
        first
          | exact wpAny_bind (wpAny_pure (wpAny_bind fin))
          | exact wpAny_bind fin
      | @consU x c ts b₀ suite np pos' hds2 l2 hc hsu r ih =>
        intro w
        obtain ⟨b, hb1, hyes, hno⟩ := w
        refine wpAny_handleBy_cons (codeAny_handlers_test ?_) (by intro q; cases q)
        have LT : PySem.W.Looks (model X.prog X.w) h3 (typeOf (.ref a)) cls := fun A Q E s k q => wpAny_typeOf_ref (k _ _ he3) (by rw [hz3.1]; exact q)
        have LM := PySem.W.exm_one (M := model X.prog X.w) (J3.kIn) LT hb1
        have test : ∀ {Q : Value → Shared → Prop} {E : Value → Shared → Prop}, Q c { s' with heap := h3 } → wpAny (model X.prog X.w) (X.A.mark (some (.ref a))) (eval (.Name x np) X.env) Q E { s' with heap := h3 } := fun {Q E} q => by
          obtain ⟨hg, hdbg, hm | ⟨hm, hv, hnn⟩⟩ := hc
          · exact ld_glob (X := X.suite a ((a, oe3) :: (X.pn ++ pins))) S3 hg hm q hdbg
          · exact ld_blt (X := X.suite a ((a, oe3) :: (X.pn ++ pins))) S3 hg hm hv q hnn hdbg
        refine test (LM.here ?_)
        cases b with
        | true =>
          refine codeAny_handlers_suite ?_
          refine HandSPX.lands_againZ fl3 fun h4 fl4 up4 => ?_
          have J4 : L2.Inv X pins σ' H' { s' with heap := h4 } := J.landed nb fl4.1 ((up.trans up3).trans up4) os ag
          obtain ⟨oe4, vs4, he4, hz4, hd4⟩ := fl4.there
          have S4 := J4.suite he4 hd4 na nL nF
          refine wpAny_mono ((hsu a oe4 cls d (X.pn ++ pins) hz4 ⟨_, hd4⟩).run [] _ _ H' _ S4 (hyes rfl a na)) (fun f s6 hsp => ?_) (fun _ _ z => False.elim z)
          cases f with
          | next =>
            obtain ⟨σ6, H6, S6, q6⟩ := hsp
            exact ⟨_, _, S6.unsuite ok, q6⟩
          | brk =>
            obtain ⟨σ6, H6, S6, q6⟩ := hsp
            exact ⟨_, _, S6.unsuite ok, q6⟩
          | cont =>
            obtain ⟨σ6, H6, S6, q6⟩ := hsp
            exact ⟨_, _, S6.unsuite ok, q6⟩
          | ret u =>
            obtain ⟨v6, σ6, H6, S6, r6, q6⟩ := hsp
            exact ⟨_, _, _, S6.unsuite ok, r6, q6⟩
        | false =>
          show wpAny _ X.A (handleBy (.ref a) X.env hds2) _ _ _
          exact ih (hno rfl)
      | @consN x n i c ts b₀ suite np pos' hds2 l2 hc hN hi hln hsu r ih =>
        intro w
        obtain ⟨b, hb1, hyes, hno⟩ := w
        have hloc : Loc X.env.scope n := .inl hln
        refine wpAny_handleBy_cons (codeAny_handlers_test ?_) (by intro q; cases q)
        have LT : PySem.W.Looks (model X.prog X.w) h3 (typeOf (.ref a)) cls := fun A Q E s k q => wpAny_typeOf_ref (k _ _ he3) (by rw [hz3.1]; exact q)
        have LM := PySem.W.exm_one (M := model X.prog X.w) (J3.kIn) LT hb1
        have test : ∀ {Q : Value → Shared → Prop} {E : Value → Shared → Prop}, Q c { s' with heap := h3 } → wpAny (model X.prog X.w) (X.A.mark (some (.ref a))) (eval (.Name x np) X.env) Q E { s' with heap := h3 } := fun {Q E} q => by
          obtain ⟨hg, hdbg, hm | ⟨hm, hv, hnn⟩⟩ := hc
          · exact ld_glob (X := X.suite a ((a, oe3) :: (X.pn ++ pins))) S3 hg hm q hdbg
          · exact ld_blt (X := X.suite a ((a, oe3) :: (X.pn ++ pins))) S3 hg hm hv q hnn hdbg
        refine test (LM.here ?_)
        cases b with
        | true =>
          refine codeAny_handlers_suite_as ?_
          refine HandSPX.lands_againZ fl3 fun h4 fl4 up4 => ?_
          have J4 : L2.Inv X pins σ' H' { s' with heap := h4 } := J.landed nb fl4.1 ((up.trans up3).trans up4) os ag
          obtain ⟨oe4, vs4, he4, hz4, hd4⟩ := fl4.there
          have S4 := J4.suite he4 hd4 na nL nF
          refine store_ok (X := X.suite a ((a, oe4) :: (X.pn ++ pins))) (v := .ref a) S4 hN hi hloc rfl (fun s5 S5 => ?_) (.inr hln)
          refine wpAny_mono ((hsu a oe4 cls d (X.pn ++ pins) hz4 ⟨_, hd4⟩).run [] s5 _ H' _ S5 (hyes rfl a na)) (fun f s6 hsp => ?_) (fun _ _ z => False.elim z)
          have end_ : ∀ {σ6 : L2.St} {H6 : Hp} {Q : Shared → Prop}, L2.Inv (X.suite a ((a, oe4) :: (X.pn ++ pins))) [] σ6 H6 s6 → (∀ s7, L2.Inv X pins (σ6.set i none) H6 s7 → Q s7) →
              wpAny (model X.prog X.w) X.A (do bindName X.env n .none; unbindBehindTheSuite X.env n pos') (fun _ s7 => Q s7) X.xe s6 := fun {σ6 H6 Q} S6 hq => gone_ok (S6.unsuite ok) hN hi hln hq
          cases f with
          | next =>
            obtain ⟨σ6, H6, S6, q6⟩ := hsp
            exact end_ S6 fun s7 J7 => ⟨_, _, J7, q6⟩
          | brk =>
            obtain ⟨σ6, H6, S6, q6⟩ := hsp
            exact end_ S6 fun s7 J7 => ⟨_, _, J7, q6⟩
          | cont =>
            obtain ⟨σ6, H6, S6, q6⟩ := hsp
            exact end_ S6 fun s7 J7 => ⟨_, _, J7, q6⟩
          | ret u =>
            obtain ⟨v6, σ6, H6, S6, r6, q6⟩ := hsp
            exact end_ S6 fun s7 J7 => ⟨_, _, _, J7, r6, q6⟩
        | false =>
          show wpAny _ X.A (handleBy (.ref a) X.env hds2) _ _ _
          exact ih (hno rfl)
    exact go hh w
  · cases f with
    | next =>
      obtain ⟨σ', H', J', q⟩ := hsp
      exact wpAny_execs_nil ⟨σ', H', J'.ofTry ok, q⟩
    | brk =>
      obtain ⟨σ', H', J', q⟩ := hsp
      exact ⟨σ', H', J'.ofTry ok, q⟩
    | cont =>
      obtain ⟨σ', H', J', q⟩ := hsp
      exact ⟨σ', H', J'.ofTry ok, q⟩
    | ret u =>
      obtain ⟨v, σ', H', J', r, q⟩ := hsp
      exact ⟨v, σ', H', J'.ofTry ok, r, q⟩
end
end DL
end

section
set_option Elab.async false
set_option linter.all false
set_option maxRecDepth 100000
set_option maxHeartbeats 4000000
/-! try, the caught exception's fields and kinds, over plain data. -/
namespace DL
open PySem PySem.Spec PyProof.Rows L2

/-- the slots without exceptions -/
def noX : En → En
  | [] => []
  | some (.exc _ _) :: r => none :: noX r
  | o :: r => o :: noX r
section
variable {K : PySem.W.Frag} {mg : Str → Option Value} {x x' : ExI} {μ : Mu} {H : Hp}
theorem noX_length : ∀ ρ : En, (noX ρ).length = ρ.length
  | [] => rfl
  | none :: r => by simp [noX, noX_length r]
  | some (.val d) :: r => by simp [noX, noX_length r]
  | some (.obj k) :: r => by simp [noX, noX_length r]
  | some (.exc c fs) :: r => by simp [noX, noX_length r]
  | some (.scr ns) :: r => by simp [noX, noX_length r]
theorem noX_get : ∀ {ρ : En} {i : Nat} {d : Va}, (noX ρ)[i]? = some (some d) → ρ[i]? = some (some d) ∧ ∀ c fs, d ≠ .exc c fs
  | [], i, d, h => by simp [noX] at h
  | o :: r, 0, d, h => by
    match o with
    | none => simp [noX] at h
    | some (.val d') => simp [noX] at h; subst h; exact ⟨rfl, fun _ _ z => nomatch z⟩
    | some (.obj k) => simp [noX] at h; subst h; exact ⟨rfl, fun _ _ z => nomatch z⟩
    | some (.exc c fs) => simp [noX] at h
    | some (.scr ns) => simp [noX] at h; subst h; exact ⟨rfl, fun _ _ z => nomatch z⟩
  | o :: r, i + 1, d, h => by
    have h' : (noX r)[i]? = some (some d) := by
      match o with
      | none => simpa [noX] using h
      | some (.val d') => simpa [noX] using h
      | some (.obj k) => simpa [noX] using h
      | some (.exc c fs) => simpa [noX] using h
      | some (.scr ns) => simpa [noX] using h
    obtain ⟨h1, h2⟩ := noX_get h'
    exact ⟨by simpa using h1, h2⟩
theorem EV.noX {ρ : En} {σ : L2.St} (h : EV ⟨K, mg, x⟩ μ H ρ σ) : EV ⟨K, mg, x'⟩ μ H (noX ρ) σ := by
  refine ⟨by rw [noX_length]; exact h.len, fun i d e => ?_⟩
  obtain ⟨e1, n⟩ := noX_get e
  obtain ⟨v, e2, q⟩ := h.here i d e1
  refine ⟨v, e2, ?_⟩
  cases d with
  | val d => exact DV.exi d q
  | obj k => exact q
  | exc c fs => exact absurd rfl (n c fs)
  | scr ns => exact q
end
/-- a clause: the class, the slot of its name, its suite -/
abbrev Hd := Str × Option Nat × (En → MS)
/-- behind a suite -/
def suiteR (o : Option Nat) : Option (Fl × Sto) → Option (Fl × Sto)
  | some (.nx ρ, st) => some (.nx (match o with | some i => (noX ρ).set i none | none => noX ρ), st)
  | some (.bk ρ, st) => some (.bk (match o with | some i => (noX ρ).set i none | none => noX ρ), st)
  | some (.ct ρ, st) => some (.ct (match o with | some i => (noX ρ).set i none | none => noX ρ), st)
  | some (.rt (.val d), st) => some (.rt (.val d), st)
  | some (.rt (.obj k), st) => some (.rt (.obj k), st)
  | _ => none
def handle (sub : Str → Str → Option Bool) : List Hd → En → Str → List (Str × D) → MS
  | [], ρ, c, fs, st => some (.ex ρ c fs, st)
  | (y, o, m) :: r, ρ, c, fs, st => match sub c y with
    | some true => suiteR o (m (match o with | some i => (noX ρ).set i (some (.exc c fs)) | none => noX ρ) st)
    | some false => handle sub r ρ c fs st
    | none => none
def mTry (sub : Str → Str → Option Bool) (mb : En → MS) (hs : List Hd) : En → MS := fun ρ st => match mb ρ st with
  | some (.ex ρ' c fs, st') => handle sub hs ρ' c fs st'
  | r => r
/-- the clauses keep their promises -/
inductive HdsD (X : Cx) (sub : Str → Str → Option Bool) : List ExceptHandler → List Hd → Prop
  | nil : HdsD X sub [] []
  | consU {y : Str} {cv : Value} {b₀ : Stmt} {suite : List Stmt} {np pos' : Pos} {hds : List ExceptHandler} {l : List Hd} {m : En → MS} (hc : Names X y cv) (hsub : ∀ c b C, sub c y = some b → X.mg c = some (.ref C) → PySem.W.exmOne X.K (.ref C) cv = some b)
      (hsu : ∀ (a : Addr) (oe : Obj) (cls : Value) (d : Option Addr) (pn : List (Addr × Obj)), Zc cls d oe → (∃ vs, oe.data = .fields vs) → SDs (X.suite a ((a, oe) :: pn)) (some (a, cls, d)) W0 (b₀ :: suite) m) (r : HdsD X sub hds l) :
      HdsD X sub (.ExceptHandler (some (.Name y np)) none (b₀ :: suite) pos' :: hds) ((y, none, m) :: l)
  | consN {y n : Str} {i : Nat} {cv : Value} {b₀ : Stmt} {suite : List Stmt} {np pos' : Pos} {hds : List ExceptHandler} {l : List Hd} {m : En → MS} (hc : Names X y cv) (hsub : ∀ c b C, sub c y = some b → X.mg c = some (.ref C) → PySem.W.exmOne X.K (.ref C) cv = some b)
      (hN : X.N.Nodup) (hi : X.N[i]? = some n) (hln : X.env.kindOf n = some .local)
      (hsu : ∀ (a : Addr) (oe : Obj) (cls : Value) (d : Option Addr) (pn : List (Addr × Obj)), Zc cls d oe → (∃ vs, oe.data = .fields vs) → SDs (X.suite a ((a, oe) :: pn)) (some (a, cls, d)) W0 (b₀ :: suite) m) (r : HdsD X sub hds l) :
      HdsD X sub (.ExceptHandler (some (.Name y np)) (some n) (b₀ :: suite) pos' :: hds) ((y, some i, m) :: l)
section
variable {X : Cx} {x : ExI} {W : WX} {pos : Pos} {sub : Str → Str → Option Bool}
theorem FinS.suiteN {i : Nat} {a : Addr} {cls : Value} {d : Option Addr} {Ds : Ends} {μ : Mu} {H : Hp} : ∀ {r : Option (Fl × Sto)}, FinS (ks X x) W Ds μ H (suiteR (some i) r) →
    FinS (ks X (some (a, cls, d))) W0 { nx := fun σ' H' => Ds.nx (σ'.set i none) H', rt := Ds.rt, bk := fun σ' H' => Ds.bk (σ'.set i none) H', ct := fun σ' H' => Ds.ct (σ'.set i none) H' } μ H r
  | none, h => h
  | some (.nx ρ, st), h => fun μ' H' σ e s v => h μ' H' _ e s.exi ((EV.noX v).drop i none)
  | some (.bk ρ, st), h => fun μ' H' σ e s v => h μ' H' _ e s.exi ((EV.noX v).drop i none)
  | some (.ct ρ, st), h => fun μ' H' σ e s v => h μ' H' _ e s.exi ((EV.noX v).drop i none)
  | some (.rt (.val d), st), h => fun μ' H' v e s q => h μ' H' v e s.exi (DV.exi d q)
  | some (.rt (.obj k), st), h => fun μ' H' v e s q => h μ' H' v e s.exi q
  | some (.rt (.exc c fs), st), h => h.elim
  | some (.rt (.scr ns), st), h => h.elim
  | some (.ex ρ c fs, st), h => h.elim
theorem FinS.suiteU {a : Addr} {cls : Value} {d : Option Addr} {Ds : Ends} {μ : Mu} {H : Hp} : ∀ {r : Option (Fl × Sto)}, FinS (ks X x) W Ds μ H (suiteR none r) →
    FinS (ks X (some (a, cls, d))) W0 Ds μ H r
  | none, h => h
  | some (.nx ρ, st), h => fun μ' H' σ e s v => h μ' H' _ e s.exi (EV.noX v)
  | some (.bk ρ, st), h => fun μ' H' σ e s v => h μ' H' _ e s.exi (EV.noX v)
  | some (.ct ρ, st), h => fun μ' H' σ e s v => h μ' H' _ e s.exi (EV.noX v)
  | some (.rt (.val d), st), h => fun μ' H' v e s q => h μ' H' v e s.exi (DV.exi d q)
  | some (.rt (.obj k), st), h => fun μ' H' v e s q => h μ' H' v e s.exi q
  | some (.rt (.exc c fs), st), h => h.elim
  | some (.rt (.scr ns), st), h => h.elim
  | some (.ex ρ c fs, st), h => h.elim
/-- the readings of the clauses -/
def hdR (X : Cx) (cv : Str → Value) : List Hd → List (Value × Option Nat × (Addr → Value → Option Addr → TS))
  | [] => []
  | (y, o, m) :: r => (cv y, o, fun a cls d => tDS (ks X (some (a, cls, d))) W0 m) :: hdR X cv r
theorem hds_n {hds : List ExceptHandler} {l : List Hd} (h : HdsD X sub hds l) : ∃ l', HdsN X hds l' ∧ ∀ (Ds : Ends) (W : WX) (x : ExI) (ρ : En) (c : Str) (fs : List (Str × D)) (st : Sto) (μ : Mu) (H : Hp) (σ : L2.St) (cv : Value) (dx : Option Addr),
    EV (ks X x) μ H ρ σ → SV (ks X x) μ H st → XR (ks X x) μ H c fs cv dx → FinS (ks X x) W Ds μ H (handle sub l ρ c fs st) → wManyN X.K W Ds l' cv dx σ H := by
  induction h with
  | nil => exact ⟨[], .nil, fun Ds W x ρ c fs st μ H σ cv dx ev sv xr h => h cv dx μ H σ (Ev.refl _ _) sv ev xr⟩
  | @consU y cvy b₀ suite np pos' hds l m hc hsub hsu r ih =>
    obtain ⟨l', h1, h2⟩ := ih
    refine ⟨(cvy, none, fun a cls d => tDS (ks X (some (a, cls, d))) W0 m) :: l', .consU hc hsu h1, fun Ds W x ρ c fs st μ H σ cv dx ev sv xr h => ?_⟩
    unfold handle at h
    obtain ⟨C, ec, hC⟩ := xr.1
    cases es : sub c y with
    | none => simp only [es] at h; exact h.elim
    | some b =>
      simp only [es] at h
      refine ⟨b, by rw [ec]; exact hsub c b C es hC, fun hb a ha => ?_, fun hb => ?_⟩
      · subst hb
        exact ⟨μ, st, _, EV.noX ev, sv.exi, FinS.suiteU h⟩
      · subst hb
        exact h2 Ds W x ρ c fs st μ H σ cv dx ev sv xr h
  | @consN y n i cvy b₀ suite np pos' hds l m hc hsub hN hi hln hsu r ih =>
    obtain ⟨l', h1, h2⟩ := ih
    refine ⟨(cvy, some i, fun a cls d => tDS (ks X (some (a, cls, d))) W0 m) :: l', .consN hc hN hi hln hsu h1, fun Ds W x ρ c fs st μ H σ cv dx ev sv xr h => ?_⟩
    unfold handle at h
    obtain ⟨C, ec, hC⟩ := xr.1
    cases es : sub c y with
    | none => simp only [es] at h; exact h.elim
    | some b =>
      simp only [es] at h
      refine ⟨b, by rw [ec]; exact hsub c b C es hC, fun hb a ha => ?_, fun hb => ?_⟩
      · subst hb
        refine ⟨μ, st, _, (EV.noX ev).set i (d := .exc c fs) ⟨a, cv, dx, rfl, rfl, xr.exi⟩, sv.exi, FinS.suiteN h⟩
      · subst hb
        exact h2 Ds W x ρ c fs st μ H σ cv dx ev sv xr h
theorem FinS.try {W' : WX} {Ds : Ends} {μ : Mu} {H : Hp} {mb : En → MS} {hs : List Hd} {ρ : En} {st : Sto}
    (h2 : ∀ (ρ : En) (c : Str) (fs : List (Str × D)) (st : Sto) (μ : Mu) (H : Hp) (σ : L2.St) (cv : Value) (dx : Option Addr), EV (ks X x) μ H ρ σ → SV (ks X x) μ H st → XR (ks X x) μ H c fs cv dx → FinS (ks X x) W Ds μ H (handle sub hs ρ c fs st) → W' cv dx σ H)
    (h : FinS (ks X x) W Ds μ H (mTry sub mb hs ρ st)) : FinS (ks X x) W' Ds μ H (mb ρ st) := by
  unfold mTry at h
  cases e : mb ρ st with
  | none => rw [e] at h; exact h
  | some p =>
    obtain ⟨f, st'⟩ := p
    rw [e] at h
    cases f with
    | nx ρ' => exact h
    | bk ρ' => exact h
    | ct ρ' => exact h
    | rt a => exact h
    | ex ρ' c fs => exact fun cv dx μ' H' σ ev sv q xr => h2 ρ' c fs st' μ' H' σ cv dx q sv xr (FinS.go ev h)
theorem sd_try {body : List Stmt} {h₀ : ExceptHandler} {hds : List ExceptHandler} {hs : List Hd} {mb : En → MS} (tk : Takes X W)
    (hb : ∀ (W : WX) (pn : List (Addr × Obj)) (xe : Value → Shared → Prop), Takes (X.tr pn xe) W → PassesOwn (model X.prog X.w) X.A X.env xe → SDs (X.tr pn xe) x W body mb)
    (hh : HdsD X sub (h₀ :: hds) hs) (hst : X.stack = X.env :: X.outer := by rfl) (hf : X.env.frame = some X.env.locals := by rfl) : SD X x W (.Try body (h₀ :: hds) [] [] pos) (mTry sub mb hs) := by
  obtain ⟨l', h1, h2⟩ := hds_n hh
  refine SD.of (ps_try_manyN (tb := fun W => tDS (ks X x) W mb) hst hf tk hb h1) fun Ds σ H μ st ρ ev sv h => ⟨μ, st, ρ, ev, sv, ?_⟩
  exact FinS.try (fun ρ c fs st μ H σ cv dx ev sv xr h => h2 Ds W x ρ c fs st μ H σ cv dx ev sv xr h) h
/-! ### e.f, isinstance(e, c) -/
/-- own classes whose exceptions' fields are read -/
def ExF (K : PySem.W.Frag) (mg : Str → Option Value) (cs : List Str) (n : Str) : Prop := ∀ c ∈ cs, ∃ C, mg c = some (.ref C) ∧ XfC K C ∧ PySem.W.findIn K (.ref C) n = some none
def fldOf (cs : List Str) (n : Str) : Va → M Va
  | .exc c fs => if c ∈ cs then (match fs.lookup n with | some d => M.pure (.val d) | none => stuck) else stuck
  | _ => stuck
def mFld (cs : List Str) (n : Str) (m : En → M Va) : En → M Va := fun ρ => M.bind (m ρ) (fldOf cs n)
theorem KVs.lookup {S : Ks} {μ : Mu} {H : Hp} {n : Str} : ∀ {fs : List (Str × D)} {ys : List (Str × V)} {d : D}, KVs S μ H fs ys → fs.lookup n = some d → ∃ v, ys.lookup n = some v ∧ DV S μ H d v
  | [], ys, d, h, e => by simp at e
  | (k, d') :: r, ys, d, h, e => by
    obtain ⟨v, t, rfl, q, w⟩ := h
    simp only [List.lookup] at e ⊢
    split at e
    · cases e
      exact ⟨v, rfl, q⟩
    · exact KVs.lookup w e
theorem ed_fld {a : Addr} {oe : Obj} {cls : Value} {d : Option Addr} {pn : List (Addr × Obj)} {e : Expr} {me : En → M Va} {n : Str} {cs : List Str} (F : ExF X.K X.mg cs n) (hz : Zc cls d oe) (hf : ∃ vs, oe.data = .fields vs)
    (he : ED (X.suite a ((a, oe) :: pn)) (some (a, cls, d)) W0 e me) (hb : attributeBase e n X.env (eval e X.env) = eval e X.env := by rfl) : ED (X.suite a ((a, oe) :: pn)) (some (a, cls, d)) W0 (.Attribute e n pos) (mFld cs n me) := by
  by_cases hcl : ∃ c ∈ cs, ∃ C, X.mg c = some (.ref C) ∧ cls = .ref C
  · obtain ⟨c0, hc0, C0, hC0, rfl⟩ := hcl
    obtain ⟨C, hC, T, hno⟩ := F c0 hc0
    rw [hC0] at hC
    cases hC
    refine ED.of (pe_xf T hno hz hf he hb) fun σ H Q μ st ρ ev sv hf => ⟨μ, st, ρ, ev, sv, Fin.map (fun va st1 μ1 H1 e1 s1 h1 v hv => ?_) (Fin.bind hf)⟩
    cases va with
    | val d => exact h1.elim
    | obj k => exact h1.elim
    | scr ns => exact h1.elim
    | exc c fs =>
      simp only [fldOf] at h1
      split at h1
      · rename_i z
        obtain ⟨a', cv, dx, e3, rfl, hc1, dd, ys, rfl, nd, hy, kv⟩ := hv
        cases e3
        cases el : fs.lookup n with
        | none => rw [el] at h1; exact h1.elim
        | some df =>
          rw [el] at h1
          obtain ⟨v, lv, dv⟩ := kv.lookup el
          exact ⟨rfl, rfl, dd, ys, v, rfl, hy, lv, Fin.pure s1 h1 v dv⟩
      · exact h1.elim
  · refine ED.of (t := fun σ H Q => tD (ks (X.suite a ((a, oe) :: pn)) (some (a, cls, d))) W0 me σ H fun _ _ => False) ⟨fun pins s σ H Q I h => attr_of hb (thn (L2.PE.run he pins s σ H _ I h) fun u s1 hh => ?_)⟩ fun σ H Q μ st ρ ev sv hf => ⟨μ, st, ρ, ev, sv, Fin.map (fun va st1 μ1 H1 e1 s1 h1 v hv => ?_) (Fin.bind hf)⟩
    · obtain ⟨_, _, _, _, z⟩ := hh
      exact z.elim
    · cases va with
      | val d => exact h1.elim
      | obj k => exact h1.elim
      | scr ns => exact h1.elim
      | exc c fs =>
        simp only [fldOf] at h1
        split at h1
        · rename_i z
          obtain ⟨a', cv, dx, e3, rfl, ⟨C, ec, hc1⟩, _⟩ := hv
          cases e3
          exact absurd ⟨c, z, C, hc1, ec⟩ hcl
        · exact h1.elim

end
end DL
end

section
set_option Elab.async false
set_option linter.all false
set_option maxRecDepth 100000
set_option maxHeartbeats 4000000
/-! isinstance over plain data. -/
namespace DL
open PySem PySem.Spec PyProof.Rows L2

inductive Ty where | int | bool | str | tuple | list
def Ty.n : Ty → String
  | .int => "int" | .bool => "bool" | .str => "str" | .tuple => "tuple" | .list => "list"
/-- isinstance of plain data -/
def isT : Ty → D → Option Bool
  | _, .glo _ => none
  | .int, .int _ => some true
  | .int, .bl _ => some true
  | .bool, .bl _ => some true
  | .str, .str _ => some true
  | .tuple, .tup _ => some true
  | .list, .lst _ => some true
  | _, _ => some false
def tyN : D → String
  | .non => "NoneType" | .bl _ => "bool" | .int _ => "int" | .str _ => "str" | .tup _ => "tuple" | .lst _ => "list" | .glo _ => ""
theorem isT_ok {K : PySem.W.Frag} {t : Ty} {d : D} {b : Bool} (h : isT t d = some b) : PySem.W.kitOne K (.type (tyN d)) (.type t.n) = some b := by
  cases d <;> cases t <;> simp only [isT] at h <;> first | (cases h; done) | (cases h; simp only [tyN, Ty.n]; exact kit_ty (by decide +kernel))
theorem tyX_dv {S : Ks} {μ : Mu} {H : Hp} {d : D} {v : V} (h : DV S μ H d v) (hg : ∀ g, d ≠ .glo g) : TyX S.K H v (.type (tyN d)) := by
  cases d with
  | non => simp only [DV] at h; subst h; exact .base .non
  | bl b => simp only [DV] at h; subst h; exact .base (.bl b)
  | int i => simp only [DV] at h; subst h; exact .base (.int i)
  | str x => simp only [DV] at h; subst h; exact .base (.str x)
  | tup ds =>
    simp only [DV] at h
    obtain ⟨a, xs, rfl, q, _⟩ := h
    rcases q with (q | ⟨o, q⟩) | ⟨o, its, n, q1, q2, _⟩
    · exact .base (.tup q)
    · exact .fTuple q
    · exact .kTuple q1 q2
  | lst ds =>
    simp only [DV] at h
    obtain ⟨a, xs, rfl, _, q, _⟩ := h
    rcases q with q | ⟨o, q⟩
    · exact .base (.lst q)
    · exact .base (.frz q)
  | glo g => exact absurd rfl (hg g)
def isVa (t : Ty) : Va → M Va
  | .val d => match isT t d with
    | some b => M.pure (.val (.bl b))
    | none => stuck
  | _ => stuck
def mIsV (t : Ty) (m : En → M Va) : En → M Va := fun ρ => M.bind (m ρ) (isVa t)
/-- a name that holds a class -/
structure ClsN (X : Cx) (y : Str) (c : V) (cv : Value) : Prop where
  pe : ∀ pos, PE X (.Name y pos) (tC c)
  cl : ClsV c cv
section
variable {X : Cx} {x : ExI} {W : WX} {pos p p2 : Pos} {e : Expr} {me : En → M Va} {y : Str} {c : V} {cv : Value}
theorem clsN_ty {n : String} (hm : X.mg y = none) (hv : bootBuiltins y = some (.type n)) (hg : Gl X y := by rfl) (hn : y ≠ "__name__" := by decide) (hd : (y == ("__debug__" : Str)) = false := by decide) : ClsN X y (.ty n) (.type n) :=
  ⟨fun pos => pe_bltn hg hm hv rfl hn hd, .ty n⟩
theorem clsN_own {C : Addr} (hm : X.mg y = some (.ref C)) (hg : Gl X y := by rfl) (hd : (y == ("__debug__" : Str)) = false := by decide) : ClsN X y (.ref C) (.ref C) :=
  ⟨fun pos => pe_glob hg hm rfl hd, .own C⟩
theorem ed_isV (t : Ty) (C : ClsN X y (.ty t.n) (.type t.n)) (hm : X.mg "isinstance" = none) (he : ED X x W e me) (hg : Gl X "isinstance" := by rfl)
    (h1 : starEach [e, .Name y p2] X.env = (false, eval e X.env) :: starEach [.Name y p2] X.env := by rfl) (h2 : starEach [.Name y p2] X.env = (false, eval (.Name y p2) X.env) :: starEach [] X.env := by rfl) (hpl : (backTo pos (starEach [.Name y p2] X.env)).any (·.1) = false := by rfl) :
    ED X x W (.Call (.Name "isinstance" p) [e, .Name y p2] [] pos) (mIsV t me) := by
  refine ED.of (pe_callB call_isi hg hm (PyProof.Rows.Boot.«isinstance») (pa_cons he (pa_cons (C.pe p2) pa_nil h2) h1) (by decide) (by decide) h1 hpl) fun σ H Q μ st ρ ev sv hf => ⟨μ, st, ρ, ev, sv, Fin.map (fun a st1 μ1 H1 e1 s1 h1 v hv => ?_) (Fin.bind hf)⟩
  cases a with
  | obj k => exact h1.elim
  | exc c fs => exact h1.elim
  | scr ns => exact h1.elim
  | val d =>
    simp only [isVa] at h1
    cases et : isT t d with
    | none => rw [et] at h1; exact h1.elim
    | some b =>
      rw [et] at h1
      have hg' : ∀ g, d ≠ .glo g := fun g z => by subst z; cases t <;> cases et
      exact ⟨v, .ty t.n, _, _, b, rfl, .ty t.n, tyX_dv (S := ks X x) hv hg', isT_ok et, Fin.pure s1 h1 _ (by simp only [AV, DV])⟩
/-! ### of a caught exception -/
def isEa (sub : Str → Str → Option Bool) (y : Str) : Va → M Va
  | .exc c _ => match sub c y with
    | some b => M.pure (.val (.bl b))
    | none => stuck
  | _ => stuck
def mIsE (sub : Str → Str → Option Bool) (y : Str) (m : En → M Va) : En → M Va := fun ρ => M.bind (m ρ) (isEa sub y)
theorem ed_isE {a : Addr} {oe : Obj} {cls : Value} {d : Option Addr} {sub : Str → Str → Option Bool} (C : ClsN X y c cv) (hm : X.mg "isinstance" = none) (hz : Zc cls d oe) (hf : ∃ vs, oe.data = .fields vs)
    (hk : ∀ c b C, sub c y = some b → X.mg c = some (.ref C) → PySem.W.kitOne X.K (.ref C) cv = some b ∧ ExcC X.K C)
    (he : ED X (some (a, cls, d)) W e me) (hpn : (a, oe) ∈ X.pn := by exact List.mem_cons_self) (hg : Gl X "isinstance" := by rfl)
    (h1 : starEach [e, .Name y p2] X.env = (false, eval e X.env) :: starEach [.Name y p2] X.env := by rfl) (h2 : starEach [.Name y p2] X.env = (false, eval (.Name y p2) X.env) :: starEach [] X.env := by rfl) (hpl : (backTo pos (starEach [.Name y p2] X.env)).any (·.1) = false := by rfl) :
    ED X (some (a, cls, d)) W (.Call (.Name "isinstance" p) [e, .Name y p2] [] pos) (mIsE sub y me) := by
  have hc : CallR X (.builtin "isinstance") (fun xs H Q => ∃ (b : Bool) (C : Addr) (dd : Addr) (ys : List (Str × V)), xs = [.ref a, c] ∧ cls = .ref C ∧ d = some dd ∧ H dd = some (.xd ys) ∧ PySem.W.kitOne X.K (.ref C) cv = some b ∧ ExcC X.K C ∧ Q (.bl b) H) := by
    intro pins s σ H xs us Q I r h
    obtain ⟨b, D, dd, ys, rfl, rfl, rfl, hx, e1, EC, q⟩ := h
    cases r with
    | cons rx rr =>
      cases rr with
      | cons rt rr =>
        cases rr
        cases rx
        have ec := C.cl.eq rt
        subst ec
        obtain ⟨hget, _⟩ := I.pin (a, oe) (List.mem_append.mpr (.inl hpn))
        obtain ⟨vs, hv⟩ := hf
        obtain ⟨mA, ⟨od, es, ep, ho, _⟩, _⟩ := I.hok dd _ hx
        have J : PySem.W.InstAt s.heap a oe D (some od) := ⟨hget, hz.1, by unfold PySem.W.notCls; rw [hv] <;> rfl, by rw [hz.2]; exact ho⟩
        have hcl : (PySem.W.clsIn X.K D).isSome = true := by
          obtain ⟨cd, hc, _⟩ := PySem.W.any_some EC.hd
          rw [hc]; rfl
        exact PySem.W.kia_one (PySem.W.kitx_exc hcl EC.hg EC.hk EC.hs EC.ha EC.hn EC.ht EC.hm) I.kIn J e1 (fun z => nomatch z) fun tk => ⟨.bl b, H, I.kept (t' := tk) fun _ _ z => z, rfl, q⟩
  refine ED.of (pe_callB hc hg hm (PyProof.Rows.Boot.«isinstance») (pa_cons he (pa_cons (C.pe p2) pa_nil h2) h1) (by decide) (by decide) h1 hpl) fun σ H Q μ st ρ ev sv hf => ⟨μ, st, ρ, ev, sv, Fin.map (fun va st1 μ1 H1 e1 s1 h1 v hv => ?_) (Fin.bind hf)⟩
  cases va with
  | obj k => exact h1.elim
  | val d => exact h1.elim
  | scr ns => exact h1.elim
  | exc c' fs =>
    simp only [isEa] at h1
    cases et : sub c' y with
    | none => rw [et] at h1; exact h1.elim
    | some b =>
      rw [et] at h1
      obtain ⟨a', cv', dx, e3, rfl, ⟨C', rfl, hc1⟩, dd, ys, rfl, nd, hy, kv⟩ := hv
      cases e3
      obtain ⟨k1, k2⟩ := hk c' b C' et hc1
      exact ⟨b, C', dd, ys, rfl, rfl, rfl, hy, k1, k2, Fin.pure s1 h1 _ (by simp only [AV, DV])⟩
end
end DL
end

section
set_option Elab.async false
set_option linter.all false
set_option maxRecDepth 100000
set_option maxHeartbeats 4000000
/-! Operators over plain data: equality, in, repr, arithmetic. -/
namespace DL
open PySem PySem.Spec PyProof.Rows L2

mutual
def py : D → PyData
  | .non => .none | .bl b => .bool b | .int i => .int i | .str x => .str x | .tup xs => .tuple (pys xs) | .lst xs => .list (pys xs) | .glo _ => .none
def pys : List D → List PyData
  | [] => []
  | d :: r => py d :: pys r
end
mutual
def okD : D → Bool
  | .non => true | .bl _ => true | .int _ => true | .str x => PyData.canLay0 (.str x) | .tup xs => okDs xs | .lst xs => okDs xs | .glo _ => false
def okDs : List D → Bool
  | [] => true
  | d :: r => okD d && okDs r
end
mutual
def depD : D → Nat
  | .tup xs => depDs xs + 1 | .lst xs => depDs xs + 1 | _ => 0
def depDs : List D → Nat
  | [] => 0
  | d :: r => max (depD d) (depDs r)
end
theorem pys_map : ∀ ds : List D, pys ds = ds.map py
  | [] => by simp [pys]
  | d :: r => by simp [pys, pys_map r]
mutual
theorem okD_lay : ∀ {d : D}, okD d = true → (py d).canLay0 = true
  | .non, h => by simp [py, PyData.canLay0]
  | .bl _, h => by simp [py, PyData.canLay0]
  | .int _, h => by simp [py, PyData.canLay0]
  | .str x, h => by simpa only [py, okD] using h
  | .tup xs, h => by simp only [py, PyData.canLay0]; exact okDs_lay (by simpa only [okD] using h)
  | .lst xs, h => by simp only [py, PyData.canLay0]; exact okDs_lay (by simpa only [okD] using h)
  | .glo _, h => by simp [okD] at h
theorem okDs_lay : ∀ {ds : List D}, okDs ds = true → PyData.canLayAll0 (pys ds) = true
  | [], h => by simp [pys, PyData.canLayAll0]
  | d :: r, h => by
    simp only [okDs, Bool.and_eq_true] at h
    simp only [pys, PyData.canLayAll0, okD_lay h.1, okDs_lay h.2, Bool.and_self]
end
mutual
theorem py_depth : ∀ d : D, (py d).depth = depD d
  | .non => by simp [py, PyData.depth, depD]
  | .bl _ => by simp [py, PyData.depth, depD]
  | .int _ => by simp [py, PyData.depth, depD]
  | .str _ => by simp [py, PyData.depth, depD]
  | .tup xs => by simp only [py, PyData.depth, depD, pys_depth xs]
  | .lst xs => by simp only [py, PyData.depth, depD, pys_depth xs]
  | .glo _ => by simp [py, PyData.depth, depD]
theorem pys_depth : ∀ ds : List D, PyData.depthAll (pys ds) = depDs ds
  | [] => by simp [pys, PyData.depthAll, depDs]
  | d :: r => by simp only [pys, PyData.depthAll, depDs, py_depth d, pys_depth r]
end
def shD (d : D) : Bool := okD d && decide (depD d ≤ 64)
theorem shD_shaped {d : D} (h : shD d = true) : SeqAt.shaped (py d) = true := by
  simp only [shD, Bool.and_eq_true, decide_eq_true_eq] at h
  simp only [SeqAt.shaped, okD_lay h.1, py_depth, h.2, decide_true, Bool.and_self]
section
variable {S : Ks} {μ : Mu} {H : Hp}
mutual
theorem dp_dv : ∀ {d : D} {v : V}, okD d = true → DV S μ H d v → Dp S.K H v (py d)
  | .non, v, h, q => by simp only [DV] at q; subst q; simp only [py]; exact .non
  | .bl b, v, h, q => by simp only [DV] at q; subst q; simp only [py]; exact .bl b
  | .int i, v, h, q => by simp only [DV] at q; subst q; simp only [py]; exact .int i
  | .str x, v, h, q => by simp only [DV] at q; subst q; simp only [py]; exact .str x
  | .tup xs, v, h, q => by
    simp only [DV] at q
    obtain ⟨a, ys, rfl, q1, q2⟩ := q
    simp only [py]
    exact .tup q1 (dp_dvs (by simpa only [okD] using h) q2)
  | .lst xs, v, h, q => by
    simp only [DV] at q
    obtain ⟨a, ys, rfl, _, q1, q2⟩ := q
    simp only [py]
    exact .lst (rd_sql q1) (dp_dvs (by simpa only [okD] using h) q2)
  | .glo _, v, h, q => by simp [okD] at h
theorem dp_dvs : ∀ {ds : List D} {vs : List V}, okDs ds = true → DVs S μ H ds vs → DpAll S.K H vs (pys ds)
  | [], vs, h, q => by simp only [DVs] at q; subst q; simp only [pys]; exact .nil
  | d :: r, vs, h, q => by
    simp only [DVs] at q
    obtain ⟨v, t, rfl, q1, q2⟩ := q
    simp only [okDs, Bool.and_eq_true] at h
    simp only [pys]
    exact .cons (dp_dv h.1 q1) (dp_dvs h.2 q2)
end
/-- the data that a value stands for at this moment -/
def deref (st : Sto) : Va → Option D
  | .val d => some d
  | .obj k => match st[k]? with
    | some (.lst ds) => some (.lst ds)
    | _ => none
  | _ => none
theorem deref_dp {st : Sto} {a : Va} {d : D} {v : V} (sv : SV S μ H st) (e : deref st a = some d) (h : AV S μ H a v) (ok : okD d = true) : Dp S.K H v (py d) := by
  cases a with
  | val d' => simp only [deref, Option.some.injEq] at e; subst e; exact dp_dv ok h
  | exc c fs => simp [deref] at e
  | scr ns => simp [deref] at e
  | obj k =>
    simp only [deref] at e
    split at e
    · rename_i ds hk
      cases e
      obtain ⟨p, rfl, _, _, xs, hx, dx⟩ := sv.at hk (fun z => nomatch z) h
      simp only [py]
      exact .lst (SqL.of hx) (dp_dvs (by simpa only [okD] using ok) dx)
    · cases e
/-- a list's or tuple's items -/
theorem deref_lst {st : Sto} {a : Va} {ds : List D} {v : V} (sv : SV S μ H st) (e : deref st a = some (.lst ds)) (h : AV S μ H a v) : ∃ p xs, v = .ref p ∧ SqL S.K H p xs ∧ Rd H p (.lst xs) ∧ DVs S μ H ds xs := by
  cases a with
  | val d' =>
    simp only [deref, Option.some.injEq] at e
    subst e
    simp only [AV, DV] at h
    obtain ⟨p, xs, e, _, q, r⟩ := h
    exact ⟨p, xs, e, rd_sql q, q, r⟩
  | exc c fs => simp [deref] at e
  | scr ns => simp [deref] at e
  | obj k =>
    simp only [deref] at e
    split at e
    · rename_i ds hk
      cases e
      obtain ⟨p, rfl, _, _, xs, hx, dx⟩ := sv.at hk (fun z => nomatch z) h
      exact ⟨p, xs, rfl, SqL.of hx, .inl hx, dx⟩
    · cases e
theorem deref_tup {st : Sto} {a : Va} {ds : List D} {v : V} (e : deref st a = some (.tup ds)) (h : AV S μ H a v) : ∃ p xs, v = .ref p ∧ SqT S.K H p xs ∧ DVs S μ H ds xs := by
  cases a with
  | val d' =>
    simp only [deref, Option.some.injEq] at e
    subst e
    simp only [AV, DV] at h
    exact h
  | exc c fs => simp [deref] at e
  | scr ns => simp [deref] at e
  | obj k =>
    simp only [deref] at e
    split at e <;> cases e
end
def opEq (a b : Va) : M Va := fun st => match deref st a, deref st b with
  | some x, some y => if shD x = true ∧ shD y = true then some (.ok (.val (.bl (PyData.eqv (py x) (py y)))), st) else none
  | _, _ => none
def opNe (a b : Va) : M Va := fun st => match deref st a, deref st b with
  | some x, some y => if shD x = true ∧ shD y = true then some (.ok (.val (.bl (!PyData.eqv (py x) (py y)))), st) else none
  | _, _ => none
theorem shD_ok {d : D} (h : shD d = true) : okD d = true := by
  simp only [shD, Bool.and_eq_true] at h
  exact h.1
section
variable {X : Cx} {x : ExI}
theorem opd_eq (hu : X.A.units + 64 < cLine) : OpD X x (compareOp .Eq) opEq := by
  refine OpD.of (op_eqD hu) fun E H μ st a b x1 y Q sv ha hb h hE => ?_
  unfold opEq at h
  split at h
  · rename_i d e hd he
    split at h
    · rename_i z
      exact ⟨py d, py e, deref_dp sv hd ha (shD_ok z.1), deref_dp sv he hb (shD_ok z.2), shD_shaped z.1, shD_shaped z.2, h μ H (Ev.refl _ _) sv _ (by simp only [AV, DV])⟩
    · exact h.elim
  · exact h.elim
theorem opd_ne (hu : X.A.units + 64 < cLine) : OpD X x (compareOp .NotEq) opNe := by
  refine OpD.of (op_neD hu) fun E H μ st a b x1 y Q sv ha hb h hE => ?_
  unfold opNe at h
  split at h
  · rename_i d e hd he
    split at h
    · rename_i z
      exact ⟨py d, py e, deref_dp sv hd ha (shD_ok z.1), deref_dp sv he hb (shD_ok z.2), shD_shaped z.1, shD_shaped z.2, h μ H (Ev.refl _ _) sv _ (by simp only [AV, DV])⟩
    · exact h.elim
  · exact h.elim
/-! ### in, not in -/
def inD (d : D) (ds : List D) : Bool := ds.any fun z => PyData.eqv (py z) (py d)
def rInT (K : PySem.W.Frag) : R2 := fun x y H Q => ∃ d ds, Dp K H x d ∧ Dp K H y (.tuple ds) ∧ SeqAt.shaped d = true ∧ SeqAt.shaped (.tuple ds) = true ∧ Q (.bl (ds.any fun z => PyData.eqv z d)) H
def rNotInT (K : PySem.W.Frag) : R2 := fun x y H Q => ∃ d ds, Dp K H x d ∧ Dp K H y (.tuple ds) ∧ SeqAt.shaped d = true ∧ SeqAt.shaped (.tuple ds) = true ∧ Q (.bl (!ds.any fun z => PyData.eqv z d)) H
theorem room_in {A : Around} {d : PyData} {ds : List PyData} (hu : A.units + 65 < cLine) (hs : SeqAt.shaped d = true) : A.units + 1 + min (PyData.depthAll ds) d.depth < cLine := by
  have h1 := SeqAt.depth_of_shaped hs
  have h2 := Nat.min_le_right (PyData.depthAll ds) d.depth
  omega
theorem op_inT (hu : X.A.units + 65 < cLine) : OpR X (compareOp .In) (rInT X.K) := by
  intro pins s σ H x y v u Q I rx ry h
  obtain ⟨d, ds, hd, he, sd, se, q⟩ := h
  obtain ⟨as, r1⟩ := Dp.reads I d x v hd rx
  obtain ⟨bs, r2⟩ := Dp.reads I (.tuple ds) y u he ry
  exact SeqAt.in_tuple_reads r2 r1 (by have := SeqAt.canLay_of_shaped se; simpa only [PyData.canLay0] using this) (SeqAt.canLay_of_shaped sd) (room_in hu sd) ⟨.bl _, H, I, rfl, q⟩
theorem op_notInT (hu : X.A.units + 65 < cLine) : OpR X (compareOp .NotIn) (rNotInT X.K) := by
  intro pins s σ H x y v u Q I rx ry h
  obtain ⟨d, ds, hd, he, sd, se, q⟩ := h
  obtain ⟨as, r1⟩ := Dp.reads I d x v hd rx
  obtain ⟨bs, r2⟩ := Dp.reads I (.tuple ds) y u he ry
  exact SeqAt.notIn_tuple_reads r2 r1 (by have := SeqAt.canLay_of_shaped se; simpa only [PyData.canLay0] using this) (SeqAt.canLay_of_shaped sd) (room_in hu sd) ⟨.bl _, H, I, rfl, q⟩
def opIn (a b : Va) : M Va := fun st => match deref st a, deref st b with
  | some d, some (.lst ds) => if shD d = true ∧ shD (.lst ds) = true then some (.ok (.val (.bl (inD d ds))), st) else none
  | some d, some (.tup ds) => if shD d = true ∧ shD (.tup ds) = true then some (.ok (.val (.bl (inD d ds))), st) else none
  | _, _ => none
def opNotIn (a b : Va) : M Va := fun st => match deref st a, deref st b with
  | some d, some (.lst ds) => if shD d = true ∧ shD (.lst ds) = true then some (.ok (.val (.bl (!inD d ds))), st) else none
  | some d, some (.tup ds) => if shD d = true ∧ shD (.tup ds) = true then some (.ok (.val (.bl (!inD d ds))), st) else none
  | _, _ => none
theorem any_pys (d : D) : ∀ ds : List D, ((pys ds).any fun z => PyData.eqv z (py d)) = inD d ds := fun ds => by
  rw [pys_map, List.any_map]; rfl
theorem opd_in (hu : X.A.units + 65 < cLine) : OpD X x (compareOp .In) opIn := by
  refine OpD.of ((op_inD hu).or (op_inT hu)) fun E H μ st a b x1 y Q sv ha hb h hE => ?_
  unfold opIn at h
  split at h
  · rename_i d ds hd he
    split at h
    · rename_i z
      have q := deref_dp sv he hb (shD_ok z.2)
      have s2 := shD_shaped z.2
      simp only [py] at q s2
      exact .inl ⟨py d, pys ds, deref_dp sv hd ha (shD_ok z.1), q, shD_shaped z.1, s2, by rw [any_pys]; exact h μ H (Ev.refl _ _) sv _ (by simp only [AV, DV])⟩
    · exact h.elim
  · rename_i d ds hd he
    split at h
    · rename_i z
      have q := deref_dp sv he hb (shD_ok z.2)
      have s2 := shD_shaped z.2
      simp only [py] at q s2
      exact .inr ⟨py d, pys ds, deref_dp sv hd ha (shD_ok z.1), q, shD_shaped z.1, s2, by rw [any_pys]; exact h μ H (Ev.refl _ _) sv _ (by simp only [AV, DV])⟩
    · exact h.elim
  · exact h.elim
theorem opd_notIn (hu : X.A.units + 65 < cLine) : OpD X x (compareOp .NotIn) opNotIn := by
  refine OpD.of ((op_notInD hu).or (op_notInT hu)) fun E H μ st a b x1 y Q sv ha hb h hE => ?_
  unfold opNotIn at h
  split at h
  · rename_i d ds hd he
    split at h
    · rename_i z
      have q := deref_dp sv he hb (shD_ok z.2)
      have s2 := shD_shaped z.2
      simp only [py] at q s2
      exact .inl ⟨py d, pys ds, deref_dp sv hd ha (shD_ok z.1), q, shD_shaped z.1, s2, by rw [any_pys]; exact h μ H (Ev.refl _ _) sv _ (by simp only [AV, DV])⟩
    · exact h.elim
  · rename_i d ds hd he
    split at h
    · rename_i z
      have q := deref_dp sv he hb (shD_ok z.2)
      have s2 := shD_shaped z.2
      simp only [py] at q s2
      exact .inr ⟨py d, pys ds, deref_dp sv hd ha (shD_ok z.1), q, shD_shaped z.1, s2, by rw [any_pys]; exact h μ H (Ev.refl _ _) sv _ (by simp only [AV, DV])⟩
    · exact h.elim
  · exact h.elim
/-- is None, is not None -/
def isNonA : Va → Option Bool
  | .val .non => some true
  | .exc _ _ => none
  | .scr _ => none
  | _ => some false
def opIsN (a b : Va) : M Va := match b with
  | .val .non => match isNonA a with
    | some t => M.pure (.val (.bl t))
    | none => stuck
  | _ => stuck
def opNotN (a b : Va) : M Va := match b with
  | .val .non => match isNonA a with
    | some t => M.pure (.val (.bl (!t)))
    | none => stuck
  | _ => stuck
theorem isN_dec {S : Ks} {μ : Mu} {H : Hp} {a : Va} {v : V} {t : Bool} (h : AV S μ H a v) (e : isNonA a = some t) : decide (v = .non) = t := by
  cases a with
  | exc c fs => cases e
  | scr ns => cases e
  | obj k => obtain ⟨p, rfl, _⟩ := h; cases e; simp
  | val d =>
    cases d with
    | non => simp only [AV, DV] at h; subst h; cases e; simp
    | bl b => simp only [AV, DV] at h; subst h; cases e; simp
    | int b => simp only [AV, DV] at h; subst h; cases e; simp
    | str b => simp only [AV, DV] at h; subst h; cases e; simp
    | tup b => simp only [AV, DV] at h; obtain ⟨p, _, rfl, _⟩ := h; cases e; simp
    | lst b => simp only [AV, DV] at h; obtain ⟨p, _, rfl, _⟩ := h; cases e; simp
    | glo b => simp only [AV, DV] at h; obtain ⟨p, rfl, _⟩ := h; cases e; simp
theorem opd_isN : OpD X x (compareOp .Is) opIsN := by
  refine OpD.of op_isN fun E H μ st a b x1 y Q sv ha hb h hE => ?_
  unfold opIsN at h
  split at h
  · simp only [AV, DV] at hb
    refine ⟨hb, ?_⟩
    cases e : isNonA a with
    | none => simp only [e] at h; exact h.elim
    | some t =>
      simp only [e] at h
      rw [isN_dec ha e]
      exact Fin.pure sv h _ (by simp only [AV, DV])
  · exact h.elim
theorem opd_notN : OpD X x (compareOp .IsNot) opNotN := by
  refine OpD.of op_notN fun E H μ st a b x1 y Q sv ha hb h hE => ?_
  unfold opNotN at h
  split at h
  · simp only [AV, DV] at hb
    refine ⟨hb, ?_⟩
    cases e : isNonA a with
    | none => simp only [e] at h; exact h.elim
    | some t =>
      simp only [e] at h
      rw [isN_dec ha e]
      exact Fin.pure sv h _ (by simp only [AV, DV])
  · exact h.elim
/-! ### ints -/
def iiI (f : Int → Int → Int) (a b : Va) : M Va := match a, b with
  | .val (.int i), .val (.int j) => M.pure (.val (.int (f i j)))
  | _, _ => stuck
def iiB (f : Int → Int → Bool) (a b : Va) : M Va := match a, b with
  | .val (.int i), .val (.int j) => M.pure (.val (.bl (f i j)))
  | _, _ => stuck
theorem av_i {S : Ks} {μ : Mu} {H : Hp} {i : Int} {v : V} (h : AV S μ H (.val (.int i)) v) : v = .int i := by simpa only [AV, DV] using h
theorem av_s {S : Ks} {μ : Mu} {H : Hp} {i : Str} {v : V} (h : AV S μ H (.val (.str i)) v) : v = .str i := by simpa only [AV, DV] using h
theorem av_b {S : Ks} {μ : Mu} {H : Hp} {i : Bool} {v : V} (h : AV S μ H (.val (.bl i)) v) : v = .bl i := by simpa only [AV, DV] using h
theorem opd_iiB {f : Value → Value → Sem Value} {p : Int → Int → Bool} (h : OpR X f (rI0 fun i j => .bl (p i j))) : OpD X x f (iiB p) := by
  refine OpD.of h fun E H μ st a b x1 y Q sv ha hb h hE => ?_
  unfold iiB at h
  split at h
  · exact ⟨_, _, av_i ha, av_i hb, Fin.pure sv h _ (by simp only [AV, DV])⟩
  · exact h.elim
theorem opd_lt : OpD X x (compareOp .Lt) (iiB fun i j => decide (i < j)) := opd_iiB op_lt
theorem opd_le : OpD X x (compareOp .LtE) (iiB fun i j => decide (i ≤ j)) := opd_iiB op_le
theorem opd_gt : OpD X x (compareOp .Gt) (iiB fun i j => decide (j < i)) := opd_iiB op_gt
theorem opd_ge : OpD X x (compareOp .GtE) (iiB fun i j => decide (j ≤ i)) := opd_iiB op_ge
theorem opd_subI : OpD X x (binaryOp .Sub) (iiI fun i j => i - j) := by
  refine OpD.of op_sub fun E H μ st a b x1 y Q sv ha hb h hE => ?_
  unfold iiI at h
  split at h
  · exact ⟨_, _, av_i ha, av_i hb, Fin.pure sv h _ (by simp only [AV, DV])⟩
  · exact h.elim
/-- a factor below 2^64 -/
def smallF (i j : Int) : Bool := decide ((-(2 ^ 64) < i ∧ i < 2 ^ 64) ∨ (-(2 ^ 64) < j ∧ j < 2 ^ 64))
def opFdiv (a b : Va) : M Va := match a, b with
  | .val (.int i), .val (.int j) => if 0 < j ∧ j < 1073741824 then M.pure (.val (.int (i / j))) else stuck
  | _, _ => stuck
theorem opd_fdiv : OpD X x (binaryOp .FloorDiv) opFdiv := by
  refine OpD.of op_fdiv fun E H μ st a b x1 y Q sv ha hb h hE => ?_
  unfold opFdiv at h
  split at h
  · split at h
    · rename_i z
      exact ⟨_, _, av_i ha, av_i hb, z, Fin.pure sv h _ (by simp only [AV, DV])⟩
    · exact h.elim
  · exact h.elim
def opMod (a b : Va) : M Va := match a, b with
  | .val (.int i), .val (.int j) => if 0 < j then M.pure (.val (.int (i % j))) else stuck
  | _, _ => stuck
theorem opd_mod : OpD X x (binaryOp .Mod) opMod := by
  refine OpD.of op_mod fun E H μ st a b x1 y Q sv ha hb h hE => ?_
  unfold opMod at h
  split at h
  · split at h
    · rename_i z
      exact ⟨_, _, av_i ha, av_i hb, z, Fin.pure sv h _ (by simp only [AV, DV])⟩
    · exact h.elim
  · exact h.elim
def opPow (a b : Va) : M Va := match a, b with
  | .val (.int i), .val (.int j) => if 0 ≤ j ∧ j ≤ 1000000 ∧ i.natAbs < 2 ^ 64 then M.pure (.val (.int (i ^ j.toNat))) else stuck
  | _, _ => stuck
theorem opd_pow : OpD X x (binaryOp .Pow) opPow := by
  refine OpD.of op_pow fun E H μ st a b x1 y Q sv ha hb h hE => ?_
  unfold opPow at h
  split at h
  · split at h
    · rename_i z
      exact ⟨_, _, av_i ha, av_i hb, z, Fin.pure sv h _ (by simp only [AV, DV])⟩
    · exact h.elim
  · exact h.elim
/-! ### + -/
theorem lstR {pins : List (Addr × Obj)} {σ : L2.St} {H : Hp} {s : Shared} {l : Addr} {xs : List V} (I : L2.Inv X pins σ H s) (h : Rd H l (.lst xs)) : xs.length ≤ sizeLine ∧ ∃ (its : List Value) (n : Nat), Vals xs its ∧ xs.length = its.length ∧ s.heap.get? l = some { cls := .type "list", data := .seq its.toArray n } := by
  have q := h.ok I.hok
  obtain ⟨z, its, n, r, e⟩ := q
  exact ⟨z, its, n, r, Paired.length r, e⟩
def rCatL : R2 := fun x y H Q => ∃ l b xs zs, x = .ref l ∧ y = .ref b ∧ Rd H l (.lst xs) ∧ Rd H b (.lst zs) ∧ xs.length + zs.length ≤ sizeLine ∧ ∀ p, H p = none → Q (.ref p) (upd H p (.lst (xs ++ zs)))
theorem op_catL : OpR X (binaryOp .Add) rCatL := by
  intro pins s σ H x y v u Q I rx ry h
  obtain ⟨l, b, xs, zs, rfl, rfl, hH, hB, hz, q⟩ := h
  cases rx
  cases ry
  obtain ⟨z, its, n, r, hl, e⟩ := lstR I hH
  obtain ⟨z2, its2, n2, r2, hl2, e2⟩ := lstR I hB
  refine PySem.P.add_list e e2 ?_ (by rw [List.size_toArray, List.size_toArray]; omega)
  have ea : its.toArray ++ its2.toArray = (its ++ its2).toArray := by simp
  rw [ea]
  exact ⟨.ref _, _, I.lnew (t' := s.toks) (r.append r2) (by rw [List.length_append]; omega), rfl, q _ I.fresh⟩
def opAdd (a b : Va) : M Va := fun st => match a, b with
  | .val (.int i), .val (.int j) => some (.ok (.val (.int (i + j))), st)
  | .val (.str i), .val (.str j) => if i.length + j.length ≤ sizeLine then some (.ok (.val (.str (i ++ j))), st) else none
  | .val (.tup xs), .val (.tup ys) => if xs.length + ys.length ≤ sizeLine then some (.ok (.val (.tup (xs ++ ys))), st) else none
  | a, b => match deref st a, deref st b with
    | some (.lst xs), some (.lst ys) => if xs.length + ys.length ≤ sizeLine then some (.ok (.val (.lst (xs ++ ys))), st) else none
    | _, _ => none
theorem opd_add : OpD X x (binaryOp .Add) opAdd := by
  refine OpD.of (op_add.or (op_add_str.or (op_catA.or op_catL))) fun E H μ st a b x1 y Q sv ha hb h hE => ?_
  unfold opAdd at h
  split at h
  · exact .inl ⟨_, _, av_i ha, av_i hb, h μ H (Ev.refl _ _) sv _ (by simp only [AV, DV])⟩
  · split at h
    · rename_i z
      exact .inr (.inl ⟨_, _, av_s ha, av_s hb, z, h μ H (Ev.refl _ _) sv _ (by simp only [AV, DV])⟩)
    · exact h.elim
  · rename_i xs ys
    split at h
    · rename_i z
      simp only [AV, DV] at ha hb
      obtain ⟨p, us, rfl, q1, r1⟩ := ha
      obtain ⟨q, ws, rfl, q2, r2⟩ := hb
      refine .inr (.inr (.inl ⟨p, q, us, ws, rfl, rfl, q1, q2, by rw [r1.length, r2.length]; exact z, fun e => ?_, fun _ e => ?_, fun _ _ l hl => ?_⟩))
      · have e1 : xs = [] := by have := r1.length; rw [e] at this; exact List.length_eq_zero_iff.mp this.symm
        subst e1
        exact h μ H (Ev.refl _ _) sv _ (by simp only [AV, DV]; exact ⟨q, ws, rfl, q2, r2⟩)
      · have e1 : ys = [] := by have := r2.length; rw [e] at this; exact List.length_eq_zero_iff.mp this.symm
        subst e1
        rw [List.append_nil] at h
        exact h μ H (Ev.refl _ _) sv _ (by simp only [AV, DV]; exact ⟨p, us, rfl, q1, r1⟩)
      · exact h μ _ (Ev.made hl) (sv.made hl) _ (by simp only [AV, DV]; exact ⟨l, _, rfl, SqT.of upd_same, DVs.go (Ev.made hl) _ (r1.append r2)⟩)
    · exact h.elim
  · split at h
    · rename_i xs ys hd he
      split at h
      · rename_i z
        obtain ⟨p, us, rfl, _, q1, r1⟩ := deref_lst sv hd ha
        obtain ⟨q, ws, rfl, _, q2, r2⟩ := deref_lst sv he hb
        refine .inr (.inr (.inr ⟨p, q, us, ws, rfl, rfl, q1, q2, by rw [r1.length, r2.length]; exact z, fun l hl => ?_⟩))
        exact h μ _ (Ev.made hl) (sv.made hl) _ (by simp only [AV, DV]; exact ⟨l, _, rfl, sv.out hl, .inl upd_same, DVs.go (Ev.made hl) _ (r1.append r2)⟩)
      · exact h.elim
    · exact h.elim
end
end DL
end

section
set_option Elab.async false
set_option linter.all false
set_option maxRecDepth 100000
set_option maxHeartbeats 4000000
/-! Calls of built-ins, subscripts, slices, append, stores over plain data. -/
namespace DL
open PySem PySem.Spec PyProof.Rows L2

def CallD (X : Cx) (x : ExI) (f : Value) (g : List Va → M Va) : Prop :=
  CallR X f fun vs H Q => ∃ μ st as, SV (ks X x) μ H st ∧ AVs (ks X x) μ H as vs ∧ Fin (ks X x) (fun _ _ _ => False) μ H (fun d _ μ' H' => ∀ v, AV (ks X x) μ' H' d v → Q v H') (g as st)
theorem CallD.of {X : Cx} {x : ExI} {f : Value} {g : List Va → M Va} {r : List V → Hp → VK → Prop} (h : CallR X f r)
    (k : ∀ (H : Hp) (μ : Mu) (st : Sto) (as : List Va) (vs : List V) (Q : VK), SV (ks X x) μ H st → AVs (ks X x) μ H as vs → Fin (ks X x) (fun _ _ _ => False) μ H (fun d _ μ' H' => ∀ v, AV (ks X x) μ' H' d v → Q v H') (g as st) → r vs H Q) : CallD X x f g :=
  fun pins s σ H xs us Q I r ⟨μ, st, as, sv, av, h1⟩ => h pins s σ H xs us Q I r (k H μ st as xs Q sv av h1)
def mBlt (g : List Va → M Va) (m : En → M (List Va)) : En → M Va := fun ρ => M.bind (m ρ) fun as => calm (g as)
section
variable {X : Cx} {x : ExI} {W : WX} {pos p p2 : Pos} {e : Expr} {es : List Expr} {m : En → M (List Va)} {y : Str} {g : List Va → M Va} {bid T : String}
theorem ed_blt (C : CallD X x (.builtin bid) g) (hm : X.mg y = none) (hv : bootBuiltins y = some (.builtin bid)) (ha : AD X x W (e :: es) m) (hg : Gl X y := by rfl) (hn : y ≠ "__name__" := by decide) (hdb : (y == ("__debug__" : Str)) = false := by decide)
    (he : starEach (e :: es) X.env = (false, eval e X.env) :: starEach es X.env := by rfl) (hpl : (backTo pos (starEach es X.env)).any (·.1) = false := by rfl) : ED X x W (.Call (.Name y p) (e :: es) [] pos) (mBlt g m) :=
  ED.of (pe_callB C hg hm hv ha hn hdb he hpl) fun σ H Q μ st ρ ev sv hf => ⟨μ, st, ρ, ev, sv, Fin.map (fun as st1 μ1 H1 e1 s1 h1 vs hv => ⟨μ1, st1, as, s1, hv, Fin.calm h1⟩) (Fin.bind hf)⟩
theorem ed_ty (C : CallD X x (.type T) g) (hm : X.mg y = none) (hv : bootBuiltins y = some (.type T)) (ha : AD X x W (e :: es) m) (hg : Gl X y := by rfl) (hn : y ≠ "__name__" := by decide) (hdb : (y == ("__debug__" : Str)) = false := by decide)
    (he : starEach (e :: es) X.env = (false, eval e X.env) :: starEach es X.env := by rfl) (hpl : (backTo pos (starEach es X.env)).any (·.1) = false := by rfl) : ED X x W (.Call (.Name y p) (e :: es) [] pos) (mBlt g m) :=
  ED.of (pe_callTy C hg hm hv ha hn hdb he hpl) fun σ H Q μ st ρ ev sv hf => ⟨μ, st, ρ, ev, sv, Fin.map (fun as st1 μ1 H1 e1 s1 h1 vs hv => ⟨μ1, st1, as, s1, hv, Fin.calm h1⟩) (Fin.bind hf)⟩
/-! ### repr of a list, a tuple -/
def isSeqD : D → Bool
  | .tup _ => true
  | .lst _ => true
  | _ => false
def okR (d : D) : Bool := shD d && isSeqD d && (py d).showable && decide ((py d).shown.length ≤ sizeLine)
def bRepr  (as : List Va) : M Va := fun st => match as with
  | [a] => (match deref st a with
    | some d => if okR d = true then some (.ok (.val (.str (py d).shown)), st) else none
    | none => none)
  | _ => none
mutual
theorem noDict : ∀ d : D, (py d).hasDict = false
  | .non => by simp [py, PyData.hasDict]
  | .bl _ => by simp [py, PyData.hasDict]
  | .int _ => by simp [py, PyData.hasDict]
  | .str _ => by simp [py, PyData.hasDict]
  | .tup xs => by simp only [py, PyData.hasDict, noDicts xs]
  | .lst xs => by simp only [py, PyData.hasDict, noDicts xs]
  | .glo _ => by simp [py, PyData.hasDict]
theorem noDicts : ∀ ds : List D, PyData.hasDictAll (pys ds) = false
  | [] => by simp [pys, PyData.hasDictAll]
  | d :: r => by simp only [pys, PyData.hasDictAll, noDict d, noDicts r, Bool.or_self]
end
theorem call_reprD (hG : X.A.guards = some []) (hu : X.A.units + 66 < cLine) : CallR X (.builtin "repr") (fun xs H Q => ∃ (v : V) (d : D), xs = [v] ∧ Dp X.K H v (py d) ∧ okR d = true ∧ Q (.str (py d).shown) H) := by
  intro pins s σ H xs us Q I r h
  obtain ⟨v, d, rfl, hd, ok, q⟩ := h
  simp only [okR, Bool.and_eq_true, decide_eq_true_eq] at ok
  obtain ⟨⟨⟨h1, h2⟩, h3⟩, h4⟩ := ok
  cases r with
  | cons rv rr =>
    cases rr
    rename_i u
    obtain ⟨as, rd⟩ := Dp.reads I (py d) v u hd rv
    have hdep := SeqAt.depth_of_shaped (shD_shaped h1)
    obtain ⟨a, rfl⟩ : ∃ a, u = Value.ref a := by
      cases d with
      | tup ds => simp only [py] at rd; cases rd; exact ⟨_, rfl⟩
      | lst ds => simp only [py] at rd; cases rd; exact ⟨_, rfl⟩
      | non | bl | int | str | glo => cases h2
    exact repr_of_reads' rd h3 (fun z => by rw [noDict] at z; cases z) hG (by omega) (fun _ _ e => e) (fun h' u tk hk => ⟨.str (py d).shown, H, I.kept (t' := tk) hk, ⟨u, rfl⟩, q⟩) h4
theorem cd_repr (hG : X.A.guards = some []) (hu : X.A.units + 66 < cLine) : CallD X x (.builtin "repr") bRepr := by
  refine CallD.of (call_reprD hG hu) fun H μ st as vs Q sv av h => ?_
  unfold bRepr at h
  split at h
  · rename_i a
    obtain ⟨v, r, rfl, q1, q2⟩ := avs_cons av
    have := avs_nil q2
    subst this
    split at h
    · rename_i d hd
      split at h
      · rename_i z
        have ok : okD d = true := by
          simp only [okR, Bool.and_eq_true] at z
          exact shD_ok z.1.1.1
        exact ⟨v, d, rfl, deref_dp sv hd q1 ok, z, h μ H (Ev.refl _ _) sv _ (by simp only [AV, DV])⟩
      · exact h.elim
    · exact h.elim
  · exact h.elim
/-! ### len, abs, int, min, max -/
def bLen  (as : List Va) : M Va := fun st => match as with
  | [a] => (match deref st a with
    | some (.lst ds) => some (.ok (.val (.int ds.length)), st)
    | some (.tup ds) => some (.ok (.val (.int ds.length)), st)
    | some (.str z) => if z.length ≤ sizeLine then some (.ok (.val (.int z.length)), st) else none
    | _ => none)
  | _ => none
theorem deref_str {S : Ks} {μ : Mu} {H : Hp} {st : Sto} {a : Va} {z : Str} {v : V} (e : deref st a = some (.str z)) (h : AV S μ H a v) : v = .str z := by
  cases a with
  | val d' =>
    simp only [deref, Option.some.injEq] at e
    subst e
    exact av_s h
  | exc c fs => simp [deref] at e
  | scr ns => simp [deref] at e
  | obj k =>
    simp only [deref] at e
    split at e <;> cases e
theorem cd_len : CallD X x (.builtin "len") bLen := by
  refine CallD.of call_len fun H μ st as vs Q sv av h => ?_
  unfold bLen at h
  split at h
  · rename_i a
    obtain ⟨v, r, rfl, q1, q2⟩ := avs_cons av
    have := avs_nil q2
    subst this
    split at h
    · rename_i ds hd
      obtain ⟨q, xs, rfl, c, _, dx⟩ := deref_lst sv hd q1
      exact ⟨_, ds.length, rfl, .inl ⟨xs, c, dx.length.symm⟩, h μ H (Ev.refl _ _) sv _ (by simp only [AV, DV])⟩
    · rename_i ds hd
      obtain ⟨q, xs, rfl, c, dx⟩ := deref_tup hd q1
      exact ⟨_, ds.length, rfl, .inr ⟨xs, c, dx.length.symm⟩, h μ H (Ev.refl _ _) sv _ (by simp only [AV, DV])⟩
    · rename_i z hd
      have := deref_str hd q1
      subst this
      split at h
      · rename_i zl
        exact ⟨_, z.length, rfl, ⟨zl, rfl⟩, h μ H (Ev.refl _ _) sv _ (by simp only [AV, DV])⟩
      · exact h.elim
    · exact h.elim
  · exact h.elim
def bAbs : List Va → M Va
  | [.val (.int i)] => M.pure (.val (.int (if i < 0 then -i else i)))
  | _ => stuck
theorem cd_abs : CallD X x (.builtin "abs") bAbs := by
  refine CallD.of call_abs fun H μ st as vs Q sv av h => ?_
  unfold bAbs at h
  split at h
  · obtain ⟨v, r, rfl, q1, q2⟩ := avs_cons av
    have := avs_nil q2
    have := av_i q1
    subst_vars
    exact ⟨_, rfl, Fin.pure sv h _ (by simp only [AV, DV])⟩
  · exact h.elim
def bInt : List Va → M Va
  | [.val (.int i)] => M.pure (.val (.int i))
  | [.val (.bl b)] => M.pure (.val (.int (if b then 1 else 0)))
  | _ => stuck
theorem cd_int : CallD X x (.type "int") bInt := by
  refine CallD.of call_int1 fun H μ st as vs Q sv av h => ?_
  unfold bInt at h
  split at h
  · obtain ⟨v, r, rfl, q1, q2⟩ := avs_cons av
    have := avs_nil q2
    have := av_i q1
    subst_vars
    exact .inl ⟨_, rfl, Fin.pure sv h _ (by simp only [AV, DV])⟩
  · obtain ⟨v, r, rfl, q1, q2⟩ := avs_cons av
    have := avs_nil q2
    have := av_b q1
    subst_vars
    exact .inr ⟨_, rfl, Fin.pure sv h _ (by simp only [AV, DV])⟩
  · exact h.elim
def bMax2 : List Va → M Va
  | [.val (.int i), .val (.int j)] => M.pure (.val (.int (if j > i then j else i)))
  | _ => stuck
def bMin2 : List Va → M Va
  | [.val (.int i), .val (.int j)] => M.pure (.val (.int (if j < i then j else i)))
  | _ => stuck
theorem cd_max2 (hc : X.calm = true) : CallD X x (.builtin "max") bMax2 := by
  refine CallD.of (call_max2 hc) fun H μ st as vs Q sv av h => ?_
  unfold bMax2 at h
  split at h
  · obtain ⟨v, r, rfl, q1, q2⟩ := avs_cons av
    obtain ⟨v2, r, rfl, q3, q4⟩ := avs_cons q2
    have := avs_nil q4
    have := av_i q1
    have := av_i q3
    subst_vars
    exact ⟨_, _, rfl, Fin.pure sv h _ (by simp only [AV, DV])⟩
  · exact h.elim
theorem cd_min2 (hc : X.calm = true) : CallD X x (.builtin "min") bMin2 := by
  refine CallD.of (call_min2 hc) fun H μ st as vs Q sv av h => ?_
  unfold bMin2 at h
  split at h
  · obtain ⟨v, r, rfl, q1, q2⟩ := avs_cons av
    obtain ⟨v2, r, rfl, q3, q4⟩ := avs_cons q2
    have := avs_nil q4
    have := av_i q1
    have := av_i q3
    subst_vars
    exact ⟨_, _, rfl, Fin.pure sv h _ (by simp only [AV, DV])⟩
  · exact h.elim
/-! ### sum, any, all of lists -/
def intsOf : List D → Option (List Int)
  | [] => some []
  | .int i :: r => (intsOf r).map (i :: ·)
  | _ :: _ => none
def blsOf : List D → Option (List Bool)
  | [] => some []
  | .bl i :: r => (blsOf r).map (i :: ·)
  | _ :: _ => none
theorem intsOf_ok {S : Ks} {μ : Mu} {H : Hp} : ∀ {ds : List D} {ns : List Int} {xs : List V}, intsOf ds = some ns → DVs S μ H ds xs → xs = ns.map V.int
  | [], ns, xs, e, h => by simp only [DVs] at h; subst h; cases e; rfl
  | d :: r, ns, xs, e, h => by
    cases d with
    | int i =>
      simp only [DVs, DV] at h
      obtain ⟨v, t, rfl, rfl, w⟩ := h
      simp only [intsOf] at e
      cases er : intsOf r with
      | none => rw [er] at e; cases e
      | some ns' => rw [er] at e; cases e; rw [intsOf_ok er w]; rfl
    | non | bl | str | tup | lst | glo => cases e
theorem blsOf_ok {S : Ks} {μ : Mu} {H : Hp} : ∀ {ds : List D} {ns : List Bool} {xs : List V}, blsOf ds = some ns → DVs S μ H ds xs → xs = ns.map V.bl
  | [], ns, xs, e, h => by simp only [DVs] at h; subst h; cases e; rfl
  | d :: r, ns, xs, e, h => by
    cases d with
    | bl i =>
      simp only [DVs, DV] at h
      obtain ⟨v, t, rfl, rfl, w⟩ := h
      simp only [blsOf] at e
      cases er : blsOf r with
      | none => rw [er] at e; cases e
      | some ns' => rw [er] at e; cases e; rw [blsOf_ok er w]; rfl
    | non | int | str | tup | lst | glo => cases e
def bSum  (as : List Va) : M Va := fun st => match as with
  | [a] => (match deref st a with
    | some (.lst ds) => match intsOf ds with
      | some ns => some (.ok (.val (.int ns.sum)), st)
      | none => none
    | _ => none)
  | _ => none
theorem cd_sum (hc : X.calm = true) : CallD X x (.builtin "sum") bSum := by
  refine CallD.of (cr_sum hc) fun H μ st as vs Q sv av h => ?_
  unfold bSum at h
  split at h
  · obtain ⟨v, r, rfl, q1, q2⟩ := avs_cons av
    have := avs_nil q2
    subst this
    split at h
    · rename_i ds hd
      obtain ⟨q, xs, rfl, c, _, dx⟩ := deref_lst sv hd q1
      split at h
      · rename_i ns hn
        have := intsOf_ok hn dx
        subst this
        exact ⟨q, ns, rfl, c, h μ H (Ev.refl _ _) sv _ (by simp only [AV, DV])⟩
      · exact h.elim
    · exact h.elim
  · exact h.elim
def bAny  (as : List Va) : M Va := fun st => match as with
  | [a] => (match deref st a with
    | some (.lst ds) => match blsOf ds with
      | some ns => some (.ok (.val (.bl (ns.any id))), st)
      | none => none
    | _ => none)
  | _ => none
def bAll  (as : List Va) : M Va := fun st => match as with
  | [a] => (match deref st a with
    | some (.lst ds) => match blsOf ds with
      | some ns => some (.ok (.val (.bl (ns.all id))), st)
      | none => none
    | _ => none)
  | _ => none
theorem cd_any (hc : X.calm = true) : CallD X x (.builtin "any") bAny := by
  refine CallD.of (cr_any hc) fun H μ st as vs Q sv av h => ?_
  unfold bAny at h
  split at h
  · obtain ⟨v, r, rfl, q1, q2⟩ := avs_cons av
    have := avs_nil q2
    subst this
    split at h
    · rename_i ds hd
      obtain ⟨q, xs, rfl, c, _, dx⟩ := deref_lst sv hd q1
      split at h
      · rename_i ns hn
        have := blsOf_ok hn dx
        subst this
        exact ⟨q, ns, rfl, c, h μ H (Ev.refl _ _) sv _ (by simp only [AV, DV])⟩
      · exact h.elim
    · exact h.elim
  · exact h.elim
theorem cd_all (hc : X.calm = true) : CallD X x (.builtin "all") bAll := by
  refine CallD.of (cr_all hc) fun H μ st as vs Q sv av h => ?_
  unfold bAll at h
  split at h
  · obtain ⟨v, r, rfl, q1, q2⟩ := avs_cons av
    have := avs_nil q2
    subst this
    split at h
    · rename_i ds hd
      obtain ⟨q, xs, rfl, c, _, dx⟩ := deref_lst sv hd q1
      split at h
      · rename_i ns hn
        have := blsOf_ok hn dx
        subst this
        exact ⟨q, ns, rfl, c, h μ H (Ev.refl _ _) sv _ (by simp only [AV, DV])⟩
      · exact h.elim
    · exact h.elim
  · exact h.elim
/-! ### tuple(..), list(..) of lists and tuples -/
def bTuple  (as : List Va) : M Va := fun st => match as with
  | [a] => (match deref st a with
    | some (.lst ds) => some (.ok (.val (.tup ds)), st)
    | some (.tup ds) => some (.ok (.val (.tup ds)), st)
    | _ => none)
  | _ => none
def bList  (as : List Va) : M Va := fun st => match as with
  | [a] => (match deref st a with
    | some (.lst ds) => some (.ok (.val (.lst ds)), st)
    | some (.tup ds) => some (.ok (.val (.lst ds)), st)
    | _ => none)
  | _ => none
theorem cd_tuple : CallD X x (.type "tuple") bTuple := by
  refine CallD.of call_tuple_of fun H μ st as vs Q sv av h => ?_
  unfold bTuple at h
  split at h
  · obtain ⟨v, r, rfl, q1, q2⟩ := avs_cons av
    have := avs_nil q2
    subst this
    split at h
    · rename_i ds hd
      obtain ⟨q, xs, rfl, c, _, dx⟩ := deref_lst sv hd q1
      exact ⟨q, xs, rfl, .inl ⟨c, fun l hl => h μ _ (Ev.made hl) (sv.made hl) _ (by simp only [AV, DV]; exact ⟨l, xs, rfl, SqT.of upd_same, DVs.go (Ev.made hl) _ dx⟩)⟩⟩
    · rename_i ds hd
      obtain ⟨q, xs, rfl, c, dx⟩ := deref_tup hd q1
      exact ⟨q, xs, rfl, .inr ⟨c, h μ H (Ev.refl _ _) sv _ (by simp only [AV, DV]; exact ⟨q, xs, rfl, c, dx⟩)⟩⟩
    · exact h.elim
  · exact h.elim
theorem cd_list : CallD X x (.type "list") bList := by
  refine CallD.of call_list_of fun H μ st as vs Q sv av h => ?_
  unfold bList at h
  split at h
  · obtain ⟨v, r, rfl, q1, q2⟩ := avs_cons av
    have := avs_nil q2
    subst this
    split at h
    · rename_i ds hd
      obtain ⟨q, xs, rfl, c, _, dx⟩ := deref_lst sv hd q1
      exact ⟨q, xs, rfl, .inl c, fun l hl => h μ _ (Ev.made hl) (sv.made hl) _ (by simp only [AV, DV]; exact ⟨l, xs, rfl, sv.out hl, .inl upd_same, DVs.go (Ev.made hl) _ dx⟩)⟩
    · rename_i ds hd
      obtain ⟨q, xs, rfl, c, dx⟩ := deref_tup hd q1
      exact ⟨q, xs, rfl, .inr c, fun l hl => h μ _ (Ev.made hl) (sv.made hl) _ (by simp only [AV, DV]; exact ⟨l, xs, rfl, sv.out hl, .inl upd_same, DVs.go (Ev.made hl) _ dx⟩)⟩
    · exact h.elim
  · exact h.elim
end
end DL
end

section
set_option Elab.async false
set_option linter.all false
set_option maxRecDepth 100000
set_option maxHeartbeats 4000000
/-! Subscripts, slices, products, append, stores, truth over plain data. -/
namespace DL
open PySem PySem.Spec PyProof.Rows L2

section
variable {X : Cx} {x : ExI} {W : WX} {pos p p2 : Pos} {a b c e o : Expr} {ma mb mc me mo mi : En → M Va}
/-! ### a[i] -/
def opIx (a b : Va) : M Va := fun st => match b with
  | .val (.int i) => (match deref st a with
    | some (.lst ds) => (match atI ds i with
      | some d => some (.ok (.val d), st)
      | none => none)
    | some (.tup ds) => (match atI ds i with
      | some d => some (.ok (.val d), st)
      | none => none)
    | some (.str z) => (match atI z.cps.toList i with
      | some c => if z.length ≤ sizeLine then some (.ok (.val (.str ⟨#[c]⟩)), st) else none
      | none => none)
    | _ => none)
  | _ => none
theorem dvs_atI {S : Ks} {μ : Mu} {H : Hp} {ds : List D} {xs : List V} {i : Int} {d : D} (h : DVs S μ H ds xs) (e : atI ds i = some d) : ∃ v, atI xs i = some v ∧ DV S μ H d v := by
  unfold atI at e ⊢
  rw [h.length]
  cases q : ixN ds.length i with
  | none => rw [q] at e; cases e
  | some j =>
    rw [q] at e
    simp only [Option.bind_some] at e ⊢
    exact h.get e
theorem ed_ix (ha : ED X x W a ma) (hb : ED X x W b mb) (hs : PlainIx b := by intro _ _; rfl) : ED X x W (.Subscript a b pos) (mBin (fun a b => calm (opIx a b)) ma mb) := by
  refine ED.of (pe_ix ix_seq ha hb hs) fun σ H Q μ st ρ ev sv h => bin_fin (fun H μ st a b x1 y Q sv ha hb h => ?_) ev sv h
  unfold opIx at h
  split at h
  · rename_i i
    have := av_i hb
    subst this
    split at h
    · rename_i ds hd
      obtain ⟨q, xs, rfl, c, _, dx⟩ := deref_lst sv hd ha
      split at h
      · rename_i d hd2
        obtain ⟨v, hv, dv⟩ := dvs_atI dx hd2
        exact .inl ⟨q, xs, i, v, rfl, rfl, c, hv, h μ H (Ev.refl _ _) sv _ dv⟩
      · exact h.elim
    · rename_i ds hd
      obtain ⟨q, xs, rfl, c, dx⟩ := deref_tup hd ha
      split at h
      · rename_i d hd2
        obtain ⟨v, hv, dv⟩ := dvs_atI dx hd2
        exact .inr (.inl ⟨q, xs, i, v, rfl, rfl, c, hv, h μ H (Ev.refl _ _) sv _ dv⟩)
      · exact h.elim
    · rename_i z hd
      have := deref_str hd ha
      subst this
      split at h
      · rename_i c hc
        split at h
        · rename_i hz
          exact .inr (.inr ⟨z, i, c, rfl, rfl, hz, hc, h μ H (Ev.refl _ _) sv _ (by simp only [AV, DV])⟩)
        · exact h.elim
      · exact h.elim
    · exact h.elim
  · exact h.elim
/-! ### a[lo:hi] -/
def cutD (ds : List D) (lo hi : Option Int) : List D := (ds.drop (HT.sIx ds.length 0 lo)).take (HT.sIx ds.length ds.length hi - HT.sIx ds.length 0 lo)
theorem cutD_ok {S : Ks} {μ : Mu} {H : Hp} {ds : List D} {xs : List V} {lo hi : Option Int} (h : DVs S μ H ds xs) : DVs S μ H (cutD ds lo hi) (cutV xs lo hi) := by
  unfold cutD cutV
  rw [h.length]
  exact (h.drop _).take _
def slOf (a : Va) (lo hi : Option Int) : M Va := fun st => match a with
  | .scr ns => some (.ok (.val (.lst ((cutD (ns.map .int) lo hi)))), st)
  | a => (match deref st a with
    | some (.lst ds) => some (.ok (.val (.lst (cutD ds lo hi))), st)
    | some (.tup ds) => some (.ok (.val (.tup (cutD ds lo hi))), st)
    | _ => none)
/-- a slice's end -/
def tDP (S : Ks) (W : WX) (m : En → M (Option Int)) : TO := fun σ H Q => ∃ μ st ρ, EV S μ H ρ σ ∧ SV S μ H st ∧ Fin S (WE W σ) μ H (fun o _ _ H' => Q o H') (m ρ st)
def PD (X : Cx) (x : ExI) (W : WX) (e : Option Expr) (m : En → M (Option Int)) : Prop := PO X e (tDP (ks X x) W m)
def mNoPart : En → M (Option Int) := fun _ => M.pure none
def asPart : Va → M (Option Int)
  | .val (.int i) => M.pure (some i)
  | _ => stuck
def mPart (m : En → M Va) : En → M (Option Int) := fun ρ => M.bind (m ρ) asPart
theorem pd_none : PD X x W none mNoPart := ⟨fun pins s σ H Q I ⟨μ, st, ρ, ev, sv, h⟩ => po_none.run pins s σ H Q I (Fin.pure sv h)⟩
theorem pd_some (he : ED X x W e me) : PD X x W (some e) (mPart me) := by
  refine ⟨fun pins s σ H Q I ⟨μ, st, ρ, ev, sv, h⟩ => (po_some he).run pins s σ H Q I ⟨μ, st, ρ, ev, sv, Fin.map (fun a st1 μ1 H1 e1 s1 h1 v hv => ?_) (Fin.bind (m := me ρ) (f := asPart) h)⟩⟩
  unfold asPart at h1
  split at h1
  · exact ⟨_, av_i hv, Fin.pure s1 h1⟩
  · exact h1.elim
def mSlice (ma : En → M Va) (ml mh : En → M (Option Int)) : En → M Va := fun ρ => M.bind (ma ρ) fun a => M.bind (ml ρ) fun l => M.bind (mh ρ) fun h => calm (slOf a l h)
theorem LS.sql {S : Ks} {μ : Mu} {H : Hp} {a : Addr} {xs : List V} (h : LS S μ H a xs) : SqL S.K H a xs := h.imp (fun z => z.2) id
theorem dvs_ints {S : Ks} {μ : Mu} {H : Hp} : ∀ ns : List Int, DVs S μ H (ns.map .int) (ns.map V.int)
  | [] => DVs.nil
  | n :: r => DVs.cons (by simp only [DV]) (dvs_ints r)
theorem ed_slice {lo hi : Option Expr} {ml mh : En → M (Option Int)} (ha : ED X x W a ma) (hl : PD X x W lo ml) (hh : PD X x W hi mh) : ED X x W (.Subscript a (.Slice lo hi none p2) pos) (mSlice ma ml mh) := by
  refine ED.of (pe_slice (sl_list.or sl_tupA) ha hl hh) fun σ H Q μ st ρ ev sv h => ⟨μ, st, ρ, ev, sv, Fin.map (fun va st1 μ1 H1 e1 s1 h1 v hv => ?_) (Fin.bind h)⟩
  refine ⟨μ1, st1, ρ, ev.go e1, s1, Fin.map (fun l st2 μ2 H2 e2 s2 h2 => ?_) (Fin.bind h1)⟩
  refine ⟨μ2, st2, ρ, (ev.go e1).go e2, s2, Fin.map (fun u st3 μ3 H3 e3 s3 h3 => ?_) (Fin.bind h2)⟩
  replace hv := AV.go (e2.trans e3) _ hv
  replace h3 := Fin.calm h3
  unfold slOf at h3
  split at h3
  · rename_i ns
    obtain ⟨q, rfl, c⟩ := hv
    exact .inl ⟨q, _, rfl, c.sql, fun l hl => h3 μ3 _ (Ev.made hl) (s3.made hl) _ (by simp only [AV, DV]; exact ⟨l, _, rfl, s3.out hl, .inl upd_same, DVs.go (Ev.made hl) _ (cutD_ok (dvs_ints ns))⟩)⟩
  · split at h3
    · rename_i ds hd
      obtain ⟨q, xs, rfl, c, _, dx⟩ := deref_lst s3 hd hv
      exact .inl ⟨q, _, rfl, c, fun l hl => h3 μ3 _ (Ev.made hl) (s3.made hl) _ (by simp only [AV, DV]; exact ⟨l, _, rfl, s3.out hl, .inl upd_same, DVs.go (Ev.made hl) _ (cutD_ok dx)⟩)⟩
    · rename_i ds hd
      obtain ⟨q, xs, rfl, c, dx⟩ := deref_tup hd hv
      refine .inr ⟨q, xs, rfl, c, fun z => ?_, fun _ l hl => h3 μ3 _ (Ev.made hl) (s3.made hl) _ (by simp only [AV, DV]; exact ⟨l, _, rfl, SqT.of upd_same, DVs.go (Ev.made hl) _ (cutD_ok dx)⟩)⟩
      have e0 : cutD ds l u = ds := by
        unfold cutD
        rw [dx.length] at z
        rw [z.1, z.2]
        simp
      rw [e0] at h3
      exact h3 μ3 H3 (Ev.refl _ _) s3 _ (by simp only [AV, DV]; exact ⟨q, xs, rfl, c, dx⟩)
    · exact h3.elim
/-! ### * -/
def rRepL : R2 := fun x y H Q => ∃ l k xs, x = .ref l ∧ y = .int k ∧ Rd H l (.lst xs) ∧ -(2 ^ 63) ≤ k ∧ k < 2 ^ 63 ∧ xs.length * k.toNat ≤ sizeLine ∧ ∀ p, H p = none → Q (.ref p) (upd H p (.lst (List.replicate k.toNat xs).flatten))
theorem op_repL : OpR X (binaryOp .Mult) rRepL := by
  intro pins s σ H x y v u Q I rx ry ⟨l, k, xs, ex, ey, hr, h1, h2, h3, q⟩
  subst ex ey
  cases rx
  obtain ⟨t, rfl⟩ := ry
  obtain ⟨z, its, n, r, hl, e⟩ := lstR I hr
  have hlen : its.toArray.size * k.toNat ≤ sizeLine := by rw [List.size_toArray, ← hl]; exact h3
  have hcap : ¬ its.toArray.size * k.toNat > (2 ^ 63 - 1) / 8 := by
    have : (sizeLine : Nat) ≤ (2 ^ 63 - 1) / 8 := by decide
    omega
  have hfit : ¬ (!Builtin.List.listFitsIndex k) = true := by
    rw [fitsIndex_both h1 h2]
    exact Bool.false_ne_true
  have hlong : ¬ Builtin.List.listTooLong (its.toArray.size * k.toNat) = true := by
    rw [notLongL hlen]
    exact Bool.false_ne_true
  have hnew : List.foldl (fun x1 x2 => x1 ++ x2) #[] (List.replicate (if its.toArray.isEmpty = true then 0 else k.toNat) its.toArray) = (List.replicate k.toNat its).flatten.toArray := by
    have f0 : ∀ m : Nat, List.foldl (fun x1 x2 => x1 ++ x2) #[] (List.replicate m its.toArray) = (List.replicate m its).flatten.toArray := fun m => by
      have := foldl_rep its m []
      rw [List.nil_append] at this
      exact this
    rw [f0]
    cases its with
    | nil => simp
    | cons a r' => rw [if_neg (by simp)]
  refine wpAny_binaryOp_repeat_ref (T := "list") (U := "int") (by decide) ⟨_, e, rfl⟩ (fun s' => typeIs_int s' k t) noFill_list_mul F.fills_int_mul F.slot_int_rmul repeat_list F.slot_int_index.lookup
    (call_meets F.slot_int_rmul (typeIs_int s k t) F.entry_int_rmul (F.args_int_rmul_2 _ _) (int___rmul___int_list k t l its.toArray n)
      ⟨e, rfl, ⟨_, e, rfl⟩, call_meets F.slot_list_mul ⟨_, e, rfl⟩ F.entry_list_mul (F.args_list_mul_2 _ _) (AutoListH.list___mul___list_int_3 l its.toArray n k t hfit hcap hlong) ⟨e, ?_⟩⟩)
  rw [hnew]
  exact ⟨.ref _, _, I.lnew (t' := s.toks) (r.rep k.toNat) (by rw [PyProof.Rows.lm_len_rep_flat, Nat.mul_comm]; exact h3), rfl, q _ I.fresh⟩
def opMul (a b : Va) : M Va := fun st => match a, b with
  | .val (.int i), .val (.int j) => if smallF i j = true then some (.ok (.val (.int (i * j))), st) else none
  | .val (.tup ds), .val (.int k) => if ds ≠ [] ∧ 2 ≤ k ∧ k ≤ 1000 ∧ ds.length ≤ 1000 then some (.ok (.val (.tup (List.replicate k.toNat ds).flatten)), st) else none
  | a, .val (.int k) => (match deref st a with
    | some (.lst ds) => if -(2 ^ 63) ≤ k ∧ k < 2 ^ 63 ∧ ds.length * k.toNat ≤ sizeLine then some (.ok (.val (.lst (List.replicate k.toNat ds).flatten)), st) else none
    | _ => none)
  | _, _ => none
theorem DVs.rep {S : Ks} {μ : Mu} {H : Hp} {ds : List D} {xs : List V} (h : DVs S μ H ds xs) : ∀ k : Nat, DVs S μ H (List.replicate k ds).flatten (List.replicate k xs).flatten
  | 0 => by simp; exact DVs.nil
  | k + 1 => by simp only [List.replicate_succ, List.flatten_cons]; exact h.append (DVs.rep h k)
theorem smallF_ok {i j : Int} (h : smallF i j = true) : CMul i j := by
  unfold smallF at h
  have := of_decide_eq_true h
  exact this
theorem opd_mul : OpD X x (binaryOp .Mult) opMul := by
  refine OpD.of (op_mul.or (op_repT.or op_repL)) fun E H μ st a b x1 y Q sv ha hb h hE => ?_
  unfold opMul at h
  split at h
  · split at h
    · rename_i z
      exact .inl ⟨_, _, av_i ha, av_i hb, smallF_ok z, h μ H (Ev.refl _ _) sv _ (by simp only [AV, DV])⟩
    · exact h.elim
  · split at h
    · rename_i ds k z
      have := av_i hb
      subst this
      simp only [AV, DV] at ha
      obtain ⟨q, us, rfl, q1, r1⟩ := ha
      exact .inr (.inl ⟨q, k, us, rfl, rfl, q1, fun e => z.1 (by have := r1.length; rw [e] at this; exact List.length_eq_zero_iff.mp this.symm), z.2.1, z.2.2.1, by rw [r1.length]; exact z.2.2.2,
        fun l hl => h μ _ (Ev.made hl) (sv.made hl) _ (by simp only [AV, DV]; exact ⟨l, _, rfl, SqT.of upd_same, DVs.go (Ev.made hl) _ (r1.rep _)⟩)⟩)
    · exact h.elim
  · split at h
    · rename_i ds hd
      split at h
      · rename_i z
        have := av_i hb
        subst this
        obtain ⟨q, us, rfl, _, q1, r1⟩ := deref_lst sv hd ha
        exact .inr (.inr ⟨q, _, us, rfl, rfl, q1, z.1, z.2.1, by rw [r1.length]; exact z.2.2,
          fun l hl => h μ _ (Ev.made hl) (sv.made hl) _ (by simp only [AV, DV]; exact ⟨l, _, rfl, sv.out hl, .inl upd_same, DVs.go (Ev.made hl) _ (r1.rep _)⟩)⟩)
      · exact h.elim
    · exact h.elim
  · exact h.elim
/-! ### -a -/
def negV : Va → M Va
  | .val (.int i) => M.pure (.val (.int (-i)))
  | _ => stuck
def mNeg (m : En → M Va) : En → M Va := fun ρ => M.bind (m ρ) negV
theorem ed_neg (ha : ED X x W a ma) : ED X x W (.UnaryOp .USub a pos) (mNeg ma) := by
  refine ED.of (pe_un un_neg ha) fun σ H Q μ st ρ ev sv h => ⟨μ, st, ρ, ev, sv, Fin.map (fun va st1 μ1 H1 e1 s1 h1 v hv => ?_) (Fin.bind (m := ma ρ) (f := negV) h)⟩
  unfold negV at h1
  split at h1
  · exact ⟨_, av_i hv, Fin.pure s1 h1 _ (by simp only [AV, DV])⟩
  · exact h1.elim
/-! ### a value's truth -/
def truthA (a : Va) : M Bool := fun st => match a with
  | .val .non => some (.ok false, st)
  | .val (.bl b) => some (.ok b, st)
  | .val (.int i) => some (.ok (i != 0), st)
  | .val (.str z) => if z.length ≤ sizeLine then some (.ok ((z.length : Int) != 0), st) else none
  | a => (match deref st a with
    | some (.lst ds) => some (.ok (!ds.isEmpty), st)
    | some (.tup ds) => some (.ok (!ds.isEmpty), st)
    | _ => none)
def mTruth (m : En → M Va) : En → M Bool := fun ρ => M.bind (m ρ) truthA
theorem isEmpty_dvs {S : Ks} {μ : Mu} {H : Hp} {ds : List D} {xs : List V} (h : DVs S μ H ds xs) : xs.isEmpty = ds.isEmpty := by
  have := h.length
  cases ds <;> cases xs <;> simp_all
theorem td_truth (ha : ED X x W a ma) (he : ∀ whole, isTrue a X.env whole = (do let v ← whole; standAt a.pos; holding [v] (truthy v)) := by intro _; rfl) : TD X x W a (mTruth ma) := by
  refine TD.of (pt_truth ha he) fun σ H Q μ st ρ ev sv h => ⟨μ, st, ρ, ev, sv, Fin.map (fun va st1 μ1 H1 e1 s1 h1 v hv => ?_) (Fin.bind (m := ma ρ) (f := truthA) h)⟩
  unfold truthA at h1
  split at h1
  · simp only [AV, DV] at hv
    subst hv
    exact ⟨_, rfl, h1 μ1 H1 (Ev.refl _ _) s1⟩
  · have := av_b hv
    subst this
    exact ⟨_, rfl, h1 μ1 H1 (Ev.refl _ _) s1⟩
  · have := av_i hv
    subst this
    exact ⟨_, rfl, h1 μ1 H1 (Ev.refl _ _) s1⟩
  · have := av_s hv
    subst this
    split at h1
    · rename_i z
      exact ⟨_, ⟨z, rfl⟩, h1 μ1 H1 (Ev.refl _ _) s1⟩
    · exact h1.elim
  · split at h1
    · rename_i ds hd
      obtain ⟨q, xs, rfl, c, _, dx⟩ := deref_lst s1 hd hv
      exact ⟨_, .inl ⟨xs, c, by rw [isEmpty_dvs dx]⟩, h1 μ1 H1 (Ev.refl _ _) s1⟩
    · rename_i ds hd
      obtain ⟨q, xs, rfl, c, dx⟩ := deref_tup hd hv
      exact ⟨_, .inr (.inl ⟨xs, c, by rw [isEmpty_dvs dx]⟩), h1 μ1 H1 (Ev.refl _ _) s1⟩
    · exact h1.elim
/-! ### o[i] = e, xs.append(e) -/
def setIx (o i v : Va) : M Unit := fun st => match o, i, v with
  | .obj k, .val (.int i), .val d => (match st[k]? with
    | some (.lst ds) => (match ixN ds.length i with
      | some j => some (.ok (), st.set k (.lst (ds.set j d)))
      | none => none)
    | _ => none)
  | _, _, _ => none
def mSetIx (mo mi me : En → M Va) : En → MS := fun ρ st => onE (M.bind (me ρ) (fun v => M.bind (mo ρ) fun o => M.bind (mi ρ) fun i => setIx o i v) st) ρ fun _ st' => some (.nx ρ, st')
theorem sd_setIx {i : Expr} (he : ED X x W e me) (ho : ED X x W o mo) (hi : ED X x W i mi) (hs : swapsWithSole [.Subscript o i p] e pos.line X.env = pure false := by rfl) (hw : swappedStores [.Subscript o i p] e X.env = pure none := by rfl) (h1 : (assignEach [.Subscript o i p] X.env).map (·.2) = [assign (.Subscript o i p) X.env] := by rfl)
    (ha : ∀ v, assign (.Subscript o i p) X.env v = (do
      let ov ← holding [v] (eval o X.env)
      let iv ← holding [v, ov] (eval i X.env)
      standAt p
      holding [v, ov, iv] (setItem ov iv v)
      release [v, ov, iv] []) := by intro _; rfl) : SD X x W (.Assign [.Subscript o i p] e pos) (mSetIx mo mi me) := by
  refine SD.of (ps_asg he (pg_sub ho hi set_list ha) hs hw h1) fun Ds σ H μ st ρ ev sv h => ⟨μ, st, ρ, ev, sv, Fin.map (fun va st1 μ1 H1 e1 s1 h2 v hv => ?_) (Fin.bind (FinS.onE ev h))⟩
  refine ⟨μ1, st1, ρ, ev.go e1, s1, Fin.map (fun vo st2 μ2 H2 e2 s2 h3 vo' ho' => ?_) (Fin.bind h2)⟩
  refine ⟨μ2, st2, ρ, (ev.go e1).go e2, s2, Fin.map (fun vi st3 μ3 H3 e3 s3 h4 vi' hi' => ?_) (Fin.bind h3)⟩
  unfold setIx at h4
  split at h4
  · rename_i k i d
    have := av_i hi'
    subst this
    split at h4
    · rename_i ds hk
      split at h4
      · rename_i j hj
        obtain ⟨q, rfl, hm, _, xs, hx, dx⟩ := s3.at hk (fun z => nomatch z) (AV.go e3 _ ho')
        have hd := DV.go (e2.trans e3) d hv
        refine ⟨q, xs, i, j, rfl, rfl, hx, by rw [dx.length]; exact hj, ?_⟩
        have Ew : Ev μ3 H3 μ3 (upd H3 q (.lst (xs.set j v))) := Ev.wr s3 hm
        have s4 : SV (ks X x) μ3 (upd H3 q (.lst (xs.set j v))) (st3.set k (.lst (ds.set j d))) := s3.wr hm ⟨_, upd_same, DVs.set j (DVs.go Ew ds dx) (DV.go Ew d hd)⟩
        exact FinS.nx s4 ((((ev.go e1).go e2).go e3).go Ew) (h4 μ3 _ Ew s4)
      · exact h4.elim
    · exact h4.elim
  · exact h4.elim
def appendV (o v : Va) : M Va := fun st => match o, v with
  | .obj k, .val d => (match st[k]? with
    | some (.lst ds) => if ds.length < sizeLine then some (.ok (.val .non), st.set k (.lst (ds ++ [d]))) else none
    | _ => none)
  | _, _ => none
def mAppend (mo me : En → M Va) : En → M Va := fun ρ => M.bind (mo ρ) fun o => M.bind (me ρ) fun v => appendV o v
def isObjList (a : Va) (st : Sto) : Bool := match a with
  | .obj k => (match st[k]? with | some (.lst _) => true | _ => false)
  | _ => false
theorem ed_append {apos : Pos} (ho : ED X x W o mo) (he : ED X x W e me) (hbase : attributeBase o "append" X.env (eval o X.env) = eval o X.env := by rfl)
    (hfew : ((backTo pos (starEach [e] X.env)).all (fun x => !x.1) && (backToKw pos (keywordEach [] X.env)).all (fun x => x.1.isSome)
      && decide ([e].length + ([] : List Keyword).length + (if ([] : List Keyword).isEmpty then 0 else 1) < 30)) = true := by rfl)
    (hline : (apos.endLine == pos.line) = true := by rfl) (hs : starEach [e] X.env = (false, eval e X.env) :: starEach [] X.env := by rfl) (hplain : (backTo pos (starEach [] X.env)).any (·.1) = false := by rfl) :
    ED X x W (.Call (.Attribute o "append" apos) [e] [] pos) (fun ρ => M.bind (mo ρ) fun o => fun st => if isObjList o st = true then M.bind (me ρ) (fun v => appendV o v) st else none) := by
  refine ED.of (pe_bm PySem.F.plainAttrs_list PySem.F.slot_list_append PySem.F.type_list_append mt_append ho (pa_cons he pa_nil hs) hbase hfew hline hs hplain) fun σ H Q μ st ρ ev sv h => ⟨μ, st, ρ, ev, sv, Fin.map (fun vo st1 μ1 H1 e1 s1 h1 vo' ho' => ?_) (Fin.bind h)⟩
  split at h1
  · rename_i z
    cases vo with
    | val d => cases z
    | exc c fs => cases z
    | scr ns => cases z
    | obj k =>
      simp only [isObjList] at z
      split at z
      · rename_i ds hk
        obtain ⟨q, rfl, hm, _, xs, hx, dx⟩ := s1.at hk (fun z => nomatch z) ho'
        refine ⟨.inl ⟨rfl, xs, SqL.of hx⟩, μ1, st1, ρ, ev.go e1, s1, Fin.map (fun ve st2 μ2 H2 e2 s2 h2 ve' he' => ?_) (Fin.bind h1)⟩
        unfold appendV at h2
        split at h2
        · rename_i k2 d heq
          cases heq
          split at h2
          · rename_i ds2 hk2
            split at h2
            · rename_i zl
              obtain ⟨q2, eq2, hm2, _, xs2, hx2, dx2⟩ := s2.at hk2 (fun z => nomatch z) (AV.go e2 (.obj _) ho')
              cases eq2
              have Ew : Ev μ2 H2 μ2 (upd H2 q (.lst (xs2 ++ [ve']))) := Ev.wr s2 hm2
              exact ⟨q, xs2, ve', rfl, rfl, hx2, by rw [dx2.length]; exact zl, h2 μ2 _ Ew (s2.wr hm2 ⟨_, upd_same, DVs.append (DVs.go Ew ds2 dx2) (DVs.cons (DV.go Ew d he') DVs.nil)⟩) _ (by simp only [AV, DV])⟩
            · exact h2.elim
          · exact h2.elim
        · exact h2.elim
      · cases z
  · exact h1.elim
end
end DL
end

section
set_option Elab.async false
set_option linter.all false
set_option maxRecDepth 100000
set_option maxHeartbeats 4000000
/-! What the printed texts name. -/
namespace DL
open PySem PySem.Spec PyProof.Rows L2
def mApp (mo me : En → M Va) : En → M Va := fun ρ => M.bind (mo ρ) fun o => fun st => if isObjList o st = true then M.bind (me ρ) (fun v => appendV o v) st else none
section
variable {X : Cx} {x : ExI} {W : WX} {pos : Pos}
theorem ed_gintE {y : Str} {i : Int} (hm : ∃ t, X.mg y = some (.int i t)) (hg : Gl X y := by rfl) (hd : (y == ("__debug__" : Str)) = false := by decide) : ED X x W (.Name y pos) (mC (.int i)) :=
  let ⟨_, h⟩ := hm; ed_gint h hg hd
theorem ed_gstrE {y z : Str} (hm : ∃ t, X.mg y = some (.str z t)) (hg : Gl X y := by rfl) (hd : (y == ("__debug__" : Str)) = false := by decide) : ED X x W (.Name y pos) (mC (.str z)) :=
  let ⟨_, h⟩ := hm; ed_gstr h hg hd
theorem sd_setLc (i : Nat) {y : Str} {py spos cpos : Pos} {elt tg iter : Expr} {ifs : List Expr} {scope : Scope} {ls : List Nat} {g : Va → En → Option En} {mt : En → M Bool} {me : En → M Va} {mi : En → M (List D)} (own : List (Str × Nat)) (hi : ID X x W tg iter mi)
    (hg : ∀ (s : Shared) (H : Hp) (C : Addr) (cl : List (Str × Addr)) (fp : List Addr), GD (X.blk s H scope (compEnvC scope cl C X.env) fp) x tg ls g)
    (ht : ∀ (s : Shared) (H : Hp) (C : Addr) (cl : List (Str × Addr)) (fp : List Addr), PTsD (X.blk s H scope (compEnvC scope cl C X.env) fp) x ifs mt)
    (he : ∀ (s : Shared) (H : Hp) (C : Addr) (cl : List (Str × Addr)) (fp : List Addr), ED (X.blk s H scope (compEnvC scope cl C X.env) fp) x W0 elt me)
    (hy : X.N[i]? = some y := by rfl) (hyl : X.env.scope.names.lookup y = some .local := by rfl) (hl : (py.line == cpos.line) = true := by rfl) (hkk : X.env.scope.kind = .function := by rfl) (hay : (scope.names.any fun (n, k) => n == y && (k == .local || k == .cell)) = false := by rfl)
    (hls : ∀ i ∈ ls, i ∈ own.map (·.2) := by decide) (ok : blkC X.N X.env.scope scope own = true := by rfl) (hc : X.calm = true := by rfl) (hN : X.N.Nodup := by assumption) (hs : ∀ x, foldedSetIterable iter X.env x = pure x := by intro _; rfl) :
    SD X x W (.Assign [.Name y py] (.ListComp elt [⟨tg, iter, ifs, 0⟩] scope cpos) spos) (mSet i (mLc mi g mt me (own.map (·.2)))) := by
  refine SD.of (ps_setLc (wi := tDI (ks X x) W mi) (g := tDG (ks X x) ls g) (tt := tDT (ks X x) W0 mt) (te := tD (ks X x) W0 me) hc hN hy hyl (sw_true hkk hyl hl hay) hi (blkOk_by ok) hg ht he hs) fun Ds σ H μ st ρ ev sv h => ?_
  exact lc_fin hls ev sv (Fin.map (fun a st1 μ1 H1 e1 s1 h1 v hv => FinS.nx s1 ((ev.go e1).set i hv) h1) (FinS.onE (k := fun a st' => some (.nx (ρ.set i (some a)), st')) ev h))
end
end DL
end

section
set_option Elab.async false
set_option linter.all false
set_option maxRecDepth 100000
set_option maxHeartbeats 4000000
/-! An own exception class with super().__init__(..) and one field or two: what the written part must say, and its promise. -/
namespace DL
open PySem PySem.Spec PyProof.Rows L2 EXS NdefX

/-- what is asked of an exception class C whose __init__ (of the class D) stands at fI -/
structure ExCls (K : PySem.W.Frag) (mg : Str → Option Value) (y : Str) (C D fI : Addr) (fs : List Str) : Prop where
  gl : mg y = some (.ref C)
  ox : OexC K C
  ini : PySem.W.findIn K (.ref C) "__init__" = some (some (.ref fI))
  tyI : PySem.W.typeIn K (.ref fI) = some (.type "function")
  sd : SupD K C D
  no : ∀ f ∈ fs, PySem.W.findIn K (.ref C) f = some none
/-- .. and of its __init__ -/
structure ExIni (P : Program) (K : PySem.W.Frag) (mg : Str → Option Value) (D fI cc cda : Addr) : Prop where
  code : ∃ ccl cdd vs ccs file tf, K.lookup cda = some ⟨ccl, cdd, .fields vs, ccs⟩ ∧ vs[2]? = some (.str file tf) ∧ ((P.main.file : Str) == file) = true
  cell : ∃ cl cld csl, K.lookup cc = some ⟨cl, cld, .cell (some (.ref D)), csl⟩
  clsD : ∃ cdD, PySem.W.clsIn K D = some cdD
  nosup : mg "super" = none
  top : (P.main.scope.names.lookup ("super" : Str)).isSome = false
  any : PySem.W.nsIn K cStatics "thirdparty.any" = some none
section
variable {P : Program} {w : World} {K : PySem.W.Frag} {mg : Str → Option Value} {base : Heap} {C D fI cc cda : Addr} {y qual sf af bf f g : Str} {params : Arguments} {scope : Scope} {dV kV doc pm ct oc : Value} {an od : Option Addr} {osl : Array (Option Value)}
  {p0 p1 p2 p3 p4 p5 p6 p7 p8 p9 pa pb pc pd pe : Pos} {ann : Option Expr} {ap : Pos}
/-- one field -/
theorem exd1 (E : ExCls K mg y C D fI [f]) (Ini : ExIni P K mg D fI cc cda)
    (lk : K.lookup fI = some ⟨oc, od, .func (PySem.W.fnX "__init__" qual params (.Expr (.Call (.Attribute (.Call (.Name "super" p0) [] [] p1) "__init__" p2) [.Name af p5] [] p3) p4 :: [.Assign [.Attribute (.Name sf p6) f p7] (.Name af p8) p9]) scope [("__class__", cc)] dV kV doc pm an (.ref cda) ct), osl⟩)
    (hcd : PySem.W.codeIn K (.ref cda) qual = true) (S : NScope [sf, af, "__class__"] [sf, af] [("__class__" : Str)] scope) (hp : (params.posonlyargs ++ params.args).head? = some ⟨sf, ann, ap⟩)
    (hb : ∀ us : List Value, us.length = 2 → bindArgs (PySem.W.fnX "__init__" qual params (.Expr (.Call (.Attribute (.Call (.Name "super" p0) [] [] p1) "__init__" p2) [.Name af p5] [] p3) p4 :: [.Assign [.Attribute (.Name sf p6) f p7] (.Name af p8) p9]) scope [("__class__", cc)] dV kV doc pm an (.ref cda) ct) ⟨us, []⟩ = pure (([sf, af] : List Str).zip us))
    {pl : Sem Bool} (hc : ∀ env : Env, eval (.Call (.Attribute (.Call (.Name "super" p0) [] [] p1) "__init__" p2) [.Name af p5] [] p3) env = (do
      let ov ← attributeBase (.Call (.Name "super" p0) [] [] p1) "__init__" env (eval (.Call (.Name "super" p0) [] [] p1) env)
      standAt p2.atName
      let (f, first) ← holding [ov] (getMethod ov "__init__" pl)
      callWith p3 f first (backTo p3 (starEach [.Name af p5] env)) []))
    (h1 : scope.names.lookup ("super" : Str) = some .globalImplicit) (h2 : scope.names.lookup ("__class__" : Str) = some .free) (h3 : scope.names.lookup sf = some .local) (h4 : scope.names.lookup af = some .local)
    (d1 : (sf == ("__debug__" : Str)) = false) (d2 : (sf == ("__classdict__" : Str)) = false) (d3 : (af == ("__debug__" : Str)) = false) (d4 : (af == ("__classdict__" : Str)) = false) : ExD P w K mg base 1 y [f] := by
  refine ⟨C, fI, _, [sf, af], E.gl, E.ox, E.ini, E.tyI, ?_, .all fun us hl => hb us hl⟩
  refine fn_sup (k := 0) (N := [sf, af, "__class__"]) (D := D) (ar := ⟨sf, ann, ap⟩) (pl := pl) lk hcd S (fun vs H Q E h => ?_) Ini.cell (fun A outer s H E => ?_) rfl h3 (fun env => by rfl) hc (fun env => by rfl) (fun env => by rfl) (fun X hN hK hS hc => ?_)
  · obtain ⟨a, ys, rfl, hl, _⟩ := h
    simpa using hl
  · obtain ⟨ccl, cdd, vs, ccs, file, tf, c1, c2, c3⟩ := Ini.code
    exact ⟨h1, h2, rfl, ⟨_, _, _, _, lk, hp⟩, ⟨cda, ccl, cdd, vs, ccs, file, tf, rfl, c1, c2, c3⟩, by simp [ncx, List.lookup], Ini.cell, Ini.clsD, Ini.nosup, Ini.top, Ini.any⟩
  · have v1 : Vis X.env.scope af := .inl (by rw [hS]; exact h4)
    have v0 : Vis X.env.scope sf := .inl (by rw [hS]; exact h3)
    refine ⟨_, _, pa_cons (pe_var (i := 1) (by rw [hN]; rfl) v1 d3 d4) pa_nil, pss_one (ps_ost (pe_var (i := 0) (by rw [hN]; rfl) v0 d1 d2) (pe_var (i := 1) (by rw [hN]; rfl) v1 d3 d4)), fun H vs Q E' h => ?_⟩
    obtain ⟨a, ys, rfl, hl, ha, q⟩ := h
    obtain ⟨y1, rfl⟩ : ∃ y1, ys = [y1] := by
      match ys, hl with
      | [y1], _ => exact ⟨y1, rfl⟩
    refine ⟨a, C, [y1], rfl, ha, E.ox, E.sd, y1, rfl, by show 1 ≤ 1000; decide, ha, ?_⟩
    refine ⟨y1, rfl, .ref a, rfl, a, C, rfl, by rw [hK]; exact E.ox, by rw [hK]; exact E.no f (by simp), .inl ⟨ha, fun dx hd hda => ?_⟩⟩
    exact q _ dx hd hda upd_same (by rw [upd_ne hda, upd_same]; rfl) fun b h1 h2 => by rw [upd_ne h1, upd_ne h2]
/-- two fields -/
theorem exd2 (E : ExCls K mg y C D fI [f, g]) (Ini : ExIni P K mg D fI cc cda)
    (lk : K.lookup fI = some ⟨oc, od, .func (PySem.W.fnX "__init__" qual params (.Expr (.Call (.Attribute (.Call (.Name "super" p0) [] [] p1) "__init__" p2) [.Name af p5, .Name bf pa] [] p3) p4 :: [.Assign [.Attribute (.Name sf p6) f p7] (.Name af p8) p9, .Assign [.Attribute (.Name sf pb) g pc] (.Name bf pd) pe]) scope [("__class__", cc)] dV kV doc pm an (.ref cda) ct), osl⟩)
    (hcd : PySem.W.codeIn K (.ref cda) qual = true) (S : NScope [sf, af, bf, "__class__"] [sf, af, bf] [("__class__" : Str)] scope) (hp : (params.posonlyargs ++ params.args).head? = some ⟨sf, ann, ap⟩)
    (hb : ∀ us : List Value, us.length = 3 → bindArgs (PySem.W.fnX "__init__" qual params (.Expr (.Call (.Attribute (.Call (.Name "super" p0) [] [] p1) "__init__" p2) [.Name af p5, .Name bf pa] [] p3) p4 :: [.Assign [.Attribute (.Name sf p6) f p7] (.Name af p8) p9, .Assign [.Attribute (.Name sf pb) g pc] (.Name bf pd) pe]) scope [("__class__", cc)] dV kV doc pm an (.ref cda) ct) ⟨us, []⟩ = pure (([sf, af, bf] : List Str).zip us))
    {pl : Sem Bool} (hc : ∀ env : Env, eval (.Call (.Attribute (.Call (.Name "super" p0) [] [] p1) "__init__" p2) [.Name af p5, .Name bf pa] [] p3) env = (do
      let ov ← attributeBase (.Call (.Name "super" p0) [] [] p1) "__init__" env (eval (.Call (.Name "super" p0) [] [] p1) env)
      standAt p2.atName
      let (f, first) ← holding [ov] (getMethod ov "__init__" pl)
      callWith p3 f first (backTo p3 (starEach [.Name af p5, .Name bf pa] env)) []))
    (h1 : scope.names.lookup ("super" : Str) = some .globalImplicit) (h2 : scope.names.lookup ("__class__" : Str) = some .free) (h3 : scope.names.lookup sf = some .local) (h4 : scope.names.lookup af = some .local) (h5 : scope.names.lookup bf = some .local)
    (d1 : (sf == ("__debug__" : Str)) = false) (d2 : (sf == ("__classdict__" : Str)) = false) (d3 : (af == ("__debug__" : Str)) = false) (d4 : (af == ("__classdict__" : Str)) = false) (d5 : (bf == ("__debug__" : Str)) = false) (d6 : (bf == ("__classdict__" : Str)) = false) : ExD P w K mg base 1 y [f, g] := by
  refine ⟨C, fI, _, [sf, af, bf], E.gl, E.ox, E.ini, E.tyI, ?_, .all fun us hl => hb us hl⟩
  refine fn_sup (k := 0) (N := [sf, af, bf, "__class__"]) (D := D) (ar := ⟨sf, ann, ap⟩) (pl := pl) lk hcd S (fun vs H Q E h => ?_) Ini.cell (fun A outer s H E => ?_) rfl h3 (fun env => by rfl) hc (fun env => by rfl) (fun env => by rfl) (fun X hN hK hS hc => ?_)
  · obtain ⟨a, ys, rfl, hl, _⟩ := h
    simpa using hl
  · obtain ⟨ccl, cdd, vs, ccs, file, tf, c1, c2, c3⟩ := Ini.code
    exact ⟨h1, h2, rfl, ⟨_, _, _, _, lk, hp⟩, ⟨cda, ccl, cdd, vs, ccs, file, tf, rfl, c1, c2, c3⟩, by simp [ncx, List.lookup], Ini.cell, Ini.clsD, Ini.nosup, Ini.top, Ini.any⟩
  · have v1 : Vis X.env.scope af := .inl (by rw [hS]; exact h4)
    have v2 : Vis X.env.scope bf := .inl (by rw [hS]; exact h5)
    have v0 : Vis X.env.scope sf := .inl (by rw [hS]; exact h3)
    refine ⟨_, _, pa_cons (pe_var (i := 1) (by rw [hN]; rfl) v1 d3 d4) (pa_cons (pe_var (i := 2) (by rw [hN]; rfl) v2 d5 d6) pa_nil), pss_cons (ps_ost (pe_var (i := 0) (by rw [hN]; rfl) v0 d1 d2) (pe_var (i := 1) (by rw [hN]; rfl) v1 d3 d4)) (pss_one (ps_ost (pe_var (i := 0) (by rw [hN]; rfl) v0 d1 d2) (pe_var (i := 2) (by rw [hN]; rfl) v2 d5 d6))), fun H vs Q E' h => ?_⟩
    obtain ⟨a, ys, rfl, hl, ha, q⟩ := h
    obtain ⟨y1, y2, rfl⟩ : ∃ y1 y2, ys = [y1, y2] := by
      match ys, hl with
      | [y1, y2], _ => exact ⟨y1, y2, rfl⟩
    refine ⟨a, C, [y1, y2], rfl, ha, E.ox, E.sd, y1, rfl, y2, rfl, by show 2 ≤ 1000; decide, ha, ?_⟩
    refine ⟨y1, rfl, .ref a, rfl, a, C, rfl, by rw [hK]; exact E.ox, by rw [hK]; exact E.no f (by simp), .inl ⟨ha, fun dx hd hda => ?_⟩⟩
    refine ⟨y2, rfl, .ref a, rfl, a, C, rfl, by rw [hK]; exact E.ox, by rw [hK]; exact E.no g (by simp), .inr ⟨dx, [(f, y1)], upd_same, by rw [upd_ne hda, upd_same], by show 1 ≤ 900; decide, ?_⟩⟩
    exact q _ dx hd hda (by rw [upd_ne (Ne.symm hda), upd_same]) upd_same fun b h1 h2 => by rw [upd_ne h2, upd_ne h1, upd_ne h2]
end
end DL
end

section
set_option Elab.async false
set_option linter.all false
set_option maxRecDepth 100000
set_option maxHeartbeats 4000000
/-! The classes of exceptions of a law. -/
namespace DL
open PySem PySem.Spec PyProof.Rows L2
/-- which class is below which -/
abbrev SubT := List ((Str × Str) × Bool)
def subOf (t : SubT) : Str → Str → Option Bool := fun c y => t.lookup (c, y)
structure ExW (K : PySem.W.Frag) (mg : Str → Option Value) (t : SubT) (vs : List Str) : Prop where
  at_ : ∀ y ∈ vs, ∃ C, mg y = some (.ref C)
  exm : ∀ c y b C D, y ∈ vs → subOf t c y = some b → mg c = some (.ref D) → mg y = some (.ref C) → PySem.W.exmOne K (.ref D) (.ref C) = some b
  kit : ∀ c y b C D, y ∈ vs → subOf t c y = some b → mg c = some (.ref D) → mg y = some (.ref C) → PySem.W.kitOne K (.ref D) (.ref C) = some b
  kitV : ∀ c b D, subOf t c "ValueError" = some b → mg c = some (.ref D) → PySem.W.kitOne K (.ref D) (.type "ValueError") = some b
  ec : ∀ c y b D, subOf t c y = some b → mg c = some (.ref D) → ExcC K D
end DL
namespace DL
open PySem PySem.Spec PyProof.Rows L2
/-- the classes' addresses -/
def GlAll (mg : Str → Option Value) : List (Str × Addr) → Prop
  | [] => True
  | p :: l => mg p.1 = some (.ref p.2) ∧ GlAll mg l
theorem GlAll.get {mg : Str → Option Value} {y : Str} {C : Addr} : ∀ {l : List (Str × Addr)}, GlAll mg l → l.lookup y = some C → mg y = some (.ref C)
  | [], h, e => by simp at e
  | p :: l, h, e => by
    simp only [List.lookup] at e
    split at e
    · rename_i q
      cases e
      have : y = p.1 := by simpa using q
      rw [this]; exact h.1
    · exact GlAll.get h.2 e
/-- what the table's rows say -/
def RowOk (K : PySem.W.Frag) (ad : List (Str × Addr)) (r : (Str × Str) × Bool) : Prop :=
  match ad.lookup r.1.1 with
  | none => False
  | some D => match ad.lookup r.1.2 with
    | none => ExcC K D ∧ PySem.W.kitOne K (.ref D) (.type "ValueError") = some r.2
    | some C => ExcC K D ∧ PySem.W.exmOne K (.ref D) (.ref C) = some r.2 ∧ PySem.W.kitOne K (.ref D) (.ref C) = some r.2
def RowsOk (K : PySem.W.Frag) (ad : List (Str × Addr)) : SubT → Prop
  | [] => True
  | r :: l => RowOk K ad r ∧ RowsOk K ad l
theorem RowsOk.get {K : PySem.W.Frag} {ad : List (Str × Addr)} {c y : Str} {b : Bool} : ∀ {t : SubT}, RowsOk K ad t → subOf t c y = some b → RowOk K ad ((c, y), b)
  | [], h, e => by simp [subOf] at e
  | r :: l, h, e => by
    unfold subOf at e
    simp only [List.lookup] at e
    split at e
    · rename_i q
      cases e
      have : (c, y) = r.1 := by simpa using q
      rw [this]; exact h.1
    · exact RowsOk.get h.2 e
theorem ew_of {K : PySem.W.Frag} {mg : Str → Option Value} (t : SubT) (vs : List Str) (ad : List (Str × Addr)) (g : GlAll mg ad) (hv : vs.all (fun y => (ad.lookup y).isSome) = true) (h : RowsOk K ad t) (hn : ad.lookup ("ValueError" : Str) = none) : ExW K mg t vs := by
  refine ⟨fun y hy => ?_, fun c y b C D hy e1 e2 e3 => ?_, fun c y b C D hy e1 e2 e3 => ?_, fun c b D e1 e2 => ?_, fun c y b D e1 e2 => ?_⟩
  · have := List.all_eq_true.mp hv y hy
    obtain ⟨C, hC⟩ := Option.isSome_iff_exists.mp this
    exact ⟨C, g.get hC⟩
  all_goals
    have r := h.get e1
    unfold RowOk at r
    simp only at r
    split at r
    · exact r.elim
    rename_i D' hD
    have eD := g.get hD
    rw [eD] at e2
    cases e2
  · split at r
    · rename_i hN
      have hs := List.all_eq_true.mp hv y hy
      rw [hN] at hs
      cases hs
    · rename_i C' hC
      have eC := g.get hC
      rw [eC] at e3
      cases e3
      exact r.2.1
  · split at r
    · rename_i hN
      have hs := List.all_eq_true.mp hv y hy
      rw [hN] at hs
      cases hs
    · rename_i C' hC
      have eC := g.get hC
      rw [eC] at e3
      cases e3
      exact r.2.2
  · rw [hn] at r
    exact r.2
  · split at r
    · exact r.1
    · exact r.1
end DL
end

section
set_option Elab.async false
set_option linter.all false
set_option maxRecDepth 100000
set_option maxHeartbeats 4000000
/-! A def called within a suite (it may look at the caught exception, it raises nothing); the law's end. -/
namespace DL
open PySem PySem.Spec PyProof.Rows L2 L2H

def mFnE (NL n : Nat) (m : En → MS) : List Va → M Va := fun as st => if as.length = n then cutR st.length (bodyR (m (as.map some ++ List.replicate (NL - n) none) st)) else none
/-- the def that the module's name y holds, called while an exception is handled -/
def FnE (P : Program) (w : World) (K : PySem.W.Frag) (mg : Str → Option Value) (base : Heap) (k : Nat) (y : Str) (n : Nat) (g : List Va → M Va) : Prop :=
  ∃ (f : Addr) (fd : FuncData) (ps : List Str), (∀ (A : Around) (outer : List Env) (s : Shared) (H : Hp) (args : Args) (us : List Value) (vs : List V) (Q : VK) (p : Addr × Obj) (cls : Value) (dx : Option Addr), RoomH k A → A.guards = some [] → PinOk outer H s p → Zc cls dx p.2 → (∃ fs, p.2.data = .fields fs) →
      Env0 P w K mg base A outer s H → BindsTo s fd args (ps.zip us) → Vals vs us → vs.length = ps.length →
      (∃ μ st as, SV ⟨K, mg, some (p.1, cls, dx)⟩ μ H st ∧ AVs ⟨K, mg, some (p.1, cls, dx)⟩ μ H as vs ∧ as.length = n ∧ Fin ⟨K, mg, some (p.1, cls, dx)⟩ (fun _ _ _ => False) μ H (fun a _ μ' H' => ∀ v, AV ⟨K, mg, some (p.1, cls, dx)⟩ μ' H' a v → Q v H') (g as st)) →
      codeAny (model P w) A (.call (.ref f) args) (CR (L2.CX P w) outer P w H s Q (fun _ _ _ => False)) s) ∧ Binds K fd ps [] ∧ PySem.W.keepIn K (.ref f) = true ∧ mg y = some (.ref f) ∧ ps.length = n
section
variable {P : Program} {w : World} {K : PySem.W.Frag} {mg : Str → Option Value} {base : Heap}
theorem fn_e {y qual : Str} {st : Stmt} {f : Addr} {fd : FuncData} {N ps : List Str} {k n : Nat} {m : En → MS} (F : Fun K y qual st f fd) (S : FnScope N ps (defScope st)) (hm : mg y = some (.ref f)) (hn : ps.length = n)
    (hb : ∀ (kV doc pm : Value) (an : Option Addr) (cdv ct : Value) (us : List Value), us.length = ps.length → bindArgs (PySem.W.fnOf y qual (defArgs st) (defBody st) (defScope st) .none kV doc pm an cdv ct) ⟨us, []⟩ = pure (ps.zip us))
    (hbody : ∀ (cdv : Value) (A : Around) (outer : List Env) (s : Shared) (H : Hp) (a : Addr) (oe : Obj) (cls : Value) (dx : Option Addr), RoomH k (A.deeper (envOfC qual (defScope st) s.heap.objs.size f cdv)) → (A.deeper (envOfC qual (defScope st) s.heap.objs.size f cdv)).guards = some [] → Zc cls dx oe → (∃ fs, oe.data = .fields fs) →
      SDs (cxH (L2.CX P w) P w K mg base N qual (defScope st) f cdv A outer s H (fun _ _ _ => False) (a, oe)) (some (a, cls, dx)) W0 (defBody st) m) : FnE P w K mg base (k + 1) y n (mFnE N.length n m) := by
  refine ⟨f, fd, ps, fun A outer s H args us vs Q p cls dx hr hG hpin hz hf e0 hbi r hl hsp => ?_, F.binds hb, F.kp, hm, hn⟩
  obtain ⟨oc, od, kV, doc, pm, an, cdv, ct, osl, rfl, lk, hcd⟩ := F.ex
  have KX : K.In s.heap := e0.mod.kin.keeps fun b o e => (e0.bs b o e).1
  have lim : s.heap.NoLimit := e0.mod.nolimit.keeps fun b o e => (e0.bs b o e).1
  have hkind : ∀ y ∈ ps.zip us, (defScope st).names.lookup y.1 = some .local ∨ ((defScope st).names.lookup y.1 = some .cell ∧ ((cellsFrom (s.heap.objs.size + 1) (defScope st).names []).lookup y.1).isSome = true) := fun ⟨n, v⟩ hy => by
    rcases S.par n (List.of_mem_zip hy).1 with q | q
    · exact .inl q
    · exact .inr ⟨q, PySem.W.cellsFrom_some _ _ _ (.inl q)⟩
  refine codeAny_call_function hr.depth (KX _ _ lk) rfl S.co S.gen rfl (PySem.W.codeRec_of KX hcd) (hbi _ _ _ _ ?_)
  refine wpAny_newFunctionEnv_cells S.kind hkind fun env he s1 x => ?_
  subst he
  refine ⟨lim.keeps x.toInCall.keep, codeAny_func ?_⟩
  obtain ⟨μ, st1, as, sv, av, hla, h⟩ := hsp
  have I : L2.Inv (cxH (L2.CX P w) P w K mg base N qual (defScope st) f cdv A outer s H (fun _ _ _ => False) p) [] (L2.start N vs) H s1 := inv_startH S hpin e0 hl r x
  have h2 : FinS ⟨K, mg, some (p.1, cls, dx)⟩ W0 { nx := fun _ H' => Q .non H', rt := Q } μ H (m (as.map some ++ List.replicate (N.length - as.length) none) st1) := by
    unfold mFnE at h
    rw [if_pos hla] at h
    rw [hla]
    exact FinS.body (Fin.cut sv.len h)
  refine wpAny_mono ((hbody cdv A outer s H p.1 p.2 cls dx (hr.deeper _) hG hz hf).run [] s1 (L2.start N vs) H { nx := fun _ H' => Q .non H', rt := Q } I ⟨μ, st1, _, EV.start (N := N) av, sv, h2⟩) (fun fl s' hs => ?_) fun e s' hs => hs
  have fin : ∀ {σ' : L2.St} {H' : Hp} {v : V} {u : Value}, L2.Inv (cxH (L2.CX P w) P w K mg base N qual (defScope st) f cdv A outer s H (fun _ _ _ => False) p) [] σ' H' s' → RelV v u → Q v H' → CE outer P w H s Q u s' :=
    fun {σ' H' v u} J rv q => ⟨v, H', J.os, J.bare, J.base, J.hok, rv, q⟩
  cases fl with
  | ret u =>
    obtain ⟨v, σ', H', J, rv, q⟩ := hs
    exact fin J rv q
  | next =>
    obtain ⟨σ', H', J, q⟩ := hs
    exact fin (v := V.non) (u := Value.none) J rfl q
  | brk =>
    obtain ⟨_, _, _, q⟩ := hs
    exact False.elim q
  | cont =>
    obtain ⟨_, _, _, q⟩ := hs
    exact False.elim q
end
section
variable {X : Cx} {pos p : Pos} {e : Expr} {es : List Expr} {m : En → M (List Va)} {k n : Nat} {y : Str} {N : Nat} {mb : En → MS}
/-- f(e, ..) in a suite -/
theorem ed_callE {a : Addr} {oe : Obj} {cls : Value} {d : Option Addr} {pn : List (Addr × Obj)} (F : FnE X.prog X.w X.K X.mg X.base k y n (mFnE N n mb)) (hr : Room k X.A) (hG : X.A.guards = some []) (hz : Zc cls d oe) (hf : ∃ fs, oe.data = .fields fs)
    (ha : AD (X.suite a ((a, oe) :: pn)) (some (a, cls, d)) W0 (e :: es) m) (hst : X.stack = X.env :: X.outer := by rfl) (hfr : X.env.frame = some X.env.locals := by rfl) (hg : Gl X y := by rfl) (hdb : (y == ("__debug__" : Str)) = false := by decide)
    (he : starEach (e :: es) X.env = (false, eval e X.env) :: starEach es X.env := by rfl) (hpl : (backTo pos (starEach es X.env)).any (·.1) = false := by rfl) : ED (X.suite a ((a, oe) :: pn)) (some (a, cls, d)) W0 (.Call (.Name y p) (e :: es) [] pos) (mCall (mFnE N n mb) m) := by
  obtain ⟨f, fd, ps, F1, hb, hk, hm, hpn⟩ := F
  refine ⟨fun pins s σ H Q I h => ?_⟩
  obtain ⟨μ, st, ρ, ev, sv, h⟩ := h
  refine wpAny_Call_Name_kw (ld_glob I hg hm ?_ hdb)
  refine PySem.W.callWith_K (h₀ := X.base) I.ok.mod.kin hk (thn (L2.PA.run ha pos pins s σ H (fun vs H1 => ∃ μ st as, SV ⟨X.K, X.mg, some (a, cls, d)⟩ μ H1 st ∧ AVs ⟨X.K, X.mg, some (a, cls, d)⟩ μ H1 as vs ∧ as.length = n ∧ Fin ⟨X.K, X.mg, some (a, cls, d)⟩ (fun _ _ _ => False) μ H1 (fun a' _ μ' H' => ∀ v, AV ⟨X.K, X.mg, some (a, cls, d)⟩ μ' H' a' v → Q v H') (mFnE N n mb as st)) I ⟨μ, st, ρ, ev, sv, Fin.map (fun as st1 μ1 H1 e1 s1 h1 vs hv => ?_) (Fin.bind h)⟩) fun us s1 ⟨vs, H1, I1, r, q⟩ => ⟨I1.kIn, ?_⟩) he hpl
  · refine ⟨μ1, st1, as, s1, hv, ?_, h1⟩
    by_cases z : as.length = n
    · exact z
    · unfold mFnE at h1
      rw [if_neg z] at h1
      exact h1.elim
  · have hlv : vs.length = ps.length := by
      obtain ⟨_, _, as, _, av, hl, _⟩ := q
      rw [av.length, hl, hpn]
    have hl : (us ++ []).length = ps.length := by
      rw [List.append_nil, ← r.length]
      exact hlv
    have hb' := hb s1 us I1.kIn hl
    rw [List.append_nil] at hb'
    obtain ⟨pg, pf, pl, pfs, pc⟩ := I1.pin (a, oe) (List.mem_append.mpr (.inl List.mem_cons_self))
    have hpin : PinOk X.stack H1 s1 (a, oe) := ⟨pg, pf, fun hmem => by
      rw [hst] at hmem
      obtain ⟨env, henv, hq⟩ := List.mem_filterMap.mp hmem
      rcases List.mem_cons.mp henv with rfl | henv
      · rw [hfr] at hq
        exact pl (Option.some.inj hq).symm
      · exact pfs (List.mem_filterMap.mpr ⟨env, henv, hq⟩), pc⟩
    refine wpAny_call (codeAny_mono (F1 (X.A.mark (some (.ref a))) X.stack s1 H1 ⟨us, []⟩ us vs Q (a, oe) cls d ⟨hr.dp, hr.un⟩ hG hpin hz hf I1.env0 hb' r hlv q) fun r s' hq => ?_)
    cases r with
    | error er =>
      obtain ⟨_, _, _, _, _, _, _, _, _, _, _, _, z⟩ := hq
      exact z.elim
    | ok fl =>
      cases fl with
      | ret u => exact I1.after hq
      | next => exact False.elim hq
      | brk => exact False.elim hq
      | cont => exact False.elim hq
end
end DL
end

section
set_option Elab.async false
set_option linter.all false
set_option maxRecDepth 100000
set_option maxHeartbeats 4000000
/-! The law's end. -/
namespace DL
open PySem PySem.Spec PyProof.Rows L2

theorem law_callG {P : Program} {w : World} {K : PySem.W.Frag} {mg mb : Str → Option Value} {k : Nat} {fa a : Addr} {y : Str} {g : List Va → M Va} {s₁ : Shared} {vs : List Value} {ns : List Int}
    (KX : K.In s₁.heap) (hns : s₁.heap.Ns mainGlobals mg) (hb : s₁.heap.Ns builtinsNs mb) (hbb : ∀ x : Str, x ≠ "__name__" → mb x = bootBuiltins x) (hlim : s₁.heap.NoLimit) (hg : s₁.gens = #[]) (ha : s₁.heap.get? a = some { cls := .type "list", data := .seq vs.toArray }) (hi : IntsAre vs ns) (hl : ns.length ≤ sizeLine) (hr : Room k callerA)
    (F : ∀ base : Heap, K.In base → base.Ns mainGlobals mg → FnD P w K mg base k y 1 g) (hm : mg y = some (.ref fa))
    (hsp : ∀ H : Hp, Only H → SqL K H a (ns.map V.int) → spD ⟨K, mg, none⟩ 1 g [.ref a] H (fun v _ => v = .bl true) fun _ _ _ => False) :
    codeAny (model P w) callerA (.call (.ref fa) ⟨[.ref a], []⟩) (fun r s' => r = .ok (.ret (.bool true)) ∧ OldK s₁.heap s'.heap ∧ s'.os = s₁.os ∧ AllBare s'.gens) s₁ := by
  have rv : Vals (ns.map V.int) vs := vals_of_ints hi
  have lenV : vs.length = ns.length := by rw [← rv.length, List.length_map]
  have core : ∀ H : Hp, Only H → SqL K H a (ns.map V.int) → HOk P w H s₁.heap → (∀ b, H b ≠ none → b = a) → (H a ≠ none → K.lookup a = none) →
      codeAny (model P w) callerA (.call (.ref fa) ⟨[.ref a], []⟩) (fun r s' => r = .ok (.ret (.bool true)) ∧ OldK s₁.heap s'.heap ∧ s'.os = s₁.os ∧ AllBare s'.gens) s₁ := by
    intro H hO hS hok hA hK
    have base_of : ∀ {b : Addr} {o : Obj}, s₁.heap.get? b = some o → H b = none → (hidT s₁.heap H).get? b = some o := fun e n => hidT_get e n
    have noA : ∀ {b : Addr} {o : Obj} {es : Array DictEntry} {ep : Nat}, s₁.heap.get? b = some o → o.data = .dict es ep → H b = none := fun {b o es ep} e d => by
      cases q : H b with
      | none => rfl
      | some u =>
        have e' : b = a := hA b (by rw [q]; simp)
        subst e'
        rw [ha] at e; cases e
        have d' : Data.seq vs.toArray _ = Data.dict es ep := d
        cases d'
    have nsK : ∀ {b : Addr} {m : Str → Option Value}, s₁.heap.Ns b m → (hidT s₁.heap H).Ns b m := fun {b m} ⟨o, es, ep, e, d, r⟩ => ⟨o, es, ep, base_of e (noA e d), d, r⟩
    have hKb : K.In (hidT s₁.heap H) := fun b o e => base_of (KX b o e) (by
      cases q : H b with
      | none => rfl
      | some u =>
        have e' : b = a := hA b (by rw [q]; simp)
        subst e'
        rw [hK (by rw [q]; simp)] at e; cases e)
    have hM : Mod K mg (hidT s₁.heap H) := ⟨hKb, nsK hns, ⟨mb, nsK hb, hbb⟩, let ⟨mc, h1, h2⟩ := hlim; ⟨mc, nsK h1, h2⟩⟩
    have e0 : Env0 P w K mg (hidT s₁.heap H) callerA [] s₁ H := ⟨rfl, hM, fun b o e => of_hidT e, Nat.le_of_eq (hidT_size _ _), trivial, fun b hb => absurd (show b ∈ ([] : List Addr) from hb) (by simp), hok, .of_eq hg⟩
    obtain ⟨f, fd, ps, F1, hbi, _, hmf⟩ := F _ hKb (nsK hns)
    rw [hm] at hmf
    cases hmf
    have hlen : ([Value.ref a] ++ []).length = ps.length := F1.len _ _ _ _ (hsp H hO hS)
    have hbt : BindsTo s₁ fd ⟨[.ref a], []⟩ (ps.zip [.ref a]) := hbi s₁ [.ref a] KX hlen
    refine codeAny_mono (F1.run callerA [] s₁ H ⟨[.ref a], []⟩ [.ref a] [.ref a] _ _ hr rfl e0 hbt (.cons rfl .nil) (hsp H hO hS)) fun r s' h => ?_
    cases r with
    | error e =>
      obtain ⟨_, _, _, _, _, _, _, _, _, _, _, _, z⟩ := h
      exact z.elim
    | ok fl =>
      cases fl with
      | next => exact False.elim h
      | brk => exact False.elim h
      | cont => exact False.elim h
      | ret u =>
        obtain ⟨v, H', os, bare, un, hok', r', q⟩ := h
        have q' : v = .bl true := q
        subst q'
        obtain rfl : u = Value.bool true := r'
        refine ⟨rfl, OldK.of_keep fun b o e => ?_, os, bare⟩
        cases q : H b with
        | none => exact un.keep b o e q (by intro z; exact absurd (show b ∈ ([] : List Addr) from z) (by simp)) (by simp)
        | some u =>
          rcases hO b with z | ⟨ob, xs, z⟩
          · rw [q] at z; cases z
          · have z2 := un.frzs b ob _ z
            obtain ⟨e1, _⟩ := hok b _ z
            obtain ⟨e2, _⟩ := hok' b _ z2
            rw [e] at e1; cases e1
            exact e2
  cases hk : K.lookup a with
  | some o =>
    have e := KX a o hk
    rw [ha] at e
    cases e
    refine core (fun _ => none) (fun _ => .inl rfl) (.inr ⟨_, vs.toArray, _, hk, rfl, rfl, rfl, by rw [List.size_toArray, lenV]; exact hl, by simpa using rv⟩) (fun b u z => by have z' : (none : Option HO) = some u := z; cases z') (fun b z => absurd rfl z) fun z => absurd rfl z
  | none =>
    refine core (fun b => if b = a then some (.frz { cls := .type "list", data := .seq vs.toArray } (.lst (ns.map V.int))) else none) (fun b => ?_) (.inl (.inr ⟨{ cls := .type "list", data := .seq vs.toArray }, if_pos rfl⟩)) (fun b u z => ?_) (fun b z => ?_) fun _ => hk
    · by_cases hb : b = a
      · exact .inr ⟨_, _, if_pos hb⟩
      · exact .inl (if_neg hb)
    · by_cases hb : b = a
      · have z' := (if_pos hb).symm.trans z
        cases z'
        subst hb
        exact ⟨ha, by rw [List.length_map]; exact hl, vs, _, rv, ha⟩
      · have z' := (if_neg hb).symm.trans z
        cases z'
    · by_cases hb : b = a
      · exact hb
      · exact absurd (if_neg hb) z
/-- the goal that k_head leaves (case hc): from the walk of law and its pure answer -/
theorem walk_d {l : PySem.W.OpenLaw} {n k NL : Nat} {q : Program} {loose : List Str} {XP : (Str → Option Value) → Heap → Prop} {YP : World → Heap → Prop} {d : DefRec} {K : Params → PySem.W.Frag} {m : En → MS} {y : Str}
    (hn : l.most = some n) (hn2 : n ≤ sizeLine) (hdf : d.params.defaults = []) (hr : Room k callerA)
    (hY : ∀ (w : World) (h : Heap), YP w h → (K w.params).In h)
    (F : ∀ (w : World) (mg : Str → Option Value) (fa : Addr) (h : Heap), (K w.params).In h → h.Ns mainGlobals mg → mg d.name = some (.ref fa) →
      ∀ base : Heap, (K w.params).In base → base.Ns mainGlobals mg → FnD l.prog w (K w.params) mg base k y 1 (mFn NL 1 m)) (hy : d.name = y)
    (hpure : ∀ ns : List Int, ns.length ≤ n → ∃ st, mFn NL 1 m [.scr ns] [] = some (.ok (.val (.bl true)), st)) :
    PySem.W.WalkO q loose XP YP l.row.toRowW d [] (fun f vs => PySem.call f vs) := by
  refine Att.attach_call hn hdf fun w s₀ s₁ mg mb fa o pm cd doc a vs ns G Y ho hd hcd hmg hobj hints hlen hg => ?_
  have KX := hY w _ Y
  refine law_callG KX G.T.g G.T.b G.T.builtins G.T.nolimit hg hobj hints (Nat.le_trans hlen hn2) hr (F w mg fa _ KX G.T.g hmg) (hy ▸ hmg) (fun H hO hS => ?_)
  · refine ⟨[], [], [.scr ns], ⟨rfl, fun i j a h => by simp at h, fun k o h => by simp at h⟩, ⟨.ref a, [], rfl, ⟨a, rfl, ?_⟩, rfl⟩, rfl, ?_⟩
    · rcases hS with h | h
      · exact .inl ⟨by simp, h⟩
      · exact .inr h
    · obtain ⟨st, e⟩ := hpure ns hlen
      rw [e]
      intro μ' H' _ _ v hv
      exact av_b hv
end DL
end

section
set_option Elab.async false
set_option linter.all false
set_option maxRecDepth 100000
set_option maxHeartbeats 4000000
/-! Reckoning with mirrors: rows for simp. -/
namespace DL
open PySem PySem.Spec PyProof.Rows L2
section
variable {α β : Type} {st : Sto} {ρ : En} {i j : Int}
@[simp] theorem bind_eq (m : M α) (f : α → M β) (st : Sto) : M.bind m f st = (match m st with | none => none | some (.ok a, st') => f a st' | some (.ex c fs, st') => some (.ex c fs, st')) := rfl
@[simp] theorem pure_eq (a : α) (st : Sto) : M.pure a st = some (.ok a, st) := rfl
@[simp] theorem stuck_eq (st : Sto) : (stuck : M α) st = none := rfl
@[simp] theorem calm_eq (m : M α) (st : Sto) : calm m st = (match m st with | some (.ok a, st') => some (.ok a, st') | _ => none) := rfl
@[simp] theorem mC_eq (d : D) (ρ : En) (st : Sto) : mC d ρ st = some (.ok (.val d), st) := rfl
@[simp] theorem mVar0 (a : Va) (r : En) (st : Sto) : mVar 0 (some a :: r) st = some (.ok a, st) := rfl
@[simp] theorem mVarS (o : Option Va) (n : Nat) (r : En) (st : Sto) : mVar (n + 1) (o :: r) st = mVar n r st := by simp [mVar]
@[simp] theorem mBin_eq (g : Va → Va → M Va) (ma mb : En → M Va) (ρ : En) (st : Sto) : mBin g ma mb ρ st = M.bind (ma ρ) (fun a => M.bind (mb ρ) fun b => g a b) st := rfl
@[simp] theorem mNil_eq (ρ : En) (st : Sto) : mNil ρ st = some (.ok [], st) := rfl
@[simp] theorem mCons_eq (ma : En → M Va) (mr : En → M (List Va)) (ρ : En) (st : Sto) : mCons ma mr ρ st = M.bind (ma ρ) (fun d => M.bind (mr ρ) fun ds => M.pure (d :: ds)) st := rfl
@[simp] theorem mBlt_eq (g : List Va → M Va) (m : En → M (List Va)) (ρ : En) (st : Sto) : mBlt g m ρ st = M.bind (m ρ) (fun as => calm (g as)) st := rfl
@[simp] theorem mCall_eq (g : List Va → M Va) (m : En → M (List Va)) (ρ : En) (st : Sto) : mCall g m ρ st = M.bind (m ρ) g st := rfl
@[simp] theorem mT_eq (m : En → M Va) (ρ : En) (st : Sto) : mT m ρ st = M.bind (m ρ) asBool st := rfl
@[simp] theorem asBool_eq (b : Bool) (st : Sto) : asBool (.val (.bl b)) st = some (.ok b, st) := rfl
@[simp] theorem mTruth_eq (m : En → M Va) (ρ : En) (st : Sto) : mTruth m ρ st = M.bind (m ρ) truthA st := rfl
@[simp] theorem truth_int (i : Int) (st : Sto) : truthA (.val (.int i)) st = some (.ok (i != 0), st) := rfl
@[simp] theorem truth_lst (ds : List D) (st : Sto) : truthA (.val (.lst ds)) st = some (.ok (!ds.isEmpty), st) := rfl
@[simp] theorem truth_tup (ds : List D) (st : Sto) : truthA (.val (.tup ds)) st = some (.ok (!ds.isEmpty), st) := rfl
@[simp] theorem mNot_eq (m : En → M Bool) (ρ : En) (st : Sto) : mNot m ρ st = M.bind (m ρ) (fun b => M.pure (!b)) st := rfl
@[simp] theorem mIf_eq (c : En → M Bool) (ma mb : En → M α) (ρ : En) (st : Sto) : mIf c ma mb ρ st = M.bind (c ρ) (fun b => if b = true then ma ρ else mb ρ) st := rfl
@[simp] theorem app_ite {c : Prop} [Decidable c] (f g : M α) (st : Sto) : (if c then f else g) st = if c then f st else g st := by split <;> rfl
@[simp] theorem mTup_eq (m : En → M (List Va)) (ρ : En) (st : Sto) : mTup m ρ st = M.bind (m ρ) mkTup st := rfl
@[simp] theorem mLst_eq (m : En → M (List Va)) (ρ : En) (st : Sto) : mLst m ρ st = M.bind (m ρ) mkLst st := rfl
@[simp] theorem mObj_eq (m : En → M (List Va)) (ρ : En) (st : Sto) : mObj m ρ st = M.bind (m ρ) mkObj st := rfl
@[simp] theorem vals_nil : vals [] = some [] := rfl
@[simp] theorem vals_val (d : D) (r : List Va) : vals (.val d :: r) = (vals r).map (d :: ·) := rfl
@[simp] theorem mFrz_eq (m : En → M Va) (ρ : En) (st : Sto) : mFrz m ρ st = M.bind (m ρ) freeze st := rfl
/-! statements -/
@[simp] theorem onE_ok (a : α) (st : Sto) (ρ : En) (k : α → MS) : onE (some (.ok a, st)) ρ k = k a st := rfl
@[simp] theorem onE_ex (c : Str) (fs : List (Str × D)) (st : Sto) (ρ : En) (k : α → MS) : onE (some (.ex c fs, st)) ρ k = some (.ex ρ c fs, st) := rfl
@[simp] theorem mSeq_eq (m1 m2 : En → MS) (ρ : En) (st : Sto) : mSeq m1 m2 ρ st = (match m1 ρ st with | some (.nx ρ', st') => m2 ρ' st' | r => r) := rfl
@[simp] theorem mSet_eq (i : Nat) (m : En → M Va) (ρ : En) (st : Sto) : mSet i m ρ st = onE (m ρ st) ρ fun a st' => some (.nx (ρ.set i (some a)), st') := rfl
@[simp] theorem mExpr_eq (m : En → M Va) (ρ : En) (st : Sto) : mExpr m ρ st = onE (m ρ st) ρ fun _ st' => some (.nx ρ, st') := rfl
@[simp] theorem mRet_eq (m : En → M Va) (ρ : En) (st : Sto) : mRet m ρ st = onE (m ρ st) ρ fun a st' => some (.rt a, st') := rfl
@[simp] theorem mIfS_eq (c : En → M Bool) (a b : En → MS) (ρ : En) (st : Sto) : mIfS c a b ρ st = onE (c ρ st) ρ fun t st' => if t = true then a ρ st' else b ρ st' := rfl
@[simp] theorem mNx_eq (ρ : En) (st : Sto) : mNx ρ st = some (.nx ρ, st) := rfl
@[simp] theorem mFor_eq (it : En → M (List D)) (g : Va → En → Option En) (b : En → MS) (ρ : En) (st : Sto) : mFor it g b ρ st = onE (it ρ st) ρ fun ds st' => forGo g b ds ρ st' := rfl
@[simp] theorem forGo_nil (g : Va → En → Option En) (b : En → MS) (ρ : En) (st : Sto) : forGo g b [] ρ st = some (.nx ρ, st) := rfl
@[simp] theorem gVar_eq (i : Nat) (a : Va) (ρ : En) : gVar i a ρ = some (ρ.set i (some a)) := rfl
@[simp] theorem mArgI_eq (f : List Va → M (List D)) (m : En → M (List Va)) (ρ : En) (st : Sto) : mArgI f m ρ st = M.bind (m ρ) f st := rfl
@[simp] theorem bodyR_rt (a : Va) (st : Sto) : bodyR (some (.rt a, st)) = some (.ok a, st) := rfl
@[simp] theorem bodyR_nx (ρ : En) (st : Sto) : bodyR (some (.nx ρ, st)) = some (.ok (.val .non), st) := rfl
@[simp] theorem bodyR_ex (ρ : En) (c : Str) (fs : List (Str × D)) (st : Sto) : bodyR (some (.ex ρ c fs, st)) = some (.ex c fs, st) := rfl
@[simp] theorem cutR_val (n : Nat) (d : D) (st : Sto) : cutR n (some (.ok (.val d), st)) = some (.ok (.val d), st.take n) := rfl
@[simp] theorem cutR_ex (n : Nat) (c : Str) (fs : List (Str × D)) (st : Sto) : cutR n (some (.ex c fs, st)) = some (.ex c fs, st.take n) := rfl
/-! operators -/
@[simp] theorem add_int (i j : Int) (st : Sto) : opAdd (.val (.int i)) (.val (.int j)) st = some (.ok (.val (.int (i + j))), st) := rfl
@[simp] theorem sub_int (f : Int → Int → Int) (i j : Int) (st : Sto) : iiI f (.val (.int i)) (.val (.int j)) st = some (.ok (.val (.int (f i j))), st) := rfl
@[simp] theorem cmp_int (f : Int → Int → Bool) (i j : Int) (st : Sto) : iiB f (.val (.int i)) (.val (.int j)) st = some (.ok (.val (.bl (f i j))), st) := rfl
theorem mul_int (i j : Int) (st : Sto) (h : smallF i j = true) : opMul (.val (.int i)) (.val (.int j)) st = some (.ok (.val (.int (i * j))), st) := by
  show (if smallF i j = true then _ else _) = _
  rw [if_pos h]
theorem smallF_r (i j : Int) (h : -(2 ^ 64) < j ∧ j < 2 ^ 64) : smallF i j = true := decide_eq_true (.inr h)
theorem smallF_l (i j : Int) (h : -(2 ^ 64) < i ∧ i < 2 ^ 64) : smallF i j = true := decide_eq_true (.inl h)
theorem mod_int (i j : Int) (st : Sto) (h : 0 < j) : opMod (.val (.int i)) (.val (.int j)) st = some (.ok (.val (.int (i % j))), st) := by
  show (if 0 < j then (M.pure _ : M Va) else stuck) st = _
  rw [if_pos h]; rfl
theorem fdiv_int (i j : Int) (st : Sto) (h : 0 < j ∧ j < 1073741824) : opFdiv (.val (.int i)) (.val (.int j)) st = some (.ok (.val (.int (i / j))), st) := by
  show (if 0 < j ∧ j < 1073741824 then (M.pure _ : M Va) else stuck) st = _
  rw [if_pos h]; rfl
@[simp] theorem bInt_int (i : Int) (st : Sto) : bInt [.val (.int i)] st = some (.ok (.val (.int i)), st) := rfl
@[simp] theorem bAbs_int (i : Int) (st : Sto) : bAbs [.val (.int i)] st = some (.ok (.val (.int (if i < 0 then -i else i))), st) := rfl
@[simp] theorem bLen_lst (ds : List D) (st : Sto) : bLen [.val (.lst ds)] st = some (.ok (.val (.int ds.length)), st) := rfl
@[simp] theorem bLen_tup (ds : List D) (st : Sto) : bLen [.val (.tup ds)] st = some (.ok (.val (.int ds.length)), st) := rfl
theorem ix_lst (ds : List D) (i : Int) (d : D) (st : Sto) (h : atI ds i = some d) : opIx (.val (.lst ds)) (.val (.int i)) st = some (.ok (.val d), st) := by
  unfold opIx
  simp only [deref, h]
end
theorem atI_mod {α : Type} (xs : List α) (i : Int) (h : xs ≠ []) : ∃ v, v ∈ xs ∧ atI xs (i % (xs.length : Int)) = some v := by
  have hl : 0 < xs.length := List.length_pos_iff.mpr h
  have h0 : 0 ≤ i % (xs.length : Int) := Int.emod_nonneg _ (by omega)
  have h1 : i % (xs.length : Int) < xs.length := Int.emod_lt_of_pos _ (by omega)
  have hj : (i % (xs.length : Int)).toNat < xs.length := by omega
  refine ⟨xs[(i % (xs.length : Int)).toNat], List.getElem_mem hj, ?_⟩
  have := atI_nat (List.getElem?_eq_getElem hj)
  rw [Int.toNat_of_nonneg h0] at this
  exact this
end DL
namespace DL
open PySem PySem.Spec PyProof.Rows L2
theorem range1 (j : Int) (st : Sto) (h : B62 j) : rangeOf1 [.val (.int j)] st = some (.ok (intsR 0 j.toNat), st) := by
  show (if B62 j then M.pure (intsR 0 j.toNat) else stuck) st = _
  rw [if_pos h]; rfl
theorem mem_intsR {lo : Int} {n : Nat} {d : D} (h : d ∈ intsR lo n) : ∃ k : Int, d = .int k ∧ lo ≤ k ∧ k < lo + n := by
  unfold intsR at h
  obtain ⟨i, hi, rfl⟩ := List.mem_map.mp h
  have := List.mem_range.mp hi
  exact ⟨_, rfl, by omega, by omega⟩
/-- a loop that always goes on -/
theorem forGo_inv {g : Va → En → Option En} {body : En → MS} (P : En → Sto → Prop) : ∀ (ds : List D), (∀ d ∈ ds, ∀ ρ st, P ρ st → ∃ ρ1, g (.val d) ρ = some ρ1 ∧ ∃ ρ2 st2, body ρ1 st = some (.nx ρ2, st2) ∧ P ρ2 st2) →
    ∀ ρ st, P ρ st → ∃ ρ' st', forGo g body ds ρ st = some (.nx ρ', st') ∧ P ρ' st'
  | [], _, ρ, st, p => ⟨ρ, st, rfl, p⟩
  | d :: r, h, ρ, st, p => by
    obtain ⟨ρ1, e1, ρ2, st2, e2, p2⟩ := h d (by simp) ρ st p
    obtain ⟨ρ3, st3, e3, p3⟩ := forGo_inv P r (fun d hd => h d (by simp [hd])) ρ2 st2 p2
    refine ⟨ρ3, st3, ?_, p3⟩
    unfold forGo
    simp only [e1, e2, e3]
@[simp] theorem take_len (st : Sto) : st.take st.length = st := List.take_length
end DL
namespace DL
open PySem PySem.Spec PyProof.Rows L2
/-- .. with the number of turns -/
theorem forGo_invN {g : Va → En → Option En} {body : En → MS} (P : Nat → En → Sto → Prop) : ∀ (ds : List D) (n : Nat), (∀ d ∈ ds, ∀ i ρ st, i < n + ds.length → P i ρ st → ∃ ρ1, g (.val d) ρ = some ρ1 ∧ ∃ ρ2 st2, body ρ1 st = some (.nx ρ2, st2) ∧ P (i + 1) ρ2 st2) →
    ∀ ρ st, P n ρ st → ∃ ρ' st', forGo g body ds ρ st = some (.nx ρ', st') ∧ P (n + ds.length) ρ' st'
  | [], n, _, ρ, st, p => ⟨ρ, st, rfl, p⟩
  | d :: r, n, h, ρ, st, p => by
    obtain ⟨ρ1, e1, ρ2, st2, e2, p2⟩ := h d (by simp) n ρ st (by simp) p
    obtain ⟨ρ3, st3, e3, p3⟩ := forGo_invN P r (n + 1) (fun d hd i ρ st hi => h d (by simp [hd]) i ρ st (by simp at hi ⊢; omega)) ρ2 st2 p2
    refine ⟨ρ3, st3, ?_, ?_⟩
    · unfold forGo
      simp only [e1, e2, e3]
    · have e : n + (d :: r).length = n + 1 + r.length := by simp; omega
      rw [e]; exact p3
theorem append_lst (k : Nat) (d : D) (ds : List D) (st : Sto) (h : st[k]? = some (.lst ds)) (hl : ds.length < sizeLine) : appendV (.obj k) (.val d) st = some (.ok (.val .non), st.set k (.lst (ds ++ [d]))) := by
  unfold appendV
  simp only [h, if_pos hl]
@[simp] theorem isObj0 (ds : List D) (st : Sto) : isObjList (.obj 0) (.lst ds :: st) = true := rfl
@[simp] theorem intsR_length (lo : Int) (n : Nat) : (intsR lo n).length = n := by simp [intsR]
end DL
end

section
set_option Elab.async false
set_option linter.all false
set_option maxRecDepth 100000
set_option maxHeartbeats 4000000
/-! More of plain data: a op b op c, < of any data that are alike, bool - bool, slices backwards, sum and any of tuples, sorted. -/
namespace DL
open PySem PySem.Spec PyProof.Rows L2

section
variable {X : Cx} {x : ExI} {W : WX} {pos p p2 : Pos} {a b c e : Expr} {ma mb mc me : En → M Va} {g g' : Va → Va → M Va}
/-! ### a op b op c -/
def mChain (g g' : Va → Va → M Va) (ma mb mc : En → M Va) : En → M Va := fun ρ => M.bind (ma ρ) fun a => M.bind (mb ρ) fun b => M.bind (M.bind (calm (g a b)) asBool) fun k => if k = true then M.bind (mc ρ) fun c => calm (g' b c) else M.pure (.val (.bl false))
theorem chain_fin {σ : L2.St} {H : Hp} {μ : Mu} {st : Sto} {ρ : En} {Q : VK} {r r' : R2}
    (h1 : ∀ (H : Hp) (μ : Mu) (st : Sto) (a b : Va) (x1 y : V) (Q : VK), SV (ks X x) μ H st → AV (ks X x) μ H a x1 → AV (ks X x) μ H b y → Fin (ks X x) (fun _ _ _ => False) μ H (fun d _ μ' H' => ∀ v, AV (ks X x) μ' H' d v → Q v H') (g a b st) → r x1 y H Q)
    (h2 : ∀ (H : Hp) (μ : Mu) (st : Sto) (a b : Va) (x1 y : V) (Q : VK), SV (ks X x) μ H st → AV (ks X x) μ H a x1 → AV (ks X x) μ H b y → Fin (ks X x) (fun _ _ _ => False) μ H (fun d _ μ' H' => ∀ v, AV (ks X x) μ' H' d v → Q v H') (g' a b st) → r' x1 y H Q)
    (ev : EV (ks X x) μ H ρ σ) (sv : SV (ks X x) μ H st) (h : Fin (ks X x) (WE W σ) μ H (fun d _ μ' H' => ∀ v, AV (ks X x) μ' H' d v → Q v H') (mChain g g' ma mb mc ρ st)) :
    tChain r r' (tD (ks X x) W ma) (tD (ks X x) W mb) (tD (ks X x) W mc) σ H Q := by
  refine ⟨μ, st, ρ, ev, sv, Fin.map (fun a st1 μ1 H1 e1 s1 k1 v hv => ?_) (Fin.bind h)⟩
  refine ⟨μ1, st1, ρ, ev.go e1, s1, Fin.map (fun b st2 μ2 H2 e2 s2 k2 w hw => ?_) (Fin.bind k1)⟩
  refine h1 H2 μ2 st2 a b v w _ s2 (AV.go e2 a hv) hw (Fin.map (fun d st3 μ3 H3 e3 s3 k3 u hu => ?_) (Fin.calm (Fin.bind (Fin.bind k2))))
  obtain ⟨k, rfl, k4⟩ := asBool_fin s3 k3 hu
  refine ⟨k, rfl, ?_⟩
  cases k with
  | true => exact iteT ⟨μ3, st3, ρ, ((ev.go e1).go e2).go e3, s3, Fin.map (fun c st4 μ4 H4 e4 s4 k5 z hz => h2 H4 μ4 st4 b c w z Q s4 (AV.go (e3.trans e4) b hw) hz (Fin.calm k5)) (Fin.bind k4)⟩
  | false => exact iteF (Fin.pure s3 k4 _ (by simp only [AV, DV]))
theorem ed_chain {op op' : CmpOp} (ho : OpD X x (compareOp op) g) (ho' : OpD X x (compareOp op') g') (ha : ED X x W a ma) (hb : ED X x W b mb) (hc : ED X x W c mc) (hm : lastMarks [op, op'] [b, c] = false := by with_unfolding_all rfl) :
    ED X x W (.Compare a [op, op'] [b, c] pos) (mChain g g' ma mb mc) :=
  ED.of (pe_chain ho ho' ha hb hc hm) fun σ H Q μ st ρ ev sv h => chain_fin (fun H μ st a b x1 y Q sv ha hb h => ⟨_, μ, st, a, b, sv, ha, hb, fun _ _ _ z => z, h⟩) (fun H μ st a b x1 y Q sv ha hb h => ⟨_, μ, st, a, b, sv, ha, hb, fun _ _ _ z => z, h⟩) ev sv h
theorem td_chain {op op' : CmpOp} (ho : OpD X x (compareOp op) g) (ho' : OpD X x (compareOp op') g') (ha : ED X x W a ma) (hb : ED X x W b mb) (hc : ED X x W c mc) (hm : lastMarks [op, op'] [b, c] = false := by with_unfolding_all rfl) :
    TD X x W (.Compare a [op, op'] [b, c] pos) (mT (mChain g g' ma mb mc)) := by
  refine TD.of (pt_chain ho ho' ha hb hc hm) fun σ H Q μ st ρ ev sv h => ?_
  refine chain_fin (fun H μ st a b x1 y Q sv ha hb h => ⟨_, μ, st, a, b, sv, ha, hb, fun _ _ _ z => z, h⟩) (fun H μ st a b x1 y Q sv ha hb h => ⟨_, μ, st, a, b, sv, ha, hb, fun _ _ _ z => z, h⟩) ev sv ?_
  exact Fin.map (fun d st1 μ1 H1 e1 s1 h1 v hv => asBool_fin (d := d) (K := fun b _ _ H' => Q b H') s1 h1 hv) (Fin.bind (m := mChain g g' ma mb mc ρ) (f := asBool) h)
/-! ### <, >, <=, >= of data that are alike -/
def isNone : D → Bool
  | .non => true
  | .glo _ => true
  | _ => false
theorem py_ne_none {d : D} (h : isNone d = false) : py d ≠ .none := by
  cases d <;> simp_all [isNone, py]
def rDat (K : PySem.W.Frag) (f : PyData → PyData → Bool) : R2 := fun x y H Q => ∃ d e, Dp K H x d ∧ Dp K H y e ∧ PySem.W.alike d e = true ∧ d ≠ .none ∧ SeqAt.shaped d = true ∧ Q (.bl (f d e)) H
theorem room_min {A : Around} {d e : PyData} (hu : A.units + 64 < cLine) (hs : SeqAt.shaped d = true) : A.units + min d.depth e.depth < cLine := by
  have h1 := SeqAt.depth_of_shaped hs
  have h2 := Nat.min_le_left d.depth e.depth
  omega
theorem op_ltDat (hu : X.A.units + 64 < cLine) : OpR X (compareOp .Lt) (rDat X.K fun d e => PySem.W.dataLt d e) := by
  intro pins s σ H x y v u Q I rx ry ⟨d, e, hd, he, al, nn, sd, q⟩
  obtain ⟨as, r1⟩ := Dp.reads I d x v hd rx
  obtain ⟨bs, r2⟩ := Dp.reads I e y u he ry
  exact PySem.W.lt_data r1 r2 al nn (room_min hu sd) ⟨.bl _, H, I, rfl, q⟩
theorem op_gtDat (hu : X.A.units + 64 < cLine) : OpR X (compareOp .Gt) (rDat X.K fun d e => PySem.W.dataLt e d) := by
  intro pins s σ H x y v u Q I rx ry ⟨d, e, hd, he, al, nn, sd, q⟩
  obtain ⟨as, r1⟩ := Dp.reads I d x v hd rx
  obtain ⟨bs, r2⟩ := Dp.reads I e y u he ry
  exact PySem.W.gt_data r1 r2 al nn (room_min hu sd) ⟨.bl _, H, I, rfl, q⟩
theorem op_leDat (hu : X.A.units + 64 < cLine) : OpR X (compareOp .LtE) (rDat X.K fun d e => !PySem.W.dataLt e d) := by
  intro pins s σ H x y v u Q I rx ry ⟨d, e, hd, he, al, nn, sd, q⟩
  obtain ⟨as, r1⟩ := Dp.reads I d x v hd rx
  obtain ⟨bs, r2⟩ := Dp.reads I e y u he ry
  exact PySem.W.le_data r1 r2 al nn (room_min hu sd) ⟨.bl _, H, I, rfl, q⟩
theorem op_geDat (hu : X.A.units + 64 < cLine) : OpR X (compareOp .GtE) (rDat X.K fun d e => !PySem.W.dataLt d e) := by
  intro pins s σ H x y v u Q I rx ry ⟨d, e, hd, he, al, nn, sd, q⟩
  obtain ⟨as, r1⟩ := Dp.reads I d x v hd rx
  obtain ⟨bs, r2⟩ := Dp.reads I e y u he ry
  exact PySem.W.ge_data r1 r2 al nn (room_min hu sd) ⟨.bl _, H, I, rfl, q⟩
/-- x < y of the data -/
def dLt (x y : D) : Bool := PySem.W.dataLt (py x) (py y)
/-- a comparison: of ints by f, of other data by k -/
def opCmp (f : Int → Int → Bool) (k : D → D → Bool) (a b : Va) : M Va := fun st => match a, b with
  | .val (.int i), .val (.int j) => some (.ok (.val (.bl (f i j))), st)
  | a, b => match deref st a, deref st b with
    | some x, some y => if shD x = true ∧ okD y = true ∧ PySem.W.alike (py x) (py y) = true ∧ isNone x = false then some (.ok (.val (.bl (k x y))), st) else none
    | _, _ => none
def opLt := opCmp (fun i j => decide (i < j)) fun x y => dLt x y
def opGt := opCmp (fun i j => decide (j < i)) fun x y => dLt y x
def opLe := opCmp (fun i j => decide (i ≤ j)) fun x y => !dLt y x
def opGe := opCmp (fun i j => decide (j ≤ i)) fun x y => !dLt x y
theorem opd_cmp {f : Value → Value → Sem Value} {pI : Int → Int → Bool} {k : PyData → PyData → Bool} (h1 : OpR X f (rI0 fun i j => .bl (pI i j))) (h2 : OpR X f (rDat X.K k)) : OpD X x f (opCmp pI fun x y => k (py x) (py y)) := by
  refine OpD.of (h1.or h2) fun E H μ st a b x1 y Q sv ha hb h hE => ?_
  unfold opCmp at h
  split at h
  · exact .inl ⟨_, _, av_i ha, av_i hb, h μ H (Ev.refl _ _) sv _ (by simp only [AV, DV])⟩
  · split at h
    · rename_i d e hd he
      split at h
      · rename_i z
        exact .inr ⟨py d, py e, deref_dp sv hd ha (shD_ok z.1), deref_dp sv he hb z.2.1, z.2.2.1, py_ne_none z.2.2.2, shD_shaped z.1, h μ H (Ev.refl _ _) sv _ (by simp only [AV, DV])⟩
      · exact h.elim
    · exact h.elim
theorem opd_ltA (hu : X.A.units + 64 < cLine) : OpD X x (compareOp .Lt) opLt := opd_cmp op_lt (op_ltDat hu)
theorem opd_gtA (hu : X.A.units + 64 < cLine) : OpD X x (compareOp .Gt) opGt := opd_cmp op_gt (op_gtDat hu)
theorem opd_leA (hu : X.A.units + 64 < cLine) : OpD X x (compareOp .LtE) opLe := opd_cmp op_le (op_leDat hu)
theorem opd_geA (hu : X.A.units + 64 < cLine) : OpD X x (compareOp .GtE) opGe := opd_cmp op_ge (op_geDat hu)
/-! ### a - b of ints, of truth values -/
def rSubB : R2 := fun x y H Q => ∃ i j : Bool, x = .bl i ∧ y = .bl j ∧ Q (.int ((if i = true then (1 : Int) else 0) - if j = true then (1 : Int) else 0)) H
theorem op_subB : OpR X (binaryOp .Sub) rSubB := by
  intro pins s σ H x y v u Q I rx ry ⟨i, j, ex, ey, q⟩
  subst ex ey
  cases rx
  cases ry
  exact PyProof.Rows.sub_bool ⟨.int _, H, I.tok _, ⟨_, rfl⟩, by cases i <;> cases j <;> exact q⟩
def opSub (a b : Va) : M Va := match a, b with
  | .val (.int i), .val (.int j) => M.pure (.val (.int (i - j)))
  | .val (.bl i), .val (.bl j) => M.pure (.val (.int ((if i = true then (1 : Int) else 0) - if j = true then (1 : Int) else 0)))
  | _, _ => stuck
theorem opd_sub : OpD X x (binaryOp .Sub) opSub := by
  refine OpD.of (op_sub.or op_subB) fun E H μ st a b x1 y Q sv ha hb h hE => ?_
  unfold opSub at h
  split at h
  · exact .inl ⟨_, _, av_i ha, av_i hb, Fin.pure sv h _ (by simp only [AV, DV])⟩
  · exact .inr ⟨_, _, av_b ha, av_b hb, Fin.pure sv h _ (by simp only [AV, DV])⟩
  · exact h.elim
end
end DL
end

section
set_option Elab.async false
set_option linter.all false
set_option maxRecDepth 100000
set_option maxHeartbeats 4000000
/-! Slices backwards; sum, any of tuples; sorted of data. -/
namespace DL
open PySem PySem.Spec PyProof.Rows L2

/-! ### t[::-1], t[:0:-1] -/
/-- how many items t[:hi:-1] has -/
def revN (hi : Option Int) (n : Nat) : Nat := if hi = none then n else n - 1
theorem revN_le (hi : Option Int) (n : Nat) : revN hi n ≤ n := by unfold revN; split <;> omega
theorem rev_adjust {hi : Option Int} {n : Nat} (h : hi = none ∨ hi = some 0) : Builtin.Slice.sliceAdjust none hi (-1) (n : Int) = ((n : Int) - 1, if hi = none then -1 else min 0 ((n : Int) - 1)) := by
  unfold Builtin.Slice.sliceAdjust
  rcases h with rfl | rfl
  · simp
  · simp
theorem rev_places {hi : Option Int} {n : Nat} (h : hi = none ∨ hi = some 0) : Builtin.Slice.slicePlaces ((n : Int) - 1) (if hi = none then -1 else min 0 ((n : Int) - 1)) (-1) = revN hi n := by
  unfold Builtin.Slice.slicePlaces revN
  rcases h with rfl | rfl
  · simp only [if_true]
    rw [if_neg (by omega)]
    split <;> (try simp only [Int.neg_neg, Int.ediv_one]) <;> omega
  · have hz : ((some (0 : Int)) = none) = False := by simp
    simp only [hz, if_false]
    rw [if_neg (by omega)]
    split <;> (try simp only [Int.neg_neg, Int.ediv_one]) <;> omega
theorem fm_congr {α β : Type} {f g : α → Option β} : ∀ {l : List α}, (∀ x ∈ l, f x = g x) → l.filterMap f = l.filterMap g
  | [], _ => rfl
  | x :: r, h => by
    simp only [List.filterMap_cons, h x (by simp), fm_congr (l := r) fun y hy => h y (by simp [hy])]
theorem rev_pick (xs : Array Value) (k : Nat) (hk : k ≤ xs.size) : ((List.range k).filterMap fun (m : Nat) => xs[(((xs.size : Int) - 1) + (m : Int) * (-1)).toNat]?).toArray = (xs.toList.reverse.take k).toArray := by
  have h0 := HT.pick_gen xs.toList.reverse.toArray 0 k
  simp only [List.drop_zero] at h0
  rw [← h0]
  congr 1
  refine fm_congr fun m hm => ?_
  have hm' : m < k := List.mem_range.mp hm
  have e1 : (((xs.size : Int) - 1) + (m : Int) * (-1)).toNat = xs.size - 1 - m := by omega
  have e2 : ((((0 : Nat) : Int)) + (m : Int) * 1).toNat = m := by omega
  rw [e1, e2]
  have e3 : xs.toList.reverse.toArray[m]? = xs.toList.reverse[m]? := List.getElem?_toArray ..
  rw [e3, List.getElem?_reverse (by rw [Array.length_toList]; omega)]
  simp
section
variable {prog : Program} {w : World} {A : Around} {E : Value → Shared → Prop} {s : Shared}
theorem rev_applied {sl : Addr} {vu vs : Value} {hi : Option Int} {n : Nat} {Q : Int × Int × Nat → Shared → Prop} (hS : s.heap.IsSliceOf sl .none vu vs) (pU : IsPart vu hi) (pS : IsPart vs (some (-1))) (hhi : hi = none ∨ hi = some 0)
    (hQ : Q ((n : Int) - 1, -1, revN hi n) s) : wpAny (model prog w) A (Builtin.Slice.sliceApplied (.ref sl) (pure (n : Int))) Q E s := by
  obtain ⟨ob, hob, hcb, hdb⟩ := id hS
  unfold Builtin.Slice.sliceApplied Builtin.Slice.sliceFields
  refine wpAny_bind (wpAny_bind (wpAny_field hob hdb (x := .none) rfl (wpAny_bind (wpAny_field hob hdb (x := vu) rfl (wpAny_bind (wpAny_field hob hdb (x := vs) rfl (wpAny_pure ?_)))))))
  refine wpAny_bind (HT.slicePart_ pS ?_)
  show wpAny _ _ (if ((-1 : Int) == 0) = true then _ else _) _ _ s
  rw [if_neg (by decide)]
  refine wpAny_bind (HT.slicePart_ .none (wpAny_bind (HT.slicePart_ pU (wpAny_bind (wpAny_pure ?_)))))
  show wpAny _ _ (match Builtin.Slice.sliceAdjust none hi (-1) (n : Int) with | (lo, hi') => pure (lo, (-1 : Int), Builtin.Slice.slicePlaces lo hi' (-1))) _ _ s
  rw [rev_adjust hhi]
  show wpAny _ _ (pure ((n : Int) - 1, (-1 : Int), Builtin.Slice.slicePlaces ((n : Int) - 1) (if hi = none then -1 else min 0 ((n : Int) - 1)) (-1))) _ _ s
  rw [rev_places hhi]
  exact wpAny_pure hQ
theorem rev_getItem {t sl : Addr} {items : Array Value} {vu vs : Value} {hi : Option Int} {Q : Value → Shared → Prop} (hT : IsTup s.heap t items) (hS : s.heap.IsSliceOf sl .none vu vs) (pU : IsPart vu hi) (pS : IsPart vs (some (-1))) (hhi : hi = none ∨ hi = some 0)
    (hQ : Q (.ref s.heap.objs.size) { s with heap := s.heap.push { cls := .type "tuple", data := .seq (items.toList.reverse.take (revN hi items.size)).toArray } })
    (hz : items.size ≤ sizeLine) : wpAny (model prog w) A (getItem (.ref t) (.ref sl)) Q E s := by
  have hfit : sizeOk (.seq (items.toList.reverse.take (revN hi items.size)).toArray) := by
    show (items.toList.reverse.take (revN hi items.size)).toArray.size ≤ sizeLine
    rw [List.size_toArray, List.length_take, List.length_reverse, Array.length_toList]
    omega
  obtain ⟨ob, hob, hcb, hdb⟩ := id hS
  have hTy : s.TypeIs (.ref sl) "slice" := ⟨ob, hob, hcb⟩
  unfold getItem
  try with_reducible refine wpAny_holding ?_
  first | refine wpAny_bind (wpAny_pure ?_) | skip
  refine wpAny_bind (wpAny_sequenceKey hT.typeIs (by decide) ?_)
  refine wpAny_bind (wpAny_callSpecial?_slot (name := Str.ofString "__getitem__") hT.typeIs PyProof.Rows.slot_tuple_getitem (wpAny_call_entry PyProof.Rows.slot_tuple_getitem hT.typeIs entry_tuple_getitem ?_ (args_tuple_getitem _ _)))
  show wpAny _ _ (Builtin.Tuple.tupleItemsOf (.ref t) >>= _) _ _ s
  refine wpAny_bind (tupleItemsOf_ hT ?_)
  refine wpAny_bind (wpAny_typeOf hTy ?_)
  rw [if_pos (by decide)]
  refine wpAny_bind (rev_applied hS pU pS hhi ?_)
  have hno : ¬ ((((items.size : Int) - 1) == 0 && (-1 : Int) == 1 && (revN hi items.size) == items.size) = true) := by
    rw [show ((-1 : Int) == 1) = false from by decide, Bool.and_false, Bool.false_and]
    exact Bool.false_ne_true
  show wpAny _ _ (if ((((items.size : Int) - 1) == 0 && (-1 : Int) == 1 && (revN hi items.size) == items.size) = true) then _ else _) _ _ s
  rw [if_neg hno, rev_pick _ _ (revN_le _ _)]
  first
    | exact wpAny_bind (m := Builtin.Tuple.tupleExact _) (wpAny_newObj_type (wpAny_pure ⟨_, rfl, wpAny_pure hQ⟩) hfit)
    | exact wpAny_bind (m := Builtin.Tuple.tupleExact _) (wpAny_newObj_type (wpAny_bind (wpAny_pure (wpAny_pure ⟨_, rfl, wpAny_pure hQ⟩))) hfit)
    | exact wpAny_bind (wpAny_bind (m := Builtin.Tuple.tupleExact _) (wpAny_newObj_type (wpAny_pure (wpAny_pure ⟨_, rfl, wpAny_pure hQ⟩)) hfit))
    | exact wpAny_bind (wpAny_bind (m := Builtin.Tuple.tupleExact _) (wpAny_newObj_type (wpAny_pure ⟨_, rfl, wpAny_pure hQ⟩) hfit))
end
/-- of a list: [::-1]; of a tuple: [::-1], [:0:-1] -/
def tRevS (K : PySem.W.Frag) (te : TE) (th : TO) : TE := fun σ H Q => te σ H fun x H1 => th σ H1 fun o H2 =>
  (∃ a xs, x = .ref a ∧ o = none ∧ SqL K H2 a xs ∧ ∀ p, H2 p = none → Q (.ref p) (upd H2 p (.lst xs.reverse))) ∨
  (∃ a xs, x = .ref a ∧ (o = none ∨ o = some 0) ∧ SqT K H2 a xs ∧ ∀ p, H2 p = none → Q (.ref p) (upd H2 p (.tup (xs.reverse.take (revN o xs.length)))))
section
variable {X : Cx} {x : ExI} {W : WX} {ma me : En → M Va}
theorem pe_revS {e : Expr} {te : TE} {hi : Option Expr} {th : TO} {k : Nat} {p1 p2 p3 pos : Pos} (he : PE X e te) (hh : PO X hi th) : PE X (.Subscript e (.Slice none hi (some (.UnaryOp .USub (.Constant (.int 1) k p1) p2)) p3) pos) (tRevS X.K te th) := by
  refine ⟨fun pins s σ H Q I h => ?_⟩
  refine Subscript_ (thn (he.run pins s σ H _ I h) fun v s1 ⟨y, H1, I1, r1, q1⟩ => ?_)
  have hst : PO X (some (.UnaryOp .USub (.Constant (.int 1) k p1) p2)) (tPart (tUn (rU fun i => .int (-i)) (tC (.int 1)))) := po_some (pe_un un_neg pe_int)
  refine wpAny_Slice (thn (po_none.run pins s1 σ H1 (fun o H2 => o = none ∧ H2 = H1) I1 ⟨rfl, rfl⟩) fun vl s2 ⟨l, H2, I2, pl, el, e2⟩ => ?_)
  subst el e2
  cases pl
  refine thn (hh.run pins s2 σ H2 _ I2 q1) fun vu s3 ⟨u, H3, I3, pu, q3⟩ => ?_
  refine thn (hst.run pins s3 σ H3 (fun o H4 => o = some (-1) ∧ H4 = H3) I3 ⟨1, rfl, -1, rfl, rfl, rfl⟩) fun vs s4 ⟨o, H4, I4, ps, eo, e4⟩ => ?_
  subst eo e4
  have I5 : Inv X pins σ H4 { s4 with heap := s4.heap.push { cls := .type "slice", data := .fields #[.none, vu, vs] } } := I4.kept (t' := s4.toks) fun b ob q => Heap.get?_push_of_some _ q
  rcases q3 with ⟨a, xs, rfl, rfl, hx, q⟩ | ⟨a, xs, rfl, hu, hx, q⟩
  · cases r1
    obtain ⟨its, r, ht, hz⟩ := I5.list hx
    have hlen := r.length
    show wpAny (model X.prog X.w) X.A (subscriptTail e _ (.ref a) (.ref s4.heap.objs.size)) (EP X pins σ Q) X.xe _
    refine tail_any (ops := [.ref a, .ref s4.heap.objs.size]) ht.isList.typeIs (PySem.slot_list_getitem.lookup) ?_ (by with_unfolding_all rfl)
    refine wpAny_getItem_list_slice ht.isList (Heap.IsSliceOf.new _ .none vu vs) .none pu ps (by decide) ?_ (by rw [List.size_toArray]; omega)
    rw [PySem.W.krv_pick]
    refine ⟨.ref _, _, I5.laid (t' := s4.toks) (o := .lst xs.reverse) (fun b ob q => Heap.get?_push_of_some _ q) (Nat.le_refl _) ?_, rfl, q _ (I5.hok.fresh (Nat.le_refl _))⟩
    exact ⟨by rw [List.length_reverse]; exact hz, _, 0, r.reverse, Heap.get?_push_size _ rfl⟩
  · cases r1
    obtain ⟨its, r, ht, hz⟩ := I5.tuple hx
    have hlen := r.length
    have hsz : its.toArray.size = xs.length := by rw [List.size_toArray]; exact hlen.symm
    show wpAny (model X.prog X.w) X.A (subscriptTail e _ (.ref a) (.ref s4.heap.objs.size)) (EP X pins σ Q) X.xe _
    refine tail_any (ops := [.ref a, .ref s4.heap.objs.size]) ht.typeIs (PyProof.Rows.slot_tuple_getitem.lookup) ?_ (by with_unfolding_all rfl)
    refine rev_getItem ht (Heap.IsSliceOf.new _ .none vu vs) pu ps hu ?_ (by rw [hsz]; exact hz)
    rw [hsz]
    refine ⟨.ref _, _, I5.laid (t' := s4.toks) (o := .tup (xs.reverse.take (revN u xs.length))) (fun b ob q => Heap.get?_push_of_some _ q) (Nat.le_refl _) ?_, rfl, q _ (I5.hok.fresh (Nat.le_refl _))⟩
    exact ⟨by rw [List.length_take, List.length_reverse]; omega, _, Vals.take _ r.reverse, IsTup.new _ _⟩
/-- xs[:hi:-1] -/
def revOf (a : Va) (hi : Option Int) : M Va := fun st => match deref st a with
  | some (.lst ds) => if hi = none then some (.ok (.val (.lst ds.reverse)), st) else none
  | some (.tup ds) => if hi = none ∨ hi = some 0 then some (.ok (.val (.tup (ds.reverse.take (revN hi ds.length)))), st) else none
  | _ => none
def mRev (ma : En → M Va) (mh : En → M (Option Int)) : En → M Va := fun ρ => M.bind (ma ρ) fun a => M.bind (mh ρ) fun h => calm (revOf a h)
theorem ed_rev {a : Expr} {hi : Option Expr} {mh : En → M (Option Int)} {k : Nat} {p1 p2 p3 pos : Pos} (ha : ED X x W a ma) (hh : PD X x W hi mh) : ED X x W (.Subscript a (.Slice none hi (some (.UnaryOp .USub (.Constant (.int 1) k p1) p2)) p3) pos) (mRev ma mh) := by
  refine ED.of (pe_revS ha hh) fun σ H Q μ st ρ ev sv h => ⟨μ, st, ρ, ev, sv, Fin.map (fun va st1 μ1 H1 e1 s1 h1 v hv => ?_) (Fin.bind h)⟩
  refine ⟨μ1, st1, ρ, ev.go e1, s1, Fin.map (fun o st2 μ2 H2 e2 s2 h2 => ?_) (Fin.bind h1)⟩
  replace hv := AV.go e2 _ hv
  replace h2 := Fin.calm h2
  unfold revOf at h2
  split at h2
  · rename_i ds hd
    obtain ⟨q, xs, rfl, c, _, dx⟩ := deref_lst s2 hd hv
    split at h2
    · rename_i z
      exact .inl ⟨q, xs, rfl, z, c, fun l hl => h2 μ2 _ (Ev.made hl) (s2.made hl) _ (by simp only [AV, DV]; exact ⟨l, _, rfl, s2.out hl, .inl upd_same, DVs.go (Ev.made hl) _ dx.reverse⟩)⟩
    · exact h2.elim
  · rename_i ds hd
    obtain ⟨q, xs, rfl, c, dx⟩ := deref_tup hd hv
    split at h2
    · rename_i z
      exact .inr ⟨q, xs, rfl, z, c, fun l hl => h2 μ2 _ (Ev.made hl) (s2.made hl) _ (by simp only [AV, DV]; exact ⟨l, _, rfl, SqT.of upd_same, by rw [dx.length]; exact DVs.go (Ev.made hl) _ (dx.reverse.take _)⟩)⟩
    · exact h2.elim
  · exact h2.elim
/-! ### sum, any of lists and tuples -/
def rSumT (K : PySem.W.Frag) : List V → Hp → VK → Prop := fun vs H Q => ∃ (a : Addr) (ns : List Int), vs = [V.ref a] ∧ SqT K H a (ns.map V.int) ∧ Q (.int ns.sum) H
theorem cr_sumT (hc : X.calm = true) : CallR X (.builtin "sum") (rSumT X.K) := by
  intro pins s σ H vs us Q I r ⟨a, ns, ev, hs, q⟩
  subst ev
  obtain ⟨its, rv, ht, _⟩ := I.tuple hs
  rw [Vals.ref1 r]
  have hl : s.heap.IsTuple a its.toArray := ht
  obtain ⟨xs, hx⟩ := rv.ints.allInts.items
  have hn : numsOf its.toArray.toList = ns := by rw [show its.toArray.toList = its from rfl, rv.ints.numsOf]
  rw [hx] at hl hn
  rw [nums_intItems] at hn
  refine PySem.W.ktm_sumG (I.ok.hd hc) hl fun h' tk t' hk => ⟨.int _, H, I.kept hk, ⟨_, rfl⟩, ?_⟩
  rw [preSum_eq, List.take_of_length_le (by simp), hn]
  exact q
def bSum2 (as : List Va) : M Va := fun st => match as with
  | [a] => (match deref st a with
    | some (.lst ds) => match intsOf ds with
      | some ns => some (.ok (.val (.int ns.sum)), st)
      | none => none
    | some (.tup ds) => match intsOf ds with
      | some ns => some (.ok (.val (.int ns.sum)), st)
      | none => none
    | _ => none)
  | _ => none
theorem cd_sum2 (hc : X.calm = true) : CallD X x (.builtin "sum") bSum2 := by
  refine CallD.of ((cr_sum hc).or (cr_sumT hc)) fun H μ st as vs Q sv av h => ?_
  unfold bSum2 at h
  split at h
  · obtain ⟨v, r, rfl, q1, q2⟩ := avs_cons av
    have := avs_nil q2
    subst this
    split at h
    · rename_i ds hd
      obtain ⟨q, xs, rfl, c, _, dx⟩ := deref_lst sv hd q1
      split at h
      · rename_i ns hn
        have := intsOf_ok hn dx
        subst this
        exact .inl ⟨q, ns, rfl, c, h μ H (Ev.refl _ _) sv _ (by simp only [AV, DV])⟩
      · exact h.elim
    · rename_i ds hd
      obtain ⟨q, xs, rfl, c, dx⟩ := deref_tup hd q1
      split at h
      · rename_i ns hn
        have := intsOf_ok hn dx
        subst this
        exact .inr ⟨q, ns, rfl, c, h μ H (Ev.refl _ _) sv _ (by simp only [AV, DV])⟩
      · exact h.elim
    · exact h.elim
  · exact h.elim
end
end DL
end

section
set_option Elab.async false
set_option linter.all false
set_option maxRecDepth 100000
set_option maxHeartbeats 4000000
/-! t * 0, t * 1; any of a tuple of ints; sorted of data. -/
namespace DL
open PySem PySem.Spec PyProof.Rows L2

theorem tupMul_same (l : Addr) (its : Array Value) (n : Nat) (dd : Option Addr) (sl : Array (Option Value)) (z : Int) (u : Tok) (c0 : (decide (z < -(2 ^ 63)) || decide (z ≥ 2 ^ 63)) = false) (c1 : (its.isEmpty || z == 1) = true) :
    Meets (Builtin.«tuple.__mul__» ⟨[.ref l, .int z u], []⟩) (fun _ R s => s.heap.get? l = some { cls := .type "tuple", dict := dd, data := .seq its n, slots := sl } ∧ R (.ok (.ret (Value.ref l))) s) :=
  .of_wp fun prog w A R s hs => by
    obtain ⟨hp, g, d, tk, os⟩ := s
    obtain ⟨hl, h⟩ := hs
    have f1 := AutoSeq1.idx_int
    wp_walk using wpAny_loadPart' hl
    repeat (first
      | (refine wpAny_ite_false (decide_eq_false (by rw [c0]; exact Bool.false_ne_true)) ?_; wp_walk using wpAny_loadPart' hl)
      | (refine wpAny_ite_true (decide_eq_true (by rw [c1])) ?_; wp_walk using wpAny_loadPart' hl))
    exact ⟨_, rfl, h⟩
theorem tupMul_none (l : Addr) (its : Array Value) (n : Nat) (dd : Option Addr) (sl : Array (Option Value)) (z : Int) (u : Tok) (c0 : (decide (z < -(2 ^ 63)) || decide (z ≥ 2 ^ 63)) = false) (c1 : (its.isEmpty || z == 1) = false) (c2 : (decide (z ≤ 0) || its.isEmpty) = true) :
    Meets (Builtin.«tuple.__mul__» ⟨[.ref l, .int z u], []⟩) (fun _ R s => s.heap.get? l = some { cls := .type "tuple", dict := dd, data := .seq its n, slots := sl } ∧
      R (.ok (.ret (Value.ref s.heap.objs.size))) { s with heap := s.heap.push { cls := Value.type "tuple", data := Data.seq #[] }, toks := s.toks }) :=
  .of_wp fun prog w A R s hs => by
    obtain ⟨hp, g, d, tk, os⟩ := s
    obtain ⟨hl, h⟩ := hs
    have f1 := AutoSeq1.idx_int
    wp_walk using wpAny_loadPart' hl
    repeat (first
      | (refine wpAny_ite_false (decide_eq_false (by rw [c0]; exact Bool.false_ne_true)) ?_; wp_walk using wpAny_loadPart' hl)
      | (refine wpAny_ite_false (decide_eq_false (by rw [c1]; exact Bool.false_ne_true)) ?_; wp_walk using wpAny_loadPart' hl)
      | (refine wpAny_ite_true (decide_eq_true (by rw [c2])) ?_; wp_walk using wpAny_loadPart' hl))
    exact ⟨_, rfl, h⟩
/-- t * 1, () * k: the tuple itself; t * 0: a new one -/
def rRepS (K : PySem.W.Frag) : R2 := fun x y H Q => ∃ l k xs, x = .ref l ∧ y = .int k ∧ SqT K H l xs ∧ 0 ≤ k ∧ k ≤ 1000 ∧
  (((xs = [] ∨ k = 1) ∧ Q (.ref l) H) ∨ (xs ≠ [] ∧ k = 0 ∧ ∀ p, H p = none → Q (.ref p) (upd H p (.tup []))))
section
variable {X : Cx} {x : ExI} {W : WX} {ma me : En → M Va}
theorem op_repS : OpR X (binaryOp .Mult) (rRepS X.K) := by
  intro pins s σ H x y v u Q I rx ry ⟨l, k, xs, ex, ey, hT, k0, k1, h⟩
  subst ex ey
  cases rx
  obtain ⟨t, rfl⟩ := ry
  obtain ⟨its, r, ⟨⟨cls, dd, data, sl⟩, ho, hc, n, hd⟩, hs⟩ := I.tuple hT
  simp only at hc hd
  subst hc hd
  have hle : its.length = xs.length := r.length.symm
  have c0 : (decide (k < -(2 ^ 63)) || decide (k ≥ 2 ^ 63)) = false := by
    rw [decide_eq_false (by omega), decide_eq_false (by omega)] <;> rfl
  rcases h with ⟨hk, q⟩ | ⟨hne, rfl, q⟩
  · have c1 : (its.toArray.isEmpty || k == 1) = true := by
      rcases hk with e | e
      · rw [e] at hle
        have : its = [] := List.eq_nil_of_length_eq_zero hle
        subst this; rfl
      · subst e; simp
    refine wpAny_binaryOp_repeat_ref (T := "tuple") (U := "int") (by decide) ⟨_, ho, rfl⟩ (fun s' => typeIs_int s' k t) noFill_tuple_mul F.fills_int_mul F.slot_int_rmul repeat_tuple F.slot_int_index.lookup
      (call_meets F.slot_int_rmul (typeIs_int s k t) F.entry_int_rmul (F.args_int_rmul_2 _ _) (int_rmul_tuple k t l its.toArray n dd sl)
        ⟨ho, rfl, ⟨_, ho, rfl⟩, call_meets F.slot_tuple_mul ⟨_, ho, rfl⟩ F.entry_tuple_mul (F.args_tuple_mul_2 _ _) (tupMul_same l its.toArray n dd sl k t c0 c1) ⟨ho, ?_⟩⟩)
    exact ⟨.ref l, H, I, rfl, q⟩
  · have c1 : (its.toArray.isEmpty || (0 : Int) == 1) = false := by
      cases its with
      | nil => exact absurd (List.eq_nil_of_length_eq_zero hle.symm) hne
      | cons a b => rfl
    refine wpAny_binaryOp_repeat_ref (T := "tuple") (U := "int") (by decide) ⟨_, ho, rfl⟩ (fun s' => typeIs_int s' 0 t) noFill_tuple_mul F.fills_int_mul F.slot_int_rmul repeat_tuple F.slot_int_index.lookup
      (call_meets F.slot_int_rmul (typeIs_int s 0 t) F.entry_int_rmul (F.args_int_rmul_2 _ _) (int_rmul_tuple 0 t l its.toArray n dd sl)
        ⟨ho, rfl, ⟨_, ho, rfl⟩, call_meets F.slot_tuple_mul ⟨_, ho, rfl⟩ F.entry_tuple_mul (F.args_tuple_mul_2 _ _) (tupMul_none l its.toArray n dd sl 0 t c0 c1 (by rfl)) ⟨ho, ?_⟩⟩)
    refine ⟨.ref s.heap.objs.size, _, I.laid (t' := s.toks) (o := .tup []) (fun b ob q => Heap.get?_push_of_some _ q) (Nat.le_refl _) ?_, rfl, q _ (I.hok.fresh (Nat.le_refl _))⟩
    exact ⟨Nat.zero_le _, _, .nil, IsTup.new _ _⟩
/-- a * b: ints; a tuple or a list by an int -/
def opMulA (a b : Va) : M Va := fun st => match a, b with
  | .val (.int i), .val (.int j) => if smallF i j = true then some (.ok (.val (.int (i * j))), st) else none
  | .val (.tup ds), .val (.int k) => if 0 ≤ k ∧ k ≤ 1000 ∧ ds.length ≤ 1000 then some (.ok (.val (.tup (List.replicate k.toNat ds).flatten)), st) else none
  | a, .val (.int k) => (match deref st a with
    | some (.lst ds) => if -(2 ^ 63) ≤ k ∧ k < 2 ^ 63 ∧ ds.length * k.toNat ≤ sizeLine then some (.ok (.val (.lst (List.replicate k.toNat ds).flatten)), st) else none
    | _ => none)
  | _, _ => none
theorem rep_nil (k : Nat) : (List.replicate k ([] : List D)).flatten = [] := by
  induction k with
  | zero => rfl
  | succ k ih => rw [List.replicate_succ, List.flatten_cons, ih]; rfl
theorem opd_mulA : OpD X x (binaryOp .Mult) opMulA := by
  refine OpD.of ((op_mul.or (op_repT.or op_repL)).or op_repS) fun E H μ st a b x1 y Q sv ha hb h hE => ?_
  unfold opMulA at h
  split at h
  · split at h
    · rename_i z
      exact .inl (.inl ⟨_, _, av_i ha, av_i hb, smallF_ok z, h μ H (Ev.refl _ _) sv _ (by simp only [AV, DV])⟩)
    · exact h.elim
  · split at h
    · rename_i ds k z
      have := av_i hb
      subst this
      simp only [AV, DV] at ha
      obtain ⟨q, us, rfl, q1, r1⟩ := ha
      by_cases hd : ds = []
      · subst hd
        rw [rep_nil] at h
        have hus : us = [] := List.eq_nil_of_length_eq_zero (by rw [r1.length]; rfl)
        exact .inr ⟨q, k, us, rfl, rfl, q1, z.1, z.2.1, .inl ⟨.inl hus, h μ H (Ev.refl _ _) sv _ (by simp only [AV, DV]; exact ⟨q, us, rfl, q1, r1⟩)⟩⟩
      · have hus : us ≠ [] := fun e => hd (by have := r1.length; rw [e] at this; exact List.length_eq_zero_iff.mp this.symm)
        by_cases k0 : k = 0
        · subst k0
          exact .inr ⟨q, 0, us, rfl, rfl, q1, z.1, z.2.1, .inr ⟨hus, rfl, fun l hl => h μ _ (Ev.made hl) (sv.made hl) _ (by simp only [AV, DV]; exact ⟨l, _, rfl, SqT.of upd_same, DVs.nil⟩)⟩⟩
        · by_cases k1 : k = 1
          · subst k1
            have e1 : (List.replicate (1 : Int).toNat ds).flatten = ds := by
              show (List.replicate 1 ds).flatten = ds
              simp
            rw [e1] at h
            exact .inr ⟨q, 1, us, rfl, rfl, q1, z.1, z.2.1, .inl ⟨.inr rfl, h μ H (Ev.refl _ _) sv _ (by simp only [AV, DV]; exact ⟨q, us, rfl, q1, r1⟩)⟩⟩
          · exact .inl (.inr (.inl ⟨q, k, us, rfl, rfl, q1, hus, by omega, z.2.1, by rw [r1.length]; exact z.2.2,
              fun l hl => h μ _ (Ev.made hl) (sv.made hl) _ (by simp only [AV, DV]; exact ⟨l, _, rfl, SqT.of upd_same, DVs.go (Ev.made hl) _ (r1.rep _)⟩)⟩))
    · exact h.elim
  · split at h
    · rename_i ds hd
      split at h
      · rename_i z
        have := av_i hb
        subst this
        obtain ⟨q, us, rfl, _, q1, r1⟩ := deref_lst sv hd ha
        exact .inl (.inr (.inr ⟨q, _, us, rfl, rfl, q1, z.1, z.2.1, by rw [r1.length]; exact z.2.2,
          fun l hl => h μ _ (Ev.made hl) (sv.made hl) _ (by simp only [AV, DV]; exact ⟨l, _, rfl, sv.out hl, .inl upd_same, DVs.go (Ev.made hl) _ (r1.rep _)⟩)⟩))
      · exact h.elim
    · exact h.elim
  · exact h.elim
/-! ### any of a tuple of ints -/
def rAnyI (K : PySem.W.Frag) : List V → Hp → VK → Prop := fun vs H Q => ∃ (a : Addr) (ns : List Int), vs = [V.ref a] ∧ SqT K H a (ns.map V.int) ∧ Q (.bl (ns.any (· != 0))) H
theorem reads_ints {h : Heap} : ∀ {ns : List Int} {us : List Value}, Vals (ns.map V.int) us → ∃ as, ReadsAll h us (ns.map PyData.int) as
  | [], us, r => by cases r; exact ⟨_, .nil⟩
  | n :: ns, us, r => by
    cases r with
    | cons r1 r2 =>
      obtain ⟨t, rfl⟩ := r1
      obtain ⟨as, q⟩ := reads_ints r2
      exact ⟨_, .cons (.int n t) q⟩
theorem plain_ints : ∀ ns : List Int, PyData.plainAll (ns.map PyData.int) = true
  | [] => rfl
  | n :: ns => by simp only [List.map_cons, PyData.plainAll, PyData.plain, plain_ints ns, Bool.and_self]
theorem cr_anyI (hc : X.calm = true) : CallR X (.builtin "any") (rAnyI X.K) := by
  intro pins s σ H vs us Q I r ⟨a, ns, ev, hs, q⟩
  subst ev
  obtain ⟨its, rv, ht, _⟩ := I.tuple hs
  rw [Vals.ref1 r]
  have hl : s.heap.IsTuple a its.toArray := ht
  obtain ⟨as, hr⟩ := reads_ints (h := s.heap) rv
  refine PySem.W.any_tuple_data (I.ok.hd hc) hl hr (plain_ints ns) (fun z hz => ?_) fun h' tk hk => ⟨.bl _, H, I.kept hk, rfl, ?_⟩
  · obtain ⟨i, _, rfl⟩ := List.mem_map.mp hz
    trivial
  · rw [List.any_map]
    exact q
def bAny2 (as : List Va) : M Va := fun st => match as with
  | [a] => (match deref st a with
    | some (.lst ds) => match blsOf ds with
      | some ns => some (.ok (.val (.bl (ns.any id))), st)
      | none => none
    | some (.tup ds) => match intsOf ds with
      | some ns => some (.ok (.val (.bl (ns.any (· != 0)))), st)
      | none => none
    | _ => none)
  | _ => none
theorem cd_any2 (hc : X.calm = true) : CallD X x (.builtin "any") bAny2 := by
  refine CallD.of ((cr_any hc).or (cr_anyI hc)) fun H μ st as vs Q sv av h => ?_
  unfold bAny2 at h
  split at h
  · obtain ⟨v, r, rfl, q1, q2⟩ := avs_cons av
    have := avs_nil q2
    subst this
    split at h
    · rename_i ds hd
      obtain ⟨q, xs, rfl, c, _, dx⟩ := deref_lst sv hd q1
      split at h
      · rename_i ns hn
        have := blsOf_ok hn dx
        subst this
        exact .inl ⟨q, ns, rfl, c, h μ H (Ev.refl _ _) sv _ (by simp only [AV, DV])⟩
      · exact h.elim
    · rename_i ds hd
      obtain ⟨q, xs, rfl, c, dx⟩ := deref_tup hd q1
      split at h
      · rename_i ns hn
        have := intsOf_ok hn dx
        subst this
        exact .inr ⟨q, ns, rfl, c, h μ H (Ev.refl _ _) sv _ (by simp only [AV, DV])⟩
      · exact h.elim
    · exact h.elim
  · exact h.elim
end
/-! ### sorted -/
def leD (a b : D) : Bool := !dLt b a
def sortD (ds : List D) : List D := ds.mergeSort leD
def isTupC : D → Bool
  | .tup (_ :: _) => true
  | _ => false
def noTup : D → Bool
  | .tup _ => false
  | .non => false
  | .glo _ => false
  | _ => true
def sortOk (ds : List D) : Bool := ds.all (fun d => shD d) && ds.all (fun d => ds.all fun e => PySem.W.alike (py d) (py e)) && (ds.all isTupC || ds.all noTup)
/-- the pairs of data and their values, sorted by the data -/
def sortP (ds : List D) (xs : List V) : List (D × V) := (ds.zip xs).mergeSort fun p q => leD p.1 q.1
theorem sortP_fst {ds : List D} {xs : List V} (h : xs.length = ds.length) : (sortP ds xs).map Prod.fst = sortD ds := by
  unfold sortP sortD
  rw [PySem.W.sort_maps (s := leD) Prod.fst (fun _ _ _ _ => rfl), List.map_fst_zip (by omega)]
theorem dvs_pairs {S : Ks} {μ : Mu} {H : Hp} : ∀ {zs : List (D × V)}, (∀ p ∈ zs, DV S μ H p.1 p.2) → DVs S μ H (zs.map Prod.fst) (zs.map Prod.snd)
  | [], _ => DVs.nil
  | z :: zs, h => DVs.cons (h z (by simp)) (dvs_pairs fun p hp => h p (by simp [hp]))
theorem dvs_zip {S : Ks} {μ : Mu} {H : Hp} : ∀ {ds : List D} {xs : List V}, DVs S μ H ds xs → ∀ p ∈ ds.zip xs, DV S μ H p.1 p.2
  | [], xs, _, p, hp => by simp at hp
  | d :: ds, xs, h, p, hp => by
    simp only [DVs] at h
    obtain ⟨v, r, rfl, q, t⟩ := h
    rw [List.zip_cons_cons] at hp
    rcases List.mem_cons.mp hp with rfl | hp
    · exact q
    · exact dvs_zip t p hp
theorem dvs_sort {S : Ks} {μ : Mu} {H : Hp} {ds : List D} {xs : List V} (h : DVs S μ H ds xs) : DVs S μ H (sortD ds) ((sortP ds xs).map Prod.snd) := by
  rw [← sortP_fst h.length]
  exact dvs_pairs fun p hp => dvs_zip h p ((List.mergeSort_perm _ _).mem_iff.mp hp)
def rSortDat (K : PySem.W.Frag) : List V → Hp → VK → Prop := fun vs H Q => ∃ a xs ds, vs = [V.ref a] ∧ SqL K H a xs ∧ DpAll K H xs (pys ds) ∧ PySem.W.AllAlike (pys ds) ∧ PySem.W.Sortable (pys ds) ∧ (∀ d ∈ ds, shD d = true) ∧
  ∀ p, H p = none → Q (.ref p) (upd H p (.lst ((sortP ds xs).map Prod.snd)))
theorem dp_len {K : PySem.W.Frag} {H : Hp} : ∀ {xs : List V} {ds : List PyData}, DpAll K H xs ds → xs.length = ds.length
  | _, _, .nil => rfl
  | _, _, .cons _ t => by simp [dp_len t]
section
variable {X : Cx} {x : ExI}
theorem each_dp {pins : List (Addr × Obj)} {σ : L2.St} {H : Hp} {s : Shared} (I : L2.Inv X pins σ H s) : ∀ {ds : List D} {xs : List V} {us : List Value}, DpAll X.K H xs (pys ds) → Vals xs us → PySem.W.EachIs (fun v (b : D × V) => RelV b.2 v ∧ ∃ as, Reads s.heap v (py b.1) as) us (ds.zip xs)
  | [], xs, us, h, r => by
    simp only [pys] at h
    cases h
    cases r
    exact .nil
  | d :: ds, xs, us, h, r => by
    simp only [pys] at h
    cases h with
    | cons h1 h2 =>
      cases r with
      | cons r1 r2 =>
        exact .cons ⟨r1, Dp.reads I _ _ _ h1 r1⟩ (each_dp I h2 r2)
theorem each_left {h : Heap} : ∀ {ds : List D} {xs : List V} {us : List Value}, xs.length = ds.length → PySem.W.EachIs (fun v (b : D × V) => RelV b.2 v ∧ ∃ as, Reads h v (py b.1) as) us (ds.zip xs) → PySem.W.EachIs (fun v d => ∃ as, Reads h v d as) us (pys ds)
  | [], xs, us, hl, e => by
    have : xs = [] := List.eq_nil_of_length_eq_zero hl
    subst this
    cases e
    simp only [pys]
    exact .nil
  | d :: ds, [], us, hl, e => by simp at hl
  | d :: ds, x :: xs, us, hl, e => by
    rw [List.zip_cons_cons] at e
    cases e with
    | cons e1 e2 =>
      simp only [pys]
      exact .cons e1.2 (each_left (by simpa using hl) e2)
theorem each_vals : ∀ {us : List Value} {zs : List (D × V)}, PySem.W.EachIs (fun v (b : D × V) => RelV b.2 v) us zs → Vals (zs.map Prod.snd) us
  | _, _, .nil => .nil
  | _, _, .cons h t => .cons h (each_vals t)
theorem cr_sortDat (hu : X.A.units + 66 < cLine) : CallR X (.builtin "sorted") (rSortDat X.K) := by
  intro pins s σ H vs us Q I r ⟨a, xs, ds, ev, hs, hd, al, so, sh, q⟩
  subst ev
  obtain ⟨its, rv, hl, hz⟩ := I.list hs
  rw [Vals.ref1 r]
  have hlz : its.length ≤ sizeLine := by rw [← rv.length]; exact hz
  have hxl : xs.length = ds.length := by rw [dp_len hd, pys_map, List.length_map]
  have e0 := each_dp I hd rv
  have e1 : PySem.W.EachIs (fun v (b : D × V) => RelV b.2 v ∧ ∃ as, Reads (PySem.W.sortingHeap (PySem.W.copyHeap s.heap its) (s.heap.objs.size + 1) its) v (py b.1) as) its (ds.zip xs) :=
    e0.mono fun v b ⟨z1, as, z2⟩ => ⟨z1, as, Reads.keeps (fun _ _ e => PySem.W.sorting_copy_old e) z2⟩
  refine PySem.W.sorted_vals (κ := PySem.W.dataKind (PySem.W.sortingHeap (PySem.W.copyHeap s.heap its) (s.heap.objs.size + 1) its) (pys ds)) hl.isList (PySem.W.SortsAt.data (each_left hxl e1) al so (fun d hd => ?_)) hlz ?_
  · rw [pys_map] at hd
    obtain ⟨d', h1, rfl⟩ := List.mem_map.mp hd
    have h2 := SeqAt.depth_of_shaped (shD_shaped (sh d' h1))
    show X.A.in1.in1.units + _ < cLine
    have h3 : X.A.in1.in1.units = X.A.units + 2 := rfl
    omega
  · have hk : PySem.W.EachIs (fun v (b : D × V) => (PySem.W.dataKind (PySem.W.sortingHeap (PySem.W.copyHeap s.heap its) (s.heap.objs.size + 1) its) (pys ds)).keyOf v = some (PySem.W.keyToks (py b.1))) its (ds.zip xs) := by
      refine PySem.W.EachIs.of_zip e1.length fun p hp => ?_
      obtain ⟨_, as, z⟩ := e1.zip p hp
      refine PySem.W.dataKind_some al ?_ z
      rw [pys_map]
      exact List.mem_map_of_mem (List.of_mem_zip (List.of_mem_zip hp).2).1
    have e2 := PySem.W.sortVals_each (rev := false) (κ := PySem.W.dataKind (PySem.W.sortingHeap (PySem.W.copyHeap s.heap its) (s.heap.objs.size + 1) its) (pys ds)) (fun b : D × V => PySem.W.keyToks (py b.1)) (e1.mono fun _ _ z => z.1) hk
    have e3 := each_vals e2
    obtain ⟨ep, he'⟩ := PyProof.Rows.sortedAll_at s.heap its (PySem.W.sortVals (PySem.W.dataKind (PySem.W.sortingHeap (PySem.W.copyHeap s.heap its) (s.heap.objs.size + 1) its) (pys ds)) false its its).toArray
    refine ⟨.ref _, upd H (s.heap.objs.size + 1) (.lst ((sortP ds xs).map Prod.snd)), I.laid (t' := s.toks) (fun _ _ => PyProof.Rows.sortedAll_old) (Nat.le_succ _) ⟨?_, _, ep, e3, he'⟩, rfl, q _ (I.hok.fresh (Nat.le_succ _))⟩
    rw [List.length_map]
    unfold sortP
    rw [(List.mergeSort_perm _ _).length_eq, List.length_zip]
    omega
def bSorted (as : List Va) : M Va := fun st => match as with
  | [a] => (match deref st a with
    | some (.lst ds) => if sortOk ds = true then some (.ok (.val (.lst (sortD ds))), st) else none
    | _ => none)
  | _ => none
theorem okDs_all : ∀ {ds : List D}, (∀ d ∈ ds, shD d = true) → okDs ds = true
  | [], _ => rfl
  | d :: r, h => by simp only [okDs, shD_ok (h d (by simp)), okDs_all (ds := r) fun e he => h e (by simp [he]), Bool.and_self]
theorem sortOk_all {ds : List D} (h : sortOk ds = true) : (∀ d ∈ ds, shD d = true) ∧ PySem.W.AllAlike (pys ds) ∧ PySem.W.Sortable (pys ds) := by
  unfold sortOk at h
  rw [Bool.and_eq_true, Bool.and_eq_true, Bool.or_eq_true] at h
  obtain ⟨⟨h1, h2⟩, h3⟩ := h
  refine ⟨fun d hd => List.all_eq_true.mp h1 d hd, fun d hd e he => ?_, ?_⟩
  · rw [pys_map] at hd he
    obtain ⟨d', k1, rfl⟩ := List.mem_map.mp hd
    obtain ⟨e', k2, rfl⟩ := List.mem_map.mp he
    exact List.all_eq_true.mp (List.all_eq_true.mp h2 d' k1) e' k2
  · rcases h3 with h3 | h3
    · refine .inl fun d hd => ?_
      rw [pys_map] at hd
      obtain ⟨d', k1, rfl⟩ := List.mem_map.mp hd
      have := List.all_eq_true.mp h3 d' k1
      cases d' with
      | tup xs =>
        cases xs with
        | nil => cases this
        | cons y ys => simp only [py, pys]; exact ⟨_, _, rfl⟩
      | _ => cases this
    · refine .inr fun d hd => ?_
      rw [pys_map] at hd
      obtain ⟨d', k1, rfl⟩ := List.mem_map.mp hd
      have := List.all_eq_true.mp h3 d' k1
      cases d' with
      | tup xs => cases this
      | non => cases this
      | glo g => cases this
      | bl | int | str | lst => exact ⟨by simp [py], fun xs => by simp [py]⟩
theorem cd_sorted (hu : X.A.units + 66 < cLine) : CallD X x (.builtin "sorted") bSorted := by
  refine CallD.of (cr_sortDat hu) fun H μ st as vs Q sv av h => ?_
  unfold bSorted at h
  split at h
  · obtain ⟨v, r, rfl, q1, q2⟩ := avs_cons av
    have := avs_nil q2
    subst this
    split at h
    · rename_i ds hd
      obtain ⟨q, xs, rfl, c, _, dx⟩ := deref_lst sv hd q1
      split at h
      · rename_i z
        obtain ⟨z1, z2, z3⟩ := sortOk_all z
        exact ⟨q, xs, ds, rfl, c, dp_dvs (S := ks X x) (okDs_all z1) dx, z2, z3, z1, fun l hl => h μ _ (Ev.made hl) (sv.made hl) _ (by simp only [AV, DV]; exact ⟨l, _, rfl, sv.out hl, .inl upd_same, DVs.go (Ev.made hl) _ (dvs_sort dx)⟩)⟩
      · exact h.elim
    · exact h.elim
  · exact h.elim
end
end DL
end

section
set_option Elab.async false
set_option linter.all false
set_option maxRecDepth 100000
set_option maxHeartbeats 4000000
/-! A zip of two tuples whose pairs stay: what next does, whether the pair given out before is still held or not; enumerate over it; list of it. -/
namespace ZZ
open PySem
open PySem.Sem (wp)
section
variable {prog : Program} {w : World} {A : Around} {E : Value → Shared → Prop} {s : Shared}
theorem held_next {z TI TO T i1 i2 l1 l2 : Addr} {f : Bool} {oT : Obj} {k : Nat} {xs ys : Array Value} {x y : Value} {Q : Value → Shared → Prop} (D : ZipApart z TI TO i1 i2 l1 l2)
    (gz : IsZipHeld s.heap z TI TO T f) (gT : s.heap.get? T = some oT) (gTI : IsPair s.heap TI (.ref i1) (.ref i2)) (g1 : s.heap.IsTupleIter i1 l1 k) (g2 : s.heap.IsTupleIter i2 l2 k) (gl1 : s.heap.IsTuple l1 xs) (gl2 : s.heap.IsTuple l2 ys) (gx : xs[k]? = some x) (gy : ys[k]? = some y)
    (hQ : ∀ m, IsZipHeld m z TI TO T true → m.IsTupleIter i1 l1 (k + 1) → m.IsTupleIter i2 l2 (k + 1) → IsPair m s.heap.objs.size x y → m.objs.size = s.heap.objs.size + 1 → (∀ c o, c ≠ z → c ≠ i1 → c ≠ i2 → s.heap.get? c = some o → m.get? c = some o) → Q (.ref s.heap.objs.size) { s with heap := m }) :
    wpAny (model prog w) A (Builtin.«zip.__next__» ⟨[.ref z], []⟩) (fun r t => ∃ v, r = .done (.ret v) ∧ Q v t) E s := by
  show wpAny _ _ (field (.ref z) 2 >>= _) _ _ _
  refine wpAny_bind (wpAny_field gz rfl (x := .bool false) rfl ?_)
  show wpAny _ _ (field (.ref z) 3 >>= _) _ _ _
  refine wpAny_bind (wpAny_field gz rfl (x := .ref TI) rfl ?_)
  refine wpAny_bind (wpAny_seqItems gTI rfl ?_)
  show wpAny _ _ (Builtin.SmallTypes.ownedTupleIsFree (.ref z) >>= _) _ _ _
  refine wpAny_bind (wpAny_tupleHeld_zip gz gT fun m₁ gz₁ sb₁ => ?_)
  simp only [Bool.false_eq_true, if_false]
  refine wpAny_bind ?_
  rw [← Array.forIn_toList]
  simp only [List.forIn_cons, List.forIn_nil]
  refine wpAny_bind (wpAny_bind (wpAny_holding ?_))
  show wpAny _ _ (Builtin.SmallTypes.nextOf (.ref i1) >>= _) _ _ _
  refine wpAny_bind (RZ.nextOf_tuple_item (s := { s with heap := m₁ }) (g1.extBut sb₁.extBut D.i1z) (gl1.extBut sb₁.extBut D.l1z) gx fun m₂ g1₂ sb₂ => wpAny_pure ?_)
  refine wpAny_pure ?_
  refine wpAny_bind (wpAny_bind (wpAny_holding ?_))
  show wpAny _ _ (Builtin.SmallTypes.nextOf (.ref i2) >>= _) _ _ _
  refine wpAny_bind (RZ.nextOf_tuple_item (s := { s with heap := m₂ }) ((g2.extBut sb₁.extBut D.i2z).extBut sb₂.extBut D.i12.symm) ((gl2.extBut sb₁.extBut D.l2z).extBut sb₂.extBut D.l2i1) gy fun m₃ g2₃ sb₃ => wpAny_pure ?_)
  refine wpAny_pure (wpAny_pure ?_)
  show wpAny _ _ (newTuple [x, y] >>= _) _ _ _
  refine wpAny_bind (wpAny_newTuple ?_)
  have esz : m₃.objs.size = s.heap.objs.size := by rw [sb₃.1, sb₂.1, sb₁.1]
  have gz₃ : IsZipHeld m₃ z TI TO T true := sb₃.extBut _ _ D.i2z.symm (sb₂.extBut _ _ D.i1z.symm gz₁)
  have up : ∀ c o, c ≠ z → c ≠ i1 → c ≠ i2 → s.heap.get? c = some o → m₃.get? c = some o := fun c o c1 c2 c3 e => sb₃.extBut _ _ c3 (sb₂.extBut _ _ c2 (sb₁.extBut _ _ c1 e))
  have g1₃ : m₃.IsTupleIter i1 l1 (k + 1) := g1₂.extBut sb₃.extBut D.i12
  refine wpAny_pure ⟨_, rfl, ?_⟩
  show Q (.ref m₃.objs.size) _
  have gp : IsPair (m₃.push { cls := .type "tuple", data := .seq #[x, y] }) m₃.objs.size x y := Heap.get?_push_size _ rfl
  have gs : (m₃.push { cls := .type "tuple", data := .seq #[x, y] }).objs.size = m₃.objs.size + 1 := Heap.size_push ..
  rw [esz] at gp gs ⊢
  exact hQ _ (Heap.get?_push_of_some _ gz₃) (g1₃.at fun o e => Heap.get?_push_of_some _ e) (g2₃.at fun o e => Heap.get?_push_of_some _ e) gp gs fun c o c1 c2 c3 e => Heap.get?_push_of_some _ (up c o c1 c2 c3 e)
theorem held_end {z TI TO T i1 i2 l1 l2 : Addr} {f : Bool} {oT : Obj} {k : Nat} {xs ys : Array Value} {Q : Fin → Shared → Prop} (hh : A.handled = none) (D : ZipApart z TI TO i1 i2 l1 l2)
    (gz : IsZipHeld s.heap z TI TO T f) (gT : s.heap.get? T = some oT) (gTI : IsPair s.heap TI (.ref i1) (.ref i2)) (g1 : s.heap.IsTupleIter i1 l1 k) (g2 : s.heap.IsTupleIter i2 l2 k) (gl1 : s.heap.IsTuple l1 xs) (gl2 : s.heap.IsTuple l2 ys) (ge : xs[k]? = none ∨ ys[k]? = none)
    (hE : ∀ m e, (∀ c o, c ≠ z → c ≠ i1 → c ≠ i2 → s.heap.get? c = some o → m.get? c = some o) → (∃ o, m.get? e = some o ∧ o.cls = .type "StopIteration") → E (.ref e) { s with heap := m }) :
    wpAny (model prog w) A (Builtin.«zip.__next__» ⟨[.ref z], []⟩) Q E s := by
  show wpAny _ _ (field (.ref z) 2 >>= _) _ _ _
  refine wpAny_bind (wpAny_field gz rfl (x := .bool false) rfl ?_)
  show wpAny _ _ (field (.ref z) 3 >>= _) _ _ _
  refine wpAny_bind (wpAny_field gz rfl (x := .ref TI) rfl ?_)
  refine wpAny_bind (wpAny_seqItems gTI rfl ?_)
  show wpAny _ _ (Builtin.SmallTypes.ownedTupleIsFree (.ref z) >>= _) _ _ _
  refine wpAny_bind (wpAny_tupleHeld_zip gz gT fun m₁ gz₁ sb₁ => ?_)
  simp only [Bool.false_eq_true, if_false]
  refine wpAny_bind ?_
  rw [← Array.forIn_toList]
  simp only [List.forIn_cons, List.forIn_nil]
  refine wpAny_bind (wpAny_bind (wpAny_holding ?_))
  show wpAny _ _ (Builtin.SmallTypes.nextOf (.ref i1) >>= _) _ _ _
  cases gx : xs[k]? with
  | none =>
    refine wpAny_bind (RZ.nextOf_tuple_end (s := { s with heap := m₁ }) hh (g1.extBut sb₁.extBut D.i1z) (gl1.extBut sb₁.extBut D.l1z) gx fun m₂ e sb₂ he => ?_)
    exact hE m₂ e (fun c o c1 c2 _ q => sb₂ _ _ c2 (sb₁.extBut _ _ c1 q)) he
  | some x =>
    have gy : ys[k]? = none := by
      rcases ge with q | q
      · rw [gx] at q; cases q
      · exact q
    refine wpAny_bind (RZ.nextOf_tuple_item (s := { s with heap := m₁ }) (g1.extBut sb₁.extBut D.i1z) (gl1.extBut sb₁.extBut D.l1z) gx fun m₂ g1₂ sb₂ => wpAny_pure ?_)
    refine wpAny_pure ?_
    refine wpAny_bind (wpAny_bind (wpAny_holding ?_))
    show wpAny _ _ (Builtin.SmallTypes.nextOf (.ref i2) >>= _) _ _ _
    refine wpAny_bind (RZ.nextOf_tuple_end (s := { s with heap := m₂ }) hh ((g2.extBut sb₁.extBut D.i2z).extBut sb₂.extBut D.i12.symm) ((gl2.extBut sb₁.extBut D.l2z).extBut sb₂.extBut D.l2i1) gy fun m₃ e sb₃ he => ?_)
    exact hE m₃ e (fun c o c1 c2 c3 q => sb₃ _ _ c3 (sb₂.extBut _ _ c2 (sb₁.extBut _ _ c1 q))) he
/-- where its own tuple is being filled -/
abbrev ZE (h : Heap) (z TI TO : Addr) (f : Bool) : Prop :=
  h.get? z = some { cls := .type "zip", dict := none, data := .fields #[.ellipsis, .bool f, .bool false, .ref TI, .ref TO], slots := #[] }
theorem alive_not {a : Addr} {Q : Option Obj → Shared → Prop} (ho : s.heap.get? a = none) (hq : Q none s) : wpAny (model prog w) A (loadIfAlive a) Q E s := by
  have hq' : Q (s.heap.get? a) s := by rw [ho]; exact hq
  exact fun _ _ _ => hq'
theorem dead_next {z TI TO T i1 i2 l1 l2 : Addr} {f : Bool} {k1 k2 : Nat} {xs ys : Array Value} {x y a b : Value} {Q : Value → Shared → Prop} (D : ZipApart z TI TO i1 i2 l1 l2)
    (gz : IsZipHeld s.heap z TI TO T f) (hdead : s.heap.get? T = none) (gTI : IsPair s.heap TI (.ref i1) (.ref i2)) (gTO : IsPair s.heap TO a b)
    (g1 : s.heap.IsTupleIter i1 l1 k1) (g2 : s.heap.IsTupleIter i2 l2 k2) (gl1 : s.heap.IsTuple l1 xs) (gl2 : s.heap.IsTuple l2 ys) (gx : xs[k1]? = some x) (gy : ys[k2]? = some y)
    (hQ : ∀ m, IsZip m z TI TO (rawInt s.heap.objs.size) → IsPair m TO x y → m.IsTupleIter i1 l1 (k1 + 1) → m.IsTupleIter i2 l2 (k2 + 1) → IsPair m s.heap.objs.size x y → m.objs.size = s.heap.objs.size + 1 →
      (∀ c o, c ≠ z → c ≠ TO → c ≠ i1 → c ≠ i2 → s.heap.get? c = some o → m.get? c = some o) → Q (.ref s.heap.objs.size) { s with heap := m }) :
    wpAny (model prog w) A (Builtin.«zip.__next__» ⟨[.ref z], []⟩) (fun fin s' => ∃ v, fin = .done (.ret v) ∧ Q v s') E s := by
  show wpAny _ _ (field (.ref z) 2 >>= _) _ _ _
  refine wpAny_bind (wpAny_field gz rfl (x := .bool false) rfl ?_)
  show wpAny _ _ (field (.ref z) 3 >>= _) _ _ _
  refine wpAny_bind (wpAny_field gz rfl (x := .ref TI) rfl ?_)
  refine wpAny_bind (wpAny_seqItems gTI rfl ?_)
  show wpAny _ _ (Builtin.SmallTypes.ownedTupleIsFree (.ref z) >>= _) _ _ _
  refine wpAny_bind ?_
  unfold Builtin.SmallTypes.ownedTupleIsFree
  refine wpAny_bind (wpAny_field gz rfl (x := rawInt T) rfl ?_)
  show wpAny _ _ (loadIfAlive ((T : Int).toNat) >>= _) _ _ _
  rw [Int.toNat_natCast]
  refine wpAny_bind (alive_not hdead ?_)
  simp only [Option.isNone_none, if_true]
  refine wpAny_pure ?_
  simp only [if_true]
  refine wpAny_bind (wpAny_rule ?_)
  refine wpAny_bind (wpAny_field gz rfl (x := .ref TO) rfl ?_)
  refine wpAny_bind (wpAny_setField_rec gz (by simp) fun m₁ gz₁ sb₁ => ?_)
  replace gz₁ : ZE m₁ z TI TO f := gz₁
  refine wpAny_bind ?_
  simp only [List.zipIdx_cons, List.zipIdx_nil, List.forIn_cons, List.forIn_nil]

  refine wpAny_bind (wpAny_bind (wpAny_onRaise ?_))
  show wpAny _ _ (Builtin.SmallTypes.nextOf (.ref i1) >>= _) _ _ _
  refine wpAny_bind (RZ.nextOf_tuple_item (g1.extBut sb₁.extBut D.i1z) (gl1.extBut sb₁.extBut D.l1z) gx fun m₂ g1₂ sb₂ => wpAny_pure ?_)
  have gO₂ : IsPair m₂ TO a b := sb₂.extBut _ _ D.TOi1 (sb₁.extBut _ _ D.TOz gTO)
  refine wpAny_bind (wpAny_seqItems gO₂ rfl ?_)
  refine wpAny_bind (wpAny_updateSeq_pair gO₂ fun m₃ gO₃ sb₃ => ?_)
  replace gO₃ : IsPair m₃ TO x b := gO₃
  refine wpAny_bind (wpAny_letGo (wpAny_pure ?_))

  refine wpAny_bind (wpAny_bind (wpAny_onRaise ?_))
  show wpAny _ _ (Builtin.SmallTypes.nextOf (.ref i2) >>= _) _ _ _
  refine wpAny_bind (RZ.nextOf_tuple_item (((g2.extBut sb₁.extBut D.i2z).extBut sb₂.extBut D.i12.symm).extBut sb₃.extBut D.TOi2.symm)
    (((gl2.extBut sb₁.extBut D.l2z).extBut sb₂.extBut D.l2i1).extBut sb₃.extBut D.l2TO) gy fun m₄ g2₄ sb₄ => wpAny_pure ?_)
  have gO₄ : IsPair m₄ TO x b := sb₄.extBut _ _ D.TOi2 gO₃
  refine wpAny_bind (wpAny_seqItems gO₄ rfl ?_)
  refine wpAny_bind (wpAny_updateSeq_pair gO₄ fun m₅ gO₅ sb₅ => ?_)
  replace gO₅ : IsPair m₅ TO x y := gO₅
  refine wpAny_bind (wpAny_letGo (wpAny_pure (wpAny_pure ?_)))

  refine wpAny_bind (wpAny_seqItems gO₅ rfl ?_)
  refine wpAny_bind (wpAny_newTuple ?_)
  have esz : m₅.objs.size = s.heap.objs.size := by rw [sb₅.1, sb₄.1, sb₃.1, sb₂.1, sb₁.1]
  have gz₅ : ZE m₅ z TI TO f := sb₅.extBut _ _ D.TOz.symm (sb₄.extBut _ _ D.i2z.symm (sb₃.extBut _ _ D.TOz.symm (sb₂.extBut _ _ D.i1z.symm gz₁)))
  have up₅ : ∀ c o, c ≠ z → c ≠ TO → c ≠ i1 → c ≠ i2 → s.heap.get? c = some o → m₅.get? c = some o := fun c o c1 c2 c3 c4 e =>
    sb₅.extBut _ _ c2 (sb₄.extBut _ _ c4 (sb₃.extBut _ _ c2 (sb₂.extBut _ _ c3 (sb₁.extBut _ _ c1 e))))
  have g1₅ : m₅.IsTupleIter i1 l1 (k1 + 1) := ((g1₂.extBut sb₃.extBut D.TOi1.symm).extBut sb₄.extBut D.i12).extBut sb₅.extBut D.TOi1.symm
  have g2₅ : m₅.IsTupleIter i2 l2 (k2 + 1) := g2₄.extBut sb₅.extBut D.TOi2.symm
  have hzlt : z < m₅.objs.size := Heap.lt_size gz₅
  have hTOlt : TO < m₅.objs.size := Heap.lt_size gO₅
  have hi1lt : i1 < m₅.objs.size := by obtain ⟨_, e, _⟩ := g1₅; exact Heap.lt_size e
  have hi2lt : i2 < m₅.objs.size := by obtain ⟨_, e, _⟩ := g2₅; exact Heap.lt_size e
  show wpAny _ _ (Builtin.SmallTypes.ownedTupleHandOut (.ref z) (.ref m₅.objs.size) >>= _) _ _ _
  refine wpAny_bind ?_
  unfold Builtin.SmallTypes.ownedTupleHandOut
  have gz₆ : ZE (m₅.push { cls := .type "tuple", data := .seq #[x, y] }) z TI TO f := Heap.get?_push_of_some _ gz₅
  refine wpAny_bind (wpAny_setField_rec gz₆ (by simp) fun m₇ gz₇ sb₇ => ?_)
  replace gz₇ : IsZipHeld m₇ z TI TO m₅.objs.size f := gz₇
  refine wpAny_setField_rec gz₇ (by simp) fun m₈ gz₈ sb₈ => ?_
  replace gz₈ : IsZip m₈ z TI TO (rawInt m₅.objs.size) := gz₈
  have up : ∀ c o, c ≠ z → m₅.get? c = some o → m₈.get? c = some o := fun c o c1 e => sb₈.extBut _ _ c1 (sb₇.extBut _ _ c1 (Heap.get?_push_of_some _ e))
  have gT₈ : IsPair m₈ m₅.objs.size x y := sb₈.extBut _ _ (Nat.ne_of_gt hzlt) (sb₇.extBut _ _ (Nat.ne_of_gt hzlt) (Heap.get?_push_size _ rfl))
  have hz8 : m₈.objs.size = m₅.objs.size + 1 := by rw [sb₈.1, sb₇.1, Heap.size_push]
  rw [esz] at gz₈ gT₈ hz8
  refine wpAny_pure ⟨_, rfl, ?_⟩
  show Q (.ref m₅.objs.size) _
  rw [esz]
  exact hQ m₈ gz₈ (up _ _ D.TOz gO₅) (g1₅.at fun o e => up _ o D.i1z e) (g2₅.at fun o e => up _ o D.i2z e) gT₈ hz8 fun c o c1 c2 c3 c4 e => up c o c1 (up₅ c o c1 c2 c3 c4 e)

theorem dead_end {z TI TO T i1 i2 l1 l2 : Addr} {f : Bool} {k1 k2 : Nat} {xs ys : Array Value} {a b : Value} {Q : Fin → Shared → Prop} (hh : A.handled = none) (D : ZipApart z TI TO i1 i2 l1 l2)
    (gz : IsZipHeld s.heap z TI TO T f) (hdead : s.heap.get? T = none) (gTI : IsPair s.heap TI (.ref i1) (.ref i2)) (gTO : IsPair s.heap TO a b)
    (g1 : s.heap.IsTupleIter i1 l1 k1) (g2 : s.heap.IsTupleIter i2 l2 k2) (gl1 : s.heap.IsTuple l1 xs) (gl2 : s.heap.IsTuple l2 ys) (gend : xs[k1]? = none ∨ ys[k2]? = none)
    (hE : ∀ m e, (∀ c o, c ≠ z → c ≠ TO → c ≠ i1 → c ≠ i2 → s.heap.get? c = some o → m.get? c = some o) → (∃ o, m.get? e = some o ∧ o.cls = .type "StopIteration") → E (.ref e) { s with heap := m }) :
    wpAny (model prog w) A (Builtin.«zip.__next__» ⟨[.ref z], []⟩) Q E s := by
  show wpAny _ _ (field (.ref z) 2 >>= _) _ _ _
  refine wpAny_bind (wpAny_field gz rfl (x := .bool false) rfl ?_)
  show wpAny _ _ (field (.ref z) 3 >>= _) _ _ _
  refine wpAny_bind (wpAny_field gz rfl (x := .ref TI) rfl ?_)
  refine wpAny_bind (wpAny_seqItems gTI rfl ?_)
  show wpAny _ _ (Builtin.SmallTypes.ownedTupleIsFree (.ref z) >>= _) _ _ _
  refine wpAny_bind ?_
  unfold Builtin.SmallTypes.ownedTupleIsFree
  refine wpAny_bind (wpAny_field gz rfl (x := rawInt T) rfl ?_)
  show wpAny _ _ (loadIfAlive ((T : Int).toNat) >>= _) _ _ _
  rw [Int.toNat_natCast]
  refine wpAny_bind (alive_not hdead ?_)
  simp only [Option.isNone_none, if_true]
  refine wpAny_pure ?_
  simp only [if_true]
  refine wpAny_bind (wpAny_rule ?_)
  refine wpAny_bind (wpAny_field gz rfl (x := .ref TO) rfl ?_)
  refine wpAny_bind (wpAny_setField_rec gz (by simp) fun m₁ gz₁ sb₁ => ?_)
  replace gz₁ : ZE m₁ z TI TO f := gz₁
  refine wpAny_bind ?_
  simp only [List.zipIdx_cons, List.zipIdx_nil, List.forIn_cons, List.forIn_nil]
  refine wpAny_bind (wpAny_bind (wpAny_onRaise ?_))
  show wpAny _ _ (Builtin.SmallTypes.nextOf (.ref i1) >>= _) _ _ _
  cases gx : xs[k1]? with
  | none =>
    refine wpAny_bind (RZ.nextOf_tuple_end hh (g1.extBut sb₁.extBut D.i1z) (gl1.extBut sb₁.extBut D.l1z) gx fun m₂ e sb₂ he => ?_)
    obtain ⟨oe, hoe, hce⟩ := he
    have gz₂ : ZE m₂ z TI TO f := sb₂ _ _ D.i1z.symm gz₁
    have hez : e ≠ z := fun x => by subst x; rw [gz₂] at hoe; cases hoe; simp at hce
    refine wpAny_setField_rec gz₂ (by simp) fun m₃ _ sb₃ => hE m₃ e (fun c o c1 _ c3 _ x => sb₃.extBut _ _ c1 (sb₂ _ _ c3 (sb₁.extBut _ _ c1 x))) ⟨oe, sb₃.extBut _ _ hez hoe, hce⟩
  | some x =>
    have gy : ys[k2]? = none := by rcases gend with h | h; rw [gx] at h; cases h; exact h
    refine wpAny_bind (RZ.nextOf_tuple_item (g1.extBut sb₁.extBut D.i1z) (gl1.extBut sb₁.extBut D.l1z) gx fun m₂ g1₂ sb₂ => wpAny_pure ?_)
    have gO₂ : IsPair m₂ TO a b := sb₂.extBut _ _ D.TOi1 (sb₁.extBut _ _ D.TOz gTO)
    refine wpAny_bind (wpAny_seqItems gO₂ rfl ?_)
    refine wpAny_bind (wpAny_updateSeq_pair gO₂ fun m₃ gO₃ sb₃ => ?_)
    refine wpAny_bind (wpAny_letGo (wpAny_pure ?_))
    refine wpAny_bind (wpAny_bind (wpAny_onRaise ?_))
    show wpAny _ _ (Builtin.SmallTypes.nextOf (.ref i2) >>= _) _ _ _
    refine wpAny_bind (RZ.nextOf_tuple_end hh (((g2.extBut sb₁.extBut D.i2z).extBut sb₂.extBut D.i12.symm).extBut sb₃.extBut D.TOi2.symm)
      (((gl2.extBut sb₁.extBut D.l2z).extBut sb₂.extBut D.l2i1).extBut sb₃.extBut D.l2TO) gy fun m₄ e sb₄ he => ?_)
    obtain ⟨oe, hoe, hce⟩ := he
    have gz₄ : ZE m₄ z TI TO f := sb₄ _ _ D.i2z.symm (sb₃.extBut _ _ D.TOz.symm (sb₂.extBut _ _ D.i1z.symm gz₁))
    have hez : e ≠ z := fun x => by subst x; rw [gz₄] at hoe; cases hoe; simp at hce
    refine wpAny_setField_rec gz₄ (by simp) fun m₅ _ sb₅ => hE m₅ e (fun c o c1 c2 c3 c4 x => sb₅.extBut _ _ c1 (sb₄ _ _ c4 (sb₃.extBut _ _ c2 (sb₂.extBut _ _ c3 (sb₁.extBut _ _ c1 x))))) ⟨oe, sb₅.extBut _ _ hez hoe, hce⟩


/-- a zip of two tuples from which k pairs were drawn: the iterators alone -/
structure ZT (h : Heap) (z TI TO i1 i2 l1 l2 : Addr) (k : Nat) : Prop where
  ti : IsPair h TI (.ref i1) (.ref i2)
  to : ∃ p q, IsPair h TO p q
  j1 : h.IsTupleIter i1 l1 k
  j2 : h.IsTupleIter i2 l2 k
  own : IsZip h z TI TO .none ∨ ∃ T f, IsZipHeld h z TI TO T f
variable {z TI TO i1 i2 l1 l2 : Addr} {k : Nat} {xs ys : Array Value}
theorem ZT.there {h : Heap} (st : ZT h z TI TO i1 i2 l1 l2 k) : ∃ fs, h.get? z = some { cls := .type "zip", dict := none, data := .fields fs, slots := #[] } := by
  rcases st.own with q | ⟨T, f, q⟩
  · exact ⟨_, q⟩
  · exact ⟨_, q⟩
theorem ZT.typ (st : ZT s.heap z TI TO i1 i2 l1 l2 k) : s.TypeIs (.ref z) "zip" := let ⟨_, q⟩ := st.there; ⟨_, q, rfl⟩
theorem ZT.keep {h h' : Heap} (st : ZT h z TI TO i1 i2 l1 l2 k) (e : ∀ b ∈ [z, TI, TO, i1, i2], ∀ o, h.get? b = some o → h'.get? b = some o) : ZT h' z TI TO i1 i2 l1 l2 k := by
  obtain ⟨a1, ⟨p, q, a2⟩, a3, a4, a7⟩ := st
  refine ⟨e _ (by simp) _ a1, ⟨p, q, e _ (by simp) _ a2⟩, a3.at fun o x => e _ (by simp) o x, a4.at fun o x => e _ (by simp) o x, ?_⟩
  rcases a7 with a7 | ⟨T, f, b1⟩
  · exact .inl (e _ (by simp) _ a7)
  · exact .inr ⟨T, f, e _ (by simp) _ b1⟩
theorem ZT.lt {h : Heap} (st : ZT h z TI TO i1 i2 l1 l2 k) : ∀ b ∈ [z, TI, TO, i1, i2], ∃ o, h.get? b = some o ∧ ∀ v, o.data ≠ .cell v := by
  obtain ⟨fs, hz⟩ := st.there
  obtain ⟨a1, ⟨p, q, a2⟩, ⟨o3, a3, _, d3⟩, ⟨o4, a4, _, d4⟩, a7⟩ := st
  intro b hb
  simp only [List.mem_cons, List.not_mem_nil, or_false] at hb
  rcases hb with rfl | rfl | rfl | rfl | rfl
  · exact ⟨_, hz, fun v q => nomatch q⟩
  · exact ⟨_, a1, fun v q => nomatch q⟩
  · exact ⟨_, a2, fun v q => nomatch q⟩
  · exact ⟨o3, a3, fun v q => by rw [d3] at q; cases q⟩
  · exact ⟨o4, a4, fun v q => by rw [d4] at q; cases q⟩
theorem zs_next {x y : Value} {Q : Value → Shared → Prop} (D : ZipApart z TI TO i1 i2 l1 l2) (st : ZT s.heap z TI TO i1 i2 l1 l2 k) (a5 : s.heap.IsTuple l1 xs) (a6 : s.heap.IsTuple l2 ys) (gx : xs[k]? = some x) (gy : ys[k]? = some y)
    (hQ : ∀ m, ZT m z TI TO i1 i2 l1 l2 (k + 1) → IsPair m s.heap.objs.size x y → m.objs.size = s.heap.objs.size + 1 → (∀ c o, c ≠ z → c ≠ TO → c ≠ i1 → c ≠ i2 → s.heap.get? c = some o → m.get? c = some o) → Q (.ref s.heap.objs.size) { s with heap := m }) :
    wpAny (model prog w) A (Builtin.«zip.__next__» ⟨[.ref z], []⟩) (fun r t => ∃ v, r = .done (.ret v) ∧ Q v t) E s := by
  obtain ⟨a1, ⟨p, q, a2⟩, a3, a4, a7⟩ := st
  have fin : ∀ m, IsZip m z TI TO (rawInt s.heap.objs.size) → IsPair m TO x y → m.IsTupleIter i1 l1 (k + 1) → m.IsTupleIter i2 l2 (k + 1) → IsPair m s.heap.objs.size x y → m.objs.size = s.heap.objs.size + 1 → (∀ c o, c ≠ z → c ≠ TO → c ≠ i1 → c ≠ i2 → s.heap.get? c = some o → m.get? c = some o) → Q (.ref s.heap.objs.size) { s with heap := m } :=
    fun m c1 c2 c3 c4 c5 c6 c7 => hQ m ⟨c7 _ _ D.TIz D.TITO D.TIi1 D.TIi2 a1, ⟨_, _, c2⟩, c3, c4, .inr ⟨s.heap.objs.size, false, c1⟩⟩ c5 c6 c7
  rcases a7 with a7 | ⟨T, f, b1⟩
  · exact RZ.zipT_next_item D a7 a1 a2 a3 a4 a5 a6 gx gy fin
  · cases hT : s.heap.get? T with
    | none => exact dead_next D b1 hT a1 a2 a3 a4 a5 a6 gx gy fin
    | some oT =>
      exact held_next D b1 hT a1 a3 a4 a5 a6 gx gy fun m c1 c3 c4 c5 c6 c7 => hQ m ⟨c7 _ _ D.TIz D.TIi1 D.TIi2 a1, ⟨p, q, c7 _ _ D.TOz D.TOi1 D.TOi2 a2⟩, c3, c4, .inr ⟨T, true, c1⟩⟩ c5 c6 fun c o d1 d2 d3 d4 e => c7 c o d1 d3 d4 e
theorem zs_end {Q : Fin → Shared → Prop} (hh : A.handled = none) (D : ZipApart z TI TO i1 i2 l1 l2) (st : ZT s.heap z TI TO i1 i2 l1 l2 k) (a5 : s.heap.IsTuple l1 xs) (a6 : s.heap.IsTuple l2 ys) (ge : xs[k]? = none ∨ ys[k]? = none)
    (hE : ∀ m e, (∀ c o, c ≠ z → c ≠ TO → c ≠ i1 → c ≠ i2 → s.heap.get? c = some o → m.get? c = some o) → (∃ o, m.get? e = some o ∧ o.cls = .type "StopIteration") → E (.ref e) { s with heap := m }) :
    wpAny (model prog w) A (Builtin.«zip.__next__» ⟨[.ref z], []⟩) Q E s := by
  obtain ⟨a1, ⟨p, q, a2⟩, a3, a4, a7⟩ := st
  rcases a7 with a7 | ⟨T, f, b1⟩
  · exact RZ.zipT_next_end hh D a7 a1 a2 a3 a4 a5 a6 ge hE
  · cases hT : s.heap.get? T with
    | none => exact dead_end hh D b1 hT a1 a2 a3 a4 a5 a6 ge hE
    | some oT => exact held_end hh D b1 hT a1 a3 a4 a5 a6 ge fun m e k he => hE m e (fun c o d1 d2 d3 d4 q => k c o d1 d3 d4 q) he
theorem zs_pyNext {x y : Value} {Q : Option Value → Shared → Prop} (D : ZipApart z TI TO i1 i2 l1 l2) (st : ZT s.heap z TI TO i1 i2 l1 l2 k) (a5 : s.heap.IsTuple l1 xs) (a6 : s.heap.IsTuple l2 ys) (gx : xs[k]? = some x) (gy : ys[k]? = some y)
    (hQ : ∀ m, ZT m z TI TO i1 i2 l1 l2 (k + 1) → IsPair m s.heap.objs.size x y → m.objs.size = s.heap.objs.size + 1 → (∀ c o, c ≠ z → c ≠ TO → c ≠ i1 → c ≠ i2 → s.heap.get? c = some o → m.get? c = some o) → Q (some (.ref s.heap.objs.size)) { s with heap := m }) :
    wpAny (model prog w) A (pyNext (.ref z)) Q E s := by
  unfold pyNext
  exact wpAny_bind (wpAny_attempt (wpAny_callSpecial?_slot (name := Str.ofString "__next__") st.typ F.slot_zip_next (wpAny_call_entry F.slot_zip_next st.typ F.entry_zip_next (zs_next D st a5 a6 gx gy fun m c1 c2 c3 c4 => wpAny_pure (hQ m c1 c2 c3 c4)) (F.args_zip_next_1 _))))
theorem zs_pyEnd {Q : Option Value → Shared → Prop} (hh : A.handled = none) (D : ZipApart z TI TO i1 i2 l1 l2) (st : ZT s.heap z TI TO i1 i2 l1 l2 k) (a5 : s.heap.IsTuple l1 xs) (a6 : s.heap.IsTuple l2 ys) (ge : xs[k]? = none ∨ ys[k]? = none)
    (hQ : ∀ m, (∀ c o, c ≠ z → c ≠ TO → c ≠ i1 → c ≠ i2 → s.heap.get? c = some o → m.get? c = some o) → Q none { s with heap := m }) : wpAny (model prog w) A (pyNext (.ref z)) Q E s := by
  unfold pyNext
  refine wpAny_bind (wpAny_attempt (wpAny_callSpecial?_slot (name := Str.ofString "__next__") st.typ F.slot_zip_next (wpAny_call_entry F.slot_zip_next st.typ F.entry_zip_next (zs_end hh D st a5 a6 ge fun m e up he => ?_) (F.args_zip_next_1 _))))
  obtain ⟨ob, ho, hc⟩ := he
  refine wpAny_bind (wpAny_isInstance (T := "StopIteration") (b := true) ⟨ob, ho, hc⟩ isSubtype_stop ?_)
  exact wpAny_pure (hQ _ up)
theorem zs_nextOf {x y : Value} {Q : Value → Shared → Prop} (D : ZipApart z TI TO i1 i2 l1 l2) (st : ZT s.heap z TI TO i1 i2 l1 l2 k) (a5 : s.heap.IsTuple l1 xs) (a6 : s.heap.IsTuple l2 ys) (gx : xs[k]? = some x) (gy : ys[k]? = some y)
    (hQ : ∀ m, ZT m z TI TO i1 i2 l1 l2 (k + 1) → IsPair m s.heap.objs.size x y → m.objs.size = s.heap.objs.size + 1 → (∀ c o, c ≠ z → c ≠ TO → c ≠ i1 → c ≠ i2 → s.heap.get? c = some o → m.get? c = some o) → Q (.ref s.heap.objs.size) { s with heap := m }) :
    wpAny (model prog w) A (Builtin.SmallTypes.nextOf (.ref z)) Q E s := by
  unfold Builtin.SmallTypes.nextOf
  refine wpAny_bind (wpAny_callSpecial?_slot (name := Str.ofString "__next__") st.typ F.slot_zip_next (wpAny_call_entry F.slot_zip_next st.typ F.entry_zip_next (zs_next D st a5 a6 gx gy fun m c1 c2 c3 c4 => ?_) (F.args_zip_next_1 _)))
  exact wpAny_pure (hQ m c1 c2 c3 c4)
theorem zs_nextEnd {Q : Value → Shared → Prop} (hh : A.handled = none) (D : ZipApart z TI TO i1 i2 l1 l2) (st : ZT s.heap z TI TO i1 i2 l1 l2 k) (a5 : s.heap.IsTuple l1 xs) (a6 : s.heap.IsTuple l2 ys) (ge : xs[k]? = none ∨ ys[k]? = none)
    (hE : ∀ m e, (∀ c o, c ≠ z → c ≠ TO → c ≠ i1 → c ≠ i2 → s.heap.get? c = some o → m.get? c = some o) → (∃ o, m.get? e = some o ∧ o.cls = .type "StopIteration") → E (.ref e) { s with heap := m }) :
    wpAny (model prog w) A (Builtin.SmallTypes.nextOf (.ref z)) Q E s := by
  unfold Builtin.SmallTypes.nextOf
  exact wpAny_bind (wpAny_callSpecial?_slot (name := Str.ofString "__next__") st.typ F.slot_zip_next (wpAny_call_entry F.slot_zip_next st.typ F.entry_zip_next (zs_end hh D st a5 a6 ge hE) (F.args_zip_next_1 _)))
/-! ### enumerate(zip(..)) -/
theorem enum_next {e : Addr} {c : Int} {old x y : Value} {Q : Value → Shared → Prop} (D : ZipApart z TI TO i1 i2 l1 l2) (ge : IsEnum s.heap e z c old) (st : ZT s.heap z TI TO i1 i2 l1 l2 k) (a5 : s.heap.IsTuple l1 xs) (a6 : s.heap.IsTuple l2 ys) (gx : xs[k]? = some x) (gy : ys[k]? = some y)
    (ne : e ≠ z ∧ e ≠ TI ∧ e ≠ TO ∧ e ≠ i1 ∧ e ≠ i2)
    (hQ : ∀ m m', ZT m z TI TO i1 i2 l1 l2 (k + 1) → IsPair m s.heap.objs.size x y → m.objs.size = s.heap.objs.size + 1 → (∀ c o, c ≠ z → c ≠ TO → c ≠ i1 → c ≠ i2 → s.heap.get? c = some o → m.get? c = some o) →
      IsEnumOut m' e z (c + 1) (.ref s.heap.objs.size) m.objs.size → m'.get? m.objs.size = some { cls := .type "tuple", data := .seq #[.int c s.toks, .ref s.heap.objs.size] } → (∀ b o, b ≠ e → m.get? b = some o → m'.get? b = some o) → Q (.ref m.objs.size) { s with heap := m', toks := s.toks + 1 }) :
    wpAny (model prog w) A (Builtin.«enumerate.__next__» ⟨[.ref e], []⟩) (fun r t => ∃ v, r = .done (.ret v) ∧ Q v t) E s := by
  obtain ⟨n1, n2, n3, n4, n5⟩ := ne
  show wpAny _ _ (field (.ref e) 2 >>= _) _ _ _
  refine wpAny_bind (wpAny_field ge rfl (x := .ref z) rfl ?_)
  refine wpAny_bind (zs_nextOf D st a5 a6 gx gy fun m zt pr sz up => ?_)
  have ge₁ : IsEnum m e z c old := up _ _ n1 n3 n4 n5 ge
  have hel : e < m.objs.size := Heap.lt_size ge₁
  obtain ⟨hp, g, d, tk, os⟩ := s
  show wpAny _ _ (field (.ref e) 3 >>= _) _ _ ⟨m, g, d, tk, os⟩
  refine wpAny_bind (wpAny_field ge₁ rfl (x := rawInt c) rfl ?_)
  show wpAny _ _ (field (.ref e) 4 >>= _) _ _ ⟨m, g, d, tk, os⟩
  refine wpAny_bind (wpAny_field ge₁ rfl (x := .none) rfl ?_)
  show wpAny _ _ (mkInt c >>= _) _ _ ⟨m, g, d, tk, os⟩
  refine wpAny_bind (wpAny_mkInt ?_)
  show wpAny _ _ (setField (.ref e) 3 (rawInt (c + 1)) >>= _) _ _ ⟨m, g, d, tk + 1, os⟩
  refine wpAny_bind (wpAny_setField_rec ge₁ (by simp) fun m₂ ge₂ sb₂ => ?_)
  replace sb₂ : Heap.SameBut e m m₂ := sb₂
  replace ge₂ : IsEnum m₂ e z (c + 1) old := ge₂
  show wpAny _ _ (setField (.ref e) 4 .none >>= _) _ _ ⟨m₂, g, d, tk + 1, os⟩
  refine wpAny_bind (wpAny_setField_rec ge₂ (by simp) fun m₃ ge₃ sb₃ => ?_)
  replace sb₃ : Heap.SameBut e m₂ m₃ := sb₃
  replace ge₃ : IsEnum m₃ e z (c + 1) old := ge₃
  show wpAny _ _ (newTuple [.int c tk, .ref hp.objs.size] >>= _) _ _ ⟨m₃, g, d, tk + 1, os⟩
  refine wpAny_bind (wpAny_newTuple ?_)
  have ge₄ : IsEnum (m₃.push { cls := .type "tuple", data := .seq #[.int c tk, .ref hp.objs.size] }) e z (c + 1) old := Heap.get?_push_of_some _ ge₃
  generalize em₄ : m₃.push { cls := .type "tuple", data := .seq #[.int c tk, .ref hp.objs.size] } = m₄ at ge₄
  have esz : m₃.objs.size = m.objs.size := by rw [sb₃.1, sb₂.1]
  have pt₄ : m₄.get? m.objs.size = some { cls := .type "tuple", data := .seq #[.int c tk, .ref hp.objs.size] } := by rw [← em₄, ← esz]; exact Heap.get?_push_size _ rfl
  have up₄ : ∀ b o, b ≠ e → m.get? b = some o → m₄.get? b = some o := fun b o nb q => by
    rw [← em₄]; exact Heap.get?_push_of_some _ (sb₃.extBut b o nb (sb₂.extBut b o nb q))
  show wpAny _ _ (Builtin.SmallTypes.ownedTupleIsFree (.ref e) >>= _) _ _ ⟨m₄, g, d, tk + 1, os⟩
  rw [esz]
  clear em₄ ge₃ sb₃ ge₂ sb₂ ge₁ esz m₃ m₂
  refine wpAny_bind ?_
  · unfold Builtin.SmallTypes.ownedTupleIsFree
    refine wpAny_bind (wpAny_field ge₄ rfl (x := .none) rfl (wpAny_pure ?_))
    simp only [if_true]
    refine wpAny_bind (wpAny_rule ?_)
    refine wpAny_bind (wpAny_field ge₄ rfl (x := old) rfl ?_)
    refine wpAny_bind (wpAny_setField_rec ge₄ (by simp) fun m₅ ge₅ sb₅ => ?_)
    replace sb₅ : Heap.SameBut e m₄ m₅ := sb₅
    replace ge₅ : IsEnum m₅ e z (c + 1) (.ref hp.objs.size) := ge₅
    show wpAny _ _ (Builtin.SmallTypes.ownedTupleHandOut (.ref e) (.ref m.objs.size) >>= _) _ _ ⟨m₅, g, d, tk + 1, os⟩
    refine wpAny_bind ?_
    · unfold Builtin.SmallTypes.ownedTupleHandOut
      refine wpAny_bind (wpAny_setField_rec ge₅ (by simp) fun m₆ ge₆ sb₆ => ?_)
      replace sb₆ : Heap.SameBut e m₅ m₆ := sb₆
      replace ge₆ : IsEnumOut m₆ e z (c + 1) (.ref hp.objs.size) m.objs.size := ge₆
      refine wpAny_setField_rec ge₆ (by simp) fun m₇ ge₇ sb₇ => ?_
      replace sb₇ : Heap.SameBut e m₆ m₇ := sb₇
      replace ge₇ : IsEnumOut m₇ e z (c + 1) (.ref hp.objs.size) m.objs.size := ge₇
      refine wpAny_bind (wpAny_letGo (wpAny_pure ⟨_, rfl, hQ m m₇ zt pr sz up ge₇ ?_ ?_⟩))
      · exact sb₇.extBut _ _ (Nat.ne_of_gt hel) (sb₆.extBut _ _ (Nat.ne_of_gt hel) (sb₅.extBut _ _ (Nat.ne_of_gt hel) pt₄))
      · exact fun b o nb q => sb₇.extBut b o nb (sb₆.extBut b o nb (sb₅.extBut b o nb (up₄ b o nb q)))
theorem enum_pyNext {e : Addr} {c : Int} {old x y : Value} {Q : Option Value → Shared → Prop} (D : ZipApart z TI TO i1 i2 l1 l2) (ge : IsEnum s.heap e z c old) (st : ZT s.heap z TI TO i1 i2 l1 l2 k) (a5 : s.heap.IsTuple l1 xs) (a6 : s.heap.IsTuple l2 ys) (gx : xs[k]? = some x) (gy : ys[k]? = some y)
    (ne : e ≠ z ∧ e ≠ TI ∧ e ≠ TO ∧ e ≠ i1 ∧ e ≠ i2)
    (hQ : ∀ m m', ZT m z TI TO i1 i2 l1 l2 (k + 1) → IsPair m s.heap.objs.size x y → m.objs.size = s.heap.objs.size + 1 → (∀ c o, c ≠ z → c ≠ TO → c ≠ i1 → c ≠ i2 → s.heap.get? c = some o → m.get? c = some o) →
      IsEnumOut m' e z (c + 1) (.ref s.heap.objs.size) m.objs.size → m'.get? m.objs.size = some { cls := .type "tuple", data := .seq #[.int c s.toks, .ref s.heap.objs.size] } → (∀ b o, b ≠ e → m.get? b = some o → m'.get? b = some o) → Q (some (.ref m.objs.size)) { s with heap := m', toks := s.toks + 1 }) :
    wpAny (model prog w) A (pyNext (.ref e)) Q E s := by
  have hT : s.TypeIs (.ref e) "enumerate" := ⟨_, ge, rfl⟩
  unfold pyNext
  exact wpAny_bind (wpAny_attempt (wpAny_callSpecial?_slot (name := Str.ofString "__next__") hT F.slot_enumerate_next (wpAny_call_entry F.slot_enumerate_next hT F.entry_enumerate_next (enum_next D ge st a5 a6 gx gy ne fun m m' c1 c2 c3 c4 c5 c6 c7 => wpAny_pure (hQ m m' c1 c2 c3 c4 c5 c6 c7)) (F.args_enumerate_next_1 _))))
theorem enum_pyEnd {e : Addr} {c : Int} {old : Value} {Q : Option Value → Shared → Prop} (hh : A.handled = none) (D : ZipApart z TI TO i1 i2 l1 l2) (ge : IsEnum s.heap e z c old) (st : ZT s.heap z TI TO i1 i2 l1 l2 k) (a5 : s.heap.IsTuple l1 xs) (a6 : s.heap.IsTuple l2 ys) (gend : xs[k]? = none ∨ ys[k]? = none)
    (hQ : ∀ m, (∀ c o, c ≠ z → c ≠ TO → c ≠ i1 → c ≠ i2 → s.heap.get? c = some o → m.get? c = some o) → Q none { s with heap := m }) : wpAny (model prog w) A (pyNext (.ref e)) Q E s := by
  have hT : s.TypeIs (.ref e) "enumerate" := ⟨_, ge, rfl⟩
  unfold pyNext
  refine wpAny_bind (wpAny_attempt (wpAny_callSpecial?_slot (name := Str.ofString "__next__") hT F.slot_enumerate_next (wpAny_call_entry F.slot_enumerate_next hT F.entry_enumerate_next ?_ (F.args_enumerate_next_1 _))))
  show wpAny _ _ (field (.ref e) 2 >>= _) _ _ _
  refine wpAny_bind (wpAny_field ge rfl (x := .ref z) rfl ?_)
  refine wpAny_bind (zs_nextEnd hh D st a5 a6 gend fun m v up hv => ?_)
  obtain ⟨ob, ho, hc⟩ := hv
  refine wpAny_bind (wpAny_isInstance (T := "StopIteration") (b := true) ⟨ob, ho, hc⟩ isSubtype_stop ?_)
  exact wpAny_pure (hQ _ up)
end
end ZZ
end

section
set_option Elab.async false
set_option linter.all false
set_option maxRecDepth 100000
set_option maxHeartbeats 4000000
/-! for i, (a, b) in enumerate(zip(t, u)); list(zip(t, u)). -/
namespace ZZ
open PySem
open PySem.Sem (wp)
theorem meets_enumZ (z TI TO : Addr) (f0 : Value) :
    Meets (Builtin.«enumerate.__new__» ⟨[.type "enumerate", .ref z], []⟩) (fun _ R s => IsZip s.heap z TI TO f0 ∧
      R (.ok (.ret (.ref s.heap.objs.size))) { s with heap := s.heap.push { cls := .type "enumerate", data := .fields #[.none, .bool false, .ref z, rawInt 0, .none, .none] } }) :=
  .of_wp fun prog w A R s hs => by
    obtain ⟨hp, g, d, tk, os⟩ := s
    obtain ⟨hl, h⟩ := hs
    have f1 := sub_enumerate
    have hL : IsZip (Shared.heap ⟨hp, g, d, tk, os⟩) z TI TO f0 := hl
    wp_walk using wpAny_pyIter_zip hL
    refine wpAny_stack_any fun st => wpAny_pure ?_
    split
    · rename_i c _ _ _ _ _
      cases (c == Value.type "enumerate")
      · wp_walk using wpAny_pyIter_zip hL
        exact ⟨_, rfl, h⟩
      · wp_walk using wpAny_pyIter_zip hL
        exact ⟨_, rfl, h⟩
    · wp_walk using wpAny_pyIter_zip hL
      exact ⟨_, rfl, h⟩
section
variable {prog : Program} {w : World} {A : Around} {E : Value → Shared → Prop} {s : Shared}
theorem call_enumZ {z TI TO : Addr} {f0 : Value} {Q : Value → Shared → Prop} (gz : IsZip s.heap z TI TO f0)
    (hq : ∀ m, IsEnum m s.heap.objs.size z 0 .none → (∀ b o, s.heap.get? b = some o → m.get? b = some o) → Q (.ref s.heap.objs.size) { s with heap := m }) :
    wpAny (model prog w) A (call (.type "enumerate") [.ref z]) Q E s := by
  refine callType_new F.called_enumerate (by decide) (F.typeCall_enumerate_1 _) (F.newCall_enumerate_1 _) (fun obj => F.args_object_init_2 obj _) F.entry_enumerate_new (meets_enumZ z TI TO f0) ⟨gz, ?_⟩
  have ge : IsEnum (s.heap.push { cls := .type "enumerate", data := .fields #[.none, .bool false, .ref z, rawInt 0, .none, .none] }) s.heap.objs.size z 0 .none := Heap.get?_push_size _ rfl
  exact ⟨⟨_, ge, rfl⟩, hq _ ge fun b o q => Heap.get?_push_of_some _ q⟩
end
end ZZ
namespace ZZ
open PySem PySem.Spec PyProof.Rows L2
/-- the tuples at a and b as they stand at each turn; each turn a new pair (i, pair) -/
def Iez (K : PySem.W.Frag) (a b : Addr) : It :=
  ⟨fun i H => ∃ (xs ys : List V) (x y : V), SqT K H a xs ∧ SqT K H b ys ∧ xs[i]? = some x ∧ ys[i]? = some y,
    fun i H v H' => ∃ T U x y, v = .ref U ∧ H T = none ∧ upd H T (.tup [x, y]) U = none ∧ H' = upd (upd H T (.tup [x, y])) U (.tup [.int (i : Nat), .ref T]) ∧ (∀ xs, SqT K H a xs → xs[i]? = some x) ∧ ∀ ys, SqT K H b ys → ys[i]? = some y,
    fun i H => ∃ xs ys : List V, SqT K H a xs ∧ SqT K H b ys ∧ (xs.length ≤ i ∨ ys.length ≤ i)⟩
theorem turn_ez {P : Program} {w : World} {K : PySem.W.Frag} {elts : List Expr} {kk : Nat} {tpos : Pos} {a b e z TI TO i1 i2 : Addr} (D : ZipApart z TI TO i1 i2 a b) (ne : e ≠ z ∧ e ≠ TI ∧ e ≠ TO ∧ e ≠ i1 ∧ e ≠ i2) :
    Turn P w K (.Tuple elts kk tpos) (Iez K a b) [e, z, TI, TO, i1, i2] e (fun i h => (∃ old, IsEnum h e z ((i : Nat) : Int) old) ∧ ZT h z TI TO i1 i2 a b i) where
  mem := by simp
  obj := fun i h st c hc => by
    obtain ⟨⟨old, ge⟩, zt⟩ := st
    rcases List.mem_cons.mp hc with rfl | hc
    · exact ⟨_, ge, fun v q => nomatch q⟩
    · exact zt.lt c hc
  keep := fun i h h' st k => by
    obtain ⟨⟨old, ge⟩, zt⟩ := st
    exact ⟨⟨old, k e (by simp) _ ge⟩, zt.keep fun b hb o q => k b (List.mem_cons_of_mem _ hb) o q⟩
  item := by
    intro X hP hw hK hc i pins s σ H E I hf st hg
    subst hP hw hK
    obtain ⟨⟨old, ge⟩, zt⟩ := st
    obtain ⟨xs, ys, x, y, hqx, hqy, hx, hy⟩ := hg
    obtain ⟨its, rv, p, _⟩ := I.tuple hqx
    obtain ⟨its2, rv2, p2, _⟩ := I.tuple hqy
    obtain ⟨u, hu, ru⟩ := rv.get hx
    obtain ⟨u2, hu2, ru2⟩ := rv2.get hy
    refine enum_pyNext D ge zt p p2 (x := u) (y := u2) (by simpa using hu) (by simpa using hu2) ne fun m m' zt' pr sz up geo tU um => ?_
    refine ⟨_, rfl, wpAny_letOwnedTupleGo_enum (s := { s with heap := m', toks := s.toks + 1 }) geo fun m'' ge'' sb => ?_⟩
    have hel : e < s.heap.objs.size := Heap.lt_size ge
    have new1 : ObjOk X.prog X.w (upd H s.heap.objs.size (.tup [x, y])) m s.heap.objs.size (.tup [x, y]) := ⟨by show 2 ≤ sizeLine; decide, [u, u2], .cons ru (.cons ru2 .nil), ⟨_, pr, rfl, _, rfl⟩⟩
    have I1 : Inv X pins σ (upd H s.heap.objs.size (.tup [x, y])) { s with heap := m, toks := s.toks } :=
      I.turnedNew (ch := [z, TO, i1, i2]) (fun b o hb q => up b o (fun q' => hb (by simp [q'])) (fun q' => hb (by simp [q'])) (fun q' => hb (by simp [q'])) (fun q' => hb (by simp [q'])) q)
        (fun b hb => hf b (by
          simp only [List.mem_cons, List.not_mem_nil, or_false] at hb ⊢
          rcases hb with q | q | q | q <;> simp [q])) (Nat.le_refl _) new1
    have tU'' : m''.get? m.objs.size = some { cls := .type "tuple", data := .seq #[.int i s.toks, .ref s.heap.objs.size] } := (sb.2 _ (by rw [sz]; exact Nat.ne_of_gt (Nat.lt_succ_of_lt hel))).trans tU
    have new2 : ObjOk X.prog X.w (upd (upd H s.heap.objs.size (.tup [x, y])) m.objs.size (.tup [.int (i : Nat), .ref s.heap.objs.size])) m'' m.objs.size (.tup [.int (i : Nat), .ref s.heap.objs.size]) :=
      ⟨by show 2 ≤ sizeLine; decide, [.int i s.toks, .ref s.heap.objs.size], .cons ⟨_, rfl⟩ (.cons rfl .nil), ⟨_, tU'', rfl, _, rfl⟩⟩
    have fe : FpOk X pins (upd H s.heap.objs.size (.tup [x, y])) e := by
      obtain ⟨f1, f2⟩ := hf e (by simp)
      exact ⟨by rw [upd_ne (Nat.ne_of_lt hel)]; exact f1, f2⟩
    have I2 : Inv X pins σ (upd (upd H s.heap.objs.size (.tup [x, y])) m.objs.size (.tup [.int (i : Nat), .ref s.heap.objs.size])) { s with heap := m'', toks := s.toks + 1 } :=
      I1.turnedNew (ch := [e]) (fun b o hb q => (sb.2 b (fun q' => hb (by simp [q']))).trans (um b o (fun q' => hb (by simp [q'])) q)) (fun b hb => by rw [List.mem_singleton.mp hb]; exact fe) (Nat.le_refl _) new2
    refine ⟨.ref m.objs.size, _, I2, rfl, ⟨s.heap.objs.size, m.objs.size, x, y, rfl, I.hok.fresh (Nat.le_refl _), I1.hok.fresh (Nat.le_refl _), rfl, fun l hl => by rw [I.tuple_inj hl hqx]; exact hx, fun l hl => by rw [I.tuple_inj hl hqy]; exact hy⟩, ⟨⟨.ref s.heap.objs.size, ?_⟩, ?_⟩, fun c hcm => ?_⟩
    · have e1 : ((i + 1 : Nat) : Int) = (i : Int) + 1 := by omega
      rw [e1]; exact ge''
    · refine zt'.keep fun c hcm o q => (sb.2 c ?_).trans (um c o ?_ q)
      all_goals
        simp only [List.mem_cons, List.not_mem_nil, or_false] at hcm
        obtain ⟨n1, n2, n3, n4, n5⟩ := ne
        rcases hcm with rfl | rfl | rfl | rfl | rfl
        · exact n1.symm
        · exact n2.symm
        · exact n3.symm
        · exact n4.symm
        · exact n5.symm
    · have hlt : c < s.heap.objs.size := by
        rcases List.mem_cons.mp hcm with rfl | hcm
        · exact hel
        · obtain ⟨o, ho, _⟩ := zt.lt c hcm
          exact Heap.lt_size ho
      rw [upd_ne (by rw [sz]; exact Nat.ne_of_lt (Nat.lt_succ_of_lt hlt)), upd_ne (Nat.ne_of_lt hlt)]
      exact (hf c hcm).1
  done := by
    intro X hP hw hK hc i pins s σ H E I hf st hg
    subst hP hw hK
    obtain ⟨⟨old, ge⟩, zt⟩ := st
    obtain ⟨xs, ys, hqx, hqy, hend⟩ := hg
    obtain ⟨its, rv, p, _⟩ := I.tuple hqx
    obtain ⟨its2, rv2, p2, _⟩ := I.tuple hqy
    have l1 := rv.length
    have l2 := rv2.length
    have he : its.toArray[i]? = none ∨ its2.toArray[i]? = none := by
      rcases hend with q | q
      · exact .inl (by simp; omega)
      · exact .inr (by simp; omega)
    exact enum_pyEnd (I.ok.hd hc) D ge zt p p2 he fun m up => ⟨rfl, I.turnedL (t' := s.toks) (ch := [z, TO, i1, i2]) (fun b o hb q => up b o (fun q' => hb (by simp [q'])) (fun q' => hb (by simp [q'])) (fun q' => hb (by simp [q'])) (fun q' => hb (by simp [q'])) q)
      (fun b hb => hf b (by
        simp only [List.mem_cons, List.not_mem_nil, or_false] at hb ⊢
        rcases hb with q | q | q | q <;> simp [q]))⟩
  self := fun A i s Q E st h => let ⟨⟨_, ge⟩, _⟩ := st; wpAny_pyIter_enum ge h
/-- .. as what is walked -/
def iEz (K : PySem.W.Frag) (ta : TA) : TI := fun σ H R => ta σ H fun vs H1 => ∃ a b xs ys, vs = [.ref a, .ref b] ∧ SqT K H1 a xs ∧ SqT K H1 b ys ∧ R (Iez K a b) H1
theorem pi_ez {X : Cx} {e e2 : Expr} {ta : TA} {p pos p2 pos2 tpos : Pos} {elts : List Expr} {kk : Nat} (hg : Gl X "enumerate") (hm : X.mg "enumerate" = none) (hg2 : Gl X "zip") (hm2 : X.mg "zip" = none) (ha : PA X [e, e2] ta)
    (hs : starEach [e, e2] X.env = (false, eval e X.env) :: starEach [e2] X.env) (hpl : (backTo pos2 (starEach [e2] X.env)).any (·.1) = false)
    (hs1 : starEach [.Call (.Name "zip" p2) [e, e2] [] pos2] X.env = (false, eval (.Call (.Name "zip" p2) [e, e2] [] pos2) X.env) :: starEach [] X.env) :
    PI X (.Tuple elts kk tpos) (.Call (.Name "enumerate" p) [.Call (.Name "zip" p2) [e, e2] [] pos2] [] pos) (iEz X.K ta) := by
  refine ⟨fun pins s σ H R I h => ?_⟩
  refine Call_ (ld_blt I hg hm boot_enumerate (PyProof.Rows.callWith_type1 (args_cons ?_ hs1) hs1 rfl))
  refine Call_ (ld_blt I hg2 hm2 PyProof.Rows.boot_zip (PyProof.Rows.callWith_type1 (thn (ha.run pos2 pins s σ H _ I h) fun us s1 ⟨vs, H1, I1, r1, q1⟩ => ?_) hs hpl))
  obtain ⟨a, b, xs, ys, ev, hqx, hqy, q⟩ := q1
  subst ev
  cases r1 with
  | cons r rr =>
    cases rr with
    | cons r' rr =>
      cases rr
      cases r
      cases r'
      obtain ⟨its, rv, t1, _⟩ := I1.tuple hqx
      obtain ⟨its2, rv2, t2, _⟩ := I1.tuple hqy
      obtain ⟨o1, ho1, _⟩ := id t1
      obtain ⟨o2, ho2, _⟩ := id t2
      refine RZ.call_zipT (show s1.heap.IsTuple a its.toArray from t1) (show s1.heap.IsTuple b its2.toArray from t2) fun m gz gTI gTO g1 g2 gsz up => ?_
      refine args_nil ?_
      refine call_enumZ (s := { s1 with heap := m }) gz fun m' ge up' => wpAny_pyIter_enum ge ?_
      have I2 : Inv X pins σ H1 { s1 with heap := m' } := I1.kept (t' := s1.toks) fun c o q => up' _ _ (up c o q)
      have zt : ZT m (s1.heap.objs.size + 4) (s1.heap.objs.size + 2) (s1.heap.objs.size + 3) s1.heap.objs.size (s1.heap.objs.size + 1) a b 0 := ⟨gTI, ⟨_, _, gTO⟩, g1, g2, .inl gz⟩
      have esz : m.objs.size = s1.heap.objs.size + 5 := gsz
      refine ⟨m.objs.size, [m.objs.size, s1.heap.objs.size + 4, s1.heap.objs.size + 2, s1.heap.objs.size + 3, s1.heap.objs.size, s1.heap.objs.size + 1], _, _, H1, rfl, I2,
        turn_ez (PySem.W.ktu_apart s1.heap.objs.size a b (Heap.lt_size ho1) (Heap.lt_size ho2)) ?_, ⟨⟨_, ge⟩, zt.keep fun c _ o q => up' c o q⟩, fun c hcm => ?_, q⟩
      · rw [esz]
        exact ⟨show s1.heap.objs.size + 5 ≠ s1.heap.objs.size + 4 by omega, show s1.heap.objs.size + 5 ≠ s1.heap.objs.size + 2 by omega, show s1.heap.objs.size + 5 ≠ s1.heap.objs.size + 3 by omega, show s1.heap.objs.size + 5 ≠ s1.heap.objs.size by omega, show s1.heap.objs.size + 5 ≠ s1.heap.objs.size + 1 by omega⟩
      · have hle : s1.heap.objs.size ≤ c := by
          have hcm' : c = m.objs.size ∨ c = s1.heap.objs.size + 4 ∨ c = s1.heap.objs.size + 2 ∨ c = s1.heap.objs.size + 3 ∨ c = s1.heap.objs.size ∨ c = s1.heap.objs.size + 1 := by simpa using hcm
          rcases hcm' with q | q | q | q | q | q <;> rw [q] <;> (try rw [esz]) <;> first | exact Nat.le_add_right _ _ | exact Nat.le_refl _
        exact I1.fpOk hle (I1.hok.fresh hle)
end ZZ
end

section
set_option Elab.async false
set_option linter.all false
set_option maxRecDepth 100000
set_option maxHeartbeats 4000000
/-! enumerate(zip(t, u)) and list(zip(t, u)) over plain data. -/
namespace ZZ
open PySem PySem.Spec PyProof.Rows L2
/-! ### list(zip(t, u)): the loop -/
/-- the pairs that were given out -/
def Outs (xs ys : List V) (H : Hp) (Ts : List Addr) : Prop := ∀ (j : Nat) (T : Addr), Ts[j]? = some T → ∃ x y, xs[j]? = some x ∧ ys[j]? = some y ∧ H T = some (.tup [x, y])
theorem Outs.go {xs ys : List V} {H H' : Hp} {Ts : List Addr} (h : Outs xs ys H Ts) (e : ∀ T o, T ∈ Ts → H T = some o → H' T = some o) : Outs xs ys H' Ts := fun j T q => by
  obtain ⟨x, y, a, b, c⟩ := h j T q
  exact ⟨x, y, a, b, e _ _ (List.mem_of_getElem? q) c⟩
theorem Outs.snoc {xs ys : List V} {H : Hp} {Ts : List Addr} {T : Addr} {x y : V} (h : Outs xs ys H Ts) (hx : xs[Ts.length]? = some x) (hy : ys[Ts.length]? = some y) (hT : H T = some (.tup [x, y])) : Outs xs ys H (Ts ++ [T]) := fun j U q => by
  by_cases hj : j < Ts.length
  · rw [List.getElem?_append_left hj] at q
    exact h j U q
  · by_cases e : j = Ts.length
    · subst e
      simp at q
      subst q
      exact ⟨x, y, hx, hy, hT⟩
    · rw [List.getElem?_eq_none (by simp; omega)] at q
      cases q
theorem vals_refs : ∀ Ts : List Addr, Vals (Ts.map V.ref) (Ts.map Value.ref)
  | [] => .nil
  | T :: r => .cons rfl (vals_refs r)
theorem zip_loop {X : Cx} {pins : List (Addr × Obj)} {σ : L2.St} {R : Result → Shared → Prop} {a b z TI TO i1 i2 S : Addr} {xs ys : List V} {H1 : Hp} {res : Value} (hh : X.A.handled = none) (D : ZipApart z TI TO i1 i2 a b) (hS : S ≠ z ∧ S ≠ TI ∧ S ≠ TO ∧ S ≠ i1 ∧ S ≠ i2) (hl : xs.length = ys.length) (hn : xs.length < sizeLine)
    (A' : Around) (hA : A'.handled = none) (hqx : SqT X.K H1 a xs) (hqy : SqT X.K H1 b ys) (hS1 : H1 S = none) :
    ∀ (n : Nat) (Ts : List Addr) (s : Shared) (H : Hp), xs.length - Ts.length = n → Ts.length ≤ xs.length → L2.Inv X pins σ H s → ZT s.heap z TI TO i1 i2 a b Ts.length → (∀ c ∈ [z, TI, TO, i1, i2], FpOk X pins H c) → (∀ c o, H1 c = some o → H c = some o) → H S = some (.lst (Ts.map V.ref)) → (∀ T ∈ Ts, T ≠ S) → Outs xs ys H Ts →
      (∀ s' H' Ts', L2.Inv X pins σ H' s' → (∀ c o, H1 c = some o → H' c = some o) → H' S = some (.lst (Ts'.map V.ref)) → Ts'.length = xs.length → Outs xs ys H' Ts' → R (.ok (.ret res)) s') →
      codeAny (model X.prog X.w) A' (.builtin "list.extend.loop" ⟨[.ref S, .ref z, res], []⟩) R s := by
  obtain ⟨s1, s2, s3, s4, s5⟩ := hS
  intro n
  induction n with
  | zero =>
    intro Ts s H hk hle I zt hf ext hSo hTS ho hR
    have e : Ts.length = xs.length := by omega
    obtain ⟨its, rv, p, _⟩ := I.tuple (DL.SqT.go (μ := []) (μ' := []) ⟨fun c _ q => ext c _ q, fun c _ _ q => ext c _ q, fun c _ q _ => ext c _ q, Nat.le_refl _, fun _ _ => .inl rfl, fun _ q => .inl q⟩ hqx)
    obtain ⟨its2, rv2, p2, _⟩ := I.tuple (DL.SqT.go (μ := []) (μ' := []) ⟨fun c _ q => ext c _ q, fun c _ _ q => ext c _ q, fun c _ q _ => ext c _ q, Nat.le_refl _, fun _ _ => .inl rfl, fun _ q => .inl q⟩ hqy)
    refine codeAny_builtin F.entry_extend_loop ?_
    rw [Around.under_plainId F.plain_extend_loop _]
    show wpAny _ A'.in1 (pyNext (.ref z) >>= _) _ _ s
    have l1 := rv.length
    refine wpAny_bind (zs_pyEnd (A := A'.in1) hA D zt p p2 (.inl (by simp; omega)) fun m up => ?_)
    refine wpAny_pure (hR _ H Ts (I.turnedL (t' := s.toks) (ch := [z, TO, i1, i2]) (fun c o hb q => up c o (fun q' => hb (by simp [q'])) (fun q' => hb (by simp [q'])) (fun q' => hb (by simp [q'])) (fun q' => hb (by simp [q'])) q) fun c hb => hf c (by
      simp only [List.mem_cons, List.not_mem_nil, or_false] at hb ⊢
      rcases hb with q | q | q | q <;> simp [q])) ext hSo e ho)
  | succ n ih =>
    intro Ts s H hk hle I zt hf ext hSo hTS ho hR
    have hlt : Ts.length < xs.length := by omega
    have hlt2 : Ts.length < ys.length := by omega
    have hx : xs[Ts.length]? = some xs[Ts.length] := List.getElem?_eq_getElem hlt
    have hy : ys[Ts.length]? = some ys[Ts.length] := List.getElem?_eq_getElem hlt2
    obtain ⟨its, rv, p, _⟩ := I.tuple (DL.SqT.go (μ := []) (μ' := []) ⟨fun c _ q => ext c _ q, fun c _ _ q => ext c _ q, fun c _ q _ => ext c _ q, Nat.le_refl _, fun _ _ => .inl rfl, fun _ q => .inl q⟩ hqx)
    obtain ⟨its2, rv2, p2, _⟩ := I.tuple (DL.SqT.go (μ := []) (μ' := []) ⟨fun c _ q => ext c _ q, fun c _ _ q => ext c _ q, fun c _ q _ => ext c _ q, Nat.le_refl _, fun _ _ => .inl rfl, fun _ q => .inl q⟩ hqy)
    obtain ⟨u, hu, ru⟩ := rv.get hx
    obtain ⟨u2, hu2, ru2⟩ := rv2.get hy
    refine codeAny_builtin F.entry_extend_loop ?_
    rw [Around.under_plainId F.plain_extend_loop _]
    show wpAny _ A'.in1 (pyNext (.ref z) >>= _) _ _ s
    refine wpAny_bind (zs_pyNext (A := A'.in1) D zt p p2 (x := u) (y := u2) (by simpa using hu) (by simpa using hu2) fun m zt' pr sz up => ?_)
    have new1 : ObjOk X.prog X.w (upd H s.heap.objs.size (.tup [xs[Ts.length], ys[Ts.length]])) m s.heap.objs.size (.tup [xs[Ts.length], ys[Ts.length]]) := ⟨by show 2 ≤ sizeLine; decide, [u, u2], .cons ru (.cons ru2 .nil), ⟨_, pr, rfl, _, rfl⟩⟩
    have hTn : H s.heap.objs.size = none := I.hok.fresh (Nat.le_refl _)
    have I1 : L2.Inv X pins σ (upd H s.heap.objs.size (.tup [xs[Ts.length], ys[Ts.length]])) { s with heap := m, toks := s.toks } :=
      I.turnedNew (ch := [z, TO, i1, i2]) (fun c o hb q => up c o (fun q' => hb (by simp [q'])) (fun q' => hb (by simp [q'])) (fun q' => hb (by simp [q'])) (fun q' => hb (by simp [q'])) q)
        (fun c hb => hf c (by
          simp only [List.mem_cons, List.not_mem_nil, or_false] at hb ⊢
          rcases hb with q | q | q | q <;> simp [q])) (Nat.le_refl _) new1
    have hTS' : s.heap.objs.size ≠ S := fun q => by rw [q] at hTn; rw [hTn] at hSo; cases hSo
    have hSo1 : upd H s.heap.objs.size (.tup [xs[Ts.length], ys[Ts.length]]) S = some (.lst (Ts.map V.ref)) := by rw [upd_ne hTS'.symm]; exact hSo
    obtain ⟨hz0, its0, c0, rv0, hob⟩ := I1.hok S _ hSo1
    have hob' : m.get? S = some { cls := .type "list", dict := none, data := .seq its0.toArray c0, slots := #[] } := hob
    show wpAny _ A'.in1 (updateSeq S (·.push (.ref s.heap.objs.size)) >>= _) _ _ _
    refine wpAny_bind ?_
    have hlen0 : its0.length = Ts.length := by rw [← rv0.length, List.length_map]
    refine wpAny_updateSeq (s := { s with heap := m }) hob' rfl (wpAny_pure ⟨plainId_quiet F.plain_extend_loop _, ?_⟩) (by rw [List.size_toArray, hlen0]; omega) (by show (its0.toArray.push _).size ≤ sizeLine + 1; rw [Array.size_push, List.size_toArray, hlen0]; omega)
    have hSm : ∀ c o, c ≠ S → m.get? c = some o → (m.update S (Obj.mapSeq (·.push (.ref s.heap.objs.size)))).get? c = some o := fun c o nc q => (Heap.get?_update_other _ _ (Ne.symm nc)).trans q
    have hSn : (m.update S (Obj.mapSeq (·.push (.ref s.heap.objs.size)))).get? S = some _ := Heap.get?_update_self _ hob' rfl
    have I2 : L2.Inv X pins σ (upd (upd H s.heap.objs.size (.tup [xs[Ts.length], ys[Ts.length]])) S (.lst ((Ts ++ [s.heap.objs.size]).map V.ref))) { s with heap := m.update S (Obj.mapSeq (·.push (.ref s.heap.objs.size))), toks := s.toks } := by
      refine I1.write (x := S) (e := S) (by rw [hSo1]; trivial) (.inl rfl) (fun c o nc q => hSm c o nc q) ⟨_, hSn⟩ ?_
      refine ⟨by rw [List.length_map, List.length_append, List.length_singleton]; omega, its0 ++ [.ref s.heap.objs.size], c0 + 1, ?_, ?_⟩
      · rw [List.map_append]
        exact rv0.snoc (show RelV (V.ref s.heap.objs.size) (.ref s.heap.objs.size) from rfl)
      · rw [hSn]
        simp [Obj.mapSeq]
    have lt : ∀ c ∈ [z, TI, TO, i1, i2], c < s.heap.objs.size := fun c hc => by obtain ⟨o, h1, _⟩ := zt.lt c hc; exact Heap.lt_size h1
    have nS : ∀ c ∈ [z, TI, TO, i1, i2], c ≠ S := fun c hc => by
      simp only [List.mem_cons, List.not_mem_nil, or_false] at hc
      rcases hc with rfl | rfl | rfl | rfl | rfl
      · exact s1.symm
      · exact s2.symm
      · exact s3.symm
      · exact s4.symm
      · exact s5.symm
    refine ih (Ts ++ [s.heap.objs.size]) _ _ (by rw [List.length_append, List.length_singleton]; omega) (by rw [List.length_append, List.length_singleton]; omega) I2 ?_ (fun c hc => ?_) (fun c o q => ?_) upd_same (fun T hT => ?_) ?_ hR
    · rw [List.length_append, List.length_singleton]
      exact zt'.keep fun c hc o q => hSm c o (nS c hc) q
    · obtain ⟨f1, f2⟩ := hf c hc
      exact ⟨by rw [upd_ne (nS c hc), upd_ne (Nat.ne_of_lt (lt c hc))]; exact f1, f2⟩
    · have n1 : c ≠ S := fun e => by rw [e, hS1] at q; cases q
      have q' := ext c o q
      have n2 : c ≠ s.heap.objs.size := fun e => by rw [e, hTn] at q'; cases q'
      rw [upd_ne n1, upd_ne n2]
      exact q'
    · rcases List.mem_append.mp hT with q | q
      · exact hTS T q
      · rw [List.mem_singleton.mp q]; exact hTS'
    · have ho1 : Outs xs ys (upd (upd H s.heap.objs.size (.tup [xs[Ts.length], ys[Ts.length]])) S (.lst ((Ts ++ [s.heap.objs.size]).map V.ref))) Ts := ho.go fun T o hT q => by
        have n2 : T ≠ s.heap.objs.size := fun e => by rw [e, hTn] at q; cases q
        rw [upd_ne (hTS T hT), upd_ne n2]
        exact q
      refine ho1.snoc hx hy ?_
      rw [upd_ne hTS']
      exact upd_same
end ZZ
end

section
set_option Elab.async false
set_option linter.all false
set_option maxRecDepth 100000
set_option maxHeartbeats 4000000
/-! list(zip(t, u)); both over plain data. -/
namespace ZZ
open PySem
open PySem.Sem (wp)
theorem zip_noLen : typeLookup (.type "zip") "__len__" = pure none := by rw [typeLookup_type, builtinLookup_eq_fast]; kernel_rfl
theorem zip_noHint : typeLookup (.type "zip") "__length_hint__" = pure none := by rw [typeLookup_type, builtinLookup_eq_fast]; kernel_rfl
section
variable {prog : Program} {w : World} {A : Around} {E : Value → Shared → Prop} {s : Shared}
/-- list(z), z a zip: a new list at S, then the loop -/
theorem call_list_zip {z TI TO : Addr} {f0 : Value} {Q : Value → Shared → Prop} (gz : IsZip s.heap z TI TO f0)
    (loop : ∀ (m : Heap) (c : Nat), (∀ b o, s.heap.get? b = some o → m.get? b = some o) → m.get? s.heap.objs.size = some { cls := .type "list", dict := none, data := .seq #[] c, slots := #[] } →
      codeAny (model prog w) A.in1 (.builtin "list.extend.loop" ⟨[.ref s.heap.objs.size, .ref z, .none], []⟩) (wants (fun r s' => r = .none ∧ Q (.ref s.heap.objs.size) s') E) { s with heap := m }) :
    wpAny (model prog w) A (call (.type "list") [.ref z]) Q E s := by
  have lz : z < s.heap.objs.size := Heap.lt_size gz
  have nz : s.heap.objs.size ≠ z := Nat.ne_of_gt lz
  refine callType_codes (Q₁ := fun ob t => ob = .ref s.heap.objs.size ∧ t = { s with heap := s.heap.push { cls := .type "list", data := .seq #[] } }) F.called_list (F.typeCall_list_1 _) F.entry_list_init (code_list_new _ ⟨rfl, rfl⟩) fun ob t ht => ?_
  obtain ⟨rfl, rfl⟩ := ht
  have gS : (s.heap.push { cls := .type "list", data := .seq #[] }).get? s.heap.objs.size = some { cls := .type "list", data := .seq #[] } := Heap.get?_push_size _ rfl
  refine ⟨⟨_, gS, rfl⟩, F.args_list_init_2 _ _, ?_⟩
  have up0 : ∀ b o, s.heap.get? b = some o → (s.heap.push { cls := .type "list", data := .seq #[] }).get? b = some o := fun b o q => Heap.get?_push_of_some _ q
  show wpAny _ A.in1.in1 (do let old ← Builtin.List.listItems (.ref s.heap.objs.size); Builtin.List.listUpdate (.ref s.heap.objs.size) (fun _ => #[]); letGo old.toList.reverse; Builtin.List.listExtendWith (.ref s.heap.objs.size) (.ref z) .none) _ _ _
  refine wpAny_bind ?_
  unfold Builtin.List.listItems
  refine wpAny_bind (wpAny_seqItems gS rfl (wpAny_pure ?_))
  show wpAny _ A.in1.in1 (updateSeq s.heap.objs.size (fun _ => #[]) >>= fun _ => letGo (#[] : Array Value).toList.reverse >>= fun _ => Builtin.List.listExtendWith (.ref s.heap.objs.size) (.ref z) .none) _ _ _
  refine wpAny_bind (wpAny_updateSeq gS rfl ?_)
  have gS₂ := Heap.get?_update_self (Obj.mapSeq (fun _ => (#[] : Array Value))) gS rfl
  have up1 : ∀ b o, s.heap.get? b = some o → ((s.heap.push { cls := .type "list", data := .seq #[] }).update s.heap.objs.size (Obj.mapSeq (fun _ => (#[] : Array Value)))).get? b = some o :=
    fun b o q => (Heap.get?_update_other _ _ (Nat.ne_of_gt (Heap.lt_size q))).trans (up0 b o q)
  generalize em : (s.heap.push { cls := .type "list", data := .seq #[] }).update s.heap.objs.size (Obj.mapSeq (fun _ => (#[] : Array Value))) = m1 at gS₂ up1
  refine wpAny_bind (wpAny_letGo ?_)
  show wpAny _ A.in1.in1 (Builtin.List.listExtendWith (.ref s.heap.objs.size) (.ref z) .none) _ _ { s with heap := m1 }
  clear em gS up0
  have gz1 : IsZip m1 z TI TO f0 := up1 _ _ gz
  have hT1 : ({ s with heap := m1 } : Shared).TypeIs (.ref z) "zip" := ⟨_, gz1, rfl⟩
  unfold Builtin.List.listExtendWith
  refine wpAny_bind (wpAny_typeOf hT1 ?_)
  have b1 : Builtin.List.listSameRef (.ref s.heap.objs.size) (.ref z) = false := by simp [Builtin.List.listSameRef, nz]
  have b2 : (Value.type "zip" == Value.type "list") = false := by decide
  have b3 : (Value.type "zip" == Value.type "tuple") = false := by decide
  simp only [b1, b2, b3, Bool.or_false, Bool.false_eq_true, if_false]
  refine wpAny_bind (wpAny_pyIter_zip gz1 ?_)
  refine wpAny_bind (wpAny_holding ?_)
  unfold Builtin.List.listLengthHint
  refine wpAny_bind (wpAny_specialOf hT1 zip_noLen ?_)
  show wpAny _ A.in1.in1 (specialOf (Value.ref z) (Str.ofString "__length_hint__") >>= _) _ _ _
  refine wpAny_bind (wpAny_specialOf hT1 zip_noHint ?_)
  refine wpAny_pure ?_
  show wpAny _ A.in1.in1 (rule "list.extend.makes-room" >>= fun _ => Builtin.List.listTouch (.ref s.heap.objs.size) >>= fun _ => again (.builtin "list.extend.loop" ⟨[.ref s.heap.objs.size, .ref z, .none], []⟩)) _ _ _
  refine wpAny_bind (wpAny_rule ?_)
  refine wpAny_bind ?_
  show wpAny _ A.in1.in1 (updateSeq s.heap.objs.size (·.push .none) >>= fun _ => updateSeq s.heap.objs.size (·.pop)) _ _ _
  refine wpAny_bind (wpAny_updateSeq gS₂ rfl ?_)
  have gS₃ := Heap.get?_update_self (Obj.mapSeq (·.push Value.none)) gS₂ rfl
  refine wpAny_updateSeq (hz := by seq_fits) gS₃ rfl ?_
  have gS₄ := Heap.get?_update_self (Obj.mapSeq (·.pop)) gS₃ rfl
  refine wpAny_pure ⟨plainId_quiet F.plain_extend_loop _, loop _ _ (fun b o q => ?_) gS₄⟩
  have nb : s.heap.objs.size ≠ b := Nat.ne_of_gt (Heap.lt_size q)
  exact (Heap.get?_update_other _ _ nb).trans ((Heap.get?_update_other _ _ nb).trans (up1 b o q))
end
end ZZ
namespace ZZ
open PySem PySem.Spec PyProof.Rows L2
/-- list(zip(t, u)) of two tuples of one length -/
def tLz (K : PySem.W.Frag) (ta : TA) : TE := fun σ H Q => ta σ H fun vs H1 => ∃ a b xs ys, vs = [.ref a, .ref b] ∧ SqT K H1 a xs ∧ SqT K H1 b ys ∧ xs.length = ys.length ∧ xs.length < sizeLine ∧
  ∀ (S : Addr) (H' : Hp) (Ts : List Addr), H1 S = none → (∀ c o, H1 c = some o → H' c = some o) → H' S = some (.lst (Ts.map V.ref)) → Ts.length = xs.length → Outs xs ys H' Ts → Q (.ref S) H'
theorem pe_lz {X : Cx} {e e2 : Expr} {ta : TA} {p pos p2 pos2 : Pos} (hc : X.calm = true) (hg : Gl X "list") (hm : X.mg "list" = none) (hg2 : Gl X "zip") (hm2 : X.mg "zip" = none) (ha : PA X [e, e2] ta)
    (hs : starEach [e, e2] X.env = (false, eval e X.env) :: starEach [e2] X.env) (hpl : (backTo pos2 (starEach [e2] X.env)).any (·.1) = false)
    (hs1 : starEach [.Call (.Name "zip" p2) [e, e2] [] pos2] X.env = (false, eval (.Call (.Name "zip" p2) [e, e2] [] pos2) X.env) :: starEach [] X.env) :
    PE X (.Call (.Name "list" p) [.Call (.Name "zip" p2) [e, e2] [] pos2] [] pos) (tLz X.K ta) := by
  refine ⟨fun pins s σ H Q I h => ?_⟩
  refine Call_ (ld_blt I hg hm PyProof.Rows.Boot.«list» (PyProof.Rows.callWith_type1 (args_cons ?_ hs1) hs1 rfl))
  refine Call_ (ld_blt I hg2 hm2 PyProof.Rows.boot_zip (PyProof.Rows.callWith_type1 (thn (ha.run pos2 pins s σ H _ I h) fun us s1 ⟨vs, H1, I1, r1, q1⟩ => ?_) hs hpl))
  obtain ⟨a, b, xs, ys, ev, hqx, hqy, hl, hn, q⟩ := q1
  subst ev
  cases r1 with
  | cons r rr =>
    cases rr with
    | cons r' rr =>
      cases rr
      cases r
      cases r'
      obtain ⟨its, rv, t1, _⟩ := I1.tuple hqx
      obtain ⟨its2, rv2, t2, _⟩ := I1.tuple hqy
      obtain ⟨o1, ho1, _⟩ := id t1
      obtain ⟨o2, ho2, _⟩ := id t2
      refine RZ.call_zipT (show s1.heap.IsTuple a its.toArray from t1) (show s1.heap.IsTuple b its2.toArray from t2) fun m gz gTI gTO g1 g2 gsz up => ?_
      refine args_nil ?_
      have zt : ZT m (s1.heap.objs.size + 4) (s1.heap.objs.size + 2) (s1.heap.objs.size + 3) s1.heap.objs.size (s1.heap.objs.size + 1) a b 0 := ⟨gTI, ⟨_, _, gTO⟩, g1, g2, .inl gz⟩
      have esz : m.objs.size = s1.heap.objs.size + 5 := gsz
      have hS1 : H1 m.objs.size = none := I1.hok.fresh (by rw [esz]; exact Nat.le_add_right _ _)
      refine call_list_zip (s := { s1 with heap := m }) gz fun m' c up' gS => ?_
      have I2 : Inv X pins σ (upd H1 m.objs.size (.lst [])) { s1 with heap := m' } :=
        I1.laid (t' := s1.toks) (fun b o e => up' b o (up b o e)) (by rw [esz]; exact Nat.le_add_right _ _) ⟨Nat.zero_le _, [], c, .nil, gS⟩
      have f5 : ∀ c ∈ [s1.heap.objs.size + 4, s1.heap.objs.size + 2, s1.heap.objs.size + 3, s1.heap.objs.size, s1.heap.objs.size + 1], FpOk X pins (upd H1 m.objs.size (.lst [])) c := fun c hcm => by
        have e' : c = s1.heap.objs.size + 4 ∨ c = s1.heap.objs.size + 2 ∨ c = s1.heap.objs.size + 3 ∨ c = s1.heap.objs.size ∨ c = s1.heap.objs.size + 1 := by simpa using hcm
        have hle : s1.heap.objs.size ≤ c ∧ c < m.objs.size := by
          rw [esz]
          rcases e' with z | z | z | z | z <;> rw [z]
          · exact ⟨Nat.le_add_right _ _, Nat.lt_succ_self _⟩
          · exact ⟨Nat.le_add_right _ _, show s1.heap.objs.size + 2 < s1.heap.objs.size + 5 by omega⟩
          · exact ⟨Nat.le_add_right _ _, show s1.heap.objs.size + 3 < s1.heap.objs.size + 5 by omega⟩
          · exact ⟨Nat.le_refl _, show s1.heap.objs.size < s1.heap.objs.size + 5 by omega⟩
          · exact ⟨Nat.le_add_right _ _, show s1.heap.objs.size + 1 < s1.heap.objs.size + 5 by omega⟩
        obtain ⟨k1, k2⟩ := I1.fpOk hle.1 (I1.hok.fresh hle.1)
        exact ⟨by rw [upd_ne (Nat.ne_of_lt hle.2)]; exact k1, k2⟩
      refine zip_loop (X := X) (H1 := H1) (I.ok.hd hc) (PySem.W.ktu_apart s1.heap.objs.size a b (Heap.lt_size ho1) (Heap.lt_size ho2)) ?_ hl hn X.A.in1 (I.ok.hd hc) hqx hqy hS1 xs.length [] _ _ rfl (Nat.zero_le _) I2 (zt.keep fun c _ o e => up' c o e) f5 (fun c o e => ?_) upd_same (fun T hT => absurd hT (by simp)) (fun j T e => by simp at e) fun s' H' Ts I' ext hS' hlen ho => ⟨rfl, .ref m.objs.size, H', I', rfl, q m.objs.size H' Ts hS1 ext hS' hlen ho⟩
      · rw [esz]
        exact ⟨show s1.heap.objs.size + 5 ≠ s1.heap.objs.size + 4 by omega, show s1.heap.objs.size + 5 ≠ s1.heap.objs.size + 2 by omega, show s1.heap.objs.size + 5 ≠ s1.heap.objs.size + 3 by omega, show s1.heap.objs.size + 5 ≠ s1.heap.objs.size by omega, show s1.heap.objs.size + 5 ≠ s1.heap.objs.size + 1 by omega⟩
      · have n1 : c ≠ m.objs.size := fun z => by rw [z, hS1] at e; cases e
        rw [upd_ne n1]
        exact e
end ZZ
end

section
set_option Elab.async false
set_option linter.all false
set_option maxRecDepth 100000
set_option maxHeartbeats 4000000
/-! enumerate(zip(..)), list(zip(..)), calls of values, xs += ys, tuples of the module, defs that call themselves: over plain data. -/
namespace DL
open PySem PySem.Spec PyProof.Rows L2

section
variable {S : Ks} {μ : Mu} {H H' : Hp}
theorem Ev.ext (h : ∀ a o, H a = some o → H' a = some o) : Ev μ H μ H' :=
  ⟨fun a _ q => h a _ q, fun a _ _ q => h a _ q, fun a _ q _ => h a _ q, Nat.le_refl _, fun _ _ => .inl rfl, fun _ q => .inl q⟩
theorem SV.ext {st : Sto} (sv : SV S μ H st) (h : ∀ a o, H a = some o → H' a = some o) : SV S μ H' st :=
  ⟨sv.len, sv.inj, fun k ob e => (sv.here k ob e).imp (fun ⟨b, e1, q⟩ => ⟨b, e1, OV.go (Ev.ext h) (fun u z => h b u z) q⟩) id⟩
theorem dvs_of : ∀ {ds : List D} {vs : List V}, vs.length = ds.length → (∀ (i : Nat) (d : D) (v : V), ds[i]? = some d → vs[i]? = some v → DV S μ H d v) → DVs S μ H ds vs
  | [], vs, hl, h => by
    have : vs = [] := List.eq_nil_of_length_eq_zero hl
    subst this
    exact DVs.nil
  | d :: ds, [], hl, h => by simp at hl
  | d :: ds, v :: vs, hl, h => DVs.cons (h 0 d v rfl rfl) (dvs_of (by simpa using hl) fun i d' v' e1 e2 => h (i + 1) d' v' (by simpa using e1) (by simpa using e2))
end
/-! ### enumerate(zip(t, u)) -/
def numD : Nat → List D → List D
  | _, [] => []
  | n, d :: r => .tup [.int (n : Nat), d] :: numD (n + 1) r
theorem numD_length : ∀ (n : Nat) (ds : List D), (numD n ds).length = ds.length
  | _, [] => rfl
  | n, d :: r => by simp [numD, numD_length (n + 1) r]
theorem numD_get : ∀ (n : Nat) (ds : List D) (i : Nat) (d : D), ds[i]? = some d → (numD n ds)[i]? = some (.tup [.int ((n + i : Nat) : Int), d])
  | _, [], i, d, e => by simp at e
  | n, d :: r, 0, d', e => by
    simp at e
    subst e
    rfl
  | n, d :: r, i + 1, d', e => by
    simp at e
    simp only [numD, List.getElem?_cons_succ]
    rw [numD_get (n + 1) r i d' e]
    have : n + 1 + i = n + (i + 1) := by omega
    rw [this]
def ezOf : List Va → M (List D)
  | [.val (.tup xs), .val (.tup ys)] => M.pure (numD 0 (zipD xs ys))
  | _ => stuck
section
variable {X : Cx} {x : ExI} {W : WX} {pos p p2 pos2 tpos : Pos} {e e2 : Expr} {ma : En → M (List Va)}
theorem walkD_ez {S : Ks} {μ : Mu} {H : Hp} {ds es : List D} {a b : Addr} {xs ys : List V} (c1 : SqT S.K H a xs) (c2 : SqT S.K H b ys) (d1 : DVs S μ H ds xs) (d2 : DVs S μ H es ys) : WalkD S μ H (numD 0 (zipD ds es)) (ZZ.Iez S.K a b) := by
  have hl : (numD 0 (zipD ds es)).length = min xs.length ys.length := by rw [numD_length]; simp [zipD, d1.length, d2.length]
  refine ⟨fun H => SqT S.K H a xs ∧ SqT S.K H b ys, fun i H v H' => ∃ T U y z, v = .ref U ∧ H T = none ∧ upd H T (.tup [y, z]) U = none ∧ H' = upd (upd H T (.tup [y, z])) U (.tup [.int (i : Nat), .ref T]) ∧ xs[i]? = some y ∧ ys[i]? = some z, ⟨fun i _ hi q => ?_, fun _ q => ⟨xs, ys, q.1, q.2, by rw [hl]; omega⟩, fun i H v H' hi q y => ?_⟩, fun μ2 H2 ev => ⟨SqT.go ev c1, SqT.go ev c2⟩, fun i μ2 H2 v H3 ev hi y => ?_⟩
  · rw [hl] at hi
    have h1 : i < xs.length := by omega
    have h2 : i < ys.length := by omega
    exact ⟨xs, ys, xs[i], ys[i], q.1, q.2, List.getElem?_eq_getElem h1, List.getElem?_eq_getElem h2⟩
  · obtain ⟨T, U, u, z, h1, h2, h3, h4, h5, h6⟩ := y
    exact ⟨T, U, u, z, h1, h2, h3, h4, h5 xs q.1, h6 ys q.2⟩
  · obtain ⟨T, U, y, z, rfl, hT, hU, rfl, h1, h2⟩ := y
    obtain ⟨da, g1, q1⟩ := (DVs.go ev ds d1).get' h1
    obtain ⟨db, g2, q2⟩ := (DVs.go ev es d2).get' h2
    have E1 := Ev.made (μ := μ2) (o := .tup [y, z]) hT
    have E2 := Ev.made (μ := μ2) (o := .tup [.int (i : Nat), .ref T]) hU
    have nTU : T ≠ U := fun e => by rw [← e, upd_same] at hU; cases hU
    refine ⟨_, numD_get 0 _ i _ (zip_get g1 g2), ?_, E1.trans E2, fun st s => (s.made hT).made hU⟩
    simp only [DV]
    refine ⟨U, _, rfl, SqT.of upd_same, DVs.cons ?_ (DVs.cons ?_ DVs.nil)⟩
    · simp only [DV, Nat.zero_add]
    · simp only [DV]
      exact ⟨T, _, rfl, SqT.go E2 (SqT.of upd_same), DVs.cons (DV.go (E1.trans E2) da q1) (DVs.cons (DV.go (E1.trans E2) db q2) DVs.nil)⟩
theorem id_ez {elts : List Expr} {kk : Nat} (hm : X.mg "enumerate" = none) (hm2 : X.mg "zip" = none) (ha : AD X x W [e, e2] ma) (hg : Gl X "enumerate" := by rfl) (hg2 : Gl X "zip" := by rfl) (hs : starEach [e, e2] X.env = (false, eval e X.env) :: starEach [e2] X.env := by rfl) (hpl : (backTo pos2 (starEach [e2] X.env)).any (·.1) = false := by rfl)
    (hs1 : starEach [.Call (.Name "zip" p2) [e, e2] [] pos2] X.env = (false, eval (.Call (.Name "zip" p2) [e, e2] [] pos2) X.env) :: starEach [] X.env := by rfl) :
    ID X x W (.Tuple elts kk tpos) (.Call (.Name "enumerate" p) [.Call (.Name "zip" p2) [e, e2] [] pos2] [] pos) (mArgI ezOf ma) := by
  refine ID.of (ZZ.pi_ez hg hm hg2 hm2 ha hs hpl hs1) fun σ H Q μ st ρ ev sv hf => ⟨μ, st, ρ, ev, sv, Fin.map (fun as st1 μ1 H1 e1 s1 h1 v hv => ?_) (Fin.bind hf)⟩
  unfold ezOf at h1
  split at h1
  · rename_i ds es
    obtain ⟨v1, r, rfl, q1, q2⟩ := avs_cons hv
    obtain ⟨v2, r, rfl, q3, q4⟩ := avs_cons q2
    have := avs_nil q4
    subst this
    simp only [AV, DV] at q1 q3
    obtain ⟨a, xs, rfl, c1, d1⟩ := q1
    obtain ⟨b, ys, rfl, c2, d2⟩ := q3
    exact ⟨a, b, xs, ys, rfl, c1, c2, Fin.pure s1 h1 _ (walkD_ez (S := ks X x) c1 c2 d1 d2)⟩
  · exact h1.elim
/-! ### list(zip(t, u)) -/
def lzOf : List Va → M Va
  | [.val (.tup xs), .val (.tup ys)] => if xs.length = ys.length ∧ xs.length < sizeLine then M.pure (.val (.lst (zipD xs ys))) else stuck
  | _ => stuck
def mLz (m : En → M (List Va)) : En → M Va := fun ρ => M.bind (m ρ) lzOf
theorem ed_lz (hc : X.calm = true) (hm : X.mg "list" = none) (hm2 : X.mg "zip" = none) (ha : AD X x W [e, e2] ma) (hg : Gl X "list" := by rfl) (hg2 : Gl X "zip" := by rfl) (hs : starEach [e, e2] X.env = (false, eval e X.env) :: starEach [e2] X.env := by rfl) (hpl : (backTo pos2 (starEach [e2] X.env)).any (·.1) = false := by rfl)
    (hs1 : starEach [.Call (.Name "zip" p2) [e, e2] [] pos2] X.env = (false, eval (.Call (.Name "zip" p2) [e, e2] [] pos2) X.env) :: starEach [] X.env := by rfl) :
    ED X x W (.Call (.Name "list" p) [.Call (.Name "zip" p2) [e, e2] [] pos2] [] pos) (mLz ma) := by
  refine ED.of (ZZ.pe_lz hc hg hm hg2 hm2 ha hs hpl hs1) fun σ H Q μ st ρ ev sv hf => ⟨μ, st, ρ, ev, sv, Fin.map (fun as st1 μ1 H1 e1 s1 h1 v hv => ?_) (Fin.bind hf)⟩
  unfold lzOf at h1
  split at h1
  · rename_i ds es
    split at h1
    · rename_i zl
      obtain ⟨v1, r, rfl, q1, q2⟩ := avs_cons hv
      obtain ⟨v2, r, rfl, q3, q4⟩ := avs_cons q2
      have := avs_nil q4
      subst this
      simp only [AV, DV] at q1 q3
      obtain ⟨a, xs, rfl, c1, d1⟩ := q1
      obtain ⟨b, ys, rfl, c2, d2⟩ := q3
      refine ⟨a, b, xs, ys, rfl, c1, c2, by rw [d1.length, d2.length]; exact zl.1, by rw [d1.length]; exact zl.2, fun Sa H' Ts hS ext hS' hT ho => ?_⟩
      have E1 : Ev μ1 H1 μ1 H' := Ev.ext ext
      refine h1 μ1 H' E1 (s1.ext ext) _ ?_
      simp only [AV, DV]
      refine ⟨Sa, _, rfl, s1.out hS, .inl hS', dvs_of (by simp [zipD, hT, d1.length, zl.1]) fun i d v g1 g2 => ?_⟩
      have hi : i < Ts.length := by
        have := (List.getElem?_eq_some_iff.mp g2).1
        simpa using this
      obtain ⟨y, z, k1, k2, k3⟩ := ho i Ts[i] (List.getElem?_eq_getElem hi)
      obtain ⟨da, m1, n1⟩ := (DVs.go E1 ds d1).get' k1
      obtain ⟨db, m2, n2⟩ := (DVs.go E1 es d2).get' k2
      rw [zip_get m1 m2] at g1
      cases g1
      rw [List.getElem?_map, List.getElem?_eq_getElem hi] at g2
      cases g2
      simp only [DV]
      exact ⟨_, _, rfl, SqT.of k3, DVs.cons n1 (DVs.cons n2 DVs.nil)⟩
    · exact h1.elim
  · exact h1.elim
end
end DL
end

section
set_option Elab.async false
set_option linter.all false
set_option maxRecDepth 100000
set_option maxHeartbeats 4000000
/-! Calls of values, xs += ys, tuples of the module, defs that call themselves. -/
namespace DL
open PySem PySem.Spec PyProof.Rows L2

/-! ### fs[k](..): a call of a value that is one of the module's defs -/
def FnsD (P : Program) (w : World) (K : PySem.W.Frag) (mg : Str → Option Value) (base : Heap) (k : Nat) : List (Str × (List Va → M Va)) → Prop
  | [] => True
  | (y, g) :: r => (∃ n N mb, g = mFn N n mb ∧ FnD P w K mg base k y n (mFn N n mb)) ∧ FnsD P w K mg base k r
theorem FnsD.get {P : Program} {w : World} {K : PySem.W.Frag} {mg : Str → Option Value} {base : Heap} {k : Nat} {y : Str} {g : List Va → M Va} : ∀ {l : List (Str × (List Va → M Va))}, FnsD P w K mg base k l → l.lookup y = some g → ∃ n N mb, g = mFn N n mb ∧ FnD P w K mg base k y n (mFn N n mb)
  | [], h, e => by simp at e
  | (z, g') :: r, h, e => by
    simp only [List.lookup] at e
    split at e
    · rename_i q
      cases e
      have : y = z := by simpa using q
      subst this
      exact h.1
    · exact FnsD.get h.2 e
def callV (fs : List (Str × (List Va → M Va))) (f : Va) (m : M (List Va)) : M Va := match f with
  | .val (.glo y) => match fs.lookup y with
    | some g => M.bind m g
    | none => stuck
  | _ => stuck
def mCallV (fs : List (Str × (List Va → M Va))) (mf : En → M Va) (m : En → M (List Va)) : En → M Va := fun ρ => M.bind (mf ρ) fun f => callV fs f (m ρ)
section
variable {X : Cx} {x : ExI} {W : WX} {pos p : Pos} {f e : Expr} {es : List Expr} {m : En → M (List Va)} {mf me : En → M Va} {k : Nat}
theorem ed_callV {fs : List (Str × (List Va → M Va))} (F : FnsD X.prog X.w X.K X.mg X.base k fs) (hr : Room k X.A) (hG : X.A.guards = some []) (tk : Takes X W) (hf : ED X x W f mf) (ha : AD X x W (e :: es) m)
    (hc : eval (.Call f (e :: es) [] pos) X.env = (do callWith pos (← eval f X.env) [] (backTo pos (starEach (e :: es) X.env)) (backToKw pos (keywordEach [] X.env))) := by rfl)
    (he : starEach (e :: es) X.env = (false, eval e X.env) :: starEach es X.env := by rfl) (hpl : (backTo pos (starEach es X.env)).any (·.1) = false := by rfl) : ED X x W (.Call f (e :: es) [] pos) (mCallV fs mf m) := by
  refine ⟨fun pins s σ H Q I h => ?_⟩
  obtain ⟨μ, st, ρ, ev, sv, h⟩ := h
  refine Call_ (thn (L2.PE.run hf pins s σ H (fun v H1 => ∃ y n N mb a, v = V.ref a ∧ X.mg y = some (.ref a) ∧ FnD X.prog X.w X.K X.mg X.base k y n (mFn N n mb) ∧ ∃ μ1 st1, EV (ks X x) μ1 H1 ρ σ ∧ SV (ks X x) μ1 H1 st1 ∧ Fin (ks X x) (WE W σ) μ1 H1 (fun d _ μ' H' => ∀ v, AV (ks X x) μ' H' d v → Q v H') (M.bind (m ρ) (mFn N n mb) st1)) I ?_) fun u s1 ⟨v, H1, I1, r1, q1⟩ => ?_) hc
  · refine ⟨μ, st, ρ, ev, sv, Fin.map (fun va st1 μ1 H1 e1 s1 h1 v hv => ?_) (Fin.bind (m := mf ρ) (f := fun a => callV fs a (m ρ)) h)⟩
    cases va with
    | obj k => exact h1.elim
    | exc c fs => exact h1.elim
    | scr ns => exact h1.elim
    | val d =>
      cases d with
      | glo y =>
        simp only [callV] at h1
        cases hg : fs.lookup y with
        | none => simp only [hg] at h1; exact h1.elim
        | some g =>
          simp only [hg] at h1
          obtain ⟨n, N, mb, rfl, F1⟩ := F.get hg
          simp only [AV, DV] at hv
          obtain ⟨a, rfl, hm⟩ := hv
          exact ⟨y, n, N, mb, a, rfl, hm, F1, μ1, st1, ev.go e1, s1, h1⟩
      | non | bl | int | str | tup | lst => exact h1.elim
  · obtain ⟨y, n, N, mb, a, rfl, hm, F1, μ1, st1, ev1, s1', h1⟩ := q1
    obtain ⟨f', fd, ps, F2, hb, hk, hm'⟩ := F1
    rw [hm] at hm'
    cases hm'
    cases r1
    refine PySem.W.callWith_K (h₀ := X.base) I1.ok.mod.kin hk (thn (L2.PA.run ha pos pins s1 σ H1 (fun vs H2 => spD ⟨X.K, X.mg, none⟩ n (mFn N n mb) vs H2 Q (WE W σ)) I1 ⟨μ1, st1, ρ, ev1, s1', Fin.map (fun as st2 μ2 H2 e2 s2 h2 vs hv => spD_of s2 hv h2) (Fin.bind h1)⟩) fun us s2 ⟨vs, H2, I2, r, q⟩ => ⟨I2.kIn, ?_⟩) he hpl
    exact run_fnW F2 hr hG hb tk I2 r q
/-! ### xs += ys -/
def rExtR : V → V → Hp → VK → Prop := fun x y H Q => ∃ l b xs zs, x = .ref l ∧ y = .ref b ∧ H l = some (.lst xs) ∧ Rd H b (.lst zs) ∧ xs.length + zs.length ≤ sizeLine ∧ Q (.ref l) (upd H l (.lst (xs ++ zs)))
theorem ip_extR : PIp X .Add rExtR := by
  intro pins s σ H x y v u Q I rx ry ⟨l, b, xs, zs, ex, ey, hH, hB, hz, q⟩
  subst ex ey
  cases rx
  cases ry
  obtain ⟨z, its, n, r, hl, e⟩ := I.lstM hH
  obtain ⟨z2, its2, n2, r2, hl2, e2⟩ := lstR I hB
  have hsz : its.toArray.size + its2.toArray.size ≤ sizeLine := by rw [List.size_toArray, List.size_toArray]; omega
  have hlong : ¬ (!its.toArray.isEmpty && Builtin.List.listTooLong (its.toArray.size + its2.toArray.size)) = true := by
    rw [notLongL hsz, Bool.and_false]
    exact Bool.false_ne_true
  refine iadd_road ⟨_, e, rfl⟩ ⟨_, e2, rfl⟩ (call_meets PySem.F.slot_list_iadd ⟨_, e, rfl⟩ PySem.F.entry_list_iadd (PySem.F.args_list_iadd_2 _ _)
    (AutoSeq1.list___iadd___list_list_0 l its.toArray n b its2.toArray n2 hlong (by rw [List.size_toArray]; omega) (by omega)) ⟨e, e2, ?_⟩)
  refine ⟨.ref l, _, I.lset (its' := its ++ its2) (t' := s.toks) hH e (by simp) (r.append r2) ?_, rfl, q⟩
  rw [List.length_append]
  omega
def extO (o v : Va) : M Va := fun st => match o, v with
  | .obj k, .val (.lst es) => (match st[k]? with
    | some (.lst ds) => if ds.length + es.length ≤ sizeLine then some (.ok (.obj k), st.set k (.lst (ds ++ es))) else none
    | _ => none)
  | _, _ => none
def mExt (i : Nat) (me : En → M Va) : En → MS := fun ρ st => match ρ[i]? with
  | some (some a) => onE (M.bind (me ρ) (fun v => extO a v) st) ρ fun r st' => some (.nx (ρ.set i (some r)), st')
  | _ => none
theorem sd_ext (i : Nat) {y : Str} {pos' : Pos} (he : ED X x W e me) (hN : X.N.Nodup := by assumption) (hi : X.N[i]? = some y := by rfl) (hx : Loc X.env.scope y := by first | exact Or.inl rfl | exact Or.inr rfl) (hf : X.fn y = true ∨ X.env.scope.names.lookup y = some .local := by first | exact .inl rfl | exact .inr rfl) :
    SD X x W (.AugAssign (.Name y pos') .Add e pos) (mExt i me) := by
  refine SD.of (ps_aug hN hi hx he ip_extR hf) fun Ds σ H μ st ρ ev sv h => ?_
  unfold mExt at h
  split at h
  · rename_i a ha
    obtain ⟨v, hv, av⟩ := ev.here i a ha
    refine ⟨v, hv, μ, st, ρ, ev, sv, Fin.map (fun b st1 μ1 H1 e1 s1 h1 w hw => ?_) (Fin.bind (FinS.onE ev h))⟩
    have av1 := AV.go e1 a av
    unfold extO at h1
    split at h1
    · rename_i k es
      split at h1
      · rename_i ds hk
        split at h1
        · rename_i zl
          obtain ⟨q, rfl, hm, _, xs, hx', dx⟩ := s1.at hk (fun z => nomatch z) av1
          simp only [AV, DV] at hw
          obtain ⟨b', zs, rfl, nb, rb, dz⟩ := hw
          have Ew : Ev μ1 H1 μ1 (upd H1 q (.lst (xs ++ zs))) := Ev.wr s1 hm
          have sv2 := s1.wr (ob := .lst (ds ++ es)) hm ⟨_, upd_same, DVs.append (DVs.go Ew ds dx) (DVs.go Ew es dz)⟩
          refine ⟨q, b', xs, zs, rfl, rfl, hx', rb, by rw [dx.length, dz.length]; exact zl, ?_⟩
          have h2 := h1 μ1 _ Ew sv2
          exact FinS.nx sv2 (((ev.go e1).go Ew).set i (AV.go Ew _ av1)) h2
        · exact h1.elim
      · exact h1.elim
    · exact h1.elim
  · exact h.elim
/-! ### a tuple that the module holds -/
def KTup (K : PySem.W.Frag) (a : Addr) (vs : List V) : Prop := ∃ (o : Obj) (its : Array Value) (n : Nat), K.lookup a = some o ∧ o.cls = .type "tuple" ∧ o.data = .seq its n ∧ its.size ≤ sizeLine ∧ Vals vs its.toList
theorem dvs_strs {S : Ks} {μ : Mu} {H : Hp} : ∀ ss : List Str, DVs S μ H (ss.map D.str) (ss.map V.str)
  | [] => DVs.nil
  | z :: r => DVs.cons (by simp only [DV]) (dvs_strs r)
theorem ed_gstrs {y : Str} {ss : List Str} (hm : ∃ a, X.mg y = some (.ref a) ∧ KTup X.K a (ss.map V.str)) (hg : Gl X y := by rfl) (hd : (y == ("__debug__" : Str)) = false := by decide) : ED X x W (.Name y pos) (mC (.tup (ss.map D.str))) := by
  obtain ⟨a, hm, o, its, n, k1, k2, k3, k4, k5⟩ := hm
  exact ED.of (pe_glob (v := .ref a) hg hm rfl hd) fun σ H Q μ st ρ ev sv h => Fin.pure sv h _ (by simp only [AV, DV]; exact ⟨a, _, rfl, .inr ⟨o, its, n, k1, k2, k3, k4, k5⟩, dvs_strs ss⟩)
end
/-! ### a def that calls itself -/
/-- with no calls left -/
def noneB : En → MS := fun _ _ => none
theorem fn_zero {P : Program} {w : World} {K : PySem.W.Frag} {mg : Str → Option Value} {base : Heap} {y qual : Str} {st : Stmt} {f : Addr} {fd : FuncData} {ps : List Str} {NL n : Nat} (F : Fun K y qual st f fd) (hm : mg y = some (.ref f))
    (hb : ∀ (kV doc pm : Value) (an : Option Addr) (cdv ct : Value) (us : List Value), us.length = ps.length → bindArgs (PySem.W.fnOf y qual (defArgs st) (defBody st) (defScope st) .none kV doc pm an cdv ct) ⟨us, []⟩ = pure (ps.zip us)) : FnD P w K mg base 0 y n (mFn NL n noneB) := by
  have no : ∀ vs H Q E, ¬ spD ⟨K, mg, none⟩ n (mFn NL n noneB) vs H Q E := fun vs H Q E h => by
    obtain ⟨μ, st1, as, sv, av, hl, h⟩ := h
    unfold mFn at h
    split at h <;> exact h
  exact ⟨f, fd, ps, ⟨fun vs H Q E h => absurd h (no _ _ _ _), fun A outer s H args us vs Q E _ _ _ _ _ h => absurd h (no _ _ _ _)⟩, F.binds hb, F.kp, hm⟩
end DL
namespace DL
open PySem PySem.Spec PyProof.Rows L2
theorem FnD.at_ {P : Program} {w : World} {K : PySem.W.Frag} {mg : Str → Option Value} {base : Heap} {k : Nat} {y : Str} {n : Nat} {g : List Va → M Va} (F : FnD P w K mg base k y n g) : ∃ f, mg y = some (.ref f) :=
  let ⟨f, _, _, _, _, _, h⟩ := F
  ⟨f, h⟩
end DL
end

section
set_option Elab.async false
set_option linter.all false
set_option maxRecDepth 100000
set_option maxHeartbeats 4000000
/-! == of texts of any kind; reckoning with comprehensions and with what repr shows. -/
namespace DL
open PySem PySem.Spec PyProof.Rows L2

def opEqA (a b : Va) : M Va := fun st => match a, b with
  | .val (.int i), .val (.int j) => some (.ok (.val (.bl (decide (i = j)))), st)
  | .val (.str i), .val (.str j) => some (.ok (.val (.bl (decide (i = j)))), st)
  | a, b => opEq a b st
def opNeA (a b : Va) : M Va := fun st => match a, b with
  | .val (.int i), .val (.int j) => some (.ok (.val (.bl (!decide (i = j)))), st)
  | .val (.str i), .val (.str j) => some (.ok (.val (.bl (!decide (i = j)))), st)
  | a, b => opNe a b st
section
variable {X : Cx} {x : ExI}
theorem opd_eqA (hu : X.A.units + 64 < cLine) : OpD X x (compareOp .Eq) opEqA := by
  refine OpD.of (op_eq.or (op_eqD hu)) fun E H μ st a b x1 y Q sv ha hb h hE => ?_
  unfold opEqA at h
  split at h
  · have := av_i ha
    have := av_i hb
    subst_vars
    exact .inl ⟨rfl, by simpa using h μ H (Ev.refl _ _) sv _ (by simp only [AV, DV])⟩
  · have := av_s ha
    have := av_s hb
    subst_vars
    exact .inl ⟨rfl, by simpa using h μ H (Ev.refl _ _) sv _ (by simp only [AV, DV])⟩
  · unfold opEq at h
    split at h
    · rename_i d e hd he
      split at h
      · rename_i z
        exact .inr ⟨py d, py e, deref_dp sv hd ha (shD_ok z.1), deref_dp sv he hb (shD_ok z.2), shD_shaped z.1, shD_shaped z.2, h μ H (Ev.refl _ _) sv _ (by simp only [AV, DV])⟩
      · exact h.elim
    · exact h.elim
theorem opd_neA (hu : X.A.units + 64 < cLine) : OpD X x (compareOp .NotEq) opNeA := by
  refine OpD.of (op_ne.or (op_neD hu)) fun E H μ st a b x1 y Q sv ha hb h hE => ?_
  unfold opNeA at h
  split at h
  · have := av_i ha
    have := av_i hb
    subst_vars
    exact .inl ⟨rfl, by simpa using h μ H (Ev.refl _ _) sv _ (by simp only [AV, DV])⟩
  · have := av_s ha
    have := av_s hb
    subst_vars
    exact .inl ⟨rfl, by simpa using h μ H (Ev.refl _ _) sv _ (by simp only [AV, DV])⟩
  · unfold opNe at h
    split at h
    · rename_i d e hd he
      split at h
      · rename_i z
        exact .inr ⟨py d, py e, deref_dp sv hd ha (shD_ok z.1), deref_dp sv he hb (shD_ok z.2), shD_shaped z.1, shD_shaped z.2, h μ H (Ev.refl _ _) sv _ (by simp only [AV, DV])⟩
      · exact h.elim
    · exact h.elim
end
/-! ### rows for simp -/
section
variable {α : Type} {st : Sto}
theorem mulA_int (i j : Int) (st : Sto) (h : smallF i j = true) : opMulA (.val (.int i)) (.val (.int j)) st = some (.ok (.val (.int (i * j))), st) := by
  show (if smallF i j = true then _ else _) = _
  rw [if_pos h]
@[simp] theorem subA_int (i j : Int) (st : Sto) : opSub (.val (.int i)) (.val (.int j)) st = some (.ok (.val (.int (i - j))), st) := rfl
@[simp] theorem ltA_int (i j : Int) (st : Sto) : opLt (.val (.int i)) (.val (.int j)) st = some (.ok (.val (.bl (decide (i < j)))), st) := rfl
@[simp] theorem gtA_int (i j : Int) (st : Sto) : opGt (.val (.int i)) (.val (.int j)) st = some (.ok (.val (.bl (decide (j < i)))), st) := rfl
@[simp] theorem leA_int (i j : Int) (st : Sto) : opLe (.val (.int i)) (.val (.int j)) st = some (.ok (.val (.bl (decide (i ≤ j)))), st) := rfl
@[simp] theorem geA_int (i j : Int) (st : Sto) : opGe (.val (.int i)) (.val (.int j)) st = some (.ok (.val (.bl (decide (j ≤ i)))), st) := rfl
@[simp] theorem eqA_int (i j : Int) (st : Sto) : opEqA (.val (.int i)) (.val (.int j)) st = some (.ok (.val (.bl (decide (i = j)))), st) := rfl
@[simp] theorem neA_int (i j : Int) (st : Sto) : opNeA (.val (.int i)) (.val (.int j)) st = some (.ok (.val (.bl (!decide (i = j)))), st) := rfl
@[simp] theorem eqA_str (i j : Str) (st : Sto) : opEqA (.val (.str i)) (.val (.str j)) st = some (.ok (.val (.bl (decide (i = j)))), st) := rfl
@[simp] theorem neA_str (i j : Str) (st : Sto) : opNeA (.val (.str i)) (.val (.str j)) st = some (.ok (.val (.bl (!decide (i = j)))), st) := rfl
@[simp] theorem mChain_eq (g g' : Va → Va → M Va) (ma mb mc : En → M Va) (ρ : En) (st : Sto) : mChain g g' ma mb mc ρ st = M.bind (ma ρ) (fun a => M.bind (mb ρ) fun b => M.bind (M.bind (calm (g a b)) asBool) fun k => if k = true then M.bind (mc ρ) fun c => calm (g' b c) else M.pure (.val (.bl false))) st := rfl
@[simp] theorem mAnd_eq (ta tb : En → M Bool) (ρ : En) (st : Sto) : mAnd ta tb ρ st = M.bind (ta ρ) (fun b => if b = true then tb ρ else M.pure false) st := rfl
@[simp] theorem mOr_eq (ta tb : En → M Bool) (ρ : En) (st : Sto) : mOr ta tb ρ st = M.bind (ta ρ) (fun b => if b = true then M.pure true else tb ρ) st := rfl
@[simp] theorem mAndV_eq (ma mb : En → M Va) (ρ : En) (st : Sto) : mAndV ma mb ρ st = M.bind (mT ma ρ) (fun b => if b = true then mb ρ else M.pure (.val (.bl false))) st := rfl
@[simp] theorem mOrV_eq (ma mb : En → M Va) (ρ : En) (st : Sto) : mOrV ma mb ρ st = M.bind (mT ma ρ) (fun b => if b = true then M.pure (.val (.bl true)) else mb ρ) st := rfl
@[simp] theorem mNotV_eq (ma : En → M Va) (ρ : En) (st : Sto) : mNotV ma ρ st = M.bind (mT ma ρ) (fun b => M.pure (.val (.bl (!b)))) st := rfl
@[simp] theorem mIsV_eq (t : Ty) (m : En → M Va) (ρ : En) (st : Sto) : mIsV t m ρ st = M.bind (m ρ) (isVa t) st := rfl
@[simp] theorem isVa_val (t : Ty) (d : D) (st : Sto) : isVa t (.val d) st = (match isT t d with | some b => some (.ok (.val (.bl b)), st) | none => none) := by
  show (match isT t d with | some b => (M.pure (.val (.bl b)) : M Va) | none => stuck) st = _
  cases isT t d <;> rfl
@[simp] theorem truth_bl (b : Bool) (st : Sto) : truthA (.val (.bl b)) st = some (.ok b, st) := rfl
@[simp] theorem mSeqI_eq (m : En → M Va) (ρ : En) (st : Sto) : mSeqI m ρ st = M.bind (m ρ) seqOf st := rfl
@[simp] theorem seqOf_lst (ds : List D) (st : Sto) : seqOf (.val (.lst ds)) st = some (.ok ds, st) := rfl
@[simp] theorem seqOf_tup (ds : List D) (st : Sto) : seqOf (.val (.tup ds)) st = some (.ok ds, st) := rfl
@[simp] theorem mYes_eq (ρ : En) (st : Sto) : mYes ρ st = some (.ok true, st) := rfl
@[simp] theorem bTuple_lst (ds : List D) (st : Sto) : bTuple [.val (.lst ds)] st = some (.ok (.val (.tup ds)), st) := rfl
@[simp] theorem bTuple_tup (ds : List D) (st : Sto) : bTuple [.val (.tup ds)] st = some (.ok (.val (.tup ds)), st) := rfl
@[simp] theorem bList_tup (ds : List D) (st : Sto) : bList [.val (.tup ds)] st = some (.ok (.val (.lst ds)), st) := rfl
@[simp] theorem zip_tup (xs ys : List D) (st : Sto) : zipOf [.val (.tup xs), .val (.tup ys)] st = some (.ok (zipD xs ys), st) := rfl
@[simp] theorem mNeg_eq (m : En → M Va) (ρ : En) (st : Sto) : mNeg m ρ st = M.bind (m ρ) negV st := rfl
@[simp] theorem negV_int (i : Int) (st : Sto) : negV (.val (.int i)) st = some (.ok (.val (.int (-i))), st) := rfl
@[simp] theorem mRetN_eq (ρ : En) (st : Sto) : mRetN ρ st = some (.rt (.val .non), st) := rfl
theorem addA_tup (xs ys : List D) (st : Sto) (h : xs.length + ys.length ≤ sizeLine) : opAdd (.val (.tup xs)) (.val (.tup ys)) st = some (.ok (.val (.tup (xs ++ ys))), st) := by
  show (if xs.length + ys.length ≤ sizeLine then _ else _) = _
  rw [if_pos h]
theorem addA_lst (xs ys : List D) (st : Sto) (h : xs.length + ys.length ≤ sizeLine) : opAdd (.val (.lst xs)) (.val (.lst ys)) st = some (.ok (.val (.lst (xs ++ ys))), st) := by
  show (if xs.length + ys.length ≤ sizeLine then _ else _) = _
  rw [if_pos h]
theorem mulA_tup (ds : List D) (k : Int) (st : Sto) (h : 0 ≤ k ∧ k ≤ 1000 ∧ ds.length ≤ 1000) : opMulA (.val (.tup ds)) (.val (.int k)) st = some (.ok (.val (.tup (List.replicate k.toNat ds).flatten)), st) := by
  show (if 0 ≤ k ∧ k ≤ 1000 ∧ ds.length ≤ 1000 then _ else _) = _
  rw [if_pos h]
theorem mulA_lst (ds : List D) (k : Int) (st : Sto) (h : -(2 ^ 63) ≤ k ∧ k < 2 ^ 63 ∧ ds.length * k.toNat ≤ sizeLine) : opMulA (.val (.lst ds)) (.val (.int k)) st = some (.ok (.val (.lst (List.replicate k.toNat ds).flatten)), st) := by
  show (if -(2 ^ 63) ≤ k ∧ k < 2 ^ 63 ∧ ds.length * k.toNat ≤ sizeLine then _ else _) = _
  rw [if_pos h]
theorem mkTup_val (ds : List D) (as : List Va) (st : Sto) (h : vals as = some ds) (hl : ds.length ≤ sizeLine) : mkTup as st = some (.ok (.val (.tup ds)), st) := by
  unfold mkTup
  simp only [h, if_pos hl, pure_eq]
theorem mkLst_val (ds : List D) (as : List Va) (st : Sto) (h : vals as = some ds) (hl : ds.length ≤ sizeLine) : mkLst as st = some (.ok (.val (.lst ds)), st) := by
  unfold mkLst
  simp only [h, if_pos hl, pure_eq]
theorem ix_tup (ds : List D) (i : Int) (d : D) (st : Sto) (h : atI ds i = some d) : opIx (.val (.tup ds)) (.val (.int i)) st = some (.ok (.val d), st) := by
  unfold opIx
  simp only [deref, h]
theorem intsOf_map : ∀ xs : List Int, intsOf (xs.map D.int) = some xs
  | [] => rfl
  | x :: r => by simp only [List.map_cons, intsOf, intsOf_map r, Option.map_some]
theorem blsOf_map : ∀ xs : List Bool, blsOf (xs.map D.bl) = some xs
  | [] => rfl
  | x :: r => by simp only [List.map_cons, blsOf, blsOf_map r, Option.map_some]
@[simp] theorem bAll_map (bs : List Bool) (st : Sto) : bAll [.val (.lst (bs.map .bl))] st = some (.ok (.val (.bl (bs.all id))), st) := by
  unfold bAll
  simp only [deref, blsOf_map]
@[simp] theorem bSum_lst (xs : List Int) (st : Sto) : bSum2 [.val (.lst (xs.map .int))] st = some (.ok (.val (.int xs.sum)), st) := by
  unfold bSum2
  simp only [deref, intsOf_map]
@[simp] theorem bSum_tup (xs : List Int) (st : Sto) : bSum2 [.val (.tup (xs.map .int))] st = some (.ok (.val (.int xs.sum)), st) := by
  unfold bSum2
  simp only [deref, intsOf_map]
@[simp] theorem bAny_tup (xs : List Int) (st : Sto) : bAny2 [.val (.tup (xs.map .int))] st = some (.ok (.val (.bl (xs.any (· != 0)))), st) := by
  unfold bAny2
  simp only [deref, intsOf_map]
@[simp] theorem revOf_lst (ds : List D) (st : Sto) : revOf (.val (.lst ds)) none st = some (.ok (.val (.lst ds.reverse)), st) := rfl
@[simp] theorem revOf_tup (ds : List D) (st : Sto) : revOf (.val (.tup ds)) none st = some (.ok (.val (.tup ds.reverse)), st) := by
  show some (R.ok (Va.val (D.tup (ds.reverse.take (revN none ds.length)))), st) = _
  have : revN none ds.length = ds.reverse.length := by simp [revN]
  rw [this, List.take_length]
@[simp] theorem revOf_tup0 (ds : List D) (st : Sto) : revOf (.val (.tup ds)) (some 0) st = some (.ok (.val (.tup (ds.reverse.take (ds.length - 1)))), st) := rfl
@[simp] theorem mRev_eq (ma : En → M Va) (mh : En → M (Option Int)) (ρ : En) (st : Sto) : mRev ma mh ρ st = M.bind (ma ρ) (fun a => M.bind (mh ρ) fun h => calm (revOf a h)) st := rfl
@[simp] theorem mSlice_eq (ma : En → M Va) (ml mh : En → M (Option Int)) (ρ : En) (st : Sto) : mSlice ma ml mh ρ st = M.bind (ma ρ) (fun a => M.bind (ml ρ) fun l => M.bind (mh ρ) fun h => calm (slOf a l h)) st := rfl
@[simp] theorem slOf_tup (ds : List D) (l h : Option Int) (st : Sto) : slOf (.val (.tup ds)) l h st = some (.ok (.val (.tup (cutD ds l h))), st) := rfl
@[simp] theorem mNoPart_eq (ρ : En) (st : Sto) : mNoPart ρ st = some (.ok none, st) := rfl
@[simp] theorem mPart_eq (m : En → M Va) (ρ : En) (st : Sto) : mPart m ρ st = M.bind (m ρ) asPart st := rfl
@[simp] theorem asPart_int (i : Int) (st : Sto) : asPart (.val (.int i)) st = some (.ok (some i), st) := rfl
/-! ### comprehensions -/
theorem st_get (st : Sto) (o : Ob) : (st ++ [o])[st.length]? = some o := by simp
theorem st_set (st : Sto) (o o' : Ob) : (st ++ [o]).set st.length o' = st ++ [o'] := by simp
theorem st_take (st : Sto) (o : Ob) : (st ++ [o]).take st.length = st := by simp
theorem lcGo_nil {n : Nat} {g : Va → En → Option En} {mt : En → M Bool} {me : En → M Va} {ρ : En} {st : Sto} {acc : List D} (h : st[n]? = some (.lst acc)) : lcGo n g mt me ρ [] st = some (.ok (.val (.lst acc)), st.take n) := by
  show (match st[n]? with | some (.lst acc) => some (R.ok (Va.val (D.lst acc)), st.take n) | _ => none) = _
  rw [h]
theorem bind_of {α β : Type} {m : M α} {f : α → M β} {st st' : Sto} {a : α} (h : m st = some (.ok a, st')) : M.bind m f st = f a st' := by
  rw [bind_eq, h]
theorem calm_of {α : Type} {m : M α} {st st' : Sto} {a : α} (h : m st = some (.ok a, st')) : calm m st = some (.ok a, st') := by
  rw [calm_eq, h]
theorem lcGo_no {n : Nat} {g : Va → En → Option En} {mt : En → M Bool} {me : En → M Va} {ρ ρ2 : En} {st st1 : Sto} {d : D} {r : List D} (h1 : g (.val d) ρ = some ρ2) (h2 : mt ρ2 st = some (.ok false, st1)) : lcGo n g mt me ρ (d :: r) st = lcGo n g mt me ρ r st1 := by
  rw [lcGo.eq_2, h1]
  exact bind_of h2
theorem lcGo_yes {n : Nat} {g : Va → En → Option En} {mt : En → M Bool} {me : En → M Va} {ρ ρ2 : En} {st st1 st3 : Sto} {d y : D} {r acc : List D} (h1 : g (.val d) ρ = some ρ2) (h2 : mt ρ2 st = some (.ok true, st1)) (h3 : me ρ2 st1 = some (.ok (.val y), st3)) (h4 : st3[n]? = some (.lst acc)) (h5 : acc.length < sizeLine) :
    lcGo n g mt me ρ (d :: r) st = lcGo n g mt me ρ r (st3.set n (.lst (acc ++ [y]))) := by
  rw [lcGo.eq_2, h1]
  refine (bind_of h2).trans ((bind_of h3).trans ?_)
  show (match st3[n]? with | some (.lst acc) => if acc.length < sizeLine then lcGo n g mt me ρ r (st3.set n (.lst (acc ++ [y]))) else none | _ => none) = _
  rw [h4]
  exact if_pos h5
theorem mLc_of {it : En → M (List D)} {g : Va → En → Option En} {mt : En → M Bool} {me : En → M Va} {vs : List Nat} {ρ : En} {st st1 st2 : Sto} {ds : List D} {a : Va} (h1 : it ρ st = some (.ok ds, st1)) (h2 : lcGo st1.length g mt me (wipeE ρ vs) ds (st1 ++ [.lst []]) = some (.ok a, st2)) : mLc it g mt me vs ρ st = some (.ok a, st2) :=
  (bind_of h1).trans (calm_of (m := fun st => lcGo st.length g mt me (wipeE ρ vs) ds (st ++ [.lst []])) h2)
theorem lcGo_map (E : α → D) (t : α → Bool) (F : α → D) (g : Va → En → Option En) (mt : En → M Bool) (me : En → M Va) (ρ : En) (st : Sto) : ∀ (zs : List α) (acc : List D),
    (∀ z ∈ zs, ∃ ρ2, g (.val (E z)) ρ = some ρ2 ∧ ∀ ac, mt ρ2 (st ++ [.lst ac]) = some (.ok (t z), st ++ [.lst ac]) ∧ (t z = true → me ρ2 (st ++ [.lst ac]) = some (.ok (.val (F z)), st ++ [.lst ac]))) → acc.length + zs.length ≤ sizeLine →
    lcGo st.length g mt me ρ (zs.map E) (st ++ [.lst acc]) = some (.ok (.val (.lst (acc ++ (zs.filter t).map F))), st)
  | [], acc, _, _ => by
    rw [List.map_nil, lcGo_nil (st_get st _), st_take]
    simp
  | z :: zs, acc, h, hl => by
    obtain ⟨ρ2, e1, h2⟩ := h z (by simp)
    obtain ⟨e2, e3⟩ := h2 acc
    rw [List.map_cons]
    cases ht : t z with
    | false =>
      rw [ht] at e2
      rw [lcGo_no e1 e2, lcGo_map E t F g mt me ρ st zs acc (fun w hw => h w (by simp [hw])) (by simp at hl; omega)]
      simp [List.filter_cons, ht]
    | true =>
      rw [ht] at e2
      have hl' : acc.length < sizeLine := by simp at hl; omega
      rw [lcGo_yes e1 e2 (e3 ht) (st_get st _) hl', st_set, lcGo_map E t F g mt me ρ st zs (acc ++ [F z]) (fun w hw => h w (by simp [hw])) (by simp at hl ⊢; omega)]
      simp [List.filter_cons, ht]
/-- a comprehension that changes nothing -/
theorem lc_filter {it : En → M (List D)} {g : Va → En → Option En} {mt : En → M Bool} {me : En → M Va} {vs : List Nat} {ρ : En} (st : Sto) (zs : List α) (E : α → D) (t : α → Bool) (F : α → D) (hit : it ρ st = some (.ok (zs.map E), st)) (hl : zs.length ≤ sizeLine)
    (h : ∀ z ∈ zs, ∃ ρ2, g (.val (E z)) (wipeE ρ vs) = some ρ2 ∧ ∀ ac, mt ρ2 (st ++ [.lst ac]) = some (.ok (t z), st ++ [.lst ac]) ∧ (t z = true → me ρ2 (st ++ [.lst ac]) = some (.ok (.val (F z)), st ++ [.lst ac]))) :
    mLc it g mt me vs ρ st = some (.ok (.val (.lst ((zs.filter t).map F))), st) := by
  have e := lcGo_map E t F g mt me _ st zs [] h (by simpa using hl)
  rw [List.nil_append] at e
  exact mLc_of hit e
theorem lc_map {it : En → M (List D)} {g : Va → En → Option En} {me : En → M Va} {vs : List Nat} {ρ : En} (st : Sto) (zs : List α) (E : α → D) (F : α → D) (hit : it ρ st = some (.ok (zs.map E), st)) (hl : zs.length ≤ sizeLine)
    (h : ∀ z ∈ zs, ∃ ρ2, g (.val (E z)) (wipeE ρ vs) = some ρ2 ∧ ∀ ac, me ρ2 (st ++ [.lst ac]) = some (.ok (.val (F z)), st ++ [.lst ac])) :
    mLc it g mYes me vs ρ st = some (.ok (.val (.lst (zs.map F))), st) := by
  have := lc_filter (mt := mYes) st zs E (fun _ => true) F hit hl fun z hz => by
    obtain ⟨ρ2, e, h2⟩ := h z hz
    exact ⟨ρ2, e, fun ac => ⟨rfl, fun _ => h2 ac⟩⟩
  rw [this, List.filter_eq_self.mpr (by simp)]
/-- a comprehension that draws: the place stands first in the store -/
theorem lcGo_take {g : Va → En → Option En} {me : En → M Va} {ρ : En} (P : D → Prop) (tl : Sto) : ∀ (ds acc : List D) (p : Int),
    (∀ d ∈ ds, ∃ ρ2, g (.val d) ρ = some ρ2 ∧ ∀ p, 0 ≤ p → ∀ ac, ∃ y p', 0 ≤ p' ∧ P y ∧ me ρ2 (Ob.lst [.int p] :: (tl ++ [.lst ac])) = some (.ok (.val y), Ob.lst [.int p'] :: (tl ++ [.lst ac]))) → 0 ≤ p → (∀ y ∈ acc, P y) → acc.length + ds.length ≤ sizeLine →
    ∃ ys p', 0 ≤ p' ∧ ys.length = acc.length + ds.length ∧ (∀ y ∈ ys, P y) ∧ lcGo (tl.length + 1) g mYes me ρ ds (Ob.lst [.int p] :: (tl ++ [.lst acc])) = some (.ok (.val (.lst ys)), Ob.lst [.int p'] :: tl)
  | [], acc, p, _, h0, ha, _ => ⟨acc, p, h0, by simp, ha, by
      rw [lcGo_nil (by rw [List.getElem?_cons_succ, st_get])]
      simp⟩
  | d :: ds, acc, p, h, h0, ha, hl => by
    obtain ⟨ρ2, e1, h2⟩ := h d (by simp)
    obtain ⟨y, p1, hp1, hy, e2⟩ := h2 p h0 acc
    obtain ⟨ys, p', k0, k1, k2, k3⟩ := lcGo_take (g := g) (me := me) (ρ := ρ) P tl ds (acc ++ [y]) p1 (fun w hw => h w (by simp [hw])) hp1 (fun z hz => by
      rcases List.mem_append.mp hz with q | q
      · exact ha z q
      · rw [List.mem_singleton.mp q]; exact hy) (by simp at hl ⊢; omega)
    refine ⟨ys, p', k0, by rw [k1]; simp; omega, k2, ?_⟩
    have hl' : acc.length < sizeLine := by simp at hl; omega
    rw [lcGo_yes (acc := acc) e1 (mYes_eq _ _) e2 (by rw [List.getElem?_cons_succ, st_get]) hl', List.set_cons_succ, st_set]
    exact k3
theorem lc_take {it : En → M (List D)} {g : Va → En → Option En} {me : En → M Va} {vs : List Nat} {ρ : En} (P : D → Prop) (tl : Sto) (ds : List D) (p : Int) (hit : it ρ (Ob.lst [.int p] :: tl) = some (.ok ds, Ob.lst [.int p] :: tl)) (h0 : 0 ≤ p) (hl : ds.length ≤ sizeLine)
    (h : ∀ d ∈ ds, ∃ ρ2, g (.val d) (wipeE ρ vs) = some ρ2 ∧ ∀ p, 0 ≤ p → ∀ ac, ∃ y p', 0 ≤ p' ∧ P y ∧ me ρ2 (Ob.lst [.int p] :: (tl ++ [.lst ac])) = some (.ok (.val y), Ob.lst [.int p'] :: (tl ++ [.lst ac]))) :
    ∃ ys p', 0 ≤ p' ∧ ys.length = ds.length ∧ (∀ y ∈ ys, P y) ∧ mLc it g mYes me vs ρ (Ob.lst [.int p] :: tl) = some (.ok (.val (.lst ys)), Ob.lst [.int p'] :: tl) := by
  obtain ⟨ys, p', k0, k1, k2, k3⟩ := lcGo_take P tl ds [] p h h0 (by simp) (by simpa using hl)
  exact ⟨ys, p', k0, by simpa using k1, k2, mLc_of hit k3⟩
end
end DL
end

section
set_option Elab.async false
set_option linter.all false
set_option maxRecDepth 100000
set_option maxHeartbeats 4000000
/-! What repr of small data shows. -/
namespace DL
open PySem PySem.Spec PyProof.Rows L2
mutual
/-- no texts, no great numbers -/
def smD : D → Bool
  | .non => true | .bl _ => true | .int i => decide (i.natAbs < 10 ^ 7) | .str _ => false | .tup xs => smDs xs | .lst xs => smDs xs | .glo _ => false
def smDs : List D → Bool
  | [] => true
  | d :: r => smD d && smDs r
end
mutual
def wtD : D → Nat
  | .int _ => 24 | .tup xs => wtDs xs | .lst xs => wtDs xs | _ => 0
def wtDs : List D → Nat
  | [] => 0
  | d :: r => wtD d + 1 + wtDs r
end
theorem log2_small {n : Nat} (h : n < 10 ^ 7) : n.log2 < 24 := by
  by_cases h0 : n = 0
  · subst h0; decide
  · exact (Nat.log2_lt h0).mpr (Nat.lt_of_lt_of_le h (by decide))
theorem int_short {i : Int} (h : i.natAbs < 10 ^ 7) : (Str.ofString (toString i)).length ≤ 8 := by
  have e := int_text_length_le10 (k := 7) (by decide) h
  rw [PySem.ofString_length]
  exact e
mutual
theorem sm_ok : ∀ {d : D}, smD d = true → okD d = true ∧ (py d).showable = true ∧ (py d).leavesShort 8 = true ∧ (py d).weight ≤ wtD d
  | .non, h => ⟨rfl, rfl, rfl, Nat.le_refl _⟩
  | .bl _, h => ⟨rfl, rfl, rfl, Nat.le_refl _⟩
  | .int i, h => by
    simp only [smD, decide_eq_true_eq] at h
    refine ⟨rfl, ?_, ?_, ?_⟩
    · simp only [py, PyData.showable, decide_eq_true_eq]
      have := log2_small h
      omega
    · simp only [py, PyData.leavesShort, PyData.shown]
      exact decide_eq_true (int_short h)
    · simp only [py, PyData.weight, wtD]
      have := log2_small h
      split <;> omega
  | .str _, h => by simp [smD] at h
  | .tup xs, h => by
    simp only [smD] at h
    obtain ⟨a, b, c, d⟩ := sms_ok h
    exact ⟨by simpa only [okD] using a, by simpa only [py, PyData.showable] using b, by simpa only [py, PyData.leavesShort] using c, by simpa only [py, PyData.weight, wtD] using d⟩
  | .lst xs, h => by
    simp only [smD] at h
    obtain ⟨a, b, c, d⟩ := sms_ok h
    exact ⟨by simpa only [okD] using a, by simpa only [py, PyData.showable] using b, by simpa only [py, PyData.leavesShort] using c, by simpa only [py, PyData.weight, wtD] using d⟩
  | .glo _, h => by simp [smD] at h
theorem sms_ok : ∀ {ds : List D}, smDs ds = true → okDs ds = true ∧ PyData.showableAll (pys ds) = true ∧ PyData.leavesShortAll 8 (pys ds) = true ∧ PyData.weightAll (pys ds) ≤ wtDs ds
  | [], _ => ⟨rfl, rfl, rfl, Nat.le_refl _⟩
  | d :: r, h => by
    simp only [smDs, Bool.and_eq_true] at h
    obtain ⟨a, b, c, e⟩ := sm_ok h.1
    obtain ⟨a2, b2, c2, e2⟩ := sms_ok h.2
    refine ⟨by simp only [okDs, a, a2, Bool.and_self], by simp only [pys, PyData.showableAll, b, b2, Bool.and_self], by simp only [pys, PyData.leavesShortAll, c, c2, Bool.and_self], ?_⟩
    simp only [pys, PyData.weightAll, wtDs]
    omega
end
/-- small, at most n deep, at most of weight b -/
def Ok (n b : Nat) (d : D) : Prop := smD d = true ∧ depD d ≤ n ∧ wtD d ≤ b
theorem Ok.le {n b n' b' : Nat} {d : D} (h : Ok n b d) (h1 : n ≤ n') (h2 : b ≤ b') : Ok n' b' d := ⟨h.1, Nat.le_trans h.2.1 h1, Nat.le_trans h.2.2 h2⟩
theorem ok_int {i : Int} (h : i.natAbs < 10 ^ 7) : Ok 0 24 (.int i) := ⟨by simpa [smD] using h, Nat.le_refl _, Nat.le_refl _⟩
theorem ok_bl (b : Bool) : Ok 0 0 (.bl b) := ⟨rfl, Nat.le_refl _, Nat.le_refl _⟩
theorem ok_non : Ok 0 0 .non := ⟨rfl, Nat.le_refl _, Nat.le_refl _⟩
theorem oks {n b : Nat} : ∀ {ds : List D}, (∀ d ∈ ds, Ok n b d) → smDs ds = true ∧ depDs ds ≤ n ∧ wtDs ds ≤ ds.length * (b + 1)
  | [], _ => ⟨rfl, Nat.zero_le _, Nat.zero_le _⟩
  | d :: r, h => by
    obtain ⟨a1, a2, a3⟩ := h d (by simp)
    obtain ⟨b1, b2, b3⟩ := oks (ds := r) fun e he => h e (by simp [he])
    refine ⟨by simp only [smDs, a1, b1, Bool.and_self], by simp only [depDs]; omega, ?_⟩
    simp only [wtDs, List.length_cons, Nat.add_mul]
    omega
theorem ok_tup {n b m : Nat} {ds : List D} (h : ∀ d ∈ ds, Ok n b d) (hl : ds.length ≤ m) : Ok (n + 1) (m * (b + 1)) (.tup ds) := by
  obtain ⟨a1, a2, a3⟩ := oks h
  have := Nat.mul_le_mul_right (b + 1) hl
  exact ⟨by simpa only [smD] using a1, by simp only [depD]; omega, by simp only [wtD]; omega⟩
theorem ok_lst {n b m : Nat} {ds : List D} (h : ∀ d ∈ ds, Ok n b d) (hl : ds.length ≤ m) : Ok (n + 1) (m * (b + 1)) (.lst ds) := by
  obtain ⟨a1, a2, a3⟩ := oks h
  have := Nat.mul_le_mul_right (b + 1) hl
  exact ⟨by simpa only [smD] using a1, by simp only [depD]; omega, by simp only [wtD]; omega⟩
theorem ok_sh {n b : Nat} {d : D} (h : Ok n b d) (hn : n ≤ 64) : shD d = true := by
  obtain ⟨a, b, c, e⟩ := sm_ok h.1
  simp only [shD, a, Bool.true_and, decide_eq_true_eq]
  exact Nat.le_trans h.2.1 hn
theorem ok_repr {n b : Nat} {d : D} (h : Ok n b d) (hn : n ≤ 64) (hb : b ≤ 1000000) (hs : isSeqD d = true) (st : Sto) : bRepr [.val d] st = some (.ok (.val (.str (py d).shown)), st) := by
  obtain ⟨a, b', c, e⟩ := sm_ok h.1
  have h2 := PyData.shown_le 8 (by decide) (py d) c
  have h3 := h.2.2
  have ok : okR d = true := by
    simp only [okR, ok_sh h hn, hs, b', Bool.and_self, Bool.true_and, decide_eq_true_eq]
    rw [sizeLine_eq]
    omega
  unfold bRepr
  simp only [deref, ok, if_true]
theorem ok_int_tup {m : Nat} {xs : List Int} (h : ∀ x ∈ xs, x.natAbs < 10 ^ 7) (hl : xs.length ≤ m) : Ok 1 (m * 25) (.tup (xs.map .int)) :=
  ok_tup (n := 0) (b := 24) (fun d hd => by obtain ⟨x, hx, rfl⟩ := List.mem_map.mp hd; exact ok_int (h x hx)) (by simpa using hl)
end DL
end

section
set_option Elab.async false
set_option linter.all false
set_option maxRecDepth 100000
set_option maxHeartbeats 1000000
/-! Step by step: each form's value from its parts' values. -/
namespace DL
open PySem PySem.Spec PyProof.Rows L2
section
variable {α : Type} {ρ ρ' : En} {st st1 st2 st3 st4 : Sto} {i j : Nat} {a b c v : Va} {as r : List Va} {m ma mb mc : En → M Va} {ms mr : En → M (List Va)} {d : D}
theorem var_of (h : ρ[i]? = some (some a)) : mVar i ρ st = some (.ok a, st) := by
  unfold mVar
  rw [h]; rfl
theorem c_of : mC d ρ st = some (.ok (.val d), st) := rfl
theorem nil_of : mNil ρ st = some (.ok [], st) := rfl
theorem cons_of (h1 : ma ρ st = some (.ok a, st1)) (h2 : mr ρ st1 = some (.ok r, st2)) : mCons ma mr ρ st = some (.ok (a :: r), st2) := (bind_of h1).trans (bind_of h2)
theorem call_of {g : List Va → M Va} {res : Option (R Va × Sto)} (h1 : ms ρ st = some (.ok as, st1)) (h2 : g as st1 = res) : mCall g ms ρ st = res := (bind_of h1).trans h2
theorem blt_of {g : List Va → M Va} (h1 : ms ρ st = some (.ok as, st1)) (h2 : g as st1 = some (.ok v, st2)) : mBlt g ms ρ st = some (.ok v, st2) := (bind_of h1).trans (calm_of h2)
theorem argI_of {f : List Va → M (List D)} {res : Option (R (List D) × Sto)} (h1 : ms ρ st = some (.ok as, st1)) (h2 : f as st1 = res) : mArgI f ms ρ st = res := (bind_of h1).trans h2
theorem seqI_of {res : Option (R (List D) × Sto)} (h1 : m ρ st = some (.ok a, st1)) (h2 : seqOf a st1 = res) : mSeqI m ρ st = res := (bind_of h1).trans h2
theorem bin_of {f : Va → Va → M Va} {res : Option (R Va × Sto)} (h1 : ma ρ st = some (.ok a, st1)) (h2 : mb ρ st1 = some (.ok b, st2)) (h3 : f a b st2 = res) : mBin f ma mb ρ st = res := (bind_of h1).trans ((bind_of h2).trans h3)
theorem op_of {f : Va → Va → M Va} (h1 : ma ρ st = some (.ok a, st1)) (h2 : mb ρ st1 = some (.ok b, st2)) (h3 : f a b st2 = some (.ok v, st3)) : mBin (fun a b => calm (f a b)) ma mb ρ st = some (.ok v, st3) := bin_of h1 h2 (calm_of h3)
theorem tup_of (h1 : ms ρ st = some (.ok as, st1)) (h2 : mkTup as st1 = some (.ok v, st2)) : mTup ms ρ st = some (.ok v, st2) := (bind_of h1).trans h2
theorem lst_of (h1 : ms ρ st = some (.ok as, st1)) (h2 : mkLst as st1 = some (.ok v, st2)) : mLst ms ρ st = some (.ok v, st2) := (bind_of h1).trans h2
theorem obj_of (h1 : ms ρ st = some (.ok as, st1)) (h2 : mkObj as st1 = some (.ok v, st2)) : mObj ms ρ st = some (.ok v, st2) := (bind_of h1).trans h2
theorem neg_of (h1 : m ρ st = some (.ok (.val (.int k)), st1)) : mNeg m ρ st = some (.ok (.val (.int (-k))), st1) := (bind_of h1).trans rfl
theorem T_of {b : Bool} (h1 : m ρ st = some (.ok (.val (.bl b)), st1)) : mT m ρ st = some (.ok b, st1) := (bind_of h1).trans rfl
theorem not_of {mt : En → M Bool} {b : Bool} (h1 : mt ρ st = some (.ok b, st1)) : mNot mt ρ st = some (.ok (!b), st1) := (bind_of h1).trans rfl
theorem notV_of {b : Bool} (h1 : m ρ st = some (.ok (.val (.bl b)), st1)) : mNotV m ρ st = some (.ok (.val (.bl (!b))), st1) := (bind_of (T_of h1)).trans rfl
theorem if_t {mt : En → M Bool} {res : Option (R Va × Sto)} (h1 : mt ρ st = some (.ok true, st1)) (h2 : ma ρ st1 = res) : mIf mt ma mb ρ st = res := (bind_of h1).trans h2
theorem if_f {mt : En → M Bool} {res : Option (R Va × Sto)} (h1 : mt ρ st = some (.ok false, st1)) (h2 : mb ρ st1 = res) : mIf mt ma mb ρ st = res := (bind_of h1).trans h2
theorem andV_f (h1 : ma ρ st = some (.ok (.val (.bl false)), st1)) : mAndV ma mb ρ st = some (.ok (.val (.bl false)), st1) := (bind_of (T_of h1)).trans rfl
theorem andV_t {res : Option (R Va × Sto)} (h1 : ma ρ st = some (.ok (.val (.bl true)), st1)) (h2 : mb ρ st1 = res) : mAndV ma mb ρ st = res := (bind_of (T_of h1)).trans h2
theorem orV_t (h1 : ma ρ st = some (.ok (.val (.bl true)), st1)) : mOrV ma mb ρ st = some (.ok (.val (.bl true)), st1) := (bind_of (T_of h1)).trans rfl
theorem orV_f {res : Option (R Va × Sto)} (h1 : ma ρ st = some (.ok (.val (.bl false)), st1)) (h2 : mb ρ st1 = res) : mOrV ma mb ρ st = res := (bind_of (T_of h1)).trans h2
/-- of two booleans that draw nothing -/
theorem orV_of {p q : Bool} (h1 : ma ρ st = some (.ok (.val (.bl p)), st)) (h2 : mb ρ st = some (.ok (.val (.bl q)), st)) : mOrV ma mb ρ st = some (.ok (.val (.bl (p || q))), st) := by
  cases p
  · exact orV_f h1 h2
  · exact orV_t h1
theorem andV_of {p q : Bool} (h1 : ma ρ st = some (.ok (.val (.bl p)), st)) (h2 : mb ρ st = some (.ok (.val (.bl q)), st)) : mAndV ma mb ρ st = some (.ok (.val (.bl (p && q))), st) := by
  cases p
  · exact andV_f h1
  · exact andV_t h1 h2
theorem isV_of {t : Ty} {b : Bool} (h1 : m ρ st = some (.ok (.val d), st1)) (h2 : isT t d = some b) : mIsV t m ρ st = some (.ok (.val (.bl b)), st1) := (bind_of h1).trans (by rw [isVa_val, h2])
theorem lz_of (h1 : ms ρ st = some (.ok as, st1)) (h2 : lzOf as st1 = some (.ok v, st2)) : mLz ms ρ st = some (.ok v, st2) := (bind_of h1).trans h2
theorem part_of {mi : En → M Va} {k : Int} (h1 : mi ρ st = some (.ok (.val (.int k)), st1)) : mPart mi ρ st = some (.ok (some k), st1) := (bind_of h1).trans rfl
theorem nopart_of : mNoPart ρ st = some (.ok none, st) := rfl
theorem slice_of {ml mh : En → M (Option Int)} {l h : Option Int} (h1 : ma ρ st = some (.ok a, st1)) (h2 : ml ρ st1 = some (.ok l, st2)) (h3 : mh ρ st2 = some (.ok h, st3)) (h4 : slOf a l h st3 = some (.ok v, st4)) : mSlice ma ml mh ρ st = some (.ok v, st4) :=
  (bind_of h1).trans ((bind_of h2).trans ((bind_of h3).trans (calm_of h4)))
theorem rev_of {mh : En → M (Option Int)} {h : Option Int} (h1 : ma ρ st = some (.ok a, st1)) (h3 : mh ρ st1 = some (.ok h, st2)) (h4 : revOf a h st2 = some (.ok v, st3)) : mRev ma mh ρ st = some (.ok v, st3) :=
  (bind_of h1).trans ((bind_of h3).trans (calm_of h4))
/-! ### statements -/
theorem set_of (h : m ρ st = some (.ok a, st1)) : mSet i m ρ st = some (.nx (ρ.set i (some a)), st1) := by rw [mSet_eq, h]; rfl
theorem expr_of (h : m ρ st = some (.ok a, st1)) : mExpr m ρ st = some (.nx ρ, st1) := by rw [mExpr_eq, h]; rfl
theorem ret_of (h : m ρ st = some (.ok a, st1)) : mRet m ρ st = some (.rt a, st1) := by rw [mRet_eq, h]; rfl
theorem asg_of {g : Va → En → Option En} (h : m ρ st = some (.ok a, st1)) (h2 : g a ρ = some ρ') : mAsg g m ρ st = some (.nx ρ', st1) := by
  unfold mAsg
  rw [h]
  simp only [onE_ok, h2]
theorem ifs_t {mt : En → M Bool} {x y : En → MS} {res : Option (Fl × Sto)} (h : mt ρ st = some (.ok true, st1)) (h2 : x ρ st1 = res) : mIfS mt x y ρ st = res := by rw [mIfS_eq, h]; exact h2
theorem ifs_f {mt : En → M Bool} {x y : En → MS} {res : Option (Fl × Sto)} (h : mt ρ st = some (.ok false, st1)) (h2 : y ρ st1 = res) : mIfS mt x y ρ st = res := by rw [mIfS_eq, h]; exact h2
theorem for_of {it : En → M (List D)} {g : Va → En → Option En} {body : En → MS} {ds : List D} {res : Option (Fl × Sto)} (h : it ρ st = some (.ok ds, st1)) (h2 : forGo g body ds ρ st1 = res) : mFor it g body ρ st = res := by rw [mFor_eq, h]; exact h2
theorem snx {m1 m2 : En → MS} {res : Option (Fl × Sto)} (h : m1 ρ st = some (.nx ρ', st1)) (h2 : m2 ρ' st1 = res) : mSeq m1 m2 ρ st = res := by rw [mSeq_eq, h]; exact h2
theorem srt {m1 m2 : En → MS} (h : m1 ρ st = some (.rt a, st1)) : mSeq m1 m2 ρ st = some (.rt a, st1) := by rw [mSeq_eq, h]
/-! ### slots -/
theorem get_ne {y : Option (Option Va)} {x : Option Va} (h : ρ[j]? = y) (hn : i ≠ j) : (ρ.set i x)[j]? = y := by rw [List.getElem?_set_ne hn]; exact h
theorem get_eq {x : Option Va} (h : i < ρ.length) : (ρ.set i x)[i]? = some x := by rw [List.getElem?_set_self h]
theorem wipe_length : ∀ (vs : List Nat), (wipeE ρ vs).length = ρ.length
  | [] => rfl
  | v :: vs => by
    show ((wipeE ρ vs).set v none).length = _
    rw [List.length_set, wipe_length vs]
theorem get_wipe {y : Option (Option Va)} (h : ρ[j]? = y) : ∀ {vs : List Nat}, (∀ v ∈ vs, v ≠ j) → (wipeE ρ vs)[j]? = y
  | [], _ => h
  | v :: vs, hn => get_ne (get_wipe h fun w hw => hn w (by simp [hw])) (hn v (by simp))
/-! ### repr of alike lists -/
theorem ne_repr {x y : En → M Va} {s : Str} (h1 : mBlt bRepr (mCons x mNil) ρ st = some (.ok (.val (.str s)), st1)) (h2 : mBlt bRepr (mCons y mNil) ρ st1 = some (.ok (.val (.str s)), st2)) :
    mT (mBin (fun a b => calm (opNeA a b)) (mBlt bRepr (mCons x mNil)) (mBlt bRepr (mCons y mNil))) ρ st = some (.ok false, st2) :=
  T_of (op_of h1 h2 (by rw [neA_str, decide_eq_true rfl]; rfl))
end
end DL
end

section
set_option Elab.async false
set_option linter.all false
set_option maxRecDepth 100000
set_option maxHeartbeats 8000000
namespace K30
open PySem PySem.Spec PyProof.Rows L2 L2H DL
def top (i : Nat) : Stmt := PySem.Challenge.pw_manyunknowns_k30_whole_powers_and_orders.main.body.getD i (.Pass ⟨0, 0, 0, 0⟩)
theorem boot_abs : bootBuiltins "abs" = some (.builtin "abs") := by decide +kernel
theorem boot_all : bootBuiltins "all" = some (.builtin "all") := by decide +kernel
theorem boot_any : bootBuiltins "any" = some (.builtin "any") := by decide +kernel
theorem boot_bool : bootBuiltins "bool" = some (.type "bool") := by decide +kernel
theorem boot_enumerate : bootBuiltins "enumerate" = some (.type "enumerate") := by decide +kernel
theorem boot_int : bootBuiltins "int" = some (.type "int") := by decide +kernel
theorem boot_isinstance : bootBuiltins "isinstance" = some (.builtin "isinstance") := by decide +kernel
theorem boot_len : bootBuiltins "len" = some (.builtin "len") := by decide +kernel
theorem boot_list : bootBuiltins "list" = some (.type "list") := by decide +kernel
theorem boot_max : bootBuiltins "max" = some (.builtin "max") := by decide +kernel
theorem boot_min : bootBuiltins "min" = some (.builtin "min") := by decide +kernel
theorem boot_range : bootBuiltins "range" = some (.type "range") := by decide +kernel
theorem boot_repr : bootBuiltins "repr" = some (.builtin "repr") := by decide +kernel
theorem boot_sorted : bootBuiltins "sorted" = some (.builtin "sorted") := by decide +kernel
theorem boot_str : bootBuiltins "str" = some (.type "str") := by decide +kernel
theorem boot_sum : bootBuiltins "sum" = some (.builtin "sum") := by decide +kernel
theorem boot_tuple : bootBuiltins "tuple" = some (.type "tuple") := by decide +kernel
theorem boot_zip : bootBuiltins "zip" = some (.type "zip") := by decide +kernel
def tbl : SubT := [((("ArgumentError" : Str), ("ArgumentError" : Str)), true), ((("ArgumentError" : Str), ("IdealError" : Str)), true), ((("ArgumentError" : Str), ("ReasonError" : Str)), true), ((("ArgumentError" : Str), ("ValueError" : Str)), true)]
def owns : List Str := ["ArgumentError", "IdealError", "ReasonError"]
def sub : Str → Str → Option Bool := subOf tbl
/-- what the module's names hold -/
structure Txt (K : PySem.W.Frag) (mg : Str → Option Value) : Prop where
  b_abs : mg "abs" = none
  b_all : mg "all" = none
  b_any : mg "any" = none
  b_bool : mg "bool" = none
  b_enumerate : mg "enumerate" = none
  b_int : mg "int" = none
  b_isinstance : mg "isinstance" = none
  b_len : mg "len" = none
  b_list : mg "list" = none
  b_max : mg "max" = none
  b_min : mg "min" = none
  b_range : mg "range" = none
  b_repr : mg "repr" = none
  b_sorted : mg "sorted" = none
  b_str : mg "str" = none
  b_sum : mg "sum" = none
  b_tuple : mg "tuple" = none
  b_zip : mg "zip" = none
  c_MAX_NUMBER : ∃ t, mg "MAX_NUMBER" = some (.int 1000000 t)
  c_MAX_POWER : ∃ t, mg "MAX_POWER" = some (.int 30 t)
  c_MAX_UNKNOWNS : ∃ t, mg "MAX_UNKNOWNS" = some (.int 4 t)
  c_WORDS : ∃ a, mg "WORDS" = some (.ref a) ∧ KTup K a ((["plain", "degree", "back"] : List Str).map V.str)
section
variable {P : Program} {w : World} {K : PySem.W.Frag} {mg : Str → Option Value} {base : Heap}
abbrev st_is_integer : Stmt := top 1
def m_is_integer : En → MS :=
  (mRet (mAndV (mIsV .int (mVar 0)) (mNotV (mIsV .bool (mVar 0)))))
def g_is_integer : List Va → M Va := mFn 1 1 m_is_integer
theorem sc_is_integer : FnScope ["value"] ["value"] (defScope st_is_integer) := ⟨rfl, rfl, rfl, by decide +kernel, rfl, by decide +kernel, by decide +kernel⟩
theorem ok_is_integer {f : Addr} {fd : FuncData} (T : Txt K mg) (F : Fun K "is_integer" "is_integer" st_is_integer f fd) (hm : mg "is_integer" = some (.ref f))   : FnD P w K mg base 1 "is_integer" 1 (mFn 1 1 m_is_integer) := by
  refine fn_d (N := ["value"]) (ps := ["value"]) F sc_is_integer hm rfl (fun _ _ _ _ _ _ us hl => match us, hl with | [_], _ => rfl) (fun cdv A outer s H E hr hG => ?_)
  have tk : Takes (cxOf (L2.CX P w) P w K mg base ["value"] "is_integer" (defScope st_is_integer) f cdv A outer s H E) (fun c d _ H => E c d H) := takes_of rfl rfl rfl rfl
  have hp : PassesOwn (model P w) (cxOf (L2.CX P w) P w K mg base ["value"] "is_integer" (defScope st_is_integer) f cdv A outer s H E).A (cxOf (L2.CX P w) P w K mg base ["value"] "is_integer" (defScope st_is_integer) f cdv A outer s H E).env (cxOf (L2.CX P w) P w K mg base ["value"] "is_integer" (defScope st_is_integer) f cdv A outer s H E).xe := passes_of rfl
  have hN : (cxOf (L2.CX P w) P w K mg base ["value"] "is_integer" (defScope st_is_integer) f cdv A outer s H E).N.Nodup := sc_is_integer.nd
  have hu := Nat.lt_of_le_of_lt (Nat.add_le_add_left (by decide : 64 ≤ 16 * 0 + 200) _) (hr.mono (Nat.zero_le _)).un
  have hu1 := Nat.lt_of_le_of_lt (Nat.add_le_add_left (by decide : 65 ≤ 16 * 0 + 200) _) (hr.mono (Nat.zero_le _)).un
  have hu2 := Nat.lt_of_le_of_lt (Nat.add_le_add_left (by decide : 66 ≤ 16 * 0 + 200) _) (hr.mono (Nat.zero_le _)).un
  exact (sds_one (sd_ret (ed_and (ed_isV .int (clsN_ty T.b_int boot_int) T.b_isinstance (ed_var 0)) (ed_one (ed_not (ed_isV .bool (clsN_ty T.b_bool boot_bool) T.b_isinstance (ed_var 0)))))))
abbrev st_in_range : Stmt := top 2
def m_in_range : En → MS :=
  (mRet (mAndV (mCall g_is_integer (mCons (mVar 0) mNil)) (mChain opLe opLe (mVar 1) (mVar 0) (mVar 2))))
def g_in_range : List Va → M Va := mFn 3 3 m_in_range
theorem sc_in_range : FnScope ["value", "least", "most"] ["value", "least", "most"] (defScope st_in_range) := ⟨rfl, rfl, rfl, by decide +kernel, rfl, by decide +kernel, by decide +kernel⟩
theorem ok_in_range {f : Addr} {fd : FuncData} (T : Txt K mg) (F : Fun K "in_range" "in_range" st_in_range f fd) (hm : mg "in_range" = some (.ref f)) (F_is_integer : FnD P w K mg base 1 "is_integer" 1 (mFn 1 1 m_is_integer))  : FnD P w K mg base 2 "in_range" 3 (mFn 3 3 m_in_range) := by
  refine fn_d (N := ["value", "least", "most"]) (ps := ["value", "least", "most"]) F sc_in_range hm rfl (fun _ _ _ _ _ _ us hl => match us, hl with | [_, _, _], _ => rfl) (fun cdv A outer s H E hr hG => ?_)
  have tk : Takes (cxOf (L2.CX P w) P w K mg base ["value", "least", "most"] "in_range" (defScope st_in_range) f cdv A outer s H E) (fun c d _ H => E c d H) := takes_of rfl rfl rfl rfl
  have hp : PassesOwn (model P w) (cxOf (L2.CX P w) P w K mg base ["value", "least", "most"] "in_range" (defScope st_in_range) f cdv A outer s H E).A (cxOf (L2.CX P w) P w K mg base ["value", "least", "most"] "in_range" (defScope st_in_range) f cdv A outer s H E).env (cxOf (L2.CX P w) P w K mg base ["value", "least", "most"] "in_range" (defScope st_in_range) f cdv A outer s H E).xe := passes_of rfl
  have hN : (cxOf (L2.CX P w) P w K mg base ["value", "least", "most"] "in_range" (defScope st_in_range) f cdv A outer s H E).N.Nodup := sc_in_range.nd
  have hu := Nat.lt_of_le_of_lt (Nat.add_le_add_left (by decide : 64 ≤ 16 * 0 + 200) _) (hr.mono (Nat.zero_le _)).un
  have hu1 := Nat.lt_of_le_of_lt (Nat.add_le_add_left (by decide : 65 ≤ 16 * 0 + 200) _) (hr.mono (Nat.zero_le _)).un
  have hu2 := Nat.lt_of_le_of_lt (Nat.add_le_add_left (by decide : 66 ≤ 16 * 0 + 200) _) (hr.mono (Nat.zero_le _)).un
  exact (sds_one (sd_ret (ed_and (ed_call (F_is_integer) (hr.mono (by decide)) hG tk (ad_cons (ed_var 0) ad_nil)) (ed_one (ed_chain (opd_leA hu) (opd_leA hu) (ed_var 1) (ed_var 0) (ed_var 2))))))
abbrev st_demand_count : Stmt := top 12
def m_demand_count : En → MS :=
  (mIfS (mNot (mT (mCall g_in_range (mCons (mVar 0) (mCons (mC (.int 1)) (mCons (mC (.int 4)) mNil)))))) (mRaise "ArgumentError" ["reason"] (mCons (mC (.str "count")) mNil)) mNx)
def g_demand_count : List Va → M Va := mFn 1 1 m_demand_count
theorem sc_demand_count : FnScope ["count"] ["count"] (defScope st_demand_count) := ⟨rfl, rfl, rfl, by decide +kernel, rfl, by decide +kernel, by decide +kernel⟩
theorem ok_demand_count {f : Addr} {fd : FuncData} (T : Txt K mg) (F : Fun K "demand_count" "demand_count" st_demand_count f fd) (hm : mg "demand_count" = some (.ref f)) (F_in_range : FnD P w K mg base 2 "in_range" 3 (mFn 3 3 m_in_range)) (E_ArgumentError : ExD P w K mg base 1 "ArgumentError" ["reason"]) : FnD P w K mg base 3 "demand_count" 1 (mFn 1 1 m_demand_count) := by
  refine fn_d (N := ["count"]) (ps := ["count"]) F sc_demand_count hm rfl (fun _ _ _ _ _ _ us hl => match us, hl with | [_], _ => rfl) (fun cdv A outer s H E hr hG => ?_)
  have tk : Takes (cxOf (L2.CX P w) P w K mg base ["count"] "demand_count" (defScope st_demand_count) f cdv A outer s H E) (fun c d _ H => E c d H) := takes_of rfl rfl rfl rfl
  have hp : PassesOwn (model P w) (cxOf (L2.CX P w) P w K mg base ["count"] "demand_count" (defScope st_demand_count) f cdv A outer s H E).A (cxOf (L2.CX P w) P w K mg base ["count"] "demand_count" (defScope st_demand_count) f cdv A outer s H E).env (cxOf (L2.CX P w) P w K mg base ["count"] "demand_count" (defScope st_demand_count) f cdv A outer s H E).xe := passes_of rfl
  have hN : (cxOf (L2.CX P w) P w K mg base ["count"] "demand_count" (defScope st_demand_count) f cdv A outer s H E).N.Nodup := sc_demand_count.nd
  have hu := Nat.lt_of_le_of_lt (Nat.add_le_add_left (by decide : 64 ≤ 16 * 0 + 200) _) (hr.mono (Nat.zero_le _)).un
  have hu1 := Nat.lt_of_le_of_lt (Nat.add_le_add_left (by decide : 65 ≤ 16 * 0 + 200) _) (hr.mono (Nat.zero_le _)).un
  have hu2 := Nat.lt_of_le_of_lt (Nat.add_le_add_left (by decide : 66 ≤ 16 * 0 + 200) _) (hr.mono (Nat.zero_le _)).un
  exact (sds_one (sd_if (td_not (td_val (ed_call (F_in_range) (hr.mono (by decide)) hG tk (ad_cons (ed_var 0) (ad_cons ed_int (ad_cons (ed_gintE T.c_MAX_UNKNOWNS) ad_nil)))))) (sds_one (sd_raise (E_ArgumentError) (hr.mono (by decide)) tk (ad_cons ed_str ad_nil))) sds_nil))
abbrev st_is_powers : Stmt := top 13
def c1_is_powers : En → M Va :=
  mLc (mSeqI (mVar 1)) (gVar 2) mYes (mCall g_in_range (mCons (mVar 2) (mCons (mC (.int 0)) (mCons (mC (.int 30)) mNil)))) [2]
def m_is_powers : En → MS :=
  (mSeq (mIfS (mOr (mNot (mT (mIsV .tuple (mVar 1)))) (mT (mBin (fun a b => calm (opNeA a b)) (mBlt bLen (mCons (mVar 1) mNil)) (mVar 0)))) (mRet (mC (.bl false))) mNx) (mRet (mBlt bAll (mCons c1_is_powers mNil))))
def g_is_powers : List Va → M Va := mFn 3 2 m_is_powers
theorem sc_is_powers : FnScope ["count", "value", "part"] ["count", "value"] (defScope st_is_powers) := ⟨rfl, rfl, rfl, by decide +kernel, rfl, by decide +kernel, by decide +kernel⟩
theorem ok_is_powers {f : Addr} {fd : FuncData} (T : Txt K mg) (F : Fun K "is_powers" "is_powers" st_is_powers f fd) (hm : mg "is_powers" = some (.ref f)) (F_in_range : FnD P w K mg base 2 "in_range" 3 (mFn 3 3 m_in_range))  : FnD P w K mg base 3 "is_powers" 2 (mFn 3 2 m_is_powers) := by
  refine fn_d (N := ["count", "value", "part"]) (ps := ["count", "value"]) F sc_is_powers hm rfl (fun _ _ _ _ _ _ us hl => match us, hl with | [_, _], _ => rfl) (fun cdv A outer s H E hr hG => ?_)
  have tk : Takes (cxOf (L2.CX P w) P w K mg base ["count", "value", "part"] "is_powers" (defScope st_is_powers) f cdv A outer s H E) (fun c d _ H => E c d H) := takes_of rfl rfl rfl rfl
  have hp : PassesOwn (model P w) (cxOf (L2.CX P w) P w K mg base ["count", "value", "part"] "is_powers" (defScope st_is_powers) f cdv A outer s H E).A (cxOf (L2.CX P w) P w K mg base ["count", "value", "part"] "is_powers" (defScope st_is_powers) f cdv A outer s H E).env (cxOf (L2.CX P w) P w K mg base ["count", "value", "part"] "is_powers" (defScope st_is_powers) f cdv A outer s H E).xe := passes_of rfl
  have hN : (cxOf (L2.CX P w) P w K mg base ["count", "value", "part"] "is_powers" (defScope st_is_powers) f cdv A outer s H E).N.Nodup := sc_is_powers.nd
  have hu := Nat.lt_of_le_of_lt (Nat.add_le_add_left (by decide : 64 ≤ 16 * 0 + 200) _) (hr.mono (Nat.zero_le _)).un
  have hu1 := Nat.lt_of_le_of_lt (Nat.add_le_add_left (by decide : 65 ≤ 16 * 0 + 200) _) (hr.mono (Nat.zero_le _)).un
  have hu2 := Nat.lt_of_le_of_lt (Nat.add_le_add_left (by decide : 66 ≤ 16 * 0 + 200) _) (hr.mono (Nat.zero_le _)).un
  exact (sds_cons (sd_if (td_w (wd_or (td_not (td_val (ed_isV .tuple (clsN_ty T.b_tuple boot_tuple) T.b_isinstance (ed_var 1)))) (wd_or1 (td_cmp (opd_neA hu) (ed_blt cd_len T.b_len boot_len (ad_cons (ed_var 1) ad_nil)) (ed_var 0))))) (sds_one (sd_ret ed_bl)) sds_nil)
  (sds_one (sd_ret (ed_blt (cd_all rfl) T.b_all boot_all (ad_cons (ed_lc [("part", 2)] (id_seq (ed_var 1)) (fun _ _ _ _ _ => (gd_name 2)) (fun _ _ _ _ _ => ptsD_nil) (fun _ _ _ _ _ => (ed_call (F_in_range) (hr.mono (by decide)) hG (takes0) (ad_cons (ed_var 2) (ad_cons ed_int (ad_cons (ed_gintE T.c_MAX_POWER) ad_nil)))))) ad_nil)))))
abbrev st_demand_powers : Stmt := top 14
def m_demand_powers : En → MS :=
  (mSeq (mExpr (mCall g_demand_count (mCons (mVar 0) mNil))) (mIfS (mNot (mT (mCall g_is_powers (mCons (mVar 0) (mCons (mVar 1) mNil))))) (mRaise "ArgumentError" ["reason"] (mCons (mVar 2) mNil)) mNx))
def g_demand_powers : List Va → M Va := mFn 3 3 m_demand_powers
theorem sc_demand_powers : FnScope ["count", "value", "reason"] ["count", "value", "reason"] (defScope st_demand_powers) := ⟨rfl, rfl, rfl, by decide +kernel, rfl, by decide +kernel, by decide +kernel⟩
theorem ok_demand_powers {f : Addr} {fd : FuncData} (T : Txt K mg) (F : Fun K "demand_powers" "demand_powers" st_demand_powers f fd) (hm : mg "demand_powers" = some (.ref f)) (F_demand_count : FnD P w K mg base 3 "demand_count" 1 (mFn 1 1 m_demand_count)) (F_is_powers : FnD P w K mg base 3 "is_powers" 2 (mFn 3 2 m_is_powers)) (E_ArgumentError : ExD P w K mg base 1 "ArgumentError" ["reason"]) : FnD P w K mg base 4 "demand_powers" 3 (mFn 3 3 m_demand_powers) := by
  refine fn_d (N := ["count", "value", "reason"]) (ps := ["count", "value", "reason"]) F sc_demand_powers hm rfl (fun _ _ _ _ _ _ us hl => match us, hl with | [_, _, _], _ => rfl) (fun cdv A outer s H E hr hG => ?_)
  have tk : Takes (cxOf (L2.CX P w) P w K mg base ["count", "value", "reason"] "demand_powers" (defScope st_demand_powers) f cdv A outer s H E) (fun c d _ H => E c d H) := takes_of rfl rfl rfl rfl
  have hp : PassesOwn (model P w) (cxOf (L2.CX P w) P w K mg base ["count", "value", "reason"] "demand_powers" (defScope st_demand_powers) f cdv A outer s H E).A (cxOf (L2.CX P w) P w K mg base ["count", "value", "reason"] "demand_powers" (defScope st_demand_powers) f cdv A outer s H E).env (cxOf (L2.CX P w) P w K mg base ["count", "value", "reason"] "demand_powers" (defScope st_demand_powers) f cdv A outer s H E).xe := passes_of rfl
  have hN : (cxOf (L2.CX P w) P w K mg base ["count", "value", "reason"] "demand_powers" (defScope st_demand_powers) f cdv A outer s H E).N.Nodup := sc_demand_powers.nd
  have hu := Nat.lt_of_le_of_lt (Nat.add_le_add_left (by decide : 64 ≤ 16 * 0 + 200) _) (hr.mono (Nat.zero_le _)).un
  have hu1 := Nat.lt_of_le_of_lt (Nat.add_le_add_left (by decide : 65 ≤ 16 * 0 + 200) _) (hr.mono (Nat.zero_le _)).un
  have hu2 := Nat.lt_of_le_of_lt (Nat.add_le_add_left (by decide : 66 ≤ 16 * 0 + 200) _) (hr.mono (Nat.zero_le _)).un
  exact (sds_cons (sd_expr (ed_call (F_demand_count) (hr.mono (by decide)) hG tk (ad_cons (ed_var 0) ad_nil)))
  (sds_one (sd_if (td_not (td_val (ed_call (F_is_powers) (hr.mono (by decide)) hG tk (ad_cons (ed_var 0) (ad_cons (ed_var 1) ad_nil))))) (sds_one (sd_raise (E_ArgumentError) (hr.mono (by decide)) tk (ad_cons (ed_var 2) ad_nil))) sds_nil)))
abbrev st_is_above : Stmt := top 16
def b1_is_above : En → MS :=
  (mIfS (mTruth (mBin (fun a b => calm (opIx a b)) (mVar 2) (mVar 1))) (mRet (mBin (fun a b => calm (opGt a b)) (mBin (fun a b => calm (opIx a b)) (mVar 2) (mVar 1)) (mC (.int 0)))) mNx)
def m_is_above : En → MS :=
  (mSeq (mFor (mSeqI (mVar 0)) (gVar 2) b1_is_above) (mRet (mC (.bl true))))
def g_is_above : List Va → M Va := mFn 3 2 m_is_above
theorem sc_is_above : FnScope ["rows", "place", "row"] ["rows", "place"] (defScope st_is_above) := ⟨rfl, rfl, rfl, by decide +kernel, rfl, by decide +kernel, by decide +kernel⟩
theorem ok_is_above {f : Addr} {fd : FuncData} (T : Txt K mg) (F : Fun K "is_above" "is_above" st_is_above f fd) (hm : mg "is_above" = some (.ref f))   : FnD P w K mg base 1 "is_above" 2 (mFn 3 2 m_is_above) := by
  refine fn_d (N := ["rows", "place", "row"]) (ps := ["rows", "place"]) F sc_is_above hm rfl (fun _ _ _ _ _ _ us hl => match us, hl with | [_, _], _ => rfl) (fun cdv A outer s H E hr hG => ?_)
  have tk : Takes (cxOf (L2.CX P w) P w K mg base ["rows", "place", "row"] "is_above" (defScope st_is_above) f cdv A outer s H E) (fun c d _ H => E c d H) := takes_of rfl rfl rfl rfl
  have hp : PassesOwn (model P w) (cxOf (L2.CX P w) P w K mg base ["rows", "place", "row"] "is_above" (defScope st_is_above) f cdv A outer s H E).A (cxOf (L2.CX P w) P w K mg base ["rows", "place", "row"] "is_above" (defScope st_is_above) f cdv A outer s H E).env (cxOf (L2.CX P w) P w K mg base ["rows", "place", "row"] "is_above" (defScope st_is_above) f cdv A outer s H E).xe := passes_of rfl
  have hN : (cxOf (L2.CX P w) P w K mg base ["rows", "place", "row"] "is_above" (defScope st_is_above) f cdv A outer s H E).N.Nodup := sc_is_above.nd
  have hu := Nat.lt_of_le_of_lt (Nat.add_le_add_left (by decide : 64 ≤ 16 * 0 + 200) _) (hr.mono (Nat.zero_le _)).un
  have hu1 := Nat.lt_of_le_of_lt (Nat.add_le_add_left (by decide : 65 ≤ 16 * 0 + 200) _) (hr.mono (Nat.zero_le _)).un
  have hu2 := Nat.lt_of_le_of_lt (Nat.add_le_add_left (by decide : 66 ≤ 16 * 0 + 200) _) (hr.mono (Nat.zero_le _)).un
  exact (sds_cons (sd_for hp (id_seq (ed_var 0)) (gd_name 2) (sds_one (sd_if (td_truth (ed_ix (ed_var 2) (ed_var 1))) (sds_one (sd_ret (ed_cmp (opd_gtA hu) (ed_ix (ed_var 2) (ed_var 1)) ed_int))) sds_nil)))
  (sds_one (sd_ret ed_bl)))
abbrev st_is_order : Stmt := top 15
def c1_is_order : En → M Va :=
  mLc (mSeqI (mVar 2)) (gVar 3) mYes (mCall g_in_range (mCons (mVar 3) (mCons (mBin (fun a b => calm (opSub a b)) (mC (.int 0)) (mC (.int 1000000))) (mCons (mC (.int 1000000)) mNil)))) [3]
def b1_is_order : En → MS :=
  (mSeq (mIfS (mOr (mNot (mT (mIsV .tuple (mVar 2)))) (mT (mBin (fun a b => calm (opNeA a b)) (mBlt bLen (mCons (mVar 2) mNil)) (mVar 0)))) (mRet (mC (.bl false))) mNx) (mIfS (mNot (mT (mBlt bAll (mCons c1_is_order mNil)))) (mRet (mC (.bl false))) mNx))
def c2_is_order : En → M Va :=
  mLc (mArgI rangeOf1 (mCons (mVar 0) mNil)) (gVar 4) mYes (mCall g_is_above (mCons (mVar 1) (mCons (mVar 4) mNil))) [4]
def m_is_order : En → MS :=
  (mSeq (mIfS (mT (mIsV .str (mVar 1))) (mRet (mBin (fun a b => calm (opIn a b)) (mVar 1) (mC (.tup ((["plain", "degree", "back"] : List Str).map D.str))))) mNx) (mSeq (mIfS (mOr (mNot (mT (mIsV .tuple (mVar 1)))) (mNot (mT (mChain opLe opLe (mC (.int 1)) (mBlt bLen (mCons (mVar 1) mNil)) (mC (.int 4)))))) (mRet (mC (.bl false))) mNx) (mSeq (mFor (mSeqI (mVar 1)) (gVar 2) b1_is_order) (mRet (mBlt bAll (mCons c2_is_order mNil))))))
def g_is_order : List Va → M Va := mFn 5 2 m_is_order
theorem sc_is_order : FnScope ["count", "value", "row", "part", "place"] ["count", "value"] (defScope st_is_order) := ⟨rfl, rfl, rfl, by decide +kernel, rfl, by decide +kernel, by decide +kernel⟩
theorem ok_is_order {f : Addr} {fd : FuncData} (T : Txt K mg) (F : Fun K "is_order" "is_order" st_is_order f fd) (hm : mg "is_order" = some (.ref f)) (F_in_range : FnD P w K mg base 2 "in_range" 3 (mFn 3 3 m_in_range)) (F_is_above : FnD P w K mg base 1 "is_above" 2 (mFn 3 2 m_is_above))  : FnD P w K mg base 3 "is_order" 2 (mFn 5 2 m_is_order) := by
  refine fn_d (N := ["count", "value", "row", "part", "place"]) (ps := ["count", "value"]) F sc_is_order hm rfl (fun _ _ _ _ _ _ us hl => match us, hl with | [_, _], _ => rfl) (fun cdv A outer s H E hr hG => ?_)
  have tk : Takes (cxOf (L2.CX P w) P w K mg base ["count", "value", "row", "part", "place"] "is_order" (defScope st_is_order) f cdv A outer s H E) (fun c d _ H => E c d H) := takes_of rfl rfl rfl rfl
  have hp : PassesOwn (model P w) (cxOf (L2.CX P w) P w K mg base ["count", "value", "row", "part", "place"] "is_order" (defScope st_is_order) f cdv A outer s H E).A (cxOf (L2.CX P w) P w K mg base ["count", "value", "row", "part", "place"] "is_order" (defScope st_is_order) f cdv A outer s H E).env (cxOf (L2.CX P w) P w K mg base ["count", "value", "row", "part", "place"] "is_order" (defScope st_is_order) f cdv A outer s H E).xe := passes_of rfl
  have hN : (cxOf (L2.CX P w) P w K mg base ["count", "value", "row", "part", "place"] "is_order" (defScope st_is_order) f cdv A outer s H E).N.Nodup := sc_is_order.nd
  have hu := Nat.lt_of_le_of_lt (Nat.add_le_add_left (by decide : 64 ≤ 16 * 0 + 200) _) (hr.mono (Nat.zero_le _)).un
  have hu1 := Nat.lt_of_le_of_lt (Nat.add_le_add_left (by decide : 65 ≤ 16 * 0 + 200) _) (hr.mono (Nat.zero_le _)).un
  have hu2 := Nat.lt_of_le_of_lt (Nat.add_le_add_left (by decide : 66 ≤ 16 * 0 + 200) _) (hr.mono (Nat.zero_le _)).un
  exact (sds_cons (sd_if (td_val (ed_isV .str (clsN_ty T.b_str boot_str) T.b_isinstance (ed_var 1))) (sds_one (sd_ret (ed_cmp (opd_in hu1) (ed_var 1) (ed_gstrs T.c_WORDS)))) sds_nil)
  (sds_cons (sd_if (td_w (wd_or (td_not (td_val (ed_isV .tuple (clsN_ty T.b_tuple boot_tuple) T.b_isinstance (ed_var 1)))) (wd_or1 (td_not (td_chain (opd_leA hu) (opd_leA hu) ed_int (ed_blt cd_len T.b_len boot_len (ad_cons (ed_var 1) ad_nil)) ed_int))))) (sds_one (sd_ret ed_bl)) sds_nil)
  (sds_cons (sd_for hp (id_seq (ed_var 1)) (gd_name 2) (sds_cons (sd_if (td_w (wd_or (td_not (td_val (ed_isV .tuple (clsN_ty T.b_tuple boot_tuple) T.b_isinstance (ed_var 2)))) (wd_or1 (td_cmp (opd_neA hu) (ed_blt cd_len T.b_len boot_len (ad_cons (ed_var 2) ad_nil)) (ed_var 0))))) (sds_one (sd_ret ed_bl)) sds_nil)
  (sds_one (sd_if (td_not (td_val (ed_blt (cd_all rfl) T.b_all boot_all (ad_cons (ed_lc [("part", 3)] (id_seq (ed_var 2)) (fun _ _ _ _ _ => (gd_name 3)) (fun _ _ _ _ _ => ptsD_nil) (fun _ _ _ _ _ => (ed_call (F_in_range) (hr.mono (by decide)) hG (takes0) (ad_cons (ed_var 3) (ad_cons (ed_op opd_sub ed_int (ed_gintE T.c_MAX_NUMBER)) (ad_cons (ed_gintE T.c_MAX_NUMBER) ad_nil)))))) ad_nil)))) (sds_one (sd_ret ed_bl)) sds_nil))))
  (sds_one (sd_ret (ed_blt (cd_all rfl) T.b_all boot_all (ad_cons (ed_lc [("place", 4)] (id_range1 T.b_range (ad_cons (ed_var 0) ad_nil)) (fun _ _ _ _ _ => (gd_name 4)) (fun _ _ _ _ _ => ptsD_nil) (fun _ _ _ _ _ => (ed_call (F_is_above) (hr.mono (by decide)) hG (takes0) (ad_cons (ed_var 1) (ad_cons (ed_var 4) ad_nil))))) ad_nil)))))))
abbrev st_demand_order : Stmt := top 17
def m_demand_order : En → MS :=
  (mIfS (mNot (mT (mCall g_is_order (mCons (mVar 0) (mCons (mVar 1) mNil))))) (mRaise "ArgumentError" ["reason"] (mCons (mC (.str "order")) mNil)) mNx)
def g_demand_order : List Va → M Va := mFn 2 2 m_demand_order
theorem sc_demand_order : FnScope ["count", "value"] ["count", "value"] (defScope st_demand_order) := ⟨rfl, rfl, rfl, by decide +kernel, rfl, by decide +kernel, by decide +kernel⟩
theorem ok_demand_order {f : Addr} {fd : FuncData} (T : Txt K mg) (F : Fun K "demand_order" "demand_order" st_demand_order f fd) (hm : mg "demand_order" = some (.ref f)) (F_is_order : FnD P w K mg base 3 "is_order" 2 (mFn 5 2 m_is_order)) (E_ArgumentError : ExD P w K mg base 1 "ArgumentError" ["reason"]) : FnD P w K mg base 4 "demand_order" 2 (mFn 2 2 m_demand_order) := by
  refine fn_d (N := ["count", "value"]) (ps := ["count", "value"]) F sc_demand_order hm rfl (fun _ _ _ _ _ _ us hl => match us, hl with | [_, _], _ => rfl) (fun cdv A outer s H E hr hG => ?_)
  have tk : Takes (cxOf (L2.CX P w) P w K mg base ["count", "value"] "demand_order" (defScope st_demand_order) f cdv A outer s H E) (fun c d _ H => E c d H) := takes_of rfl rfl rfl rfl
  have hp : PassesOwn (model P w) (cxOf (L2.CX P w) P w K mg base ["count", "value"] "demand_order" (defScope st_demand_order) f cdv A outer s H E).A (cxOf (L2.CX P w) P w K mg base ["count", "value"] "demand_order" (defScope st_demand_order) f cdv A outer s H E).env (cxOf (L2.CX P w) P w K mg base ["count", "value"] "demand_order" (defScope st_demand_order) f cdv A outer s H E).xe := passes_of rfl
  have hN : (cxOf (L2.CX P w) P w K mg base ["count", "value"] "demand_order" (defScope st_demand_order) f cdv A outer s H E).N.Nodup := sc_demand_order.nd
  have hu := Nat.lt_of_le_of_lt (Nat.add_le_add_left (by decide : 64 ≤ 16 * 0 + 200) _) (hr.mono (Nat.zero_le _)).un
  have hu1 := Nat.lt_of_le_of_lt (Nat.add_le_add_left (by decide : 65 ≤ 16 * 0 + 200) _) (hr.mono (Nat.zero_le _)).un
  have hu2 := Nat.lt_of_le_of_lt (Nat.add_le_add_left (by decide : 66 ≤ 16 * 0 + 200) _) (hr.mono (Nat.zero_le _)).un
  exact (sds_one (sd_if (td_not (td_val (ed_call (F_is_order) (hr.mono (by decide)) hG tk (ad_cons (ed_var 0) (ad_cons (ed_var 1) ad_nil))))) (sds_one (sd_raise (E_ArgumentError) (hr.mono (by decide)) tk (ad_cons ed_str ad_nil))) sds_nil))
abbrev st_key_of : Stmt := top 18
def c1_key_of : En → M Va :=
  mLc (mSeqI (mRev (mVar 1) (mPart (mC (.int 0))))) (gVar 2) mYes (mBin (fun a b => calm (opSub a b)) (mC (.int 0)) (mVar 2)) [2]
def c2_key_of : En → M Va :=
  mLc (mArgI zipOf (mCons (mVar 4) (mCons (mVar 1) mNil))) (gTupD 2 (gConsD (gVar 2) (gConsD (gVar 3) gNilD))) mYes (mBin (fun a b => calm (opMulA a b)) (mVar 2) (mVar 3)) [2, 3]
def c3_key_of : En → M Va :=
  mLc (mSeqI (mVar 0)) (gVar 4) mYes (mBlt bSum2 (mCons c2_key_of mNil)) [4]
def m_key_of : En → MS :=
  (mSeq (mIfS (mT (mBin (fun a b => calm (opEqA a b)) (mVar 0) (mC (.str "plain")))) (mRet (mVar 1)) mNx) (mSeq (mIfS (mT (mBin (fun a b => calm (opEqA a b)) (mVar 0) (mC (.str "degree")))) (mRet (mBin (fun a b => calm (opAdd a b)) (mTup (mCons (mBlt bSum2 (mCons (mVar 1) mNil)) mNil)) (mVar 1))) mNx) (mSeq (mIfS (mT (mBin (fun a b => calm (opEqA a b)) (mVar 0) (mC (.str "back")))) (mRet (mBin (fun a b => calm (opAdd a b)) (mTup (mCons (mBlt bSum2 (mCons (mVar 1) mNil)) mNil)) (mBlt bTuple (mCons c1_key_of mNil)))) mNx) (mRet (mBin (fun a b => calm (opAdd a b)) (mBlt bTuple (mCons c3_key_of mNil)) (mVar 1))))))
def g_key_of : List Va → M Va := mFn 5 2 m_key_of
theorem sc_key_of : FnScope ["order", "powers", "part", "own", "row"] ["order", "powers"] (defScope st_key_of) := ⟨rfl, rfl, rfl, by decide +kernel, rfl, by decide +kernel, by decide +kernel⟩
theorem ok_key_of {f : Addr} {fd : FuncData} (T : Txt K mg) (F : Fun K "key_of" "key_of" st_key_of f fd) (hm : mg "key_of" = some (.ref f))   : FnD P w K mg base 1 "key_of" 2 (mFn 5 2 m_key_of) := by
  refine fn_d (N := ["order", "powers", "part", "own", "row"]) (ps := ["order", "powers"]) F sc_key_of hm rfl (fun _ _ _ _ _ _ us hl => match us, hl with | [_, _], _ => rfl) (fun cdv A outer s H E hr hG => ?_)
  have tk : Takes (cxOf (L2.CX P w) P w K mg base ["order", "powers", "part", "own", "row"] "key_of" (defScope st_key_of) f cdv A outer s H E) (fun c d _ H => E c d H) := takes_of rfl rfl rfl rfl
  have hp : PassesOwn (model P w) (cxOf (L2.CX P w) P w K mg base ["order", "powers", "part", "own", "row"] "key_of" (defScope st_key_of) f cdv A outer s H E).A (cxOf (L2.CX P w) P w K mg base ["order", "powers", "part", "own", "row"] "key_of" (defScope st_key_of) f cdv A outer s H E).env (cxOf (L2.CX P w) P w K mg base ["order", "powers", "part", "own", "row"] "key_of" (defScope st_key_of) f cdv A outer s H E).xe := passes_of rfl
  have hN : (cxOf (L2.CX P w) P w K mg base ["order", "powers", "part", "own", "row"] "key_of" (defScope st_key_of) f cdv A outer s H E).N.Nodup := sc_key_of.nd
  have hu := Nat.lt_of_le_of_lt (Nat.add_le_add_left (by decide : 64 ≤ 16 * 0 + 200) _) (hr.mono (Nat.zero_le _)).un
  have hu1 := Nat.lt_of_le_of_lt (Nat.add_le_add_left (by decide : 65 ≤ 16 * 0 + 200) _) (hr.mono (Nat.zero_le _)).un
  have hu2 := Nat.lt_of_le_of_lt (Nat.add_le_add_left (by decide : 66 ≤ 16 * 0 + 200) _) (hr.mono (Nat.zero_le _)).un
  exact (sds_cons (sd_if (td_cmp (opd_eqA hu) (ed_var 0) ed_str) (sds_one (sd_ret (ed_var 1))) sds_nil)
  (sds_cons (sd_if (td_cmp (opd_eqA hu) (ed_var 0) ed_str) (sds_one (sd_ret (ed_op opd_add (ed_tup (ad_cons (ed_blt (cd_sum2 rfl) T.b_sum boot_sum (ad_cons (ed_var 1) ad_nil)) ad_nil)) (ed_var 1)))) sds_nil)
  (sds_cons (sd_if (td_cmp (opd_eqA hu) (ed_var 0) ed_str) (sds_one (sd_ret (ed_op opd_add (ed_tup (ad_cons (ed_blt (cd_sum2 rfl) T.b_sum boot_sum (ad_cons (ed_var 1) ad_nil)) ad_nil)) (ed_ty cd_tuple T.b_tuple boot_tuple (ad_cons (ed_lc [("part", 2)] (id_seq (ed_rev (ed_var 1) (pd_some ed_int))) (fun _ _ _ _ _ => (gd_name 2)) (fun _ _ _ _ _ => ptsD_nil) (fun _ _ _ _ _ => (ed_op opd_sub ed_int (ed_var 2)))) ad_nil))))) sds_nil)
  (sds_one (sd_ret (ed_op opd_add (ed_ty cd_tuple T.b_tuple boot_tuple (ad_cons (ed_lc [("row", 4)] (id_seq (ed_var 0)) (fun _ _ _ _ _ => (gd_name 4)) (fun _ _ _ _ _ => ptsD_nil) (fun _ _ _ _ _ => (ed_blt (cd_sum2 rfl) T.b_sum boot_sum (ad_cons (ed_lc [("part", 2), ("own", 3)] (id_zip T.b_zip (ad_cons (ed_var 4) (ad_cons (ed_var 1) ad_nil))) (fun _ _ _ _ _ => (gd_tup (gds_cons (gd_name 2) (gds_cons (gd_name 3) gds_nil)))) (fun _ _ _ _ _ => ptsD_nil) (fun _ _ _ _ _ => (ed_op opd_mulA (ed_var 2) (ed_var 3)))) ad_nil)))) ad_nil)) (ed_var 1)))))))
abbrev st_product : Stmt := top 19
def c1_product : En → M Va :=
  mLc (mArgI zipOf (mCons (mVar 0) (mCons (mVar 1) mNil))) (gTupD 2 (gConsD (gVar 2) (gConsD (gVar 3) gNilD))) mYes (mBin (fun a b => calm (opAdd a b)) (mVar 2) (mVar 3)) [2, 3]
def m_product : En → MS :=
  (mRet (mBlt bTuple (mCons c1_product mNil)))
def g_product : List Va → M Va := mFn 4 2 m_product
theorem sc_product : FnScope ["one", "other", "part", "own"] ["one", "other"] (defScope st_product) := ⟨rfl, rfl, rfl, by decide +kernel, rfl, by decide +kernel, by decide +kernel⟩
theorem ok_product {f : Addr} {fd : FuncData} (T : Txt K mg) (F : Fun K "product" "product" st_product f fd) (hm : mg "product" = some (.ref f))   : FnD P w K mg base 1 "product" 2 (mFn 4 2 m_product) := by
  refine fn_d (N := ["one", "other", "part", "own"]) (ps := ["one", "other"]) F sc_product hm rfl (fun _ _ _ _ _ _ us hl => match us, hl with | [_, _], _ => rfl) (fun cdv A outer s H E hr hG => ?_)
  have tk : Takes (cxOf (L2.CX P w) P w K mg base ["one", "other", "part", "own"] "product" (defScope st_product) f cdv A outer s H E) (fun c d _ H => E c d H) := takes_of rfl rfl rfl rfl
  have hp : PassesOwn (model P w) (cxOf (L2.CX P w) P w K mg base ["one", "other", "part", "own"] "product" (defScope st_product) f cdv A outer s H E).A (cxOf (L2.CX P w) P w K mg base ["one", "other", "part", "own"] "product" (defScope st_product) f cdv A outer s H E).env (cxOf (L2.CX P w) P w K mg base ["one", "other", "part", "own"] "product" (defScope st_product) f cdv A outer s H E).xe := passes_of rfl
  have hN : (cxOf (L2.CX P w) P w K mg base ["one", "other", "part", "own"] "product" (defScope st_product) f cdv A outer s H E).N.Nodup := sc_product.nd
  have hu := Nat.lt_of_le_of_lt (Nat.add_le_add_left (by decide : 64 ≤ 16 * 0 + 200) _) (hr.mono (Nat.zero_le _)).un
  have hu1 := Nat.lt_of_le_of_lt (Nat.add_le_add_left (by decide : 65 ≤ 16 * 0 + 200) _) (hr.mono (Nat.zero_le _)).un
  have hu2 := Nat.lt_of_le_of_lt (Nat.add_le_add_left (by decide : 66 ≤ 16 * 0 + 200) _) (hr.mono (Nat.zero_le _)).un
  exact (sds_one (sd_ret (ed_ty cd_tuple T.b_tuple boot_tuple (ad_cons (ed_lc [("part", 2), ("own", 3)] (id_zip T.b_zip (ad_cons (ed_var 0) (ad_cons (ed_var 1) ad_nil))) (fun _ _ _ _ _ => (gd_tup (gds_cons (gd_name 2) (gds_cons (gd_name 3) gds_nil)))) (fun _ _ _ _ _ => ptsD_nil) (fun _ _ _ _ _ => (ed_op opd_add (ed_var 2) (ed_var 3)))) ad_nil))))
abbrev st_divides : Stmt := top 20
def c1_divides : En → M Va :=
  mLc (mArgI zipOf (mCons (mVar 0) (mCons (mVar 1) mNil))) (gTupD 2 (gConsD (gVar 2) (gConsD (gVar 3) gNilD))) mYes (mBin (fun a b => calm (opLe a b)) (mVar 2) (mVar 3)) [2, 3]
def m_divides : En → MS :=
  (mRet (mBlt bAll (mCons c1_divides mNil)))
def g_divides : List Va → M Va := mFn 4 2 m_divides
theorem sc_divides : FnScope ["one", "other", "part", "own"] ["one", "other"] (defScope st_divides) := ⟨rfl, rfl, rfl, by decide +kernel, rfl, by decide +kernel, by decide +kernel⟩
theorem ok_divides {f : Addr} {fd : FuncData} (T : Txt K mg) (F : Fun K "divides" "divides" st_divides f fd) (hm : mg "divides" = some (.ref f))   : FnD P w K mg base 1 "divides" 2 (mFn 4 2 m_divides) := by
  refine fn_d (N := ["one", "other", "part", "own"]) (ps := ["one", "other"]) F sc_divides hm rfl (fun _ _ _ _ _ _ us hl => match us, hl with | [_, _], _ => rfl) (fun cdv A outer s H E hr hG => ?_)
  have tk : Takes (cxOf (L2.CX P w) P w K mg base ["one", "other", "part", "own"] "divides" (defScope st_divides) f cdv A outer s H E) (fun c d _ H => E c d H) := takes_of rfl rfl rfl rfl
  have hp : PassesOwn (model P w) (cxOf (L2.CX P w) P w K mg base ["one", "other", "part", "own"] "divides" (defScope st_divides) f cdv A outer s H E).A (cxOf (L2.CX P w) P w K mg base ["one", "other", "part", "own"] "divides" (defScope st_divides) f cdv A outer s H E).env (cxOf (L2.CX P w) P w K mg base ["one", "other", "part", "own"] "divides" (defScope st_divides) f cdv A outer s H E).xe := passes_of rfl
  have hN : (cxOf (L2.CX P w) P w K mg base ["one", "other", "part", "own"] "divides" (defScope st_divides) f cdv A outer s H E).N.Nodup := sc_divides.nd
  have hu := Nat.lt_of_le_of_lt (Nat.add_le_add_left (by decide : 64 ≤ 16 * 0 + 200) _) (hr.mono (Nat.zero_le _)).un
  have hu1 := Nat.lt_of_le_of_lt (Nat.add_le_add_left (by decide : 65 ≤ 16 * 0 + 200) _) (hr.mono (Nat.zero_le _)).un
  have hu2 := Nat.lt_of_le_of_lt (Nat.add_le_add_left (by decide : 66 ≤ 16 * 0 + 200) _) (hr.mono (Nat.zero_le _)).un
  exact (sds_one (sd_ret (ed_blt (cd_all rfl) T.b_all boot_all (ad_cons (ed_lc [("part", 2), ("own", 3)] (id_zip T.b_zip (ad_cons (ed_var 0) (ad_cons (ed_var 1) ad_nil))) (fun _ _ _ _ _ => (gd_tup (gds_cons (gd_name 2) (gds_cons (gd_name 3) gds_nil)))) (fun _ _ _ _ _ => ptsD_nil) (fun _ _ _ _ _ => (ed_cmp (opd_leA hu) (ed_var 2) (ed_var 3)))) ad_nil))))
abbrev st_quotient : Stmt := top 21
def c1_quotient : En → M Va :=
  mLc (mArgI zipOf (mCons (mVar 0) (mCons (mVar 1) mNil))) (gTupD 2 (gConsD (gVar 2) (gConsD (gVar 3) gNilD))) mYes (mBin (fun a b => calm (opSub a b)) (mVar 2) (mVar 3)) [2, 3]
def m_quotient : En → MS :=
  (mRet (mBlt bTuple (mCons c1_quotient mNil)))
def g_quotient : List Va → M Va := mFn 4 2 m_quotient
theorem sc_quotient : FnScope ["one", "other", "part", "own"] ["one", "other"] (defScope st_quotient) := ⟨rfl, rfl, rfl, by decide +kernel, rfl, by decide +kernel, by decide +kernel⟩
theorem ok_quotient {f : Addr} {fd : FuncData} (T : Txt K mg) (F : Fun K "quotient" "quotient" st_quotient f fd) (hm : mg "quotient" = some (.ref f))   : FnD P w K mg base 1 "quotient" 2 (mFn 4 2 m_quotient) := by
  refine fn_d (N := ["one", "other", "part", "own"]) (ps := ["one", "other"]) F sc_quotient hm rfl (fun _ _ _ _ _ _ us hl => match us, hl with | [_, _], _ => rfl) (fun cdv A outer s H E hr hG => ?_)
  have tk : Takes (cxOf (L2.CX P w) P w K mg base ["one", "other", "part", "own"] "quotient" (defScope st_quotient) f cdv A outer s H E) (fun c d _ H => E c d H) := takes_of rfl rfl rfl rfl
  have hp : PassesOwn (model P w) (cxOf (L2.CX P w) P w K mg base ["one", "other", "part", "own"] "quotient" (defScope st_quotient) f cdv A outer s H E).A (cxOf (L2.CX P w) P w K mg base ["one", "other", "part", "own"] "quotient" (defScope st_quotient) f cdv A outer s H E).env (cxOf (L2.CX P w) P w K mg base ["one", "other", "part", "own"] "quotient" (defScope st_quotient) f cdv A outer s H E).xe := passes_of rfl
  have hN : (cxOf (L2.CX P w) P w K mg base ["one", "other", "part", "own"] "quotient" (defScope st_quotient) f cdv A outer s H E).N.Nodup := sc_quotient.nd
  have hu := Nat.lt_of_le_of_lt (Nat.add_le_add_left (by decide : 64 ≤ 16 * 0 + 200) _) (hr.mono (Nat.zero_le _)).un
  have hu1 := Nat.lt_of_le_of_lt (Nat.add_le_add_left (by decide : 65 ≤ 16 * 0 + 200) _) (hr.mono (Nat.zero_le _)).un
  have hu2 := Nat.lt_of_le_of_lt (Nat.add_le_add_left (by decide : 66 ≤ 16 * 0 + 200) _) (hr.mono (Nat.zero_le _)).un
  exact (sds_one (sd_ret (ed_ty cd_tuple T.b_tuple boot_tuple (ad_cons (ed_lc [("part", 2), ("own", 3)] (id_zip T.b_zip (ad_cons (ed_var 0) (ad_cons (ed_var 1) ad_nil))) (fun _ _ _ _ _ => (gd_tup (gds_cons (gd_name 2) (gds_cons (gd_name 3) gds_nil)))) (fun _ _ _ _ _ => ptsD_nil) (fun _ _ _ _ _ => (ed_op opd_sub (ed_var 2) (ed_var 3)))) ad_nil))))
abbrev st_multiple : Stmt := top 22
def c1_multiple : En → M Va :=
  mLc (mArgI zipOf (mCons (mVar 0) (mCons (mVar 1) mNil))) (gTupD 2 (gConsD (gVar 2) (gConsD (gVar 3) gNilD))) mYes (mBlt bMax2 (mCons (mVar 2) (mCons (mVar 3) mNil))) [2, 3]
def m_multiple : En → MS :=
  (mRet (mBlt bTuple (mCons c1_multiple mNil)))
def g_multiple : List Va → M Va := mFn 4 2 m_multiple
theorem sc_multiple : FnScope ["one", "other", "part", "own"] ["one", "other"] (defScope st_multiple) := ⟨rfl, rfl, rfl, by decide +kernel, rfl, by decide +kernel, by decide +kernel⟩
theorem ok_multiple {f : Addr} {fd : FuncData} (T : Txt K mg) (F : Fun K "multiple" "multiple" st_multiple f fd) (hm : mg "multiple" = some (.ref f))   : FnD P w K mg base 1 "multiple" 2 (mFn 4 2 m_multiple) := by
  refine fn_d (N := ["one", "other", "part", "own"]) (ps := ["one", "other"]) F sc_multiple hm rfl (fun _ _ _ _ _ _ us hl => match us, hl with | [_, _], _ => rfl) (fun cdv A outer s H E hr hG => ?_)
  have tk : Takes (cxOf (L2.CX P w) P w K mg base ["one", "other", "part", "own"] "multiple" (defScope st_multiple) f cdv A outer s H E) (fun c d _ H => E c d H) := takes_of rfl rfl rfl rfl
  have hp : PassesOwn (model P w) (cxOf (L2.CX P w) P w K mg base ["one", "other", "part", "own"] "multiple" (defScope st_multiple) f cdv A outer s H E).A (cxOf (L2.CX P w) P w K mg base ["one", "other", "part", "own"] "multiple" (defScope st_multiple) f cdv A outer s H E).env (cxOf (L2.CX P w) P w K mg base ["one", "other", "part", "own"] "multiple" (defScope st_multiple) f cdv A outer s H E).xe := passes_of rfl
  have hN : (cxOf (L2.CX P w) P w K mg base ["one", "other", "part", "own"] "multiple" (defScope st_multiple) f cdv A outer s H E).N.Nodup := sc_multiple.nd
  have hu := Nat.lt_of_le_of_lt (Nat.add_le_add_left (by decide : 64 ≤ 16 * 0 + 200) _) (hr.mono (Nat.zero_le _)).un
  have hu1 := Nat.lt_of_le_of_lt (Nat.add_le_add_left (by decide : 65 ≤ 16 * 0 + 200) _) (hr.mono (Nat.zero_le _)).un
  have hu2 := Nat.lt_of_le_of_lt (Nat.add_le_add_left (by decide : 66 ≤ 16 * 0 + 200) _) (hr.mono (Nat.zero_le _)).un
  exact (sds_one (sd_ret (ed_ty cd_tuple T.b_tuple boot_tuple (ad_cons (ed_lc [("part", 2), ("own", 3)] (id_zip T.b_zip (ad_cons (ed_var 0) (ad_cons (ed_var 1) ad_nil))) (fun _ _ _ _ _ => (gd_tup (gds_cons (gd_name 2) (gds_cons (gd_name 3) gds_nil)))) (fun _ _ _ _ _ => ptsD_nil) (fun _ _ _ _ _ => (ed_blt (cd_max2 rfl) T.b_max boot_max (ad_cons (ed_var 2) (ad_cons (ed_var 3) ad_nil))))) ad_nil))))
abbrev st_shared : Stmt := top 23
def c1_shared : En → M Va :=
  mLc (mArgI zipOf (mCons (mVar 0) (mCons (mVar 1) mNil))) (gTupD 2 (gConsD (gVar 2) (gConsD (gVar 3) gNilD))) mYes (mBlt bMin2 (mCons (mVar 2) (mCons (mVar 3) mNil))) [2, 3]
def m_shared : En → MS :=
  (mRet (mBlt bTuple (mCons c1_shared mNil)))
def g_shared : List Va → M Va := mFn 4 2 m_shared
theorem sc_shared : FnScope ["one", "other", "part", "own"] ["one", "other"] (defScope st_shared) := ⟨rfl, rfl, rfl, by decide +kernel, rfl, by decide +kernel, by decide +kernel⟩
theorem ok_shared {f : Addr} {fd : FuncData} (T : Txt K mg) (F : Fun K "shared" "shared" st_shared f fd) (hm : mg "shared" = some (.ref f))   : FnD P w K mg base 1 "shared" 2 (mFn 4 2 m_shared) := by
  refine fn_d (N := ["one", "other", "part", "own"]) (ps := ["one", "other"]) F sc_shared hm rfl (fun _ _ _ _ _ _ us hl => match us, hl with | [_, _], _ => rfl) (fun cdv A outer s H E hr hG => ?_)
  have tk : Takes (cxOf (L2.CX P w) P w K mg base ["one", "other", "part", "own"] "shared" (defScope st_shared) f cdv A outer s H E) (fun c d _ H => E c d H) := takes_of rfl rfl rfl rfl
  have hp : PassesOwn (model P w) (cxOf (L2.CX P w) P w K mg base ["one", "other", "part", "own"] "shared" (defScope st_shared) f cdv A outer s H E).A (cxOf (L2.CX P w) P w K mg base ["one", "other", "part", "own"] "shared" (defScope st_shared) f cdv A outer s H E).env (cxOf (L2.CX P w) P w K mg base ["one", "other", "part", "own"] "shared" (defScope st_shared) f cdv A outer s H E).xe := passes_of rfl
  have hN : (cxOf (L2.CX P w) P w K mg base ["one", "other", "part", "own"] "shared" (defScope st_shared) f cdv A outer s H E).N.Nodup := sc_shared.nd
  have hu := Nat.lt_of_le_of_lt (Nat.add_le_add_left (by decide : 64 ≤ 16 * 0 + 200) _) (hr.mono (Nat.zero_le _)).un
  have hu1 := Nat.lt_of_le_of_lt (Nat.add_le_add_left (by decide : 65 ≤ 16 * 0 + 200) _) (hr.mono (Nat.zero_le _)).un
  have hu2 := Nat.lt_of_le_of_lt (Nat.add_le_add_left (by decide : 66 ≤ 16 * 0 + 200) _) (hr.mono (Nat.zero_le _)).un
  exact (sds_one (sd_ret (ed_ty cd_tuple T.b_tuple boot_tuple (ad_cons (ed_lc [("part", 2), ("own", 3)] (id_zip T.b_zip (ad_cons (ed_var 0) (ad_cons (ed_var 1) ad_nil))) (fun _ _ _ _ _ => (gd_tup (gds_cons (gd_name 2) (gds_cons (gd_name 3) gds_nil)))) (fun _ _ _ _ _ => ptsD_nil) (fun _ _ _ _ _ => (ed_blt (cd_min2 rfl) T.b_min boot_min (ad_cons (ed_var 2) (ad_cons (ed_var 3) ad_nil))))) ad_nil))))
abbrev st_compare : Stmt := top 24
def m_compare : En → MS :=
  (mSeq (mExpr (mCall g_demand_count (mCons (mVar 0) mNil))) (mSeq (mExpr (mCall g_demand_order (mCons (mVar 0) (mCons (mVar 1) mNil)))) (mSeq (mExpr (mCall g_demand_powers (mCons (mVar 0) (mCons (mVar 2) (mCons (mC (.str "one")) mNil))))) (mSeq (mExpr (mCall g_demand_powers (mCons (mVar 0) (mCons (mVar 3) (mCons (mC (.str "other")) mNil))))) (mSeq (mPar [4, 5] (mCons (mCall g_key_of (mCons (mVar 1) (mCons (mVar 2) mNil))) (mCons (mCall g_key_of (mCons (mVar 1) (mCons (mVar 3) mNil))) mNil))) (mRet (mBin (fun a b => calm (opSub a b)) (mBin (fun a b => calm (opGt a b)) (mVar 4) (mVar 5)) (mBin (fun a b => calm (opLt a b)) (mVar 4) (mVar 5)))))))))
def g_compare : List Va → M Va := mFn 6 4 m_compare
theorem sc_compare : FnScope ["count", "order", "one", "other", "first", "second"] ["count", "order", "one", "other"] (defScope st_compare) := ⟨rfl, rfl, rfl, by decide +kernel, rfl, by decide +kernel, by decide +kernel⟩
theorem ok_compare {f : Addr} {fd : FuncData} (T : Txt K mg) (F : Fun K "compare" "compare" st_compare f fd) (hm : mg "compare" = some (.ref f)) (F_demand_count : FnD P w K mg base 3 "demand_count" 1 (mFn 1 1 m_demand_count)) (F_demand_order : FnD P w K mg base 4 "demand_order" 2 (mFn 2 2 m_demand_order)) (F_demand_powers : FnD P w K mg base 4 "demand_powers" 3 (mFn 3 3 m_demand_powers)) (F_key_of : FnD P w K mg base 1 "key_of" 2 (mFn 5 2 m_key_of))  : FnD P w K mg base 5 "compare" 4 (mFn 6 4 m_compare) := by
  refine fn_d (N := ["count", "order", "one", "other", "first", "second"]) (ps := ["count", "order", "one", "other"]) F sc_compare hm rfl (fun _ _ _ _ _ _ us hl => match us, hl with | [_, _, _, _], _ => rfl) (fun cdv A outer s H E hr hG => ?_)
  have tk : Takes (cxOf (L2.CX P w) P w K mg base ["count", "order", "one", "other", "first", "second"] "compare" (defScope st_compare) f cdv A outer s H E) (fun c d _ H => E c d H) := takes_of rfl rfl rfl rfl
  have hp : PassesOwn (model P w) (cxOf (L2.CX P w) P w K mg base ["count", "order", "one", "other", "first", "second"] "compare" (defScope st_compare) f cdv A outer s H E).A (cxOf (L2.CX P w) P w K mg base ["count", "order", "one", "other", "first", "second"] "compare" (defScope st_compare) f cdv A outer s H E).env (cxOf (L2.CX P w) P w K mg base ["count", "order", "one", "other", "first", "second"] "compare" (defScope st_compare) f cdv A outer s H E).xe := passes_of rfl
  have hN : (cxOf (L2.CX P w) P w K mg base ["count", "order", "one", "other", "first", "second"] "compare" (defScope st_compare) f cdv A outer s H E).N.Nodup := sc_compare.nd
  have hu := Nat.lt_of_le_of_lt (Nat.add_le_add_left (by decide : 64 ≤ 16 * 0 + 200) _) (hr.mono (Nat.zero_le _)).un
  have hu1 := Nat.lt_of_le_of_lt (Nat.add_le_add_left (by decide : 65 ≤ 16 * 0 + 200) _) (hr.mono (Nat.zero_le _)).un
  have hu2 := Nat.lt_of_le_of_lt (Nat.add_le_add_left (by decide : 66 ≤ 16 * 0 + 200) _) (hr.mono (Nat.zero_le _)).un
  exact (sds_cons (sd_expr (ed_call (F_demand_count) (hr.mono (by decide)) hG tk (ad_cons (ed_var 0) ad_nil)))
  (sds_cons (sd_expr (ed_call (F_demand_order) (hr.mono (by decide)) hG tk (ad_cons (ed_var 0) (ad_cons (ed_var 1) ad_nil))))
  (sds_cons (sd_expr (ed_call (F_demand_powers) (hr.mono (by decide)) hG tk (ad_cons (ed_var 0) (ad_cons (ed_var 2) (ad_cons ed_str ad_nil)))))
  (sds_cons (sd_expr (ed_call (F_demand_powers) (hr.mono (by decide)) hG tk (ad_cons (ed_var 0) (ad_cons (ed_var 3) (ad_cons ed_str ad_nil)))))
  (sds_cons (sd_par [(4, "first"), (5, "second")] (ad_cons (ed_call (F_key_of) (hr.mono (by decide)) hG tk (ad_cons (ed_var 1) (ad_cons (ed_var 2) ad_nil))) (ad_cons (ed_call (F_key_of) (hr.mono (by decide)) hG tk (ad_cons (ed_var 1) (ad_cons (ed_var 3) ad_nil))) ad_nil)))
  (sds_one (sd_ret (ed_op opd_sub (ed_cmp (opd_gtA hu) (ed_var 4) (ed_var 5)) (ed_cmp (opd_ltA hu) (ed_var 4) (ed_var 5))))))))))
abbrev st_times : Stmt := top 25
def m_times : En → MS :=
  (mSeq (mExpr (mCall g_demand_powers (mCons (mVar 0) (mCons (mVar 1) (mCons (mC (.str "one")) mNil))))) (mSeq (mExpr (mCall g_demand_powers (mCons (mVar 0) (mCons (mVar 2) (mCons (mC (.str "other")) mNil))))) (mRet (mCall g_product (mCons (mVar 1) (mCons (mVar 2) mNil))))))
def g_times : List Va → M Va := mFn 3 3 m_times
theorem sc_times : FnScope ["count", "one", "other"] ["count", "one", "other"] (defScope st_times) := ⟨rfl, rfl, rfl, by decide +kernel, rfl, by decide +kernel, by decide +kernel⟩
theorem ok_times {f : Addr} {fd : FuncData} (T : Txt K mg) (F : Fun K "times" "times" st_times f fd) (hm : mg "times" = some (.ref f)) (F_demand_powers : FnD P w K mg base 4 "demand_powers" 3 (mFn 3 3 m_demand_powers)) (F_product : FnD P w K mg base 1 "product" 2 (mFn 4 2 m_product))  : FnD P w K mg base 5 "times" 3 (mFn 3 3 m_times) := by
  refine fn_d (N := ["count", "one", "other"]) (ps := ["count", "one", "other"]) F sc_times hm rfl (fun _ _ _ _ _ _ us hl => match us, hl with | [_, _, _], _ => rfl) (fun cdv A outer s H E hr hG => ?_)
  have tk : Takes (cxOf (L2.CX P w) P w K mg base ["count", "one", "other"] "times" (defScope st_times) f cdv A outer s H E) (fun c d _ H => E c d H) := takes_of rfl rfl rfl rfl
  have hp : PassesOwn (model P w) (cxOf (L2.CX P w) P w K mg base ["count", "one", "other"] "times" (defScope st_times) f cdv A outer s H E).A (cxOf (L2.CX P w) P w K mg base ["count", "one", "other"] "times" (defScope st_times) f cdv A outer s H E).env (cxOf (L2.CX P w) P w K mg base ["count", "one", "other"] "times" (defScope st_times) f cdv A outer s H E).xe := passes_of rfl
  have hN : (cxOf (L2.CX P w) P w K mg base ["count", "one", "other"] "times" (defScope st_times) f cdv A outer s H E).N.Nodup := sc_times.nd
  have hu := Nat.lt_of_le_of_lt (Nat.add_le_add_left (by decide : 64 ≤ 16 * 0 + 200) _) (hr.mono (Nat.zero_le _)).un
  have hu1 := Nat.lt_of_le_of_lt (Nat.add_le_add_left (by decide : 65 ≤ 16 * 0 + 200) _) (hr.mono (Nat.zero_le _)).un
  have hu2 := Nat.lt_of_le_of_lt (Nat.add_le_add_left (by decide : 66 ≤ 16 * 0 + 200) _) (hr.mono (Nat.zero_le _)).un
  exact (sds_cons (sd_expr (ed_call (F_demand_powers) (hr.mono (by decide)) hG tk (ad_cons (ed_var 0) (ad_cons (ed_var 1) (ad_cons ed_str ad_nil)))))
  (sds_cons (sd_expr (ed_call (F_demand_powers) (hr.mono (by decide)) hG tk (ad_cons (ed_var 0) (ad_cons (ed_var 2) (ad_cons ed_str ad_nil)))))
  (sds_one (sd_ret (ed_call (F_product) (hr.mono (by decide)) hG tk (ad_cons (ed_var 1) (ad_cons (ed_var 2) ad_nil)))))))
abbrev st_over : Stmt := top 26
def m_over : En → MS :=
  (mSeq (mExpr (mCall g_demand_powers (mCons (mVar 0) (mCons (mVar 1) (mCons (mC (.str "one")) mNil))))) (mSeq (mExpr (mCall g_demand_powers (mCons (mVar 0) (mCons (mVar 2) (mCons (mC (.str "other")) mNil))))) (mRet (mIf (mT (mCall g_divides (mCons (mVar 2) (mCons (mVar 1) mNil)))) (mCall g_quotient (mCons (mVar 1) (mCons (mVar 2) mNil))) (mC .non)))))
def g_over : List Va → M Va := mFn 3 3 m_over
theorem sc_over : FnScope ["count", "one", "other"] ["count", "one", "other"] (defScope st_over) := ⟨rfl, rfl, rfl, by decide +kernel, rfl, by decide +kernel, by decide +kernel⟩
theorem ok_over {f : Addr} {fd : FuncData} (T : Txt K mg) (F : Fun K "over" "over" st_over f fd) (hm : mg "over" = some (.ref f)) (F_demand_powers : FnD P w K mg base 4 "demand_powers" 3 (mFn 3 3 m_demand_powers)) (F_divides : FnD P w K mg base 1 "divides" 2 (mFn 4 2 m_divides)) (F_quotient : FnD P w K mg base 1 "quotient" 2 (mFn 4 2 m_quotient))  : FnD P w K mg base 5 "over" 3 (mFn 3 3 m_over) := by
  refine fn_d (N := ["count", "one", "other"]) (ps := ["count", "one", "other"]) F sc_over hm rfl (fun _ _ _ _ _ _ us hl => match us, hl with | [_, _, _], _ => rfl) (fun cdv A outer s H E hr hG => ?_)
  have tk : Takes (cxOf (L2.CX P w) P w K mg base ["count", "one", "other"] "over" (defScope st_over) f cdv A outer s H E) (fun c d _ H => E c d H) := takes_of rfl rfl rfl rfl
  have hp : PassesOwn (model P w) (cxOf (L2.CX P w) P w K mg base ["count", "one", "other"] "over" (defScope st_over) f cdv A outer s H E).A (cxOf (L2.CX P w) P w K mg base ["count", "one", "other"] "over" (defScope st_over) f cdv A outer s H E).env (cxOf (L2.CX P w) P w K mg base ["count", "one", "other"] "over" (defScope st_over) f cdv A outer s H E).xe := passes_of rfl
  have hN : (cxOf (L2.CX P w) P w K mg base ["count", "one", "other"] "over" (defScope st_over) f cdv A outer s H E).N.Nodup := sc_over.nd
  have hu := Nat.lt_of_le_of_lt (Nat.add_le_add_left (by decide : 64 ≤ 16 * 0 + 200) _) (hr.mono (Nat.zero_le _)).un
  have hu1 := Nat.lt_of_le_of_lt (Nat.add_le_add_left (by decide : 65 ≤ 16 * 0 + 200) _) (hr.mono (Nat.zero_le _)).un
  have hu2 := Nat.lt_of_le_of_lt (Nat.add_le_add_left (by decide : 66 ≤ 16 * 0 + 200) _) (hr.mono (Nat.zero_le _)).un
  exact (sds_cons (sd_expr (ed_call (F_demand_powers) (hr.mono (by decide)) hG tk (ad_cons (ed_var 0) (ad_cons (ed_var 1) (ad_cons ed_str ad_nil)))))
  (sds_cons (sd_expr (ed_call (F_demand_powers) (hr.mono (by decide)) hG tk (ad_cons (ed_var 0) (ad_cons (ed_var 2) (ad_cons ed_str ad_nil)))))
  (sds_one (sd_ret (ed_if (td_val (ed_call (F_divides) (hr.mono (by decide)) hG tk (ad_cons (ed_var 2) (ad_cons (ed_var 1) ad_nil)))) (ed_call (F_quotient) (hr.mono (by decide)) hG tk (ad_cons (ed_var 1) (ad_cons (ed_var 2) ad_nil))) ed_non)))))
abbrev st_least_multiple : Stmt := top 27
def m_least_multiple : En → MS :=
  (mSeq (mExpr (mCall g_demand_powers (mCons (mVar 0) (mCons (mVar 1) (mCons (mC (.str "one")) mNil))))) (mSeq (mExpr (mCall g_demand_powers (mCons (mVar 0) (mCons (mVar 2) (mCons (mC (.str "other")) mNil))))) (mRet (mCall g_multiple (mCons (mVar 1) (mCons (mVar 2) mNil))))))
def g_least_multiple : List Va → M Va := mFn 3 3 m_least_multiple
theorem sc_least_multiple : FnScope ["count", "one", "other"] ["count", "one", "other"] (defScope st_least_multiple) := ⟨rfl, rfl, rfl, by decide +kernel, rfl, by decide +kernel, by decide +kernel⟩
theorem ok_least_multiple {f : Addr} {fd : FuncData} (T : Txt K mg) (F : Fun K "least_multiple" "least_multiple" st_least_multiple f fd) (hm : mg "least_multiple" = some (.ref f)) (F_demand_powers : FnD P w K mg base 4 "demand_powers" 3 (mFn 3 3 m_demand_powers)) (F_multiple : FnD P w K mg base 1 "multiple" 2 (mFn 4 2 m_multiple))  : FnD P w K mg base 5 "least_multiple" 3 (mFn 3 3 m_least_multiple) := by
  refine fn_d (N := ["count", "one", "other"]) (ps := ["count", "one", "other"]) F sc_least_multiple hm rfl (fun _ _ _ _ _ _ us hl => match us, hl with | [_, _, _], _ => rfl) (fun cdv A outer s H E hr hG => ?_)
  have tk : Takes (cxOf (L2.CX P w) P w K mg base ["count", "one", "other"] "least_multiple" (defScope st_least_multiple) f cdv A outer s H E) (fun c d _ H => E c d H) := takes_of rfl rfl rfl rfl
  have hp : PassesOwn (model P w) (cxOf (L2.CX P w) P w K mg base ["count", "one", "other"] "least_multiple" (defScope st_least_multiple) f cdv A outer s H E).A (cxOf (L2.CX P w) P w K mg base ["count", "one", "other"] "least_multiple" (defScope st_least_multiple) f cdv A outer s H E).env (cxOf (L2.CX P w) P w K mg base ["count", "one", "other"] "least_multiple" (defScope st_least_multiple) f cdv A outer s H E).xe := passes_of rfl
  have hN : (cxOf (L2.CX P w) P w K mg base ["count", "one", "other"] "least_multiple" (defScope st_least_multiple) f cdv A outer s H E).N.Nodup := sc_least_multiple.nd
  have hu := Nat.lt_of_le_of_lt (Nat.add_le_add_left (by decide : 64 ≤ 16 * 0 + 200) _) (hr.mono (Nat.zero_le _)).un
  have hu1 := Nat.lt_of_le_of_lt (Nat.add_le_add_left (by decide : 65 ≤ 16 * 0 + 200) _) (hr.mono (Nat.zero_le _)).un
  have hu2 := Nat.lt_of_le_of_lt (Nat.add_le_add_left (by decide : 66 ≤ 16 * 0 + 200) _) (hr.mono (Nat.zero_le _)).un
  exact (sds_cons (sd_expr (ed_call (F_demand_powers) (hr.mono (by decide)) hG tk (ad_cons (ed_var 0) (ad_cons (ed_var 1) (ad_cons ed_str ad_nil)))))
  (sds_cons (sd_expr (ed_call (F_demand_powers) (hr.mono (by decide)) hG tk (ad_cons (ed_var 0) (ad_cons (ed_var 2) (ad_cons ed_str ad_nil)))))
  (sds_one (sd_ret (ed_call (F_multiple) (hr.mono (by decide)) hG tk (ad_cons (ed_var 1) (ad_cons (ed_var 2) ad_nil)))))))
abbrev st_greatest_shared : Stmt := top 28
def m_greatest_shared : En → MS :=
  (mSeq (mExpr (mCall g_demand_powers (mCons (mVar 0) (mCons (mVar 1) (mCons (mC (.str "one")) mNil))))) (mSeq (mExpr (mCall g_demand_powers (mCons (mVar 0) (mCons (mVar 2) (mCons (mC (.str "other")) mNil))))) (mRet (mCall g_shared (mCons (mVar 1) (mCons (mVar 2) mNil))))))
def g_greatest_shared : List Va → M Va := mFn 3 3 m_greatest_shared
theorem sc_greatest_shared : FnScope ["count", "one", "other"] ["count", "one", "other"] (defScope st_greatest_shared) := ⟨rfl, rfl, rfl, by decide +kernel, rfl, by decide +kernel, by decide +kernel⟩
theorem ok_greatest_shared {f : Addr} {fd : FuncData} (T : Txt K mg) (F : Fun K "greatest_shared" "greatest_shared" st_greatest_shared f fd) (hm : mg "greatest_shared" = some (.ref f)) (F_demand_powers : FnD P w K mg base 4 "demand_powers" 3 (mFn 3 3 m_demand_powers)) (F_shared : FnD P w K mg base 1 "shared" 2 (mFn 4 2 m_shared))  : FnD P w K mg base 5 "greatest_shared" 3 (mFn 3 3 m_greatest_shared) := by
  refine fn_d (N := ["count", "one", "other"]) (ps := ["count", "one", "other"]) F sc_greatest_shared hm rfl (fun _ _ _ _ _ _ us hl => match us, hl with | [_, _, _], _ => rfl) (fun cdv A outer s H E hr hG => ?_)
  have tk : Takes (cxOf (L2.CX P w) P w K mg base ["count", "one", "other"] "greatest_shared" (defScope st_greatest_shared) f cdv A outer s H E) (fun c d _ H => E c d H) := takes_of rfl rfl rfl rfl
  have hp : PassesOwn (model P w) (cxOf (L2.CX P w) P w K mg base ["count", "one", "other"] "greatest_shared" (defScope st_greatest_shared) f cdv A outer s H E).A (cxOf (L2.CX P w) P w K mg base ["count", "one", "other"] "greatest_shared" (defScope st_greatest_shared) f cdv A outer s H E).env (cxOf (L2.CX P w) P w K mg base ["count", "one", "other"] "greatest_shared" (defScope st_greatest_shared) f cdv A outer s H E).xe := passes_of rfl
  have hN : (cxOf (L2.CX P w) P w K mg base ["count", "one", "other"] "greatest_shared" (defScope st_greatest_shared) f cdv A outer s H E).N.Nodup := sc_greatest_shared.nd
  have hu := Nat.lt_of_le_of_lt (Nat.add_le_add_left (by decide : 64 ≤ 16 * 0 + 200) _) (hr.mono (Nat.zero_le _)).un
  have hu1 := Nat.lt_of_le_of_lt (Nat.add_le_add_left (by decide : 65 ≤ 16 * 0 + 200) _) (hr.mono (Nat.zero_le _)).un
  have hu2 := Nat.lt_of_le_of_lt (Nat.add_le_add_left (by decide : 66 ≤ 16 * 0 + 200) _) (hr.mono (Nat.zero_le _)).un
  exact (sds_cons (sd_expr (ed_call (F_demand_powers) (hr.mono (by decide)) hG tk (ad_cons (ed_var 0) (ad_cons (ed_var 1) (ad_cons ed_str ad_nil)))))
  (sds_cons (sd_expr (ed_call (F_demand_powers) (hr.mono (by decide)) hG tk (ad_cons (ed_var 0) (ad_cons (ed_var 2) (ad_cons ed_str ad_nil)))))
  (sds_one (sd_ret (ed_call (F_shared) (hr.mono (by decide)) hG tk (ad_cons (ed_var 1) (ad_cons (ed_var 2) ad_nil)))))))
abbrev st_all_with : Stmt := top 30
def c1_all_with (rc : En → MS) : En → M Va :=
  mLc (mSeqI (mCall (mFn 5 2 rc) (mCons (mBin (fun a b => calm (opSub a b)) (mVar 0) (mC (.int 1))) (mCons (mBin (fun a b => calm (opSub a b)) (mVar 1) (mVar 3)) mNil)))) (gVar 4) mYes (mBin (fun a b => calm (opAdd a b)) (mTup (mCons (mVar 3) mNil)) (mVar 4)) [4]
def b1_all_with (rc : En → MS) : En → MS :=
  (mExt 2 (c1_all_with rc))
def m_all_with (rc : En → MS) : En → MS :=
  (mSeq (mIfS (mT (mBin (fun a b => calm (opEqA a b)) (mVar 0) (mC (.int 1)))) (mRet (mLst (mCons (mTup (mCons (mVar 1) mNil)) mNil))) mNx) (mSeq (mSet 2 (mObj mNil)) (mSeq (mFor (mArgI rangeOf3 (mCons (mVar 1) (mCons (mNeg (mC (.int 1))) (mCons (mNeg (mC (.int 1))) mNil)))) (gVar 3) (b1_all_with rc)) (mRet (mFrz (mVar 2))))))
def r_all_with : Nat → En → MS
  | 0 => noneB
  | k + 1 => m_all_with (r_all_with k)
def g_all_with : List Va → M Va := mFn 5 2 (r_all_with 4)
theorem sc_all_with : FnScope ["count", "degree", "found", "first", "rest"] ["count", "degree"] (defScope st_all_with) := ⟨rfl, rfl, rfl, by decide +kernel, rfl, by decide +kernel, by decide +kernel⟩
theorem st1_all_with {f : Addr} {fd : FuncData} {k : Nat} {rc : En → MS} (T : Txt K mg) (F : Fun K "all_with" "all_with" st_all_with f fd) (hm : mg "all_with" = some (.ref f)) (Fself : FnD P w K mg base k "all_with" 2 (mFn 5 2 rc)) : FnD P w K mg base (k + 1) "all_with" 2 (mFn 5 2 (m_all_with rc)) := by
  refine fn_d (N := ["count", "degree", "found", "first", "rest"]) (ps := ["count", "degree"]) F sc_all_with hm rfl (fun _ _ _ _ _ _ us hl => match us, hl with | [_, _], _ => rfl) (fun cdv A outer s H E hr hG => ?_)
  have tk : Takes (cxOf (L2.CX P w) P w K mg base ["count", "degree", "found", "first", "rest"] "all_with" (defScope st_all_with) f cdv A outer s H E) (fun c d _ H => E c d H) := takes_of rfl rfl rfl rfl
  have hp : PassesOwn (model P w) (cxOf (L2.CX P w) P w K mg base ["count", "degree", "found", "first", "rest"] "all_with" (defScope st_all_with) f cdv A outer s H E).A (cxOf (L2.CX P w) P w K mg base ["count", "degree", "found", "first", "rest"] "all_with" (defScope st_all_with) f cdv A outer s H E).env (cxOf (L2.CX P w) P w K mg base ["count", "degree", "found", "first", "rest"] "all_with" (defScope st_all_with) f cdv A outer s H E).xe := passes_of rfl
  have hN : (cxOf (L2.CX P w) P w K mg base ["count", "degree", "found", "first", "rest"] "all_with" (defScope st_all_with) f cdv A outer s H E).N.Nodup := sc_all_with.nd
  have hu := Nat.lt_of_le_of_lt (Nat.add_le_add_left (by decide : 64 ≤ 16 * 0 + 200) _) (hr.mono (Nat.zero_le _)).un
  have hu1 := Nat.lt_of_le_of_lt (Nat.add_le_add_left (by decide : 65 ≤ 16 * 0 + 200) _) (hr.mono (Nat.zero_le _)).un
  have hu2 := Nat.lt_of_le_of_lt (Nat.add_le_add_left (by decide : 66 ≤ 16 * 0 + 200) _) (hr.mono (Nat.zero_le _)).un
  exact (sds_cons (sd_if (td_cmp (opd_eqA hu) (ed_var 0) ed_int) (sds_one (sd_ret (ed_lst (ad_cons (ed_tup (ad_cons (ed_var 1) ad_nil)) ad_nil)))) sds_nil)
  (sds_cons (sd_set 2 (ed_obj ad_nil))
  (sds_cons (sd_for hp (id_range3 T.b_range (ad_cons (ed_var 1) (ad_cons (ed_neg ed_int) (ad_cons (ed_neg ed_int) ad_nil)))) (gd_name 3) (sds_one (sd_ext 2 (ed_lc [("rest", 4)] (id_seq (ed_call Fself hr hG tk (ad_cons (ed_op opd_sub (ed_var 0) ed_int) (ad_cons (ed_op opd_sub (ed_var 1) (ed_var 3)) ad_nil)))) (fun _ _ _ _ _ => (gd_name 4)) (fun _ _ _ _ _ => ptsD_nil) (fun _ _ _ _ _ => (ed_op opd_add (ed_tup (ad_cons (ed_var 3) ad_nil)) (ed_var 4)))))))
  (sds_one (sd_ret (ed_frz (ed_var 2)))))))
theorem ok_all_with {f : Addr} {fd : FuncData} (T : Txt K mg) (F : Fun K "all_with" "all_with" st_all_with f fd) (hm : mg "all_with" = some (.ref f)) : FnD P w K mg base 4 "all_with" 2 (mFn 5 2 (r_all_with 4)) := by
  have h0 : FnD P w K mg base 0 "all_with" 2 (mFn 5 2 (r_all_with 0)) := fn_zero F hm (ps := ["count", "degree"]) (fun _ _ _ _ _ _ us hl => match us, hl with | [_, _], _ => rfl)
  have h1 : FnD P w K mg base 1 "all_with" 2 (mFn 5 2 (r_all_with 1)) := st1_all_with T F hm h0
  have h2 : FnD P w K mg base 2 "all_with" 2 (mFn 5 2 (r_all_with 2)) := st1_all_with T F hm h1
  have h3 : FnD P w K mg base 3 "all_with" 2 (mFn 5 2 (r_all_with 3)) := st1_all_with T F hm h2
  have h4 : FnD P w K mg base 4 "all_with" 2 (mFn 5 2 (r_all_with 4)) := st1_all_with T F hm h3
  exact h4
abbrev st_with_degree : Stmt := top 29
def m_with_degree : En → MS :=
  (mSeq (mExpr (mCall g_demand_count (mCons (mVar 0) mNil))) (mSeq (mIfS (mNot (mT (mCall g_in_range (mCons (mVar 1) (mCons (mC (.int 0)) (mCons (mC (.int 12)) mNil)))))) (mRaise "ArgumentError" ["reason"] (mCons (mC (.str "degree")) mNil)) mNx) (mRet (mBlt bTuple (mCons (mCall g_all_with (mCons (mVar 0) (mCons (mVar 1) mNil))) mNil)))))
def g_with_degree : List Va → M Va := mFn 2 2 m_with_degree
theorem sc_with_degree : FnScope ["count", "degree"] ["count", "degree"] (defScope st_with_degree) := ⟨rfl, rfl, rfl, by decide +kernel, rfl, by decide +kernel, by decide +kernel⟩
theorem ok_with_degree {f : Addr} {fd : FuncData} (T : Txt K mg) (F : Fun K "with_degree" "with_degree" st_with_degree f fd) (hm : mg "with_degree" = some (.ref f)) (F_all_with : FnD P w K mg base 4 "all_with" 2 (mFn 5 2 (r_all_with 4))) (F_demand_count : FnD P w K mg base 3 "demand_count" 1 (mFn 1 1 m_demand_count)) (F_in_range : FnD P w K mg base 2 "in_range" 3 (mFn 3 3 m_in_range)) (E_ArgumentError : ExD P w K mg base 1 "ArgumentError" ["reason"]) : FnD P w K mg base 5 "with_degree" 2 (mFn 2 2 m_with_degree) := by
  refine fn_d (N := ["count", "degree"]) (ps := ["count", "degree"]) F sc_with_degree hm rfl (fun _ _ _ _ _ _ us hl => match us, hl with | [_, _], _ => rfl) (fun cdv A outer s H E hr hG => ?_)
  have tk : Takes (cxOf (L2.CX P w) P w K mg base ["count", "degree"] "with_degree" (defScope st_with_degree) f cdv A outer s H E) (fun c d _ H => E c d H) := takes_of rfl rfl rfl rfl
  have hp : PassesOwn (model P w) (cxOf (L2.CX P w) P w K mg base ["count", "degree"] "with_degree" (defScope st_with_degree) f cdv A outer s H E).A (cxOf (L2.CX P w) P w K mg base ["count", "degree"] "with_degree" (defScope st_with_degree) f cdv A outer s H E).env (cxOf (L2.CX P w) P w K mg base ["count", "degree"] "with_degree" (defScope st_with_degree) f cdv A outer s H E).xe := passes_of rfl
  have hN : (cxOf (L2.CX P w) P w K mg base ["count", "degree"] "with_degree" (defScope st_with_degree) f cdv A outer s H E).N.Nodup := sc_with_degree.nd
  have hu := Nat.lt_of_le_of_lt (Nat.add_le_add_left (by decide : 64 ≤ 16 * 0 + 200) _) (hr.mono (Nat.zero_le _)).un
  have hu1 := Nat.lt_of_le_of_lt (Nat.add_le_add_left (by decide : 65 ≤ 16 * 0 + 200) _) (hr.mono (Nat.zero_le _)).un
  have hu2 := Nat.lt_of_le_of_lt (Nat.add_le_add_left (by decide : 66 ≤ 16 * 0 + 200) _) (hr.mono (Nat.zero_le _)).un
  exact (sds_cons (sd_expr (ed_call (F_demand_count) (hr.mono (by decide)) hG tk (ad_cons (ed_var 0) ad_nil)))
  (sds_cons (sd_if (td_not (td_val (ed_call (F_in_range) (hr.mono (by decide)) hG tk (ad_cons (ed_var 1) (ad_cons ed_int (ad_cons ed_int ad_nil)))))) (sds_one (sd_raise (E_ArgumentError) (hr.mono (by decide)) tk (ad_cons ed_str ad_nil))) sds_nil)
  (sds_one (sd_ret (ed_ty cd_tuple T.b_tuple boot_tuple (ad_cons (ed_call (F_all_with) (hr.mono (by decide)) hG tk (ad_cons (ed_var 0) (ad_cons (ed_var 1) ad_nil))) ad_nil))))))
abbrev st_in_order : Stmt := top 31
def c1_in_order : En → M Va :=
  mLc (mSeqI (mVar 2)) (gVar 3) mYes (mCall g_is_powers (mCons (mVar 0) (mCons (mVar 3) mNil))) [3]
def c2_in_order : En → M Va :=
  mLc (mSeqI (mVar 2)) (gVar 3) mYes (mTup (mCons (mCall g_key_of (mCons (mVar 1) (mCons (mVar 3) mNil))) (mCons (mVar 3) mNil))) [3]
def c3_in_order : En → M Va :=
  mLc (mSeqI (mRev (mVar 4) mNoPart)) (gTupD 2 (gConsD (gVar 5) (gConsD (gVar 3) gNilD))) mYes (mVar 3) [5, 3]
def m_in_order : En → MS :=
  (mSeq (mExpr (mCall g_demand_count (mCons (mVar 0) mNil))) (mSeq (mExpr (mCall g_demand_order (mCons (mVar 0) (mCons (mVar 1) mNil)))) (mSeq (mIfS (mOr (mNot (mT (mIsV .tuple (mVar 2)))) (mOr (mT (mBin (fun a b => calm (opGt a b)) (mBlt bLen (mCons (mVar 2) mNil)) (mC (.int 200)))) (mNot (mT (mBlt bAll (mCons c1_in_order mNil)))))) (mRaise "ArgumentError" ["reason"] (mCons (mC (.str "rows")) mNil)) mNx) (mSeq (mSet 4 (mBlt bSorted (mCons c2_in_order mNil))) (mRet (mBlt bTuple (mCons c3_in_order mNil)))))))
def g_in_order : List Va → M Va := mFn 6 3 m_in_order
theorem sc_in_order : FnScope ["count", "order", "rows", "one", "pairs", "key"] ["count", "order", "rows"] (defScope st_in_order) := ⟨rfl, rfl, rfl, by decide +kernel, rfl, by decide +kernel, by decide +kernel⟩
theorem ok_in_order {f : Addr} {fd : FuncData} (T : Txt K mg) (F : Fun K "in_order" "in_order" st_in_order f fd) (hm : mg "in_order" = some (.ref f)) (F_demand_count : FnD P w K mg base 3 "demand_count" 1 (mFn 1 1 m_demand_count)) (F_demand_order : FnD P w K mg base 4 "demand_order" 2 (mFn 2 2 m_demand_order)) (F_is_powers : FnD P w K mg base 3 "is_powers" 2 (mFn 3 2 m_is_powers)) (F_key_of : FnD P w K mg base 1 "key_of" 2 (mFn 5 2 m_key_of)) (E_ArgumentError : ExD P w K mg base 1 "ArgumentError" ["reason"]) : FnD P w K mg base 5 "in_order" 3 (mFn 6 3 m_in_order) := by
  refine fn_d (N := ["count", "order", "rows", "one", "pairs", "key"]) (ps := ["count", "order", "rows"]) F sc_in_order hm rfl (fun _ _ _ _ _ _ us hl => match us, hl with | [_, _, _], _ => rfl) (fun cdv A outer s H E hr hG => ?_)
  have tk : Takes (cxOf (L2.CX P w) P w K mg base ["count", "order", "rows", "one", "pairs", "key"] "in_order" (defScope st_in_order) f cdv A outer s H E) (fun c d _ H => E c d H) := takes_of rfl rfl rfl rfl
  have hp : PassesOwn (model P w) (cxOf (L2.CX P w) P w K mg base ["count", "order", "rows", "one", "pairs", "key"] "in_order" (defScope st_in_order) f cdv A outer s H E).A (cxOf (L2.CX P w) P w K mg base ["count", "order", "rows", "one", "pairs", "key"] "in_order" (defScope st_in_order) f cdv A outer s H E).env (cxOf (L2.CX P w) P w K mg base ["count", "order", "rows", "one", "pairs", "key"] "in_order" (defScope st_in_order) f cdv A outer s H E).xe := passes_of rfl
  have hN : (cxOf (L2.CX P w) P w K mg base ["count", "order", "rows", "one", "pairs", "key"] "in_order" (defScope st_in_order) f cdv A outer s H E).N.Nodup := sc_in_order.nd
  have hu := Nat.lt_of_le_of_lt (Nat.add_le_add_left (by decide : 64 ≤ 16 * 0 + 200) _) (hr.mono (Nat.zero_le _)).un
  have hu1 := Nat.lt_of_le_of_lt (Nat.add_le_add_left (by decide : 65 ≤ 16 * 0 + 200) _) (hr.mono (Nat.zero_le _)).un
  have hu2 := Nat.lt_of_le_of_lt (Nat.add_le_add_left (by decide : 66 ≤ 16 * 0 + 200) _) (hr.mono (Nat.zero_le _)).un
  exact (sds_cons (sd_expr (ed_call (F_demand_count) (hr.mono (by decide)) hG tk (ad_cons (ed_var 0) ad_nil)))
  (sds_cons (sd_expr (ed_call (F_demand_order) (hr.mono (by decide)) hG tk (ad_cons (ed_var 0) (ad_cons (ed_var 1) ad_nil))))
  (sds_cons (sd_if (td_w (wd_or (td_not (td_val (ed_isV .tuple (clsN_ty T.b_tuple boot_tuple) T.b_isinstance (ed_var 2)))) (wd_or (td_cmp (opd_gtA hu) (ed_blt cd_len T.b_len boot_len (ad_cons (ed_var 2) ad_nil)) ed_int) (wd_or1 (td_not (td_val (ed_blt (cd_all rfl) T.b_all boot_all (ad_cons (ed_lc [("one", 3)] (id_seq (ed_var 2)) (fun _ _ _ _ _ => (gd_name 3)) (fun _ _ _ _ _ => ptsD_nil) (fun _ _ _ _ _ => (ed_call (F_is_powers) (hr.mono (by decide)) hG (takes0) (ad_cons (ed_var 0) (ad_cons (ed_var 3) ad_nil))))) ad_nil)))))))) (sds_one (sd_raise (E_ArgumentError) (hr.mono (by decide)) tk (ad_cons ed_str ad_nil))) sds_nil)
  (sds_cons (sd_set 4 (ed_blt (cd_sorted hu2) T.b_sorted boot_sorted (ad_cons (ed_lc [("one", 3)] (id_seq (ed_var 2)) (fun _ _ _ _ _ => (gd_name 3)) (fun _ _ _ _ _ => ptsD_nil) (fun _ _ _ _ _ => (ed_tup (ad_cons (ed_call (F_key_of) (hr.mono (by decide)) hG (takes0) (ad_cons (ed_var 1) (ad_cons (ed_var 3) ad_nil))) (ad_cons (ed_var 3) ad_nil))))) ad_nil)))
  (sds_one (sd_ret (ed_ty cd_tuple T.b_tuple boot_tuple (ad_cons (ed_lc [("key", 5), ("one", 3)] (id_seq (ed_rev (ed_var 4) pd_none)) (fun _ _ _ _ _ => (gd_tup (gds_cons (gd_name 5) (gds_cons (gd_name 3) gds_nil)))) (fun _ _ _ _ _ => ptsD_nil) (fun _ _ _ _ _ => (ed_var 3))) ad_nil))))))))
abbrev st_tells_apart : Stmt := top 32
def b1_tells_apart : En → MS :=
  (mIfS (mT (mBin (fun a b => calm (opNeA a b)) (mVar 7) (mVar 8))) (mRet (mVar 6)) mNx)
def m_tells_apart : En → MS :=
  (mSeq (mExpr (mCall g_demand_count (mCons (mVar 0) mNil))) (mSeq (mExpr (mCall g_demand_order (mCons (mVar 0) (mCons (mVar 1) mNil)))) (mSeq (mExpr (mCall g_demand_powers (mCons (mVar 0) (mCons (mVar 2) (mCons (mC (.str "one")) mNil))))) (mSeq (mExpr (mCall g_demand_powers (mCons (mVar 0) (mCons (mVar 3) (mCons (mC (.str "other")) mNil))))) (mSeq (mPar [4, 5] (mCons (mCall g_key_of (mCons (mVar 1) (mCons (mVar 2) mNil))) (mCons (mCall g_key_of (mCons (mVar 1) (mCons (mVar 3) mNil))) mNil))) (mSeq (mFor (mArgI ezOf (mCons (mVar 4) (mCons (mVar 5) mNil))) (gTupD 2 (gConsD (gVar 6) (gConsD (gTupD 2 (gConsD (gVar 7) (gConsD (gVar 8) gNilD))) gNilD))) b1_tells_apart) (mRet (mC .non))))))))
def g_tells_apart : List Va → M Va := mFn 9 4 m_tells_apart
theorem sc_tells_apart : FnScope ["count", "order", "one", "other", "first", "second", "place", "part", "own"] ["count", "order", "one", "other"] (defScope st_tells_apart) := ⟨rfl, rfl, rfl, by decide +kernel, rfl, by decide +kernel, by decide +kernel⟩
theorem ok_tells_apart {f : Addr} {fd : FuncData} (T : Txt K mg) (F : Fun K "tells_apart" "tells_apart" st_tells_apart f fd) (hm : mg "tells_apart" = some (.ref f)) (F_demand_count : FnD P w K mg base 3 "demand_count" 1 (mFn 1 1 m_demand_count)) (F_demand_order : FnD P w K mg base 4 "demand_order" 2 (mFn 2 2 m_demand_order)) (F_demand_powers : FnD P w K mg base 4 "demand_powers" 3 (mFn 3 3 m_demand_powers)) (F_key_of : FnD P w K mg base 1 "key_of" 2 (mFn 5 2 m_key_of))  : FnD P w K mg base 5 "tells_apart" 4 (mFn 9 4 m_tells_apart) := by
  refine fn_d (N := ["count", "order", "one", "other", "first", "second", "place", "part", "own"]) (ps := ["count", "order", "one", "other"]) F sc_tells_apart hm rfl (fun _ _ _ _ _ _ us hl => match us, hl with | [_, _, _, _], _ => rfl) (fun cdv A outer s H E hr hG => ?_)
  have tk : Takes (cxOf (L2.CX P w) P w K mg base ["count", "order", "one", "other", "first", "second", "place", "part", "own"] "tells_apart" (defScope st_tells_apart) f cdv A outer s H E) (fun c d _ H => E c d H) := takes_of rfl rfl rfl rfl
  have hp : PassesOwn (model P w) (cxOf (L2.CX P w) P w K mg base ["count", "order", "one", "other", "first", "second", "place", "part", "own"] "tells_apart" (defScope st_tells_apart) f cdv A outer s H E).A (cxOf (L2.CX P w) P w K mg base ["count", "order", "one", "other", "first", "second", "place", "part", "own"] "tells_apart" (defScope st_tells_apart) f cdv A outer s H E).env (cxOf (L2.CX P w) P w K mg base ["count", "order", "one", "other", "first", "second", "place", "part", "own"] "tells_apart" (defScope st_tells_apart) f cdv A outer s H E).xe := passes_of rfl
  have hN : (cxOf (L2.CX P w) P w K mg base ["count", "order", "one", "other", "first", "second", "place", "part", "own"] "tells_apart" (defScope st_tells_apart) f cdv A outer s H E).N.Nodup := sc_tells_apart.nd
  have hu := Nat.lt_of_le_of_lt (Nat.add_le_add_left (by decide : 64 ≤ 16 * 0 + 200) _) (hr.mono (Nat.zero_le _)).un
  have hu1 := Nat.lt_of_le_of_lt (Nat.add_le_add_left (by decide : 65 ≤ 16 * 0 + 200) _) (hr.mono (Nat.zero_le _)).un
  have hu2 := Nat.lt_of_le_of_lt (Nat.add_le_add_left (by decide : 66 ≤ 16 * 0 + 200) _) (hr.mono (Nat.zero_le _)).un
  exact (sds_cons (sd_expr (ed_call (F_demand_count) (hr.mono (by decide)) hG tk (ad_cons (ed_var 0) ad_nil)))
  (sds_cons (sd_expr (ed_call (F_demand_order) (hr.mono (by decide)) hG tk (ad_cons (ed_var 0) (ad_cons (ed_var 1) ad_nil))))
  (sds_cons (sd_expr (ed_call (F_demand_powers) (hr.mono (by decide)) hG tk (ad_cons (ed_var 0) (ad_cons (ed_var 2) (ad_cons ed_str ad_nil)))))
  (sds_cons (sd_expr (ed_call (F_demand_powers) (hr.mono (by decide)) hG tk (ad_cons (ed_var 0) (ad_cons (ed_var 3) (ad_cons ed_str ad_nil)))))
  (sds_cons (sd_par [(4, "first"), (5, "second")] (ad_cons (ed_call (F_key_of) (hr.mono (by decide)) hG tk (ad_cons (ed_var 1) (ad_cons (ed_var 2) ad_nil))) (ad_cons (ed_call (F_key_of) (hr.mono (by decide)) hG tk (ad_cons (ed_var 1) (ad_cons (ed_var 3) ad_nil))) ad_nil)))
  (sds_cons (sd_for hp (id_ez T.b_enumerate T.b_zip (ad_cons (ed_var 4) (ad_cons (ed_var 5) ad_nil))) (gd_tup (gds_cons (gd_name 6) (gds_cons (gd_tup (gds_cons (gd_name 7) (gds_cons (gd_name 8) gds_nil))) gds_nil))) (sds_one (sd_if (td_cmp (opd_neA hu) (ed_var 7) (ed_var 8)) (sds_one (sd_ret (ed_var 6))) sds_nil)))
  (sds_one (sd_ret ed_non))))))))
abbrev st_is_by_degree : Stmt := top 33
def c1_is_by_degree : En → M Va :=
  mLc (mSeqI (mVar 2)) (gVar 3) mYes (mBin (fun a b => calm (opEqA a b)) (mVar 3) (mBin (fun a b => calm (opIx a b)) (mVar 2) (mC (.int 0)))) [3]
def m_is_by_degree : En → MS :=
  (mSeq (mExpr (mCall g_demand_count (mCons (mVar 0) mNil))) (mSeq (mExpr (mCall g_demand_order (mCons (mVar 0) (mCons (mVar 1) mNil)))) (mSeq (mIfS (mOr (mT (mIsV .str (mVar 1))) (mT (mBin (fun a b => calm (opEqA a b)) (mVar 0) (mC (.int 1))))) (mRet (mOrV (mBin (fun a b => calm (opNeA a b)) (mVar 1) (mC (.str "plain"))) (mBin (fun a b => calm (opEqA a b)) (mVar 0) (mC (.int 1))))) mNx) (mSeq (mSet 2 (mBin (fun a b => calm (opIx a b)) (mVar 1) (mC (.int 0)))) (mRet (mAndV (mBin (fun a b => calm (opGt a b)) (mBin (fun a b => calm (opIx a b)) (mVar 2) (mC (.int 0))) (mC (.int 0))) (mBlt bAll (mCons c1_is_by_degree mNil))))))))
def g_is_by_degree : List Va → M Va := mFn 4 2 m_is_by_degree
theorem sc_is_by_degree : FnScope ["count", "order", "row", "part"] ["count", "order"] (defScope st_is_by_degree) := ⟨rfl, rfl, rfl, by decide +kernel, rfl, by decide +kernel, by decide +kernel⟩
theorem ok_is_by_degree {f : Addr} {fd : FuncData} (T : Txt K mg) (F : Fun K "is_by_degree" "is_by_degree" st_is_by_degree f fd) (hm : mg "is_by_degree" = some (.ref f)) (F_demand_count : FnD P w K mg base 3 "demand_count" 1 (mFn 1 1 m_demand_count)) (F_demand_order : FnD P w K mg base 4 "demand_order" 2 (mFn 2 2 m_demand_order))  : FnD P w K mg base 5 "is_by_degree" 2 (mFn 4 2 m_is_by_degree) := by
  refine fn_d (N := ["count", "order", "row", "part"]) (ps := ["count", "order"]) F sc_is_by_degree hm rfl (fun _ _ _ _ _ _ us hl => match us, hl with | [_, _], _ => rfl) (fun cdv A outer s H E hr hG => ?_)
  have tk : Takes (cxOf (L2.CX P w) P w K mg base ["count", "order", "row", "part"] "is_by_degree" (defScope st_is_by_degree) f cdv A outer s H E) (fun c d _ H => E c d H) := takes_of rfl rfl rfl rfl
  have hp : PassesOwn (model P w) (cxOf (L2.CX P w) P w K mg base ["count", "order", "row", "part"] "is_by_degree" (defScope st_is_by_degree) f cdv A outer s H E).A (cxOf (L2.CX P w) P w K mg base ["count", "order", "row", "part"] "is_by_degree" (defScope st_is_by_degree) f cdv A outer s H E).env (cxOf (L2.CX P w) P w K mg base ["count", "order", "row", "part"] "is_by_degree" (defScope st_is_by_degree) f cdv A outer s H E).xe := passes_of rfl
  have hN : (cxOf (L2.CX P w) P w K mg base ["count", "order", "row", "part"] "is_by_degree" (defScope st_is_by_degree) f cdv A outer s H E).N.Nodup := sc_is_by_degree.nd
  have hu := Nat.lt_of_le_of_lt (Nat.add_le_add_left (by decide : 64 ≤ 16 * 0 + 200) _) (hr.mono (Nat.zero_le _)).un
  have hu1 := Nat.lt_of_le_of_lt (Nat.add_le_add_left (by decide : 65 ≤ 16 * 0 + 200) _) (hr.mono (Nat.zero_le _)).un
  have hu2 := Nat.lt_of_le_of_lt (Nat.add_le_add_left (by decide : 66 ≤ 16 * 0 + 200) _) (hr.mono (Nat.zero_le _)).un
  exact (sds_cons (sd_expr (ed_call (F_demand_count) (hr.mono (by decide)) hG tk (ad_cons (ed_var 0) ad_nil)))
  (sds_cons (sd_expr (ed_call (F_demand_order) (hr.mono (by decide)) hG tk (ad_cons (ed_var 0) (ad_cons (ed_var 1) ad_nil))))
  (sds_cons (sd_if (td_w (wd_or (td_val (ed_isV .str (clsN_ty T.b_str boot_str) T.b_isinstance (ed_var 1))) (wd_or1 (td_cmp (opd_eqA hu) (ed_var 0) ed_int)))) (sds_one (sd_ret (ed_or (ed_cmp (opd_neA hu) (ed_var 1) ed_str) (ed_one (ed_cmp (opd_eqA hu) (ed_var 0) ed_int))))) sds_nil)
  (sds_cons (sd_set 2 (ed_ix (ed_var 1) ed_int))
  (sds_one (sd_ret (ed_and (ed_cmp (opd_gtA hu) (ed_ix (ed_var 2) ed_int) ed_int) (ed_one (ed_blt (cd_all rfl) T.b_all boot_all (ad_cons (ed_lc [("part", 3)] (id_seq (ed_var 2)) (fun _ _ _ _ _ => (gd_name 3)) (fun _ _ _ _ _ => ptsD_nil) (fun _ _ _ _ _ => (ed_cmp (opd_eqA hu) (ed_var 3) (ed_ix (ed_var 2) ed_int)))) ad_nil))))))))))
abbrev st_leaves_out : Stmt := top 34
def c1_leaves_out : En → M Va :=
  mLc (mSeqI (mSlice (mBin (fun a b => calm (opIx a b)) (mVar 1) (mC (.int 0))) mNoPart (mPart (mVar 2)))) (gVar 3) mYes (mBin (fun a b => calm (opGt a b)) (mVar 3) (mC (.int 0))) [3]
def m_leaves_out : En → MS :=
  (mSeq (mExpr (mCall g_demand_count (mCons (mVar 0) mNil))) (mSeq (mExpr (mCall g_demand_order (mCons (mVar 0) (mCons (mVar 1) mNil)))) (mSeq (mIfS (mNot (mT (mCall g_in_range (mCons (mVar 2) (mCons (mC (.int 1)) (mCons (mVar 0) mNil)))))) (mRaise "ArgumentError" ["reason"] (mCons (mC (.str "number")) mNil)) mNx) (mSeq (mIfS (mOr (mT (mBin (fun a b => calm (opEqA a b)) (mVar 1) (mC (.str "plain")))) (mT (mBin (fun a b => calm (opEqA a b)) (mVar 2) (mVar 0)))) (mRet (mC (.bl true))) mNx) (mSeq (mIfS (mT (mIsV .str (mVar 1))) (mRet (mC (.bl false))) mNx) (mRet (mAndV (mBlt bAll (mCons c1_leaves_out mNil)) (mNotV (mBlt bAny2 (mCons (mSlice (mBin (fun a b => calm (opIx a b)) (mVar 1) (mC (.int 0))) (mPart (mVar 2)) mNoPart) mNil))))))))))
def g_leaves_out : List Va → M Va := mFn 4 3 m_leaves_out
theorem sc_leaves_out : FnScope ["count", "order", "number", "part"] ["count", "order", "number"] (defScope st_leaves_out) := ⟨rfl, rfl, rfl, by decide +kernel, rfl, by decide +kernel, by decide +kernel⟩
theorem ok_leaves_out {f : Addr} {fd : FuncData} (T : Txt K mg) (F : Fun K "leaves_out" "leaves_out" st_leaves_out f fd) (hm : mg "leaves_out" = some (.ref f)) (F_demand_count : FnD P w K mg base 3 "demand_count" 1 (mFn 1 1 m_demand_count)) (F_demand_order : FnD P w K mg base 4 "demand_order" 2 (mFn 2 2 m_demand_order)) (F_in_range : FnD P w K mg base 2 "in_range" 3 (mFn 3 3 m_in_range)) (E_ArgumentError : ExD P w K mg base 1 "ArgumentError" ["reason"]) : FnD P w K mg base 5 "leaves_out" 3 (mFn 4 3 m_leaves_out) := by
  refine fn_d (N := ["count", "order", "number", "part"]) (ps := ["count", "order", "number"]) F sc_leaves_out hm rfl (fun _ _ _ _ _ _ us hl => match us, hl with | [_, _, _], _ => rfl) (fun cdv A outer s H E hr hG => ?_)
  have tk : Takes (cxOf (L2.CX P w) P w K mg base ["count", "order", "number", "part"] "leaves_out" (defScope st_leaves_out) f cdv A outer s H E) (fun c d _ H => E c d H) := takes_of rfl rfl rfl rfl
  have hp : PassesOwn (model P w) (cxOf (L2.CX P w) P w K mg base ["count", "order", "number", "part"] "leaves_out" (defScope st_leaves_out) f cdv A outer s H E).A (cxOf (L2.CX P w) P w K mg base ["count", "order", "number", "part"] "leaves_out" (defScope st_leaves_out) f cdv A outer s H E).env (cxOf (L2.CX P w) P w K mg base ["count", "order", "number", "part"] "leaves_out" (defScope st_leaves_out) f cdv A outer s H E).xe := passes_of rfl
  have hN : (cxOf (L2.CX P w) P w K mg base ["count", "order", "number", "part"] "leaves_out" (defScope st_leaves_out) f cdv A outer s H E).N.Nodup := sc_leaves_out.nd
  have hu := Nat.lt_of_le_of_lt (Nat.add_le_add_left (by decide : 64 ≤ 16 * 0 + 200) _) (hr.mono (Nat.zero_le _)).un
  have hu1 := Nat.lt_of_le_of_lt (Nat.add_le_add_left (by decide : 65 ≤ 16 * 0 + 200) _) (hr.mono (Nat.zero_le _)).un
  have hu2 := Nat.lt_of_le_of_lt (Nat.add_le_add_left (by decide : 66 ≤ 16 * 0 + 200) _) (hr.mono (Nat.zero_le _)).un
  exact (sds_cons (sd_expr (ed_call (F_demand_count) (hr.mono (by decide)) hG tk (ad_cons (ed_var 0) ad_nil)))
  (sds_cons (sd_expr (ed_call (F_demand_order) (hr.mono (by decide)) hG tk (ad_cons (ed_var 0) (ad_cons (ed_var 1) ad_nil))))
  (sds_cons (sd_if (td_not (td_val (ed_call (F_in_range) (hr.mono (by decide)) hG tk (ad_cons (ed_var 2) (ad_cons ed_int (ad_cons (ed_var 0) ad_nil)))))) (sds_one (sd_raise (E_ArgumentError) (hr.mono (by decide)) tk (ad_cons ed_str ad_nil))) sds_nil)
  (sds_cons (sd_if (td_w (wd_or (td_cmp (opd_eqA hu) (ed_var 1) ed_str) (wd_or1 (td_cmp (opd_eqA hu) (ed_var 2) (ed_var 0))))) (sds_one (sd_ret ed_bl)) sds_nil)
  (sds_cons (sd_if (td_val (ed_isV .str (clsN_ty T.b_str boot_str) T.b_isinstance (ed_var 1))) (sds_one (sd_ret ed_bl)) sds_nil)
  (sds_one (sd_ret (ed_and (ed_blt (cd_all rfl) T.b_all boot_all (ad_cons (ed_lc [("part", 3)] (id_seq (ed_slice (ed_ix (ed_var 1) ed_int) pd_none (pd_some (ed_var 2)))) (fun _ _ _ _ _ => (gd_name 3)) (fun _ _ _ _ _ => ptsD_nil) (fun _ _ _ _ _ => (ed_cmp (opd_gtA hu) (ed_var 3) ed_int))) ad_nil)) (ed_one (ed_not (ed_blt (cd_any2 rfl) T.b_any boot_any (ad_cons (ed_slice (ed_ix (ed_var 1) ed_int) (pd_some (ed_var 2)) pd_none) ad_nil))))))))))))
abbrev st__law_draws : Stmt := top 36
def b1__law_draws : En → MS :=
  (mIfS (mT (mBin (fun a b => calm (opGt a b)) (mVar 3) (mC (.int 0)))) (mSeq (mExpr (mApp (mVar 1) (mBin (fun a b => calm (opMod a b)) (mBlt bInt (mCons (mVar 3) mNil)) (mC (.int 1009))))) (mSet 3 (mBin (fun a b => calm (opFdiv a b)) (mVar 3) (mC (.int 1009))))) mNx)
def b2__law_draws : En → MS :=
  (mSeq (mSet 5 (mBin (fun a b => calm (opMod a b)) (mBlt bInt (mCons (mBin (fun a b => calm (opAdd a b)) (mBin (fun a b => calm (opAdd a b)) (mBin (fun a b => calm (opMulA a b)) (mVar 5) (mC (.int 16807))) (mBin (fun a b => calm (opMulA a b)) (mC (.int 69621)) (mVar 4))) (mC (.int 5))) mNil)) (mC (.int 2147483629)))) (mExpr (mApp (mVar 1) (mBin (fun a b => calm (opFdiv a b)) (mVar 5) (mC (.int 1009))))))
def b3__law_draws : En → MS :=
  (mSeq (mSet 3 (mBlt bAbs (mCons (mVar 2) mNil))) (mIfS (mT (mBin (fun a b => calm (opGe a b)) (mVar 3) (mBin (fun a b => calm (opPow a b)) (mC (.int 10)) (mC (.int 18))))) (mFor (mArgI rangeOf1 (mCons (mC (.int 60)) mNil)) (gVar 4) b1__law_draws) (mSeq (mSet 5 (mBin (fun a b => calm (opMod a b)) (mBlt bInt (mCons (mBin (fun a b => calm (opAdd a b)) (mBin (fun a b => calm (opMulA a b)) (mVar 3) (mC (.int 48271))) (mC (.int 11))) mNil)) (mC (.int 2147483647)))) (mFor (mArgI rangeOf1 (mCons (mC (.int 12)) mNil)) (gVar 4) b2__law_draws))))
def m__law_draws : En → MS :=
  (mSeq (mSet 1 (mObj mNil)) (mSeq (mFor (mSeqI (mSlice (mVar 0) mNoPart (mPart (mC (.int 63))))) (gVar 2) b3__law_draws) (mRet (mFrz (mVar 1)))))
def g__law_draws : List Va → M Va := mFn 6 1 m__law_draws
theorem sc__law_draws : FnScope ["script", "draws", "cell", "rest", "k", "mixed"] ["script"] (defScope st__law_draws) := ⟨rfl, rfl, rfl, by decide +kernel, rfl, by decide +kernel, by decide +kernel⟩
theorem ok__law_draws {f : Addr} {fd : FuncData} (T : Txt K mg) (F : Fun K "_law_draws" "_law_draws" st__law_draws f fd) (hm : mg "_law_draws" = some (.ref f))   : FnD P w K mg base 1 "_law_draws" 1 (mFn 6 1 m__law_draws) := by
  refine fn_d (N := ["script", "draws", "cell", "rest", "k", "mixed"]) (ps := ["script"]) F sc__law_draws hm rfl (fun _ _ _ _ _ _ us hl => match us, hl with | [_], _ => rfl) (fun cdv A outer s H E hr hG => ?_)
  have tk : Takes (cxOf (L2.CX P w) P w K mg base ["script", "draws", "cell", "rest", "k", "mixed"] "_law_draws" (defScope st__law_draws) f cdv A outer s H E) (fun c d _ H => E c d H) := takes_of rfl rfl rfl rfl
  have hp : PassesOwn (model P w) (cxOf (L2.CX P w) P w K mg base ["script", "draws", "cell", "rest", "k", "mixed"] "_law_draws" (defScope st__law_draws) f cdv A outer s H E).A (cxOf (L2.CX P w) P w K mg base ["script", "draws", "cell", "rest", "k", "mixed"] "_law_draws" (defScope st__law_draws) f cdv A outer s H E).env (cxOf (L2.CX P w) P w K mg base ["script", "draws", "cell", "rest", "k", "mixed"] "_law_draws" (defScope st__law_draws) f cdv A outer s H E).xe := passes_of rfl
  have hN : (cxOf (L2.CX P w) P w K mg base ["script", "draws", "cell", "rest", "k", "mixed"] "_law_draws" (defScope st__law_draws) f cdv A outer s H E).N.Nodup := sc__law_draws.nd
  have hu := Nat.lt_of_le_of_lt (Nat.add_le_add_left (by decide : 64 ≤ 16 * 0 + 200) _) (hr.mono (Nat.zero_le _)).un
  have hu1 := Nat.lt_of_le_of_lt (Nat.add_le_add_left (by decide : 65 ≤ 16 * 0 + 200) _) (hr.mono (Nat.zero_le _)).un
  have hu2 := Nat.lt_of_le_of_lt (Nat.add_le_add_left (by decide : 66 ≤ 16 * 0 + 200) _) (hr.mono (Nat.zero_le _)).un
  exact (sds_cons (sd_set 1 (ed_obj ad_nil))
  (sds_cons (sd_for hp (id_seq (ed_slice (ed_var 0) pd_none (pd_some ed_int))) (gd_name 2) (sds_cons (sd_set 3 (ed_blt cd_abs T.b_abs boot_abs (ad_cons (ed_var 2) ad_nil)))
  (sds_one (sd_if (td_cmp (opd_geA hu) (ed_var 3) (ed_op opd_pow ed_int ed_int)) (sds_one (sd_for hp (id_range1 T.b_range (ad_cons ed_int ad_nil)) (gd_name 4) (sds_one (sd_if (td_cmp (opd_gtA hu) (ed_var 3) ed_int) (sds_cons (sd_expr (ed_append (ed_var 1) (ed_op opd_mod (ed_ty cd_int T.b_int boot_int (ad_cons (ed_var 3) ad_nil)) ed_int)))
  (sds_one (sd_set 3 (ed_op opd_fdiv (ed_var 3) ed_int)))) sds_nil)))) (sds_cons (sd_set 5 (ed_op opd_mod (ed_ty cd_int T.b_int boot_int (ad_cons (ed_op opd_add (ed_op opd_mulA (ed_var 3) ed_int) ed_int) ad_nil)) ed_int))
  (sds_one (sd_for hp (id_range1 T.b_range (ad_cons ed_int ad_nil)) (gd_name 4) (sds_cons (sd_set 5 (ed_op opd_mod (ed_ty cd_int T.b_int boot_int (ad_cons (ed_op opd_add (ed_op opd_add (ed_op opd_mulA (ed_var 5) ed_int) (ed_op opd_mulA ed_int (ed_var 4))) ed_int) ad_nil)) ed_int))
  (sds_one (sd_expr (ed_append (ed_var 1) (ed_op opd_fdiv (ed_var 5) ed_int))))))))))))
  (sds_one (sd_ret (ed_frz (ed_var 1))))))
abbrev st__law_more : Stmt := top 37
def b1__law_more : En → MS :=
  (mSeq (mIfS (mTruth (mVar 0)) (mSet 2 (mBin (fun a b => calm (opAdd a b)) (mVar 2) (mBin (fun a b => calm (opIx a b)) (mVar 0) (mBin (fun a b => calm (opMod a b)) (mBlt bInt (mCons (mBin (fun a b => calm (opAdd a b)) (mBin (fun a b => calm (opMulA a b)) (mVar 1) (mBin (fun a b => calm (opAdd a b)) (mVar 3) (mC (.int 5)))) (mVar 3)) mNil)) (mBlt bLen (mCons (mVar 0) mNil)))))) mNx) (mSet 2 (mBin (fun a b => calm (opMod a b)) (mBlt bInt (mCons (mBin (fun a b => calm (opAdd a b)) (mBin (fun a b => calm (opAdd a b)) (mBin (fun a b => calm (opMulA a b)) (mVar 2) (mC (.int 16807))) (mBin (fun a b => calm (opMulA a b)) (mC (.int 69621)) (mVar 3))) (mC (.int 5))) mNil)) (mC (.int 2147483629)))))
def m__law_more : En → MS :=
  (mSeq (mSet 2 (mBin (fun a b => calm (opMod a b)) (mBlt bInt (mCons (mBin (fun a b => calm (opAdd a b)) (mBin (fun a b => calm (opAdd a b)) (mBin (fun a b => calm (opMulA a b)) (mVar 1) (mC (.int 48271))) (mBlt bLen (mCons (mVar 0) mNil))) (mC (.int 11))) mNil)) (mC (.int 2147483629)))) (mSeq (mFor (mArgI rangeOf1 (mCons (mC (.int 3)) mNil)) (gVar 3) b1__law_more) (mRet (mBin (fun a b => calm (opFdiv a b)) (mVar 2) (mC (.int 1009))))))
def g__law_more : List Va → M Va := mFn 4 2 m__law_more
theorem sc__law_more : FnScope ["draws", "place", "mixed", "k"] ["draws", "place"] (defScope st__law_more) := ⟨rfl, rfl, rfl, by decide +kernel, rfl, by decide +kernel, by decide +kernel⟩
theorem ok__law_more {f : Addr} {fd : FuncData} (T : Txt K mg) (F : Fun K "_law_more" "_law_more" st__law_more f fd) (hm : mg "_law_more" = some (.ref f))   : FnD P w K mg base 1 "_law_more" 2 (mFn 4 2 m__law_more) := by
  refine fn_d (N := ["draws", "place", "mixed", "k"]) (ps := ["draws", "place"]) F sc__law_more hm rfl (fun _ _ _ _ _ _ us hl => match us, hl with | [_, _], _ => rfl) (fun cdv A outer s H E hr hG => ?_)
  have tk : Takes (cxOf (L2.CX P w) P w K mg base ["draws", "place", "mixed", "k"] "_law_more" (defScope st__law_more) f cdv A outer s H E) (fun c d _ H => E c d H) := takes_of rfl rfl rfl rfl
  have hp : PassesOwn (model P w) (cxOf (L2.CX P w) P w K mg base ["draws", "place", "mixed", "k"] "_law_more" (defScope st__law_more) f cdv A outer s H E).A (cxOf (L2.CX P w) P w K mg base ["draws", "place", "mixed", "k"] "_law_more" (defScope st__law_more) f cdv A outer s H E).env (cxOf (L2.CX P w) P w K mg base ["draws", "place", "mixed", "k"] "_law_more" (defScope st__law_more) f cdv A outer s H E).xe := passes_of rfl
  have hN : (cxOf (L2.CX P w) P w K mg base ["draws", "place", "mixed", "k"] "_law_more" (defScope st__law_more) f cdv A outer s H E).N.Nodup := sc__law_more.nd
  have hu := Nat.lt_of_le_of_lt (Nat.add_le_add_left (by decide : 64 ≤ 16 * 0 + 200) _) (hr.mono (Nat.zero_le _)).un
  have hu1 := Nat.lt_of_le_of_lt (Nat.add_le_add_left (by decide : 65 ≤ 16 * 0 + 200) _) (hr.mono (Nat.zero_le _)).un
  have hu2 := Nat.lt_of_le_of_lt (Nat.add_le_add_left (by decide : 66 ≤ 16 * 0 + 200) _) (hr.mono (Nat.zero_le _)).un
  exact (sds_cons (sd_set 2 (ed_op opd_mod (ed_ty cd_int T.b_int boot_int (ad_cons (ed_op opd_add (ed_op opd_add (ed_op opd_mulA (ed_var 1) ed_int) (ed_blt cd_len T.b_len boot_len (ad_cons (ed_var 0) ad_nil))) ed_int) ad_nil)) ed_int))
  (sds_cons (sd_for hp (id_range1 T.b_range (ad_cons ed_int ad_nil)) (gd_name 3) (sds_cons (sd_if (td_truth (ed_var 0)) (sds_one (sd_set 2 (ed_op opd_add (ed_var 2) (ed_ix (ed_var 0) (ed_op opd_mod (ed_ty cd_int T.b_int boot_int (ad_cons (ed_op opd_add (ed_op opd_mulA (ed_var 1) (ed_op opd_add (ed_var 3) ed_int)) (ed_var 3)) ad_nil)) (ed_blt cd_len T.b_len boot_len (ad_cons (ed_var 0) ad_nil))))))) sds_nil)
  (sds_one (sd_set 2 (ed_op opd_mod (ed_ty cd_int T.b_int boot_int (ad_cons (ed_op opd_add (ed_op opd_add (ed_op opd_mulA (ed_var 2) ed_int) (ed_op opd_mulA ed_int (ed_var 3))) ed_int) ad_nil)) ed_int)))))
  (sds_one (sd_ret (ed_op opd_fdiv (ed_var 2) ed_int)))))
abbrev st__law_take : Stmt := top 38
def m__law_take : En → MS :=
  (mSeq (mSet 3 (mBin (fun a b => calm (opIx a b)) (mVar 1) (mC (.int 0)))) (mSeq (mSetIx (mVar 1) (mC (.int 0)) (mBin (fun a b => calm (opAdd a b)) (mVar 3) (mC (.int 1)))) (mRet (mBin (fun a b => calm (opMod a b)) (mBlt bInt (mCons (mIf (mT (mBin (fun a b => calm (opLt a b)) (mVar 3) (mBlt bLen (mCons (mVar 0) mNil)))) (mBin (fun a b => calm (opIx a b)) (mVar 0) (mVar 3)) (mCall g__law_more (mCons (mVar 0) (mCons (mVar 3) mNil)))) mNil)) (mVar 2)))))
def g__law_take : List Va → M Va := mFn 4 3 m__law_take
theorem sc__law_take : FnScope ["draws", "at", "many", "place"] ["draws", "at", "many"] (defScope st__law_take) := ⟨rfl, rfl, rfl, by decide +kernel, rfl, by decide +kernel, by decide +kernel⟩
theorem ok__law_take {f : Addr} {fd : FuncData} (T : Txt K mg) (F : Fun K "_law_take" "_law_take" st__law_take f fd) (hm : mg "_law_take" = some (.ref f)) (F__law_more : FnD P w K mg base 1 "_law_more" 2 (mFn 4 2 m__law_more))  : FnD P w K mg base 2 "_law_take" 3 (mFn 4 3 m__law_take) := by
  refine fn_d (N := ["draws", "at", "many", "place"]) (ps := ["draws", "at", "many"]) F sc__law_take hm rfl (fun _ _ _ _ _ _ us hl => match us, hl with | [_, _, _], _ => rfl) (fun cdv A outer s H E hr hG => ?_)
  have tk : Takes (cxOf (L2.CX P w) P w K mg base ["draws", "at", "many", "place"] "_law_take" (defScope st__law_take) f cdv A outer s H E) (fun c d _ H => E c d H) := takes_of rfl rfl rfl rfl
  have hp : PassesOwn (model P w) (cxOf (L2.CX P w) P w K mg base ["draws", "at", "many", "place"] "_law_take" (defScope st__law_take) f cdv A outer s H E).A (cxOf (L2.CX P w) P w K mg base ["draws", "at", "many", "place"] "_law_take" (defScope st__law_take) f cdv A outer s H E).env (cxOf (L2.CX P w) P w K mg base ["draws", "at", "many", "place"] "_law_take" (defScope st__law_take) f cdv A outer s H E).xe := passes_of rfl
  have hN : (cxOf (L2.CX P w) P w K mg base ["draws", "at", "many", "place"] "_law_take" (defScope st__law_take) f cdv A outer s H E).N.Nodup := sc__law_take.nd
  have hu := Nat.lt_of_le_of_lt (Nat.add_le_add_left (by decide : 64 ≤ 16 * 0 + 200) _) (hr.mono (Nat.zero_le _)).un
  have hu1 := Nat.lt_of_le_of_lt (Nat.add_le_add_left (by decide : 65 ≤ 16 * 0 + 200) _) (hr.mono (Nat.zero_le _)).un
  have hu2 := Nat.lt_of_le_of_lt (Nat.add_le_add_left (by decide : 66 ≤ 16 * 0 + 200) _) (hr.mono (Nat.zero_le _)).un
  exact (sds_cons (sd_set 3 (ed_ix (ed_var 1) ed_int))
  (sds_cons (sd_setIx (ed_op opd_add (ed_var 3) ed_int) (ed_var 1) ed_int)
  (sds_one (sd_ret (ed_op opd_mod (ed_ty cd_int T.b_int boot_int (ad_cons (ed_if (td_cmp (opd_ltA hu) (ed_var 3) (ed_blt cd_len T.b_len boot_len (ad_cons (ed_var 0) ad_nil))) (ed_ix (ed_var 0) (ed_var 3)) (ed_call (F__law_more) (hr.mono (by decide)) hG tk (ad_cons (ed_var 0) (ad_cons (ed_var 3) ad_nil)))) ad_nil)) (ed_var 2))))))
abbrev st__law_one : Stmt := top 39
def m__law_one : En → MS :=
  (mRet (mBin (fun a b => calm (opIx a b)) (mVar 0) (mCall g__law_take (mCons (mVar 1) (mCons (mVar 2) (mCons (mBlt bLen (mCons (mVar 0) mNil)) mNil))))))
def g__law_one : List Va → M Va := mFn 3 3 m__law_one
theorem sc__law_one : FnScope ["rows", "draws", "at"] ["rows", "draws", "at"] (defScope st__law_one) := ⟨rfl, rfl, rfl, by decide +kernel, rfl, by decide +kernel, by decide +kernel⟩
theorem ok__law_one {f : Addr} {fd : FuncData} (T : Txt K mg) (F : Fun K "_law_one" "_law_one" st__law_one f fd) (hm : mg "_law_one" = some (.ref f)) (F__law_take : FnD P w K mg base 2 "_law_take" 3 (mFn 4 3 m__law_take))  : FnD P w K mg base 3 "_law_one" 3 (mFn 3 3 m__law_one) := by
  refine fn_d (N := ["rows", "draws", "at"]) (ps := ["rows", "draws", "at"]) F sc__law_one hm rfl (fun _ _ _ _ _ _ us hl => match us, hl with | [_, _, _], _ => rfl) (fun cdv A outer s H E hr hG => ?_)
  have tk : Takes (cxOf (L2.CX P w) P w K mg base ["rows", "draws", "at"] "_law_one" (defScope st__law_one) f cdv A outer s H E) (fun c d _ H => E c d H) := takes_of rfl rfl rfl rfl
  have hp : PassesOwn (model P w) (cxOf (L2.CX P w) P w K mg base ["rows", "draws", "at"] "_law_one" (defScope st__law_one) f cdv A outer s H E).A (cxOf (L2.CX P w) P w K mg base ["rows", "draws", "at"] "_law_one" (defScope st__law_one) f cdv A outer s H E).env (cxOf (L2.CX P w) P w K mg base ["rows", "draws", "at"] "_law_one" (defScope st__law_one) f cdv A outer s H E).xe := passes_of rfl
  have hN : (cxOf (L2.CX P w) P w K mg base ["rows", "draws", "at"] "_law_one" (defScope st__law_one) f cdv A outer s H E).N.Nodup := sc__law_one.nd
  have hu := Nat.lt_of_le_of_lt (Nat.add_le_add_left (by decide : 64 ≤ 16 * 0 + 200) _) (hr.mono (Nat.zero_le _)).un
  have hu1 := Nat.lt_of_le_of_lt (Nat.add_le_add_left (by decide : 65 ≤ 16 * 0 + 200) _) (hr.mono (Nat.zero_le _)).un
  have hu2 := Nat.lt_of_le_of_lt (Nat.add_le_add_left (by decide : 66 ≤ 16 * 0 + 200) _) (hr.mono (Nat.zero_le _)).un
  exact (sds_one (sd_ret (ed_ix (ed_var 0) (ed_call (F__law_take) (hr.mono (by decide)) hG tk (ad_cons (ed_var 1) (ad_cons (ed_var 2) (ad_cons (ed_blt cd_len T.b_len boot_len (ad_cons (ed_var 0) ad_nil)) ad_nil)))))))
abbrev st__law_key : Stmt := top 40
def c1__law_key : En → M Va :=
  mLc (mArgI rangeOf3 (mCons (mBin (fun a b => calm (opSub a b)) (mBlt bLen (mCons (mVar 1) mNil)) (mC (.int 1))) (mCons (mC (.int 0)) (mCons (mNeg (mC (.int 1))) mNil)))) (gVar 2) mYes (mBin (fun a b => calm (opSub a b)) (mC (.int 0)) (mBin (fun a b => calm (opIx a b)) (mVar 1) (mVar 2))) [2]
def c2__law_key : En → M Va :=
  mLc (mArgI zipOf (mCons (mVar 5) (mCons (mVar 1) mNil))) (gTupD 2 (gConsD (gVar 3) (gConsD (gVar 4) gNilD))) mYes (mBin (fun a b => calm (opMulA a b)) (mVar 3) (mVar 4)) [3, 4]
def c3__law_key : En → M Va :=
  mLc (mSeqI (mVar 0)) (gVar 5) mYes (mBlt bSum2 (mCons c2__law_key mNil)) [5]
def m__law_key : En → MS :=
  (mSeq (mIfS (mT (mBin (fun a b => calm (opEqA a b)) (mVar 0) (mC (.str "plain")))) (mRet (mVar 1)) mNx) (mSeq (mIfS (mT (mBin (fun a b => calm (opEqA a b)) (mVar 0) (mC (.str "degree")))) (mRet (mBin (fun a b => calm (opAdd a b)) (mTup (mCons (mBlt bSum2 (mCons (mVar 1) mNil)) mNil)) (mVar 1))) mNx) (mSeq (mIfS (mT (mBin (fun a b => calm (opEqA a b)) (mVar 0) (mC (.str "back")))) (mRet (mBin (fun a b => calm (opAdd a b)) (mTup (mCons (mBlt bSum2 (mCons (mVar 1) mNil)) mNil)) (mBlt bTuple (mCons c1__law_key mNil)))) mNx) (mRet (mBin (fun a b => calm (opAdd a b)) (mBlt bTuple (mCons c3__law_key mNil)) (mVar 1))))))
def g__law_key : List Va → M Va := mFn 6 2 m__law_key
theorem sc__law_key : FnScope ["order", "powers", "k", "a", "b", "row"] ["order", "powers"] (defScope st__law_key) := ⟨rfl, rfl, rfl, by decide +kernel, rfl, by decide +kernel, by decide +kernel⟩
theorem ok__law_key {f : Addr} {fd : FuncData} (T : Txt K mg) (F : Fun K "_law_key" "_law_key" st__law_key f fd) (hm : mg "_law_key" = some (.ref f))   : FnD P w K mg base 1 "_law_key" 2 (mFn 6 2 m__law_key) := by
  refine fn_d (N := ["order", "powers", "k", "a", "b", "row"]) (ps := ["order", "powers"]) F sc__law_key hm rfl (fun _ _ _ _ _ _ us hl => match us, hl with | [_, _], _ => rfl) (fun cdv A outer s H E hr hG => ?_)
  have tk : Takes (cxOf (L2.CX P w) P w K mg base ["order", "powers", "k", "a", "b", "row"] "_law_key" (defScope st__law_key) f cdv A outer s H E) (fun c d _ H => E c d H) := takes_of rfl rfl rfl rfl
  have hp : PassesOwn (model P w) (cxOf (L2.CX P w) P w K mg base ["order", "powers", "k", "a", "b", "row"] "_law_key" (defScope st__law_key) f cdv A outer s H E).A (cxOf (L2.CX P w) P w K mg base ["order", "powers", "k", "a", "b", "row"] "_law_key" (defScope st__law_key) f cdv A outer s H E).env (cxOf (L2.CX P w) P w K mg base ["order", "powers", "k", "a", "b", "row"] "_law_key" (defScope st__law_key) f cdv A outer s H E).xe := passes_of rfl
  have hN : (cxOf (L2.CX P w) P w K mg base ["order", "powers", "k", "a", "b", "row"] "_law_key" (defScope st__law_key) f cdv A outer s H E).N.Nodup := sc__law_key.nd
  have hu := Nat.lt_of_le_of_lt (Nat.add_le_add_left (by decide : 64 ≤ 16 * 0 + 200) _) (hr.mono (Nat.zero_le _)).un
  have hu1 := Nat.lt_of_le_of_lt (Nat.add_le_add_left (by decide : 65 ≤ 16 * 0 + 200) _) (hr.mono (Nat.zero_le _)).un
  have hu2 := Nat.lt_of_le_of_lt (Nat.add_le_add_left (by decide : 66 ≤ 16 * 0 + 200) _) (hr.mono (Nat.zero_le _)).un
  exact (sds_cons (sd_if (td_cmp (opd_eqA hu) (ed_var 0) ed_str) (sds_one (sd_ret (ed_var 1))) sds_nil)
  (sds_cons (sd_if (td_cmp (opd_eqA hu) (ed_var 0) ed_str) (sds_one (sd_ret (ed_op opd_add (ed_tup (ad_cons (ed_blt (cd_sum2 rfl) T.b_sum boot_sum (ad_cons (ed_var 1) ad_nil)) ad_nil)) (ed_var 1)))) sds_nil)
  (sds_cons (sd_if (td_cmp (opd_eqA hu) (ed_var 0) ed_str) (sds_one (sd_ret (ed_op opd_add (ed_tup (ad_cons (ed_blt (cd_sum2 rfl) T.b_sum boot_sum (ad_cons (ed_var 1) ad_nil)) ad_nil)) (ed_ty cd_tuple T.b_tuple boot_tuple (ad_cons (ed_lc [("k", 2)] (id_range3 T.b_range (ad_cons (ed_op opd_sub (ed_blt cd_len T.b_len boot_len (ad_cons (ed_var 1) ad_nil)) ed_int) (ad_cons ed_int (ad_cons (ed_neg ed_int) ad_nil)))) (fun _ _ _ _ _ => (gd_name 2)) (fun _ _ _ _ _ => ptsD_nil) (fun _ _ _ _ _ => (ed_op opd_sub ed_int (ed_ix (ed_var 1) (ed_var 2))))) ad_nil))))) sds_nil)
  (sds_one (sd_ret (ed_op opd_add (ed_ty cd_tuple T.b_tuple boot_tuple (ad_cons (ed_lc [("row", 5)] (id_seq (ed_var 0)) (fun _ _ _ _ _ => (gd_name 5)) (fun _ _ _ _ _ => ptsD_nil) (fun _ _ _ _ _ => (ed_blt (cd_sum2 rfl) T.b_sum boot_sum (ad_cons (ed_lc [("a", 3), ("b", 4)] (id_zip T.b_zip (ad_cons (ed_var 5) (ad_cons (ed_var 1) ad_nil))) (fun _ _ _ _ _ => (gd_tup (gds_cons (gd_name 3) (gds_cons (gd_name 4) gds_nil)))) (fun _ _ _ _ _ => ptsD_nil) (fun _ _ _ _ _ => (ed_op opd_mulA (ed_var 3) (ed_var 4)))) ad_nil)))) ad_nil)) (ed_var 1)))))))
abbrev st__law_divides : Stmt := top 41
def c1__law_divides : En → M Va :=
  mLc (mArgI rangeOf1 (mCons (mBlt bLen (mCons (mVar 0) mNil)) mNil)) (gVar 2) (mT (mBin (fun a b => calm (opGt a b)) (mBin (fun a b => calm (opIx a b)) (mVar 0) (mVar 2)) (mBin (fun a b => calm (opIx a b)) (mVar 1) (mVar 2)))) (mVar 2) [2]
def m__law_divides : En → MS :=
  (mRet (mBin (fun a b => calm (opEqA a b)) c1__law_divides (mLst mNil)))
def g__law_divides : List Va → M Va := mFn 3 2 m__law_divides
theorem sc__law_divides : FnScope ["one", "other", "k"] ["one", "other"] (defScope st__law_divides) := ⟨rfl, rfl, rfl, by decide +kernel, rfl, by decide +kernel, by decide +kernel⟩
theorem ok__law_divides {f : Addr} {fd : FuncData} (T : Txt K mg) (F : Fun K "_law_divides" "_law_divides" st__law_divides f fd) (hm : mg "_law_divides" = some (.ref f))   : FnD P w K mg base 1 "_law_divides" 2 (mFn 3 2 m__law_divides) := by
  refine fn_d (N := ["one", "other", "k"]) (ps := ["one", "other"]) F sc__law_divides hm rfl (fun _ _ _ _ _ _ us hl => match us, hl with | [_, _], _ => rfl) (fun cdv A outer s H E hr hG => ?_)
  have tk : Takes (cxOf (L2.CX P w) P w K mg base ["one", "other", "k"] "_law_divides" (defScope st__law_divides) f cdv A outer s H E) (fun c d _ H => E c d H) := takes_of rfl rfl rfl rfl
  have hp : PassesOwn (model P w) (cxOf (L2.CX P w) P w K mg base ["one", "other", "k"] "_law_divides" (defScope st__law_divides) f cdv A outer s H E).A (cxOf (L2.CX P w) P w K mg base ["one", "other", "k"] "_law_divides" (defScope st__law_divides) f cdv A outer s H E).env (cxOf (L2.CX P w) P w K mg base ["one", "other", "k"] "_law_divides" (defScope st__law_divides) f cdv A outer s H E).xe := passes_of rfl
  have hN : (cxOf (L2.CX P w) P w K mg base ["one", "other", "k"] "_law_divides" (defScope st__law_divides) f cdv A outer s H E).N.Nodup := sc__law_divides.nd
  have hu := Nat.lt_of_le_of_lt (Nat.add_le_add_left (by decide : 64 ≤ 16 * 0 + 200) _) (hr.mono (Nat.zero_le _)).un
  have hu1 := Nat.lt_of_le_of_lt (Nat.add_le_add_left (by decide : 65 ≤ 16 * 0 + 200) _) (hr.mono (Nat.zero_le _)).un
  have hu2 := Nat.lt_of_le_of_lt (Nat.add_le_add_left (by decide : 66 ≤ 16 * 0 + 200) _) (hr.mono (Nat.zero_le _)).un
  exact (sds_one (sd_ret (ed_cmp (opd_eqA hu) (ed_lc [("k", 2)] (id_range1 T.b_range (ad_cons (ed_blt cd_len T.b_len boot_len (ad_cons (ed_var 0) ad_nil)) ad_nil)) (fun _ _ _ _ _ => (gd_name 2)) (fun _ _ _ _ _ => (ptsD_one (td_cmp (opd_gtA hu) (ed_ix (ed_var 0) (ed_var 2)) (ed_ix (ed_var 1) (ed_var 2))))) (fun _ _ _ _ _ => (ed_var 2))) (ed_lst ad_nil))))
abbrev st__law_order : Stmt := top 42
def c1__law_order : En → M Va :=
  mLc (mArgI rangeOf1 (mCons (mVar 0) mNil)) (gVar 4) mYes (mBin (fun a b => calm (opAdd a b)) (mC (.int 1)) (mCall g__law_take (mCons (mVar 1) (mCons (mVar 2) (mCons (mC (.int 4)) mNil))))) [4]
def c2__law_order : En → M Va :=
  mLc (mArgI rangeOf1 (mCons (mVar 0) mNil)) (gVar 5) mYes (mBin (fun a b => calm (opSub a b)) (mCall g__law_take (mCons (mVar 1) (mCons (mVar 2) (mCons (mC (.int 5)) mNil)))) (mC (.int 2))) [5]
def b1__law_order : En → MS :=
  (mExpr (mApp (mVar 3) (mBlt bTuple (mCons c2__law_order mNil))))
def m__law_order : En → MS :=
  (mSeq (mSet 3 (mObj (mCons (mBlt bTuple (mCons c1__law_order mNil)) mNil))) (mSeq (mFor (mArgI rangeOf1 (mCons (mCall g__law_take (mCons (mVar 1) (mCons (mVar 2) (mCons (mC (.int 3)) mNil)))) mNil)) (gVar 4) b1__law_order) (mRet (mCall g__law_one (mCons (mLst (mCons (mC (.str "plain")) (mCons (mC (.str "degree")) (mCons (mC (.str "back")) (mCons (mBlt bTuple (mCons (mVar 3) mNil)) mNil))))) (mCons (mVar 1) (mCons (mVar 2) mNil)))))))
def g__law_order : List Va → M Va := mFn 6 3 m__law_order
theorem sc__law_order : FnScope ["count", "draws", "at", "rows", "k", "j"] ["count", "draws", "at"] (defScope st__law_order) := ⟨rfl, rfl, rfl, by decide +kernel, rfl, by decide +kernel, by decide +kernel⟩
theorem ok__law_order {f : Addr} {fd : FuncData} (T : Txt K mg) (F : Fun K "_law_order" "_law_order" st__law_order f fd) (hm : mg "_law_order" = some (.ref f)) (F__law_one : FnD P w K mg base 3 "_law_one" 3 (mFn 3 3 m__law_one)) (F__law_take : FnD P w K mg base 2 "_law_take" 3 (mFn 4 3 m__law_take))  : FnD P w K mg base 4 "_law_order" 3 (mFn 6 3 m__law_order) := by
  refine fn_d (N := ["count", "draws", "at", "rows", "k", "j"]) (ps := ["count", "draws", "at"]) F sc__law_order hm rfl (fun _ _ _ _ _ _ us hl => match us, hl with | [_, _, _], _ => rfl) (fun cdv A outer s H E hr hG => ?_)
  have tk : Takes (cxOf (L2.CX P w) P w K mg base ["count", "draws", "at", "rows", "k", "j"] "_law_order" (defScope st__law_order) f cdv A outer s H E) (fun c d _ H => E c d H) := takes_of rfl rfl rfl rfl
  have hp : PassesOwn (model P w) (cxOf (L2.CX P w) P w K mg base ["count", "draws", "at", "rows", "k", "j"] "_law_order" (defScope st__law_order) f cdv A outer s H E).A (cxOf (L2.CX P w) P w K mg base ["count", "draws", "at", "rows", "k", "j"] "_law_order" (defScope st__law_order) f cdv A outer s H E).env (cxOf (L2.CX P w) P w K mg base ["count", "draws", "at", "rows", "k", "j"] "_law_order" (defScope st__law_order) f cdv A outer s H E).xe := passes_of rfl
  have hN : (cxOf (L2.CX P w) P w K mg base ["count", "draws", "at", "rows", "k", "j"] "_law_order" (defScope st__law_order) f cdv A outer s H E).N.Nodup := sc__law_order.nd
  have hu := Nat.lt_of_le_of_lt (Nat.add_le_add_left (by decide : 64 ≤ 16 * 0 + 200) _) (hr.mono (Nat.zero_le _)).un
  have hu1 := Nat.lt_of_le_of_lt (Nat.add_le_add_left (by decide : 65 ≤ 16 * 0 + 200) _) (hr.mono (Nat.zero_le _)).un
  have hu2 := Nat.lt_of_le_of_lt (Nat.add_le_add_left (by decide : 66 ≤ 16 * 0 + 200) _) (hr.mono (Nat.zero_le _)).un
  exact (sds_cons (sd_set 3 (ed_obj (ad_cons (ed_ty cd_tuple T.b_tuple boot_tuple (ad_cons (ed_lc [("k", 4)] (id_range1 T.b_range (ad_cons (ed_var 0) ad_nil)) (fun _ _ _ _ _ => (gd_name 4)) (fun _ _ _ _ _ => ptsD_nil) (fun _ _ _ _ _ => (ed_op opd_add ed_int (ed_call (F__law_take) (hr.mono (by decide)) hG (takes0) (ad_cons (ed_var 1) (ad_cons (ed_var 2) (ad_cons ed_int ad_nil))))))) ad_nil)) ad_nil)))
  (sds_cons (sd_for hp (id_range1 T.b_range (ad_cons (ed_call (F__law_take) (hr.mono (by decide)) hG tk (ad_cons (ed_var 1) (ad_cons (ed_var 2) (ad_cons ed_int ad_nil)))) ad_nil)) (gd_name 4) (sds_one (sd_expr (ed_append (ed_var 3) (ed_ty cd_tuple T.b_tuple boot_tuple (ad_cons (ed_lc [("j", 5)] (id_range1 T.b_range (ad_cons (ed_var 0) ad_nil)) (fun _ _ _ _ _ => (gd_name 5)) (fun _ _ _ _ _ => ptsD_nil) (fun _ _ _ _ _ => (ed_op opd_sub (ed_call (F__law_take) (hr.mono (by decide)) hG (takes0) (ad_cons (ed_var 1) (ad_cons (ed_var 2) (ad_cons ed_int ad_nil)))) ed_int))) ad_nil))))))
  (sds_one (sd_ret (ed_call (F__law_one) (hr.mono (by decide)) hG tk (ad_cons (ed_lst (ad_cons ed_str (ad_cons ed_str (ad_cons ed_str (ad_cons (ed_ty cd_tuple T.b_tuple boot_tuple (ad_cons (ed_var 3) ad_nil)) ad_nil))))) (ad_cons (ed_var 1) (ad_cons (ed_var 2) ad_nil))))))))
abbrev st__law_told : Stmt := top 43
def m__law_told : En → MS :=
  (mTry sub (mSeq (mIfS (mT (mBin (fun a b => calm (opLt a b)) (mVar 0) (mC (.int 4)))) (mSeq (mSet 5 (mLst (mCons (mC (.glo "times")) (mCons (mC (.glo "over")) (mCons (mC (.glo "least_multiple")) (mCons (mC (.glo "greatest_shared")) mNil)))))) (mRet (mCallV [("times", g_times), ("over", g_over), ("least_multiple", g_least_multiple), ("greatest_shared", g_greatest_shared)] (mBin (fun a b => calm (opIx a b)) (mVar 5) (mVar 0)) (mCons (mVar 1) (mCons (mVar 2) (mCons (mVar 3) mNil)))))) mNx) (mSeq (mIfS (mT (mBin (fun a b => calm (opLt a b)) (mVar 0) (mC (.int 8)))) (mRet (mIf (mT (mBin (fun a b => calm (opEqA a b)) (mVar 0) (mC (.int 4)))) (mCall g_compare (mCons (mVar 1) (mCons (mVar 2) (mCons (mVar 3) (mCons (mVar 4) mNil))))) (mIf (mT (mBin (fun a b => calm (opEqA a b)) (mVar 0) (mC (.int 5)))) (mCall g_tells_apart (mCons (mVar 1) (mCons (mVar 2) (mCons (mVar 3) (mCons (mVar 4) mNil))))) (mIf (mT (mBin (fun a b => calm (opEqA a b)) (mVar 0) (mC (.int 6)))) (mCall g_in_order (mCons (mVar 1) (mCons (mVar 2) (mCons (mVar 3) mNil)))) (mCall g_leaves_out (mCons (mVar 1) (mCons (mVar 2) (mCons (mVar 3) mNil)))))))) mNx) (mRet (mIf (mT (mBin (fun a b => calm (opEqA a b)) (mVar 0) (mC (.int 8)))) (mCall g_is_by_degree (mCons (mVar 1) (mCons (mVar 2) mNil))) (mCall g_with_degree (mCons (mVar 1) (mCons (mVar 2) mNil))))))) [("ArgumentError", some 6, (mRet (mIf (mT (mIsE sub "IdealError" (mVar 6))) (mTup (mCons (mC (.str "argument")) (mCons (mFld ["ArgumentError"] "reason" (mVar 6)) mNil))) (mC (.str "")))))])
def g__law_told : List Va → M Va := mFn 7 5 m__law_told
theorem sc__law_told : FnScope ["call", "count", "one", "two", "three", "rows", "e"] ["call", "count", "one", "two", "three"] (defScope st__law_told) := ⟨rfl, rfl, rfl, by decide +kernel, rfl, by decide +kernel, by decide +kernel⟩
theorem ok__law_told {f : Addr} {fd : FuncData} (T : Txt K mg) (F : Fun K "_law_told" "_law_told" st__law_told f fd) (hm : mg "_law_told" = some (.ref f)) (F_compare : FnD P w K mg base 5 "compare" 4 (mFn 6 4 m_compare)) (F_greatest_shared : FnD P w K mg base 5 "greatest_shared" 3 (mFn 3 3 m_greatest_shared)) (F_in_order : FnD P w K mg base 5 "in_order" 3 (mFn 6 3 m_in_order)) (F_is_by_degree : FnD P w K mg base 5 "is_by_degree" 2 (mFn 4 2 m_is_by_degree)) (F_least_multiple : FnD P w K mg base 5 "least_multiple" 3 (mFn 3 3 m_least_multiple)) (F_leaves_out : FnD P w K mg base 5 "leaves_out" 3 (mFn 4 3 m_leaves_out)) (F_over : FnD P w K mg base 5 "over" 3 (mFn 3 3 m_over)) (F_tells_apart : FnD P w K mg base 5 "tells_apart" 4 (mFn 9 4 m_tells_apart)) (F_times : FnD P w K mg base 5 "times" 3 (mFn 3 3 m_times)) (F_with_degree : FnD P w K mg base 5 "with_degree" 2 (mFn 2 2 m_with_degree)) (EW : ExW K mg tbl owns) (F_reason : ExF K mg ["ArgumentError"] "reason")  : FnD P w K mg base 6 "_law_told" 5 (mFn 7 5 m__law_told) := by
  obtain ⟨C_ArgumentError, H_ArgumentError⟩ := EW.at_ "ArgumentError" (by decide)
  obtain ⟨C_IdealError, H_IdealError⟩ := EW.at_ "IdealError" (by decide)
  refine fn_d (N := ["call", "count", "one", "two", "three", "rows", "e"]) (ps := ["call", "count", "one", "two", "three"]) F sc__law_told hm rfl (fun _ _ _ _ _ _ us hl => match us, hl with | [_, _, _, _, _], _ => rfl) (fun cdv A outer s H E hr hG => ?_)
  have tk : Takes (cxOf (L2.CX P w) P w K mg base ["call", "count", "one", "two", "three", "rows", "e"] "_law_told" (defScope st__law_told) f cdv A outer s H E) (fun c d _ H => E c d H) := takes_of rfl rfl rfl rfl
  have hp : PassesOwn (model P w) (cxOf (L2.CX P w) P w K mg base ["call", "count", "one", "two", "three", "rows", "e"] "_law_told" (defScope st__law_told) f cdv A outer s H E).A (cxOf (L2.CX P w) P w K mg base ["call", "count", "one", "two", "three", "rows", "e"] "_law_told" (defScope st__law_told) f cdv A outer s H E).env (cxOf (L2.CX P w) P w K mg base ["call", "count", "one", "two", "three", "rows", "e"] "_law_told" (defScope st__law_told) f cdv A outer s H E).xe := passes_of rfl
  have hN : (cxOf (L2.CX P w) P w K mg base ["call", "count", "one", "two", "three", "rows", "e"] "_law_told" (defScope st__law_told) f cdv A outer s H E).N.Nodup := sc__law_told.nd
  have N_ArgumentError : Names (cxOf (L2.CX P w) P w K mg base ["call", "count", "one", "two", "three", "rows", "e"] "_law_told" (defScope st__law_told) f cdv A outer s H E) "ArgumentError" (.ref C_ArgumentError) := ⟨rfl, by decide, .inl H_ArgumentError⟩
  have S_ArgumentError : ∀ c b D, sub c "ArgumentError" = some b → mg c = some (.ref D) → PySem.W.exmOne K (.ref D) (.ref C_ArgumentError) = some b := fun c b D h1 h2 => EW.exm c _ b _ D (by decide) h1 h2 H_ArgumentError
  have K_ArgumentError : ∀ c b D, sub c "ArgumentError" = some b → mg c = some (.ref D) → PySem.W.kitOne K (.ref D) (.ref C_ArgumentError) = some b ∧ ExcC K D := fun c b D h1 h2 => ⟨EW.kit c _ b _ D (by decide) h1 h2 H_ArgumentError, EW.ec c _ b D h1 h2⟩
  have N_IdealError : Names (cxOf (L2.CX P w) P w K mg base ["call", "count", "one", "two", "three", "rows", "e"] "_law_told" (defScope st__law_told) f cdv A outer s H E) "IdealError" (.ref C_IdealError) := ⟨rfl, by decide, .inl H_IdealError⟩
  have S_IdealError : ∀ c b D, sub c "IdealError" = some b → mg c = some (.ref D) → PySem.W.exmOne K (.ref D) (.ref C_IdealError) = some b := fun c b D h1 h2 => EW.exm c _ b _ D (by decide) h1 h2 H_IdealError
  have K_IdealError : ∀ c b D, sub c "IdealError" = some b → mg c = some (.ref D) → PySem.W.kitOne K (.ref D) (.ref C_IdealError) = some b ∧ ExcC K D := fun c b D h1 h2 => ⟨EW.kit c _ b _ D (by decide) h1 h2 H_IdealError, EW.ec c _ b D h1 h2⟩
  have hu := Nat.lt_of_le_of_lt (Nat.add_le_add_left (by decide : 64 ≤ 16 * 0 + 200) _) (hr.mono (Nat.zero_le _)).un
  have hu1 := Nat.lt_of_le_of_lt (Nat.add_le_add_left (by decide : 65 ≤ 16 * 0 + 200) _) (hr.mono (Nat.zero_le _)).un
  have hu2 := Nat.lt_of_le_of_lt (Nat.add_le_add_left (by decide : 66 ≤ 16 * 0 + 200) _) (hr.mono (Nat.zero_le _)).un
  obtain ⟨a_greatest_shared, m_greatest_shared⟩ := F_greatest_shared.at_
  obtain ⟨a_least_multiple, m_least_multiple⟩ := F_least_multiple.at_
  obtain ⟨a_over, m_over⟩ := F_over.at_
  obtain ⟨a_times, m_times⟩ := F_times.at_
  exact (sds_one (sd_try tk (fun W1 pn1 xe1 tk1 hp1 => (sds_cons (sd_if (td_cmp (opd_ltA hu) (ed_var 0) ed_int) (sds_cons (sd_set 5 (ed_lst (ad_cons (ed_glo m_times) (ad_cons (ed_glo m_over) (ad_cons (ed_glo m_least_multiple) (ad_cons (ed_glo m_greatest_shared) ad_nil))))))
  (sds_one (sd_ret (ed_callV (fs := [("times", g_times), ("over", g_over), ("least_multiple", g_least_multiple), ("greatest_shared", g_greatest_shared)]) ⟨⟨_, _, _, rfl, F_times.mono (by decide)⟩, ⟨_, _, _, rfl, F_over.mono (by decide)⟩, ⟨_, _, _, rfl, F_least_multiple.mono (by decide)⟩, ⟨_, _, _, rfl, F_greatest_shared.mono (by decide)⟩, trivial⟩ hr hG tk1 (ed_ix (ed_var 5) (ed_var 0)) (ad_cons (ed_var 1) (ad_cons (ed_var 2) (ad_cons (ed_var 3) ad_nil))))))) sds_nil)
  (sds_cons (sd_if (td_cmp (opd_ltA hu) (ed_var 0) ed_int) (sds_one (sd_ret (ed_if (td_cmp (opd_eqA hu) (ed_var 0) ed_int) (ed_call (F_compare) (hr.mono (by decide)) hG tk1 (ad_cons (ed_var 1) (ad_cons (ed_var 2) (ad_cons (ed_var 3) (ad_cons (ed_var 4) ad_nil))))) (ed_if (td_cmp (opd_eqA hu) (ed_var 0) ed_int) (ed_call (F_tells_apart) (hr.mono (by decide)) hG tk1 (ad_cons (ed_var 1) (ad_cons (ed_var 2) (ad_cons (ed_var 3) (ad_cons (ed_var 4) ad_nil))))) (ed_if (td_cmp (opd_eqA hu) (ed_var 0) ed_int) (ed_call (F_in_order) (hr.mono (by decide)) hG tk1 (ad_cons (ed_var 1) (ad_cons (ed_var 2) (ad_cons (ed_var 3) ad_nil)))) (ed_call (F_leaves_out) (hr.mono (by decide)) hG tk1 (ad_cons (ed_var 1) (ad_cons (ed_var 2) (ad_cons (ed_var 3) ad_nil))))))))) sds_nil)
  (sds_one (sd_ret (ed_if (td_cmp (opd_eqA hu) (ed_var 0) ed_int) (ed_call (F_is_by_degree) (hr.mono (by decide)) hG tk1 (ad_cons (ed_var 1) (ad_cons (ed_var 2) ad_nil))) (ed_call (F_with_degree) (hr.mono (by decide)) hG tk1 (ad_cons (ed_var 1) (ad_cons (ed_var 2) ad_nil))))))))) (.consN (N_ArgumentError) (S_ArgumentError) hN rfl rfl (fun a oe cls d pn hz hf => (sds_one (sd_ret (ed_if (td_val (ed_isE (clsN_own H_IdealError) T.b_isinstance hz hf (K_IdealError) (ed_var 6))) (ed_tup (ad_cons ed_str (ad_cons (ed_fld (F_reason) hz hf (ed_var 6)) ad_nil))) ed_str))))
 .nil)))
abbrev st__law_powers : Stmt := top 44
def c1__law_powers : En → M Va :=
  mLc (mArgI rangeOf1 (mCons (mVar 0) mNil)) (gVar 4) mYes (mCall g__law_take (mCons (mVar 1) (mCons (mVar 2) (mCons (mVar 3) mNil)))) [4]
def m__law_powers : En → MS :=
  (mSeq (mSet 3 (mCall g__law_one (mCons (mLst (mCons (mC (.int 2)) (mCons (mC (.int 4)) (mCons (mC (.int 31)) mNil)))) (mCons (mVar 1) (mCons (mVar 2) mNil))))) (mRet (mBlt bTuple (mCons c1__law_powers mNil))))
def g__law_powers : List Va → M Va := mFn 5 3 m__law_powers
theorem sc__law_powers : FnScope ["count", "draws", "at", "most", "k"] ["count", "draws", "at"] (defScope st__law_powers) := ⟨rfl, rfl, rfl, by decide +kernel, rfl, by decide +kernel, by decide +kernel⟩
theorem ok__law_powers {f : Addr} {fd : FuncData} (T : Txt K mg) (F : Fun K "_law_powers" "_law_powers" st__law_powers f fd) (hm : mg "_law_powers" = some (.ref f)) (F__law_one : FnD P w K mg base 3 "_law_one" 3 (mFn 3 3 m__law_one)) (F__law_take : FnD P w K mg base 2 "_law_take" 3 (mFn 4 3 m__law_take))  : FnD P w K mg base 4 "_law_powers" 3 (mFn 5 3 m__law_powers) := by
  refine fn_d (N := ["count", "draws", "at", "most", "k"]) (ps := ["count", "draws", "at"]) F sc__law_powers hm rfl (fun _ _ _ _ _ _ us hl => match us, hl with | [_, _, _], _ => rfl) (fun cdv A outer s H E hr hG => ?_)
  have tk : Takes (cxOf (L2.CX P w) P w K mg base ["count", "draws", "at", "most", "k"] "_law_powers" (defScope st__law_powers) f cdv A outer s H E) (fun c d _ H => E c d H) := takes_of rfl rfl rfl rfl
  have hp : PassesOwn (model P w) (cxOf (L2.CX P w) P w K mg base ["count", "draws", "at", "most", "k"] "_law_powers" (defScope st__law_powers) f cdv A outer s H E).A (cxOf (L2.CX P w) P w K mg base ["count", "draws", "at", "most", "k"] "_law_powers" (defScope st__law_powers) f cdv A outer s H E).env (cxOf (L2.CX P w) P w K mg base ["count", "draws", "at", "most", "k"] "_law_powers" (defScope st__law_powers) f cdv A outer s H E).xe := passes_of rfl
  have hN : (cxOf (L2.CX P w) P w K mg base ["count", "draws", "at", "most", "k"] "_law_powers" (defScope st__law_powers) f cdv A outer s H E).N.Nodup := sc__law_powers.nd
  have hu := Nat.lt_of_le_of_lt (Nat.add_le_add_left (by decide : 64 ≤ 16 * 0 + 200) _) (hr.mono (Nat.zero_le _)).un
  have hu1 := Nat.lt_of_le_of_lt (Nat.add_le_add_left (by decide : 65 ≤ 16 * 0 + 200) _) (hr.mono (Nat.zero_le _)).un
  have hu2 := Nat.lt_of_le_of_lt (Nat.add_le_add_left (by decide : 66 ≤ 16 * 0 + 200) _) (hr.mono (Nat.zero_le _)).un
  exact (sds_cons (sd_set 3 (ed_call (F__law_one) (hr.mono (by decide)) hG tk (ad_cons (ed_lst (ad_cons ed_int (ad_cons ed_int (ad_cons ed_int ad_nil)))) (ad_cons (ed_var 1) (ad_cons (ed_var 2) ad_nil)))))
  (sds_one (sd_ret (ed_ty cd_tuple T.b_tuple boot_tuple (ad_cons (ed_lc [("k", 4)] (id_range1 T.b_range (ad_cons (ed_var 0) ad_nil)) (fun _ _ _ _ _ => (gd_name 4)) (fun _ _ _ _ _ => ptsD_nil) (fun _ _ _ _ _ => (ed_call (F__law_take) (hr.mono (by decide)) hG (takes0) (ad_cons (ed_var 1) (ad_cons (ed_var 2) (ad_cons (ed_var 3) ad_nil)))))) ad_nil)))))
abbrev st__law_all : Stmt := top 45
def c1__law_all (rc : En → MS) : En → M Va :=
  mLc (mSeqI (mCall (mFn 5 2 rc) (mCons (mBin (fun a b => calm (opSub a b)) (mVar 0) (mC (.int 1))) (mCons (mBin (fun a b => calm (opSub a b)) (mVar 1) (mVar 3)) mNil)))) (gVar 4) mYes (mBin (fun a b => calm (opAdd a b)) (mTup (mCons (mVar 3) mNil)) (mVar 4)) [4]
def b1__law_all (rc : En → MS) : En → MS :=
  (mSet 2 (mBin (fun a b => calm (opAdd a b)) (mVar 2) (c1__law_all rc)))
def m__law_all (rc : En → MS) : En → MS :=
  (mSeq (mIfS (mT (mBin (fun a b => calm (opEqA a b)) (mVar 0) (mC (.int 1)))) (mRet (mLst (mCons (mTup (mCons (mVar 1) mNil)) mNil))) mNx) (mSeq (mSet 2 (mLst mNil)) (mSeq (mFor (mArgI rangeOf3 (mCons (mVar 1) (mCons (mNeg (mC (.int 1))) (mCons (mNeg (mC (.int 1))) mNil)))) (gVar 3) (b1__law_all rc)) (mRet (mVar 2)))))
def r__law_all : Nat → En → MS
  | 0 => noneB
  | k + 1 => m__law_all (r__law_all k)
def g__law_all : List Va → M Va := mFn 5 2 (r__law_all 4)
theorem sc__law_all : FnScope ["count", "degree", "found", "first", "rest"] ["count", "degree"] (defScope st__law_all) := ⟨rfl, rfl, rfl, by decide +kernel, rfl, by decide +kernel, by decide +kernel⟩
theorem st1__law_all {f : Addr} {fd : FuncData} {k : Nat} {rc : En → MS} (T : Txt K mg) (F : Fun K "_law_all" "_law_all" st__law_all f fd) (hm : mg "_law_all" = some (.ref f)) (Fself : FnD P w K mg base k "_law_all" 2 (mFn 5 2 rc)) : FnD P w K mg base (k + 1) "_law_all" 2 (mFn 5 2 (m__law_all rc)) := by
  refine fn_d (N := ["count", "degree", "found", "first", "rest"]) (ps := ["count", "degree"]) F sc__law_all hm rfl (fun _ _ _ _ _ _ us hl => match us, hl with | [_, _], _ => rfl) (fun cdv A outer s H E hr hG => ?_)
  have tk : Takes (cxOf (L2.CX P w) P w K mg base ["count", "degree", "found", "first", "rest"] "_law_all" (defScope st__law_all) f cdv A outer s H E) (fun c d _ H => E c d H) := takes_of rfl rfl rfl rfl
  have hp : PassesOwn (model P w) (cxOf (L2.CX P w) P w K mg base ["count", "degree", "found", "first", "rest"] "_law_all" (defScope st__law_all) f cdv A outer s H E).A (cxOf (L2.CX P w) P w K mg base ["count", "degree", "found", "first", "rest"] "_law_all" (defScope st__law_all) f cdv A outer s H E).env (cxOf (L2.CX P w) P w K mg base ["count", "degree", "found", "first", "rest"] "_law_all" (defScope st__law_all) f cdv A outer s H E).xe := passes_of rfl
  have hN : (cxOf (L2.CX P w) P w K mg base ["count", "degree", "found", "first", "rest"] "_law_all" (defScope st__law_all) f cdv A outer s H E).N.Nodup := sc__law_all.nd
  have hu := Nat.lt_of_le_of_lt (Nat.add_le_add_left (by decide : 64 ≤ 16 * 0 + 200) _) (hr.mono (Nat.zero_le _)).un
  have hu1 := Nat.lt_of_le_of_lt (Nat.add_le_add_left (by decide : 65 ≤ 16 * 0 + 200) _) (hr.mono (Nat.zero_le _)).un
  have hu2 := Nat.lt_of_le_of_lt (Nat.add_le_add_left (by decide : 66 ≤ 16 * 0 + 200) _) (hr.mono (Nat.zero_le _)).un
  exact (sds_cons (sd_if (td_cmp (opd_eqA hu) (ed_var 0) ed_int) (sds_one (sd_ret (ed_lst (ad_cons (ed_tup (ad_cons (ed_var 1) ad_nil)) ad_nil)))) sds_nil)
  (sds_cons (sd_set 2 (ed_lst ad_nil))
  (sds_cons (sd_for hp (id_range3 T.b_range (ad_cons (ed_var 1) (ad_cons (ed_neg ed_int) (ad_cons (ed_neg ed_int) ad_nil)))) (gd_name 3) (sds_one (sd_set 2 (ed_op opd_add (ed_var 2) (ed_lc [("rest", 4)] (id_seq (ed_call Fself hr hG tk (ad_cons (ed_op opd_sub (ed_var 0) ed_int) (ad_cons (ed_op opd_sub (ed_var 1) (ed_var 3)) ad_nil)))) (fun _ _ _ _ _ => (gd_name 4)) (fun _ _ _ _ _ => ptsD_nil) (fun _ _ _ _ _ => (ed_op opd_add (ed_tup (ad_cons (ed_var 3) ad_nil)) (ed_var 4))))))))
  (sds_one (sd_ret (ed_var 2))))))
theorem ok__law_all {f : Addr} {fd : FuncData} (T : Txt K mg) (F : Fun K "_law_all" "_law_all" st__law_all f fd) (hm : mg "_law_all" = some (.ref f)) : FnD P w K mg base 4 "_law_all" 2 (mFn 5 2 (r__law_all 4)) := by
  have h0 : FnD P w K mg base 0 "_law_all" 2 (mFn 5 2 (r__law_all 0)) := fn_zero F hm (ps := ["count", "degree"]) (fun _ _ _ _ _ _ us hl => match us, hl with | [_, _], _ => rfl)
  have h1 : FnD P w K mg base 1 "_law_all" 2 (mFn 5 2 (r__law_all 1)) := st1__law_all T F hm h0
  have h2 : FnD P w K mg base 2 "_law_all" 2 (mFn 5 2 (r__law_all 2)) := st1__law_all T F hm h1
  have h3 : FnD P w K mg base 3 "_law_all" 2 (mFn 5 2 (r__law_all 3)) := st1__law_all T F hm h2
  have h4 : FnD P w K mg base 4 "_law_all" 2 (mFn 5 2 (r__law_all 4)) := st1__law_all T F hm h3
  exact h4
abbrev st_law : Stmt := top 46
def c1_law : En → M Va :=
  mLc (mSeqI (mVar 8)) (gTupD 2 (gConsD (gVar 10) (gConsD (gVar 11) gNilD))) mYes (mBin (fun a b => calm (opSub a b)) (mVar 10) (mVar 11)) [10, 11]
def c2_law : En → M Va :=
  mLc (mSeqI (mVar 8)) (gTupD 2 (gConsD (gVar 10) (gConsD (gVar 11) gNilD))) mYes (mBin (fun a b => calm (opAdd a b)) (mVar 10) (mVar 11)) [10, 11]
def c3_law : En → M Va :=
  mLc (mSeqI (mVar 8)) (gTupD 2 (gConsD (gVar 10) (gConsD (gVar 11) gNilD))) mYes (mBlt bMin2 (mCons (mVar 10) (mCons (mVar 11) mNil))) [10, 11]
def c4_law : En → M Va :=
  mLc (mSeqI (mVar 8)) (gTupD 2 (gConsD (gVar 10) (gConsD (gVar 11) gNilD))) mYes (mBlt bMax2 (mCons (mVar 10) (mCons (mVar 11) mNil))) [10, 11]
def c5_law : En → M Va :=
  mLc (mArgI rangeOf1 (mCons (mC (.int 4)) mNil)) (gVar 12) mYes (mCall g__law_told (mCons (mVar 12) (mCons (mVar 4) (mCons (mVar 6) (mCons (mVar 7) (mCons (mC .non) mNil)))))) [12]
def s1_law : En → MS :=
  (mRet (mC (.bl false)))
def c6_law : En → M Va :=
  mLc (mArgI rangeOf1 (mCons (mBlt bLen (mCons (mVar 13) mNil)) mNil)) (gVar 16) (mT (mBin (fun a b => calm (opNeA a b)) (mBin (fun a b => calm (opIx a b)) (mVar 13) (mVar 16)) (mBin (fun a b => calm (opIx a b)) (mVar 14) (mVar 16)))) (mVar 16) [16]
def c7_law : En → M Va :=
  mLc (mSeqI (mTup (mCons (mC (.int 4)) (mCons (mC (.int 5)) mNil)))) (gVar 12) mYes (mCall g__law_told (mCons (mVar 12) (mCons (mVar 4) (mCons (mVar 5) (mCons (mVar 6) (mCons (mVar 7) mNil)))))) [12]
def s2_law : En → MS :=
  (mRet (mC (.bl false)))
def c8_law : En → M Va :=
  mLc (mArgI rangeOf1 (mCons (mCall g__law_take (mCons (mVar 1) (mCons (mVar 2) (mCons (mC (.int 7)) mNil)))) mNil)) (gVar 16) mYes (mCall g__law_powers (mCons (mVar 4) (mCons (mVar 1) (mCons (mVar 2) mNil)))) [16]
def c9_law : En → M Va :=
  mLc (mSeqI (mVar 17)) (gVar 19) mYes (mTup (mCons (mCall g__law_key (mCons (mVar 5) (mCons (mVar 19) mNil))) (mCons (mVar 19) mNil))) [19]
def c10_law : En → M Va :=
  mLc (mSeqI (mSlice (mBin (fun a b => calm (opIx a b)) (mVar 5) (mC (.int 0))) (mPart (mVar 20)) mNoPart)) (gVar 22) (mT (mBin (fun a b => calm (opNeA a b)) (mVar 22) (mC (.int 0)))) (mVar 22) [22]
def c11_law : En → M Va :=
  mLc (mSeqI (mSlice (mBin (fun a b => calm (opIx a b)) (mVar 5) (mC (.int 0))) mNoPart (mPart (mVar 20)))) (gVar 22) (mT (mBin (fun a b => calm (opLe a b)) (mVar 22) (mC (.int 0)))) (mVar 22) [22]
def s3_law : En → MS :=
  (mSet 21 (mOrV (mVar 21) (mAndV (mBin (fun a b => calm (opEqA a b)) c11_law (mLst mNil)) (mBin (fun a b => calm (opEqA a b)) c10_law (mLst mNil)))))
def c12_law : En → M Va :=
  mLc (mSeqI (mBin (fun a b => calm (opIx a b)) (mVar 5) (mC (.int 0)))) (gVar 22) (mT (mBin (fun a b => calm (opNeA a b)) (mVar 22) (mBin (fun a b => calm (opIx a b)) (mBin (fun a b => calm (opIx a b)) (mVar 5) (mC (.int 0))) (mC (.int 0))))) (mVar 22) [22]
def c13_law : En → M Va :=
  mLc (mSeqI (mRev (mVar 18) mNoPart)) (gTupD 2 (gConsD (gVar 26) (gConsD (gVar 19) gNilD))) mYes (mVar 19) [26, 19]
def s4_law : En → MS :=
  (mRet (mC (.bl false)))
def s5_law : En → MS :=
  (mSet 4 (mBin (fun a b => calm (opAdd a b)) (mC (.int 1)) (mCall g__law_take (mCons (mVar 1) (mCons (mVar 2) (mCons (mC (.int 4)) mNil))))))
def s6_law : En → MS :=
  (mAsg (gTupD 3 (gConsD (gVar 5) (gConsD (gVar 6) (gConsD (gVar 7) gNilD)))) (mTup (mCons (mCall g__law_order (mCons (mVar 4) (mCons (mVar 1) (mCons (mVar 2) mNil)))) (mCons (mCall g__law_powers (mCons (mVar 4) (mCons (mVar 1) (mCons (mVar 2) mNil)))) (mCons (mCall g__law_powers (mCons (mVar 4) (mCons (mVar 1) (mCons (mVar 2) mNil)))) mNil)))))
def s7_law : En → MS :=
  (mSet 7 (mCall g__law_one (mCons (mLst (mCons (mVar 7) (mCons (mVar 7) (mCons (mVar 6) (mCons (mRev (mVar 6) mNoPart) mNil))))) (mCons (mVar 1) (mCons (mVar 2) mNil)))))
def s8_law : En → MS :=
  (mSet 8 (mLz (mCons (mVar 6) (mCons (mVar 7) mNil))))
def s9_law : En → MS :=
  (mSet 9 (mLst (mCons (mBlt bTuple (mCons c2_law mNil)) (mCons (mIf (mT (mCall g__law_divides (mCons (mVar 7) (mCons (mVar 6) mNil)))) (mBlt bTuple (mCons c1_law mNil)) (mC .non)) mNil))))
def s10_law : En → MS :=
  (mSet 9 (mBin (fun a b => calm (opAdd a b)) (mVar 9) (mLst (mCons (mBlt bTuple (mCons c4_law mNil)) (mCons (mBlt bTuple (mCons c3_law mNil)) mNil)))))
def s11_law : En → MS :=
  (mIfS (mT (mBin (fun a b => calm (opNeA a b)) (mBlt bRepr (mCons c5_law mNil)) (mBlt bRepr (mCons (mVar 9) mNil)))) s1_law mNx)
def s12_law : En → MS :=
  (mAsg (gTupD 2 (gConsD (gVar 13) (gConsD (gVar 14) gNilD))) (mTup (mCons (mCall g__law_key (mCons (mVar 5) (mCons (mVar 6) mNil))) (mCons (mCall g__law_key (mCons (mVar 5) (mCons (mVar 7) mNil))) mNil))))
def s13_law : En → MS :=
  (mSet 15 c6_law)
def s14_law : En → MS :=
  (mSet 9 (mLst (mCons (mBin (fun a b => calm (opSub a b)) (mBlt bInt (mCons (mBin (fun a b => calm (opGt a b)) (mVar 13) (mVar 14)) mNil)) (mBlt bInt (mCons (mBin (fun a b => calm (opLt a b)) (mVar 13) (mVar 14)) mNil))) (mCons (mIf (mT (mBin (fun a b => calm (opNeA a b)) (mVar 15) (mLst mNil))) (mBin (fun a b => calm (opIx a b)) (mVar 15) (mC (.int 0))) (mC .non)) mNil))))
def s15_law : En → MS :=
  (mIfS (mT (mBin (fun a b => calm (opNeA a b)) (mBlt bRepr (mCons c7_law mNil)) (mBlt bRepr (mCons (mVar 9) mNil)))) s2_law mNx)
def s16_law : En → MS :=
  (mSet 17 (mBin (fun a b => calm (opAdd a b)) (mBlt bTuple (mCons c8_law mNil)) (mTup (mCons (mVar 6) (mCons (mVar 7) mNil)))))
def s17_law : En → MS :=
  (mSet 18 (mBlt bSorted (mCons c9_law mNil)))
def s18_law : En → MS :=
  (mSet 20 (mBin (fun a b => calm (opAdd a b)) (mC (.int 1)) (mCall g__law_take (mCons (mVar 1) (mCons (mVar 2) (mCons (mVar 4) mNil))))))
def s19_law : En → MS :=
  (mSet 21 (mOrV (mBin (fun a b => calm (opEqA a b)) (mVar 5) (mC (.str "plain"))) (mBin (fun a b => calm (opEqA a b)) (mVar 20) (mVar 4))))
def s20_law : En → MS :=
  (mIfS (mNot (mT (mIsV .str (mVar 5)))) s3_law mNx)
def s21_law : En → MS :=
  (mSet 23 (mOrV (mBin (fun a b => calm (opEqA a b)) (mVar 4) (mC (.int 1))) (mOrV (mBin (fun a b => calm (opIn a b)) (mVar 5) (mTup (mCons (mC (.str "degree")) (mCons (mC (.str "back")) mNil)))) (mAndV (mNotV (mIsV .str (mVar 5))) (mBin (fun a b => calm (opEqA a b)) c12_law (mLst mNil))))))
def s22_law : En → MS :=
  (mSet 24 (mCall g__law_take (mCons (mVar 1) (mCons (mVar 2) (mCons (mC (.int 6)) mNil)))))
def s23_law : En → MS :=
  (mSet 25 (mLst (mCons (mCall g__law_told (mCons (mC (.int 6)) (mCons (mVar 4) (mCons (mVar 5) (mCons (mVar 17) (mCons (mC .non) mNil)))))) (mCons (mCall g__law_told (mCons (mC (.int 7)) (mCons (mVar 4) (mCons (mVar 5) (mCons (mVar 20) (mCons (mC .non) mNil)))))) (mCons (mCall g__law_told (mCons (mC (.int 8)) (mCons (mVar 4) (mCons (mVar 5) (mCons (mC .non) (mCons (mC .non) mNil)))))) (mCons (mCall g__law_told (mCons (mC (.int 9)) (mCons (mVar 4) (mCons (mVar 24) (mCons (mC .non) (mCons (mC .non) mNil)))))) mNil))))))
def s24_law : En → MS :=
  (mIfS (mT (mBin (fun a b => calm (opNeA a b)) (mBlt bRepr (mCons (mVar 25) mNil)) (mBlt bRepr (mCons (mLst (mCons (mBlt bTuple (mCons c13_law mNil)) (mCons (mVar 21) (mCons (mVar 23) (mCons (mBlt bTuple (mCons (mCall g__law_all (mCons (mVar 4) (mCons (mVar 24) mNil))) mNil)) mNil))))) mNil)))) s4_law mNx)
def b1_law : En → MS :=
  (mSeq s5_law (mSeq s6_law (mSeq s7_law (mSeq s8_law (mSeq s9_law (mSeq s10_law (mSeq s11_law (mSeq s12_law (mSeq s13_law (mSeq s14_law (mSeq s15_law (mSeq s16_law (mSeq s17_law (mSeq s18_law (mSeq s19_law (mSeq s20_law (mSeq s21_law (mSeq s22_law (mSeq s23_law s24_law)))))))))))))))))))
def s25_law : En → MS :=
  (mRet (mC (.bl false)))
def c14_law : En → M Va :=
  mLc (mArgI rangeOf1 (mCons (mC (.int 4)) mNil)) (gVar 12) mYes (mCall g__law_told (mCons (mVar 12) (mCons (mVar 4) (mCons (mVar 28) (mCons (mVar 6) (mCons (mC .non) mNil)))))) [12]
def c15_law : En → M Va :=
  mLc (mArgI rangeOf1 (mCons (mC (.int 4)) mNil)) (gVar 12) mYes (mCall g__law_told (mCons (mVar 12) (mCons (mVar 4) (mCons (mVar 6) (mCons (mVar 28) (mCons (mC .non) mNil)))))) [12]
def c16_law : En → M Va :=
  mLc (mSeqI (mTup (mCons (mC (.int 4)) (mCons (mC (.int 5)) mNil)))) (gVar 12) mYes (mCall g__law_told (mCons (mVar 12) (mCons (mVar 4) (mCons (mC (.str "back")) (mCons (mVar 28) (mCons (mVar 6) mNil)))))) [12]
def c17_law : En → M Va :=
  mLc (mSeqI (mTup (mCons (mC (.int 4)) (mCons (mC (.int 5)) mNil)))) (gVar 12) mYes (mCall g__law_told (mCons (mVar 12) (mCons (mVar 4) (mCons (mC (.str "back")) (mCons (mVar 6) (mCons (mVar 28) mNil)))))) [12]
def c18_law : En → M Va :=
  mLc (mSeqI (mBin (fun a b => calm (opAdd a b)) (mBin (fun a b => calm (opAdd a b)) (mBin (fun a b => calm (opAdd a b)) (mBin (fun a b => calm (opMulA a b)) (mLst (mCons (mC (.str "one")) mNil)) (mC (.int 4))) (mBin (fun a b => calm (opMulA a b)) (mLst (mCons (mC (.str "other")) mNil)) (mC (.int 4)))) (mBin (fun a b => calm (opMulA a b)) (mLst (mCons (mC (.str "one")) mNil)) (mC (.int 2)))) (mBin (fun a b => calm (opMulA a b)) (mLst (mCons (mC (.str "other")) mNil)) (mC (.int 2))))) (gVar 29) mYes (mTup (mCons (mC (.str "argument")) (mCons (mVar 29) mNil))) [29]
def s26_law : En → MS :=
  (mRet (mC (.bl false)))
def c19_law : En → M Va :=
  mLc (mSeqI (mTup (mCons (mC (.int 4)) (mCons (mC (.int 5)) mNil)))) (gVar 12) mYes (mCall g__law_told (mCons (mVar 12) (mCons (mVar 4) (mCons (mVar 31) (mCons (mVar 6) (mCons (mVar 7) mNil)))))) [12]
def s27_law : En → MS :=
  (mRet (mC (.bl false)))
def c20_law : En → M Va :=
  mLc (mArgI rangeOf1 (mCons (mC (.int 4)) mNil)) (gVar 12) mYes (mCall g__law_told (mCons (mVar 12) (mCons (mVar 32) (mCons (mVar 6) (mCons (mVar 7) (mCons (mC .non) mNil)))))) [12]
def c21_law : En → M Va :=
  mLc (mSeqI (mTup (mCons (mC (.int 4)) (mCons (mC (.int 5)) (mCons (mC (.int 6)) (mCons (mC (.int 7)) (mCons (mC (.int 8)) mNil))))))) (gVar 12) mYes (mCall g__law_told (mCons (mVar 12) (mCons (mVar 32) (mCons (mC (.str "back")) (mCons (mVar 6) (mCons (mVar 7) mNil)))))) [12]
def s28_law : En → MS :=
  (mRet (mC (.bl false)))
def s29_law : En → MS :=
  (mSet 1 (mCall g__law_draws (mCons (mVar 0) mNil)))
def s30_law : En → MS :=
  (mSet 2 (mObj (mCons (mC (.int 0)) mNil)))
def s31_law : En → MS :=
  (mFor (mArgI rangeOf1 (mCons (mC (.int 4)) mNil)) (gVar 3) b1_law)
def s32_law : En → MS :=
  (mSet 27 (mTup (mCons (mBin (fun a b => calm (opAdd a b)) (mTup (mCons (mC (.int 1)) mNil)) (mBin (fun a b => calm (opMulA a b)) (mTup (mCons (mC (.int 0)) mNil)) (mBin (fun a b => calm (opSub a b)) (mVar 4) (mC (.int 1))))) mNil)))
def s33_law : En → MS :=
  (mIfS (mT (mBin (fun a b => calm (opNeA a b)) (mBlt bRepr (mCons (mLst (mCons (mCall g__law_told (mCons (mC (.int 7)) (mCons (mVar 4) (mCons (mVar 27) (mCons (mC (.int 1)) (mCons (mC .non) mNil)))))) (mCons (mCall g__law_told (mCons (mC (.int 8)) (mCons (mVar 4) (mCons (mVar 27) (mCons (mC .non) (mCons (mC .non) mNil)))))) mNil))) mNil)) (mBlt bRepr (mCons (mLst (mCons (mC (.bl true)) (mCons (mBin (fun a b => calm (opEqA a b)) (mVar 4) (mC (.int 1))) mNil))) mNil)))) s25_law mNx)
def s34_law : En → MS :=
  (mSet 28 (mCall g__law_one (mCons (mLst (mCons (mC .non) (mCons (mC (.int 5)) (mCons (mBin (fun a b => calm (opAdd a b)) (mVar 6) (mTup (mCons (mC (.int 0)) mNil))) (mCons (mBin (fun a b => calm (opAdd a b)) (mTup (mCons (mC (.int 31)) mNil)) (mSlice (mVar 6) (mPart (mC (.int 1))) mNoPart)) (mCons (mBin (fun a b => calm (opAdd a b)) (mTup (mCons (mNeg (mC (.int 1))) mNil)) (mSlice (mVar 6) (mPart (mC (.int 1))) mNoPart)) (mCons (mBin (fun a b => calm (opAdd a b)) (mTup (mCons (mC (.bl true)) mNil)) (mSlice (mVar 6) (mPart (mC (.int 1))) mNoPart)) (mCons (mBlt bList (mCons (mVar 6) mNil)) mNil)))))))) (mCons (mVar 1) (mCons (mVar 2) mNil)))))
def s35_law : En → MS :=
  (mSet 17 (mBin (fun a b => calm (opAdd a b)) c14_law c15_law))
def s36_law : En → MS :=
  (mSet 17 (mBin (fun a b => calm (opAdd a b)) (mBin (fun a b => calm (opAdd a b)) (mVar 17) c16_law) c17_law))
def s37_law : En → MS :=
  (mIfS (mT (mBin (fun a b => calm (opNeA a b)) (mVar 17) c18_law)) s26_law mNx)
def s38_law : En → MS :=
  (mSet 30 (mLst (mCons (mC (.str "Plain")) (mCons (mC .non) (mCons (mTup mNil) (mCons (mBin (fun a b => calm (opMulA a b)) (mTup (mCons (mBin (fun a b => calm (opMulA a b)) (mTup (mCons (mC (.int 1)) mNil)) (mVar 4)) mNil)) (mC (.int 5))) (mCons (mTup (mCons (mBin (fun a b => calm (opMulA a b)) (mTup (mCons (mC (.int 1)) mNil)) (mBin (fun a b => calm (opAdd a b)) (mVar 4) (mC (.int 1)))) mNil)) (mCons (mTup (mCons (mBin (fun a b => calm (opMulA a b)) (mTup (mCons (mNeg (mC (.int 1))) mNil)) (mVar 4)) mNil)) (mCons (mTup (mCons (mBin (fun a b => calm (opMulA a b)) (mTup (mCons (mC (.int 0)) mNil)) (mVar 4)) (mCons (mBin (fun a b => calm (opAdd a b)) (mTup (mCons (mNeg (mC (.int 1))) mNil)) (mBin (fun a b => calm (opMulA a b)) (mTup (mCons (mC (.int 1)) mNil)) (mBin (fun a b => calm (opSub a b)) (mVar 4) (mC (.int 1))))) mNil))) (mCons (mC (.int 5)) mNil))))))))))
def s39_law : En → MS :=
  (mSet 31 (mCall g__law_one (mCons (mBin (fun a b => calm (opAdd a b)) (mVar 30) (mLst (mCons (mTup (mCons (mBin (fun a b => calm (opMulA a b)) (mLst (mCons (mC (.int 1)) mNil)) (mVar 4)) mNil)) (mCons (mTup (mCons (mBin (fun a b => calm (opMulA a b)) (mTup (mCons (mC (.bl true)) mNil)) (mVar 4)) mNil)) (mCons (mTup (mCons (mBin (fun a b => calm (opMulA a b)) (mTup (mCons (mC (.int 1000001)) mNil)) (mVar 4)) mNil)) mNil))))) (mCons (mVar 1) (mCons (mVar 2) mNil)))))
def s40_law : En → MS :=
  (mSet 25 (mBin (fun a b => calm (opAdd a b)) c19_law (mLst (mCons (mCall g__law_told (mCons (mC (.int 6)) (mCons (mVar 4) (mCons (mVar 31) (mCons (mTup mNil) (mCons (mC .non) mNil)))))) (mCons (mCall g__law_told (mCons (mC (.int 7)) (mCons (mVar 4) (mCons (mVar 31) (mCons (mC (.int 1)) (mCons (mC .non) mNil)))))) mNil)))))
def s41_law : En → MS :=
  (mIfS (mT (mBin (fun a b => calm (opNeA a b)) (mBin (fun a b => calm (opAdd a b)) (mVar 25) (mLst (mCons (mCall g__law_told (mCons (mC (.int 8)) (mCons (mVar 4) (mCons (mVar 31) (mCons (mC .non) (mCons (mC .non) mNil)))))) mNil))) (mBin (fun a b => calm (opMulA a b)) (mLst (mCons (mTup (mCons (mC (.str "argument")) (mCons (mC (.str "order")) mNil))) mNil)) (mC (.int 5))))) s27_law mNx)
def s42_law : En → MS :=
  (mSet 32 (mCall g__law_one (mCons (mLst (mCons (mC (.int 0)) (mCons (mC (.int 5)) (mCons (mC .non) (mCons (mC (.bl true)) (mCons (mC (.str "1")) mNil)))))) (mCons (mVar 1) (mCons (mVar 2) mNil)))))
def s43_law : En → MS :=
  (mSet 25 (mBin (fun a b => calm (opAdd a b)) (mBin (fun a b => calm (opAdd a b)) c20_law c21_law) (mLst (mCons (mCall g__law_told (mCons (mC (.int 9)) (mCons (mVar 32) (mCons (mC (.int 1)) (mCons (mC .non) (mCons (mC .non) mNil)))))) mNil))))
def s44_law : En → MS :=
  (mIfS (mT (mBin (fun a b => calm (opNeA a b)) (mVar 25) (mBin (fun a b => calm (opMulA a b)) (mLst (mCons (mTup (mCons (mC (.str "argument")) (mCons (mC (.str "count")) mNil))) mNil)) (mC (.int 10))))) s28_law mNx)
def s45_law : En → MS :=
  (mSet 25 (mLst (mCons (mCall g__law_told (mCons (mC (.int 6)) (mCons (mVar 4) (mCons (mC (.str "back")) (mCons (mCall g__law_one (mCons (mLst (mCons (mC .non) (mCons (mLst (mCons (mVar 6) mNil)) (mCons (mTup (mCons (mVar 6) (mCons (mVar 28) mNil))) (mCons (mBin (fun a b => calm (opMulA a b)) (mTup (mCons (mVar 6) mNil)) (mC (.int 201))) mNil))))) (mCons (mVar 1) (mCons (mVar 2) mNil)))) (mCons (mC .non) mNil)))))) (mCons (mCall g__law_told (mCons (mC (.int 7)) (mCons (mVar 4) (mCons (mC (.str "back")) (mCons (mCall g__law_one (mCons (mLst (mCons (mC (.int 0)) (mCons (mBin (fun a b => calm (opAdd a b)) (mVar 4) (mC (.int 1))) (mCons (mC .non) (mCons (mC (.bl true)) mNil))))) (mCons (mVar 1) (mCons (mVar 2) mNil)))) (mCons (mC .non) mNil)))))) mNil))))
def s46_law : En → MS :=
  (mRet (mBin (fun a b => calm (opEqA a b)) (mBin (fun a b => calm (opAdd a b)) (mVar 25) (mLst (mCons (mCall g__law_told (mCons (mC (.int 9)) (mCons (mVar 4) (mCons (mCall g__law_one (mCons (mLst (mCons (mNeg (mC (.int 1))) (mCons (mC (.int 13)) (mCons (mC .non) (mCons (mC (.bl true)) mNil))))) (mCons (mVar 1) (mCons (mVar 2) mNil)))) (mCons (mC .non) (mCons (mC .non) mNil)))))) mNil))) (mLst (mCons (mTup (mCons (mC (.str "argument")) (mCons (mC (.str "rows")) mNil))) (mCons (mTup (mCons (mC (.str "argument")) (mCons (mC (.str "number")) mNil))) (mCons (mTup (mCons (mC (.str "argument")) (mCons (mC (.str "degree")) mNil))) mNil))))))
def m_law : En → MS :=
  (mSeq s29_law (mSeq s30_law (mSeq s31_law (mSeq s32_law (mSeq s33_law (mSeq s34_law (mSeq s35_law (mSeq s36_law (mSeq s37_law (mSeq s38_law (mSeq s39_law (mSeq s40_law (mSeq s41_law (mSeq s42_law (mSeq s43_law (mSeq s44_law (mSeq s45_law s46_law)))))))))))))))))
def g_law : List Va → M Va := mFn 33 1 m_law
theorem sc_law : FnScope ("script" :: "draws" :: "at" :: "turn" :: "count" :: "order" :: "one" :: "other" :: "pairs" :: "due" :: "a" :: "b" :: "call" :: "first" :: "second" :: "places" :: "k" :: "rows" :: "keyed" :: "row" :: "number" :: "left" :: "part" :: "by" :: "degree" :: "told" :: "key" :: "zero" :: "bad" :: "reason" :: "near" :: "odd" :: "wrong" :: []) ["script"] (defScope st_law) := ⟨rfl, rfl, rfl, by decide +kernel, rfl, by decide +kernel, by decide +kernel⟩
theorem ok_law {f : Addr} {fd : FuncData} (T : Txt K mg) (F : Fun K "law" "law" st_law f fd) (hm : mg "law" = some (.ref f)) (F__law_all : FnD P w K mg base 4 "_law_all" 2 (mFn 5 2 (r__law_all 4))) (F__law_divides : FnD P w K mg base 1 "_law_divides" 2 (mFn 3 2 m__law_divides)) (F__law_draws : FnD P w K mg base 1 "_law_draws" 1 (mFn 6 1 m__law_draws)) (F__law_key : FnD P w K mg base 1 "_law_key" 2 (mFn 6 2 m__law_key)) (F__law_one : FnD P w K mg base 3 "_law_one" 3 (mFn 3 3 m__law_one)) (F__law_order : FnD P w K mg base 4 "_law_order" 3 (mFn 6 3 m__law_order)) (F__law_powers : FnD P w K mg base 4 "_law_powers" 3 (mFn 5 3 m__law_powers)) (F__law_take : FnD P w K mg base 2 "_law_take" 3 (mFn 4 3 m__law_take)) (F__law_told : FnD P w K mg base 6 "_law_told" 5 (mFn 7 5 m__law_told))  : FnD P w K mg base 7 "law" 1 (mFn 33 1 m_law) := by
  refine fn_d (N := ("script" :: "draws" :: "at" :: "turn" :: "count" :: "order" :: "one" :: "other" :: "pairs" :: "due" :: "a" :: "b" :: "call" :: "first" :: "second" :: "places" :: "k" :: "rows" :: "keyed" :: "row" :: "number" :: "left" :: "part" :: "by" :: "degree" :: "told" :: "key" :: "zero" :: "bad" :: "reason" :: "near" :: "odd" :: "wrong" :: [])) (ps := ["script"]) F sc_law hm rfl (fun _ _ _ _ _ _ us hl => match us, hl with | [_], _ => rfl) (fun cdv A outer s H E hr hG => ?_)
  have tk : Takes (cxOf (L2.CX P w) P w K mg base ("script" :: "draws" :: "at" :: "turn" :: "count" :: "order" :: "one" :: "other" :: "pairs" :: "due" :: "a" :: "b" :: "call" :: "first" :: "second" :: "places" :: "k" :: "rows" :: "keyed" :: "row" :: "number" :: "left" :: "part" :: "by" :: "degree" :: "told" :: "key" :: "zero" :: "bad" :: "reason" :: "near" :: "odd" :: "wrong" :: []) "law" (defScope st_law) f cdv A outer s H E) (fun c d _ H => E c d H) := takes_of rfl rfl rfl rfl
  have hp : PassesOwn (model P w) (cxOf (L2.CX P w) P w K mg base ("script" :: "draws" :: "at" :: "turn" :: "count" :: "order" :: "one" :: "other" :: "pairs" :: "due" :: "a" :: "b" :: "call" :: "first" :: "second" :: "places" :: "k" :: "rows" :: "keyed" :: "row" :: "number" :: "left" :: "part" :: "by" :: "degree" :: "told" :: "key" :: "zero" :: "bad" :: "reason" :: "near" :: "odd" :: "wrong" :: []) "law" (defScope st_law) f cdv A outer s H E).A (cxOf (L2.CX P w) P w K mg base ("script" :: "draws" :: "at" :: "turn" :: "count" :: "order" :: "one" :: "other" :: "pairs" :: "due" :: "a" :: "b" :: "call" :: "first" :: "second" :: "places" :: "k" :: "rows" :: "keyed" :: "row" :: "number" :: "left" :: "part" :: "by" :: "degree" :: "told" :: "key" :: "zero" :: "bad" :: "reason" :: "near" :: "odd" :: "wrong" :: []) "law" (defScope st_law) f cdv A outer s H E).env (cxOf (L2.CX P w) P w K mg base ("script" :: "draws" :: "at" :: "turn" :: "count" :: "order" :: "one" :: "other" :: "pairs" :: "due" :: "a" :: "b" :: "call" :: "first" :: "second" :: "places" :: "k" :: "rows" :: "keyed" :: "row" :: "number" :: "left" :: "part" :: "by" :: "degree" :: "told" :: "key" :: "zero" :: "bad" :: "reason" :: "near" :: "odd" :: "wrong" :: []) "law" (defScope st_law) f cdv A outer s H E).xe := passes_of rfl
  have hN : (cxOf (L2.CX P w) P w K mg base ("script" :: "draws" :: "at" :: "turn" :: "count" :: "order" :: "one" :: "other" :: "pairs" :: "due" :: "a" :: "b" :: "call" :: "first" :: "second" :: "places" :: "k" :: "rows" :: "keyed" :: "row" :: "number" :: "left" :: "part" :: "by" :: "degree" :: "told" :: "key" :: "zero" :: "bad" :: "reason" :: "near" :: "odd" :: "wrong" :: []) "law" (defScope st_law) f cdv A outer s H E).N.Nodup := sc_law.nd
  have hu := Nat.lt_of_le_of_lt (Nat.add_le_add_left (by decide : 64 ≤ 16 * 0 + 200) _) (hr.mono (Nat.zero_le _)).un
  have hu1 := Nat.lt_of_le_of_lt (Nat.add_le_add_left (by decide : 65 ≤ 16 * 0 + 200) _) (hr.mono (Nat.zero_le _)).un
  have hu2 := Nat.lt_of_le_of_lt (Nat.add_le_add_left (by decide : 66 ≤ 16 * 0 + 200) _) (hr.mono (Nat.zero_le _)).un
  exact (sds_cons (sd_set 1 (ed_call (F__law_draws) (hr.mono (by decide)) hG tk (ad_cons (ed_var 0) ad_nil)))
  (sds_cons (sd_set 2 (ed_obj (ad_cons ed_int ad_nil)))
  (sds_cons (sd_for hp (id_range1 T.b_range (ad_cons ed_int ad_nil)) (gd_name 3) (sds_cons (sd_set 4 (ed_op opd_add ed_int (ed_call (F__law_take) (hr.mono (by decide)) hG tk (ad_cons (ed_var 1) (ad_cons (ed_var 2) (ad_cons ed_int ad_nil))))))
  (sds_cons (sd_asg (ed_tup (ad_cons (ed_call (F__law_order) (hr.mono (by decide)) hG tk (ad_cons (ed_var 4) (ad_cons (ed_var 1) (ad_cons (ed_var 2) ad_nil)))) (ad_cons (ed_call (F__law_powers) (hr.mono (by decide)) hG tk (ad_cons (ed_var 4) (ad_cons (ed_var 1) (ad_cons (ed_var 2) ad_nil)))) (ad_cons (ed_call (F__law_powers) (hr.mono (by decide)) hG tk (ad_cons (ed_var 4) (ad_cons (ed_var 1) (ad_cons (ed_var 2) ad_nil)))) ad_nil)))) (gd_tup (gds_cons (gd_name 5) (gds_cons (gd_name 6) (gds_cons (gd_name 7) gds_nil)))))
  (sds_cons (sd_set 7 (ed_call (F__law_one) (hr.mono (by decide)) hG tk (ad_cons (ed_lst (ad_cons (ed_var 7) (ad_cons (ed_var 7) (ad_cons (ed_var 6) (ad_cons (ed_rev (ed_var 6) pd_none) ad_nil))))) (ad_cons (ed_var 1) (ad_cons (ed_var 2) ad_nil)))))
  (sds_cons (sd_set 8 (ed_lz rfl T.b_list T.b_zip (ad_cons (ed_var 6) (ad_cons (ed_var 7) ad_nil))))
  (sds_cons (sd_set 9 (ed_lst (ad_cons (ed_ty cd_tuple T.b_tuple boot_tuple (ad_cons (ed_lc [("a", 10), ("b", 11)] (id_seq (ed_var 8)) (fun _ _ _ _ _ => (gd_tup (gds_cons (gd_name 10) (gds_cons (gd_name 11) gds_nil)))) (fun _ _ _ _ _ => ptsD_nil) (fun _ _ _ _ _ => (ed_op opd_add (ed_var 10) (ed_var 11)))) ad_nil)) (ad_cons (ed_if (td_val (ed_call (F__law_divides) (hr.mono (by decide)) hG tk (ad_cons (ed_var 7) (ad_cons (ed_var 6) ad_nil)))) (ed_ty cd_tuple T.b_tuple boot_tuple (ad_cons (ed_lc [("a", 10), ("b", 11)] (id_seq (ed_var 8)) (fun _ _ _ _ _ => (gd_tup (gds_cons (gd_name 10) (gds_cons (gd_name 11) gds_nil)))) (fun _ _ _ _ _ => ptsD_nil) (fun _ _ _ _ _ => (ed_op opd_sub (ed_var 10) (ed_var 11)))) ad_nil)) ed_non) ad_nil))))
  (sds_cons (sd_set 9 (ed_op opd_add (ed_var 9) (ed_lst (ad_cons (ed_ty cd_tuple T.b_tuple boot_tuple (ad_cons (ed_lc [("a", 10), ("b", 11)] (id_seq (ed_var 8)) (fun _ _ _ _ _ => (gd_tup (gds_cons (gd_name 10) (gds_cons (gd_name 11) gds_nil)))) (fun _ _ _ _ _ => ptsD_nil) (fun _ _ _ _ _ => (ed_blt (cd_max2 rfl) T.b_max boot_max (ad_cons (ed_var 10) (ad_cons (ed_var 11) ad_nil))))) ad_nil)) (ad_cons (ed_ty cd_tuple T.b_tuple boot_tuple (ad_cons (ed_lc [("a", 10), ("b", 11)] (id_seq (ed_var 8)) (fun _ _ _ _ _ => (gd_tup (gds_cons (gd_name 10) (gds_cons (gd_name 11) gds_nil)))) (fun _ _ _ _ _ => ptsD_nil) (fun _ _ _ _ _ => (ed_blt (cd_min2 rfl) T.b_min boot_min (ad_cons (ed_var 10) (ad_cons (ed_var 11) ad_nil))))) ad_nil)) ad_nil)))))
  (sds_cons (sd_if (td_cmp (opd_neA hu) (ed_blt (cd_repr hG hu2) T.b_repr boot_repr (ad_cons (ed_lc [("call", 12)] (id_range1 T.b_range (ad_cons ed_int ad_nil)) (fun _ _ _ _ _ => (gd_name 12)) (fun _ _ _ _ _ => ptsD_nil) (fun _ _ _ _ _ => (ed_call (F__law_told) (hr.mono (by decide)) hG (takes0) (ad_cons (ed_var 12) (ad_cons (ed_var 4) (ad_cons (ed_var 6) (ad_cons (ed_var 7) (ad_cons ed_non ad_nil)))))))) ad_nil)) (ed_blt (cd_repr hG hu2) T.b_repr boot_repr (ad_cons (ed_var 9) ad_nil))) (sds_one (sd_ret ed_bl)) sds_nil)
  (sds_cons (sd_asg (ed_tup (ad_cons (ed_call (F__law_key) (hr.mono (by decide)) hG tk (ad_cons (ed_var 5) (ad_cons (ed_var 6) ad_nil))) (ad_cons (ed_call (F__law_key) (hr.mono (by decide)) hG tk (ad_cons (ed_var 5) (ad_cons (ed_var 7) ad_nil))) ad_nil))) (gd_tup (gds_cons (gd_name 13) (gds_cons (gd_name 14) gds_nil))))
  (sds_cons (sd_setLc 15 [("k", 16)] (id_range1 T.b_range (ad_cons (ed_blt cd_len T.b_len boot_len (ad_cons (ed_var 13) ad_nil)) ad_nil)) (fun _ _ _ _ _ => (gd_name 16)) (fun _ _ _ _ _ => (ptsD_one (td_cmp (opd_neA hu) (ed_ix (ed_var 13) (ed_var 16)) (ed_ix (ed_var 14) (ed_var 16))))) (fun _ _ _ _ _ => (ed_var 16)))
  (sds_cons (sd_set 9 (ed_lst (ad_cons (ed_op opd_sub (ed_ty cd_int T.b_int boot_int (ad_cons (ed_cmp (opd_gtA hu) (ed_var 13) (ed_var 14)) ad_nil)) (ed_ty cd_int T.b_int boot_int (ad_cons (ed_cmp (opd_ltA hu) (ed_var 13) (ed_var 14)) ad_nil))) (ad_cons (ed_if (td_cmp (opd_neA hu) (ed_var 15) (ed_lst ad_nil)) (ed_ix (ed_var 15) ed_int) ed_non) ad_nil))))
  (sds_cons (sd_if (td_cmp (opd_neA hu) (ed_blt (cd_repr hG hu2) T.b_repr boot_repr (ad_cons (ed_lc [("call", 12)] (id_seq (ed_tup (ad_cons ed_int (ad_cons ed_int ad_nil)))) (fun _ _ _ _ _ => (gd_name 12)) (fun _ _ _ _ _ => ptsD_nil) (fun _ _ _ _ _ => (ed_call (F__law_told) (hr.mono (by decide)) hG (takes0) (ad_cons (ed_var 12) (ad_cons (ed_var 4) (ad_cons (ed_var 5) (ad_cons (ed_var 6) (ad_cons (ed_var 7) ad_nil)))))))) ad_nil)) (ed_blt (cd_repr hG hu2) T.b_repr boot_repr (ad_cons (ed_var 9) ad_nil))) (sds_one (sd_ret ed_bl)) sds_nil)
  (sds_cons (sd_set 17 (ed_op opd_add (ed_ty cd_tuple T.b_tuple boot_tuple (ad_cons (ed_lc [("k", 16)] (id_range1 T.b_range (ad_cons (ed_call (F__law_take) (hr.mono (by decide)) hG tk (ad_cons (ed_var 1) (ad_cons (ed_var 2) (ad_cons ed_int ad_nil)))) ad_nil)) (fun _ _ _ _ _ => (gd_name 16)) (fun _ _ _ _ _ => ptsD_nil) (fun _ _ _ _ _ => (ed_call (F__law_powers) (hr.mono (by decide)) hG (takes0) (ad_cons (ed_var 4) (ad_cons (ed_var 1) (ad_cons (ed_var 2) ad_nil)))))) ad_nil)) (ed_tup (ad_cons (ed_var 6) (ad_cons (ed_var 7) ad_nil)))))
  (sds_cons (sd_set 18 (ed_blt (cd_sorted hu2) T.b_sorted boot_sorted (ad_cons (ed_lc [("row", 19)] (id_seq (ed_var 17)) (fun _ _ _ _ _ => (gd_name 19)) (fun _ _ _ _ _ => ptsD_nil) (fun _ _ _ _ _ => (ed_tup (ad_cons (ed_call (F__law_key) (hr.mono (by decide)) hG (takes0) (ad_cons (ed_var 5) (ad_cons (ed_var 19) ad_nil))) (ad_cons (ed_var 19) ad_nil))))) ad_nil)))
  (sds_cons (sd_set 20 (ed_op opd_add ed_int (ed_call (F__law_take) (hr.mono (by decide)) hG tk (ad_cons (ed_var 1) (ad_cons (ed_var 2) (ad_cons (ed_var 4) ad_nil))))))
  (sds_cons (sd_set 21 (ed_or (ed_cmp (opd_eqA hu) (ed_var 5) ed_str) (ed_one (ed_cmp (opd_eqA hu) (ed_var 20) (ed_var 4)))))
  (sds_cons (sd_if (td_not (td_val (ed_isV .str (clsN_ty T.b_str boot_str) T.b_isinstance (ed_var 5)))) (sds_one (sd_set 21 (ed_or (ed_var 21) (ed_one (ed_and (ed_cmp (opd_eqA hu) (ed_lc [("part", 22)] (id_seq (ed_slice (ed_ix (ed_var 5) ed_int) pd_none (pd_some (ed_var 20)))) (fun _ _ _ _ _ => (gd_name 22)) (fun _ _ _ _ _ => (ptsD_one (td_cmp (opd_leA hu) (ed_var 22) ed_int))) (fun _ _ _ _ _ => (ed_var 22))) (ed_lst ad_nil)) (ed_one (ed_cmp (opd_eqA hu) (ed_lc [("part", 22)] (id_seq (ed_slice (ed_ix (ed_var 5) ed_int) (pd_some (ed_var 20)) pd_none)) (fun _ _ _ _ _ => (gd_name 22)) (fun _ _ _ _ _ => (ptsD_one (td_cmp (opd_neA hu) (ed_var 22) ed_int))) (fun _ _ _ _ _ => (ed_var 22))) (ed_lst ad_nil)))))))) sds_nil)
  (sds_cons (sd_set 23 (ed_or (ed_cmp (opd_eqA hu) (ed_var 4) ed_int) (ed_or (ed_cmp (opd_in hu1) (ed_var 5) (ed_tup (ad_cons ed_str (ad_cons ed_str ad_nil)))) (ed_one (ed_and (ed_not (ed_isV .str (clsN_ty T.b_str boot_str) T.b_isinstance (ed_var 5))) (ed_one (ed_cmp (opd_eqA hu) (ed_lc [("part", 22)] (id_seq (ed_ix (ed_var 5) ed_int)) (fun _ _ _ _ _ => (gd_name 22)) (fun _ _ _ _ _ => (ptsD_one (td_cmp (opd_neA hu) (ed_var 22) (ed_ix (ed_ix (ed_var 5) ed_int) ed_int)))) (fun _ _ _ _ _ => (ed_var 22))) (ed_lst ad_nil))))))))
  (sds_cons (sd_set 24 (ed_call (F__law_take) (hr.mono (by decide)) hG tk (ad_cons (ed_var 1) (ad_cons (ed_var 2) (ad_cons ed_int ad_nil)))))
  (sds_cons (sd_set 25 (ed_lst (ad_cons (ed_call (F__law_told) (hr.mono (by decide)) hG tk (ad_cons ed_int (ad_cons (ed_var 4) (ad_cons (ed_var 5) (ad_cons (ed_var 17) (ad_cons ed_non ad_nil)))))) (ad_cons (ed_call (F__law_told) (hr.mono (by decide)) hG tk (ad_cons ed_int (ad_cons (ed_var 4) (ad_cons (ed_var 5) (ad_cons (ed_var 20) (ad_cons ed_non ad_nil)))))) (ad_cons (ed_call (F__law_told) (hr.mono (by decide)) hG tk (ad_cons ed_int (ad_cons (ed_var 4) (ad_cons (ed_var 5) (ad_cons ed_non (ad_cons ed_non ad_nil)))))) (ad_cons (ed_call (F__law_told) (hr.mono (by decide)) hG tk (ad_cons ed_int (ad_cons (ed_var 4) (ad_cons (ed_var 24) (ad_cons ed_non (ad_cons ed_non ad_nil)))))) ad_nil))))))
  (sds_one (sd_if (td_cmp (opd_neA hu) (ed_blt (cd_repr hG hu2) T.b_repr boot_repr (ad_cons (ed_var 25) ad_nil)) (ed_blt (cd_repr hG hu2) T.b_repr boot_repr (ad_cons (ed_lst (ad_cons (ed_ty cd_tuple T.b_tuple boot_tuple (ad_cons (ed_lc [("key", 26), ("row", 19)] (id_seq (ed_rev (ed_var 18) pd_none)) (fun _ _ _ _ _ => (gd_tup (gds_cons (gd_name 26) (gds_cons (gd_name 19) gds_nil)))) (fun _ _ _ _ _ => ptsD_nil) (fun _ _ _ _ _ => (ed_var 19))) ad_nil)) (ad_cons (ed_var 21) (ad_cons (ed_var 23) (ad_cons (ed_ty cd_tuple T.b_tuple boot_tuple (ad_cons (ed_call (F__law_all) (hr.mono (by decide)) hG tk (ad_cons (ed_var 4) (ad_cons (ed_var 24) ad_nil))) ad_nil)) ad_nil))))) ad_nil))) (sds_one (sd_ret ed_bl)) sds_nil))))))))))))))))))))))
  (sds_cons (sd_set 27 (ed_tup (ad_cons (ed_op opd_add (ed_tup (ad_cons ed_int ad_nil)) (ed_op opd_mulA (ed_tup (ad_cons ed_int ad_nil)) (ed_op opd_sub (ed_var 4) ed_int))) ad_nil)))
  (sds_cons (sd_if (td_cmp (opd_neA hu) (ed_blt (cd_repr hG hu2) T.b_repr boot_repr (ad_cons (ed_lst (ad_cons (ed_call (F__law_told) (hr.mono (by decide)) hG tk (ad_cons ed_int (ad_cons (ed_var 4) (ad_cons (ed_var 27) (ad_cons ed_int (ad_cons ed_non ad_nil)))))) (ad_cons (ed_call (F__law_told) (hr.mono (by decide)) hG tk (ad_cons ed_int (ad_cons (ed_var 4) (ad_cons (ed_var 27) (ad_cons ed_non (ad_cons ed_non ad_nil)))))) ad_nil))) ad_nil)) (ed_blt (cd_repr hG hu2) T.b_repr boot_repr (ad_cons (ed_lst (ad_cons ed_bl (ad_cons (ed_cmp (opd_eqA hu) (ed_var 4) ed_int) ad_nil))) ad_nil))) (sds_one (sd_ret ed_bl)) sds_nil)
  (sds_cons (sd_set 28 (ed_call (F__law_one) (hr.mono (by decide)) hG tk (ad_cons (ed_lst (ad_cons ed_non (ad_cons ed_int (ad_cons (ed_op opd_add (ed_var 6) (ed_tup (ad_cons ed_int ad_nil))) (ad_cons (ed_op opd_add (ed_tup (ad_cons ed_int ad_nil)) (ed_slice (ed_var 6) (pd_some ed_int) pd_none)) (ad_cons (ed_op opd_add (ed_tup (ad_cons (ed_neg ed_int) ad_nil)) (ed_slice (ed_var 6) (pd_some ed_int) pd_none)) (ad_cons (ed_op opd_add (ed_tup (ad_cons ed_bl ad_nil)) (ed_slice (ed_var 6) (pd_some ed_int) pd_none)) (ad_cons (ed_ty cd_list T.b_list boot_list (ad_cons (ed_var 6) ad_nil)) ad_nil)))))))) (ad_cons (ed_var 1) (ad_cons (ed_var 2) ad_nil)))))
  (sds_cons (sd_set 17 (ed_op opd_add (ed_lc [("call", 12)] (id_range1 T.b_range (ad_cons ed_int ad_nil)) (fun _ _ _ _ _ => (gd_name 12)) (fun _ _ _ _ _ => ptsD_nil) (fun _ _ _ _ _ => (ed_call (F__law_told) (hr.mono (by decide)) hG (takes0) (ad_cons (ed_var 12) (ad_cons (ed_var 4) (ad_cons (ed_var 28) (ad_cons (ed_var 6) (ad_cons ed_non ad_nil)))))))) (ed_lc [("call", 12)] (id_range1 T.b_range (ad_cons ed_int ad_nil)) (fun _ _ _ _ _ => (gd_name 12)) (fun _ _ _ _ _ => ptsD_nil) (fun _ _ _ _ _ => (ed_call (F__law_told) (hr.mono (by decide)) hG (takes0) (ad_cons (ed_var 12) (ad_cons (ed_var 4) (ad_cons (ed_var 6) (ad_cons (ed_var 28) (ad_cons ed_non ad_nil))))))))))
  (sds_cons (sd_set 17 (ed_op opd_add (ed_op opd_add (ed_var 17) (ed_lc [("call", 12)] (id_seq (ed_tup (ad_cons ed_int (ad_cons ed_int ad_nil)))) (fun _ _ _ _ _ => (gd_name 12)) (fun _ _ _ _ _ => ptsD_nil) (fun _ _ _ _ _ => (ed_call (F__law_told) (hr.mono (by decide)) hG (takes0) (ad_cons (ed_var 12) (ad_cons (ed_var 4) (ad_cons ed_str (ad_cons (ed_var 28) (ad_cons (ed_var 6) ad_nil))))))))) (ed_lc [("call", 12)] (id_seq (ed_tup (ad_cons ed_int (ad_cons ed_int ad_nil)))) (fun _ _ _ _ _ => (gd_name 12)) (fun _ _ _ _ _ => ptsD_nil) (fun _ _ _ _ _ => (ed_call (F__law_told) (hr.mono (by decide)) hG (takes0) (ad_cons (ed_var 12) (ad_cons (ed_var 4) (ad_cons ed_str (ad_cons (ed_var 6) (ad_cons (ed_var 28) ad_nil))))))))))
  (sds_cons (sd_if (td_cmp (opd_neA hu) (ed_var 17) (ed_lc [("reason", 29)] (id_seq (ed_op opd_add (ed_op opd_add (ed_op opd_add (ed_op opd_mulA (ed_lst (ad_cons ed_str ad_nil)) ed_int) (ed_op opd_mulA (ed_lst (ad_cons ed_str ad_nil)) ed_int)) (ed_op opd_mulA (ed_lst (ad_cons ed_str ad_nil)) ed_int)) (ed_op opd_mulA (ed_lst (ad_cons ed_str ad_nil)) ed_int))) (fun _ _ _ _ _ => (gd_name 29)) (fun _ _ _ _ _ => ptsD_nil) (fun _ _ _ _ _ => (ed_tup (ad_cons ed_str (ad_cons (ed_var 29) ad_nil)))))) (sds_one (sd_ret ed_bl)) sds_nil)
  (sds_cons (sd_set 30 (ed_lst (ad_cons ed_str (ad_cons ed_non (ad_cons (ed_tup ad_nil) (ad_cons (ed_op opd_mulA (ed_tup (ad_cons (ed_op opd_mulA (ed_tup (ad_cons ed_int ad_nil)) (ed_var 4)) ad_nil)) ed_int) (ad_cons (ed_tup (ad_cons (ed_op opd_mulA (ed_tup (ad_cons ed_int ad_nil)) (ed_op opd_add (ed_var 4) ed_int)) ad_nil)) (ad_cons (ed_tup (ad_cons (ed_op opd_mulA (ed_tup (ad_cons (ed_neg ed_int) ad_nil)) (ed_var 4)) ad_nil)) (ad_cons (ed_tup (ad_cons (ed_op opd_mulA (ed_tup (ad_cons ed_int ad_nil)) (ed_var 4)) (ad_cons (ed_op opd_add (ed_tup (ad_cons (ed_neg ed_int) ad_nil)) (ed_op opd_mulA (ed_tup (ad_cons ed_int ad_nil)) (ed_op opd_sub (ed_var 4) ed_int))) ad_nil))) (ad_cons ed_int ad_nil))))))))))
  (sds_cons (sd_set 31 (ed_call (F__law_one) (hr.mono (by decide)) hG tk (ad_cons (ed_op opd_add (ed_var 30) (ed_lst (ad_cons (ed_tup (ad_cons (ed_op opd_mulA (ed_lst (ad_cons ed_int ad_nil)) (ed_var 4)) ad_nil)) (ad_cons (ed_tup (ad_cons (ed_op opd_mulA (ed_tup (ad_cons ed_bl ad_nil)) (ed_var 4)) ad_nil)) (ad_cons (ed_tup (ad_cons (ed_op opd_mulA (ed_tup (ad_cons ed_int ad_nil)) (ed_var 4)) ad_nil)) ad_nil))))) (ad_cons (ed_var 1) (ad_cons (ed_var 2) ad_nil)))))
  (sds_cons (sd_set 25 (ed_op opd_add (ed_lc [("call", 12)] (id_seq (ed_tup (ad_cons ed_int (ad_cons ed_int ad_nil)))) (fun _ _ _ _ _ => (gd_name 12)) (fun _ _ _ _ _ => ptsD_nil) (fun _ _ _ _ _ => (ed_call (F__law_told) (hr.mono (by decide)) hG (takes0) (ad_cons (ed_var 12) (ad_cons (ed_var 4) (ad_cons (ed_var 31) (ad_cons (ed_var 6) (ad_cons (ed_var 7) ad_nil)))))))) (ed_lst (ad_cons (ed_call (F__law_told) (hr.mono (by decide)) hG tk (ad_cons ed_int (ad_cons (ed_var 4) (ad_cons (ed_var 31) (ad_cons (ed_tup ad_nil) (ad_cons ed_non ad_nil)))))) (ad_cons (ed_call (F__law_told) (hr.mono (by decide)) hG tk (ad_cons ed_int (ad_cons (ed_var 4) (ad_cons (ed_var 31) (ad_cons ed_int (ad_cons ed_non ad_nil)))))) ad_nil)))))
  (sds_cons (sd_if (td_cmp (opd_neA hu) (ed_op opd_add (ed_var 25) (ed_lst (ad_cons (ed_call (F__law_told) (hr.mono (by decide)) hG tk (ad_cons ed_int (ad_cons (ed_var 4) (ad_cons (ed_var 31) (ad_cons ed_non (ad_cons ed_non ad_nil)))))) ad_nil))) (ed_op opd_mulA (ed_lst (ad_cons (ed_tup (ad_cons ed_str (ad_cons ed_str ad_nil))) ad_nil)) ed_int)) (sds_one (sd_ret ed_bl)) sds_nil)
  (sds_cons (sd_set 32 (ed_call (F__law_one) (hr.mono (by decide)) hG tk (ad_cons (ed_lst (ad_cons ed_int (ad_cons ed_int (ad_cons ed_non (ad_cons ed_bl (ad_cons ed_str ad_nil)))))) (ad_cons (ed_var 1) (ad_cons (ed_var 2) ad_nil)))))
  (sds_cons (sd_set 25 (ed_op opd_add (ed_op opd_add (ed_lc [("call", 12)] (id_range1 T.b_range (ad_cons ed_int ad_nil)) (fun _ _ _ _ _ => (gd_name 12)) (fun _ _ _ _ _ => ptsD_nil) (fun _ _ _ _ _ => (ed_call (F__law_told) (hr.mono (by decide)) hG (takes0) (ad_cons (ed_var 12) (ad_cons (ed_var 32) (ad_cons (ed_var 6) (ad_cons (ed_var 7) (ad_cons ed_non ad_nil)))))))) (ed_lc [("call", 12)] (id_seq (ed_tup (ad_cons ed_int (ad_cons ed_int (ad_cons ed_int (ad_cons ed_int (ad_cons ed_int ad_nil))))))) (fun _ _ _ _ _ => (gd_name 12)) (fun _ _ _ _ _ => ptsD_nil) (fun _ _ _ _ _ => (ed_call (F__law_told) (hr.mono (by decide)) hG (takes0) (ad_cons (ed_var 12) (ad_cons (ed_var 32) (ad_cons ed_str (ad_cons (ed_var 6) (ad_cons (ed_var 7) ad_nil))))))))) (ed_lst (ad_cons (ed_call (F__law_told) (hr.mono (by decide)) hG tk (ad_cons ed_int (ad_cons (ed_var 32) (ad_cons ed_int (ad_cons ed_non (ad_cons ed_non ad_nil)))))) ad_nil))))
  (sds_cons (sd_if (td_cmp (opd_neA hu) (ed_var 25) (ed_op opd_mulA (ed_lst (ad_cons (ed_tup (ad_cons ed_str (ad_cons ed_str ad_nil))) ad_nil)) ed_int)) (sds_one (sd_ret ed_bl)) sds_nil)
  (sds_cons (sd_set 25 (ed_lst (ad_cons (ed_call (F__law_told) (hr.mono (by decide)) hG tk (ad_cons ed_int (ad_cons (ed_var 4) (ad_cons ed_str (ad_cons (ed_call (F__law_one) (hr.mono (by decide)) hG tk (ad_cons (ed_lst (ad_cons ed_non (ad_cons (ed_lst (ad_cons (ed_var 6) ad_nil)) (ad_cons (ed_tup (ad_cons (ed_var 6) (ad_cons (ed_var 28) ad_nil))) (ad_cons (ed_op opd_mulA (ed_tup (ad_cons (ed_var 6) ad_nil)) ed_int) ad_nil))))) (ad_cons (ed_var 1) (ad_cons (ed_var 2) ad_nil)))) (ad_cons ed_non ad_nil)))))) (ad_cons (ed_call (F__law_told) (hr.mono (by decide)) hG tk (ad_cons ed_int (ad_cons (ed_var 4) (ad_cons ed_str (ad_cons (ed_call (F__law_one) (hr.mono (by decide)) hG tk (ad_cons (ed_lst (ad_cons ed_int (ad_cons (ed_op opd_add (ed_var 4) ed_int) (ad_cons ed_non (ad_cons ed_bl ad_nil))))) (ad_cons (ed_var 1) (ad_cons (ed_var 2) ad_nil)))) (ad_cons ed_non ad_nil)))))) ad_nil))))
  (sds_one (sd_ret (ed_cmp (opd_eqA hu) (ed_op opd_add (ed_var 25) (ed_lst (ad_cons (ed_call (F__law_told) (hr.mono (by decide)) hG tk (ad_cons ed_int (ad_cons (ed_var 4) (ad_cons (ed_call (F__law_one) (hr.mono (by decide)) hG tk (ad_cons (ed_lst (ad_cons (ed_neg ed_int) (ad_cons ed_int (ad_cons ed_non (ad_cons ed_bl ad_nil))))) (ad_cons (ed_var 1) (ad_cons (ed_var 2) ad_nil)))) (ad_cons ed_non (ad_cons ed_non ad_nil)))))) ad_nil))) (ed_lst (ad_cons (ed_tup (ad_cons ed_str (ad_cons ed_str ad_nil))) (ad_cons (ed_tup (ad_cons ed_str (ad_cons ed_str ad_nil))) (ad_cons (ed_tup (ad_cons ed_str (ad_cons ed_str ad_nil))) ad_nil))))))))))))))))))))))))
end
end K30
end

section
set_option Elab.async false
set_option linter.all false
set_option maxRecDepth 100000
set_option maxHeartbeats 8000000
namespace K30
open PySem PySem.Spec PyProof.Rows L2 L2H DL EXS NdefX
abbrev sI_ReasonError : Stmt := inClass (top 5) 0
theorem refsVE_end : PySem.HandSPX.refsVE PySem.HandSPX.veTail = true := by decide +kernel
theorem all_mk {w : World} {K : PySem.W.Frag} {h : Heap} {mg : Str → Option Value} {fa : Addr} (X : K.In h) (G : h.Ns mainGlobals mg) (hfa : mg "law" = some (.ref fa))
    {C_ArgumentError : Addr}
    {C_IdealError : Addr}
    {C_ReasonError : Addr}
    {f_ReasonError cc_ReasonError cda_ReasonError : Addr} {od_ReasonError an_ReasonError cld_ReasonError cdd_ReasonError : Option Addr} {sl_ReasonError csl_ReasonError ccs_ReasonError : Array (Option Value)} {oc_ReasonError kV_ReasonError dc_ReasonError pm_ReasonError ct_ReasonError cl_ReasonError ccl_ReasonError : Value} {vs_ReasonError : Array Value} {file_ReasonError : Str} {tf_ReasonError : Tok}
    {nm_ArgumentError q_ArgumentError : Str} {N_ArgumentError : Addr} {bs_ArgumentError : List Value} {sn_ArgumentError : List Str} {sb_ArgumentError : List Value} {ab_ArgumentError : Bool} {col_ArgumentError : Option Bool} {dd_ArgumentError : Option Addr} {k0_ArgumentError k1_ArgumentError k2_ArgumentError k3_ArgumentError k5_ArgumentError : Option Value}
    {t_MAX_NUMBER : Tok}
    {t_MAX_POWER : Tok}
    {t_MAX_UNKNOWNS : Tok}
    {a_WORDS : Addr} {od_WORDS : Option Addr} {n_WORDS : Nat} {sl_WORDS : Array (Option Value)} {t_WORDS_0 t_WORDS_1 t_WORDS_2 : Tok}
    {d_is_integer : Addr} {od_is_integer an_is_integer : Option Addr} {sl_is_integer : Array (Option Value)} {oc_is_integer kV_is_integer dc_is_integer pm_is_integer cd_is_integer ct_is_integer : Value}
    {d_in_range : Addr} {od_in_range an_in_range : Option Addr} {sl_in_range : Array (Option Value)} {oc_in_range kV_in_range dc_in_range pm_in_range cd_in_range ct_in_range : Value}
    {d_demand_count : Addr} {od_demand_count an_demand_count : Option Addr} {sl_demand_count : Array (Option Value)} {oc_demand_count kV_demand_count dc_demand_count pm_demand_count cd_demand_count ct_demand_count : Value}
    {d_is_powers : Addr} {od_is_powers an_is_powers : Option Addr} {sl_is_powers : Array (Option Value)} {oc_is_powers kV_is_powers dc_is_powers pm_is_powers cd_is_powers ct_is_powers : Value}
    {d_demand_powers : Addr} {od_demand_powers an_demand_powers : Option Addr} {sl_demand_powers : Array (Option Value)} {oc_demand_powers kV_demand_powers dc_demand_powers pm_demand_powers cd_demand_powers ct_demand_powers : Value}
    {d_is_above : Addr} {od_is_above an_is_above : Option Addr} {sl_is_above : Array (Option Value)} {oc_is_above kV_is_above dc_is_above pm_is_above cd_is_above ct_is_above : Value}
    {d_is_order : Addr} {od_is_order an_is_order : Option Addr} {sl_is_order : Array (Option Value)} {oc_is_order kV_is_order dc_is_order pm_is_order cd_is_order ct_is_order : Value}
    {d_demand_order : Addr} {od_demand_order an_demand_order : Option Addr} {sl_demand_order : Array (Option Value)} {oc_demand_order kV_demand_order dc_demand_order pm_demand_order cd_demand_order ct_demand_order : Value}
    {d_key_of : Addr} {od_key_of an_key_of : Option Addr} {sl_key_of : Array (Option Value)} {oc_key_of kV_key_of dc_key_of pm_key_of cd_key_of ct_key_of : Value}
    {d_product : Addr} {od_product an_product : Option Addr} {sl_product : Array (Option Value)} {oc_product kV_product dc_product pm_product cd_product ct_product : Value}
    {d_divides : Addr} {od_divides an_divides : Option Addr} {sl_divides : Array (Option Value)} {oc_divides kV_divides dc_divides pm_divides cd_divides ct_divides : Value}
    {d_quotient : Addr} {od_quotient an_quotient : Option Addr} {sl_quotient : Array (Option Value)} {oc_quotient kV_quotient dc_quotient pm_quotient cd_quotient ct_quotient : Value}
    {d_multiple : Addr} {od_multiple an_multiple : Option Addr} {sl_multiple : Array (Option Value)} {oc_multiple kV_multiple dc_multiple pm_multiple cd_multiple ct_multiple : Value}
    {d_shared : Addr} {od_shared an_shared : Option Addr} {sl_shared : Array (Option Value)} {oc_shared kV_shared dc_shared pm_shared cd_shared ct_shared : Value}
    {d_compare : Addr} {od_compare an_compare : Option Addr} {sl_compare : Array (Option Value)} {oc_compare kV_compare dc_compare pm_compare cd_compare ct_compare : Value}
    {d_times : Addr} {od_times an_times : Option Addr} {sl_times : Array (Option Value)} {oc_times kV_times dc_times pm_times cd_times ct_times : Value}
    {d_over : Addr} {od_over an_over : Option Addr} {sl_over : Array (Option Value)} {oc_over kV_over dc_over pm_over cd_over ct_over : Value}
    {d_least_multiple : Addr} {od_least_multiple an_least_multiple : Option Addr} {sl_least_multiple : Array (Option Value)} {oc_least_multiple kV_least_multiple dc_least_multiple pm_least_multiple cd_least_multiple ct_least_multiple : Value}
    {d_greatest_shared : Addr} {od_greatest_shared an_greatest_shared : Option Addr} {sl_greatest_shared : Array (Option Value)} {oc_greatest_shared kV_greatest_shared dc_greatest_shared pm_greatest_shared cd_greatest_shared ct_greatest_shared : Value}
    {d_all_with : Addr} {od_all_with an_all_with : Option Addr} {sl_all_with : Array (Option Value)} {oc_all_with kV_all_with dc_all_with pm_all_with cd_all_with ct_all_with : Value}
    {d_with_degree : Addr} {od_with_degree an_with_degree : Option Addr} {sl_with_degree : Array (Option Value)} {oc_with_degree kV_with_degree dc_with_degree pm_with_degree cd_with_degree ct_with_degree : Value}
    {d_in_order : Addr} {od_in_order an_in_order : Option Addr} {sl_in_order : Array (Option Value)} {oc_in_order kV_in_order dc_in_order pm_in_order cd_in_order ct_in_order : Value}
    {d_tells_apart : Addr} {od_tells_apart an_tells_apart : Option Addr} {sl_tells_apart : Array (Option Value)} {oc_tells_apart kV_tells_apart dc_tells_apart pm_tells_apart cd_tells_apart ct_tells_apart : Value}
    {d_is_by_degree : Addr} {od_is_by_degree an_is_by_degree : Option Addr} {sl_is_by_degree : Array (Option Value)} {oc_is_by_degree kV_is_by_degree dc_is_by_degree pm_is_by_degree cd_is_by_degree ct_is_by_degree : Value}
    {d_leaves_out : Addr} {od_leaves_out an_leaves_out : Option Addr} {sl_leaves_out : Array (Option Value)} {oc_leaves_out kV_leaves_out dc_leaves_out pm_leaves_out cd_leaves_out ct_leaves_out : Value}
    {d__law_draws : Addr} {od__law_draws an__law_draws : Option Addr} {sl__law_draws : Array (Option Value)} {oc__law_draws kV__law_draws dc__law_draws pm__law_draws cd__law_draws ct__law_draws : Value}
    {d__law_more : Addr} {od__law_more an__law_more : Option Addr} {sl__law_more : Array (Option Value)} {oc__law_more kV__law_more dc__law_more pm__law_more cd__law_more ct__law_more : Value}
    {d__law_take : Addr} {od__law_take an__law_take : Option Addr} {sl__law_take : Array (Option Value)} {oc__law_take kV__law_take dc__law_take pm__law_take cd__law_take ct__law_take : Value}
    {d__law_one : Addr} {od__law_one an__law_one : Option Addr} {sl__law_one : Array (Option Value)} {oc__law_one kV__law_one dc__law_one pm__law_one cd__law_one ct__law_one : Value}
    {d__law_key : Addr} {od__law_key an__law_key : Option Addr} {sl__law_key : Array (Option Value)} {oc__law_key kV__law_key dc__law_key pm__law_key cd__law_key ct__law_key : Value}
    {d__law_divides : Addr} {od__law_divides an__law_divides : Option Addr} {sl__law_divides : Array (Option Value)} {oc__law_divides kV__law_divides dc__law_divides pm__law_divides cd__law_divides ct__law_divides : Value}
    {d__law_order : Addr} {od__law_order an__law_order : Option Addr} {sl__law_order : Array (Option Value)} {oc__law_order kV__law_order dc__law_order pm__law_order cd__law_order ct__law_order : Value}
    {d__law_told : Addr} {od__law_told an__law_told : Option Addr} {sl__law_told : Array (Option Value)} {oc__law_told kV__law_told dc__law_told pm__law_told cd__law_told ct__law_told : Value}
    {d__law_powers : Addr} {od__law_powers an__law_powers : Option Addr} {sl__law_powers : Array (Option Value)} {oc__law_powers kV__law_powers dc__law_powers pm__law_powers cd__law_powers ct__law_powers : Value}
    {d__law_all : Addr} {od__law_all an__law_all : Option Addr} {sl__law_all : Array (Option Value)} {oc__law_all kV__law_all dc__law_all pm__law_all cd__law_all ct__law_all : Value}
    {d_law : Addr} {od_law an_law : Option Addr} {sl_law : Array (Option Value)} {oc_law kV_law dc_law pm_law cd_law ct_law : Value}
    (g_ArgumentError : PySem.W.nsIn K mainGlobals "ArgumentError" = some (some (.ref C_ArgumentError)))
    (bE_ArgumentError : PySem.W.subIn K (.ref C_ArgumentError) (.type "BaseException") = some true)
    (hd_ArgumentError : PySem.W.hasDictIn K C_ArgumentError = true)
    (ty_ArgumentError : PySem.W.typeIn K (.ref C_ArgumentError) = some (.type "type"))
    (g_IdealError : PySem.W.nsIn K mainGlobals "IdealError" = some (some (.ref C_IdealError)))
    (bE_IdealError : PySem.W.subIn K (.ref C_IdealError) (.type "BaseException") = some true)
    (hd_IdealError : PySem.W.hasDictIn K C_IdealError = true)
    (ty_IdealError : PySem.W.typeIn K (.ref C_IdealError) = some (.type "type"))
    (g_ReasonError : PySem.W.nsIn K mainGlobals "ReasonError" = some (some (.ref C_ReasonError)))
    (bE_ReasonError : PySem.W.subIn K (.ref C_ReasonError) (.type "BaseException") = some true)
    (hd_ReasonError : PySem.W.hasDictIn K C_ReasonError = true)
    (ty_ReasonError : PySem.W.typeIn K (.ref C_ReasonError) = some (.type "type"))
    (oget : PySem.W.specialIn K (.builtin "object.__class__") "__get__" = some (some (.builtin "getset_descriptor.__get__")))
    (otk : PySem.W.takesIn K (.builtin "object.__class__") = some true)
    (nosup : PySem.W.nsIn K mainGlobals "super" = some none)
    (any_ : PySem.W.nsIn K cStatics "thirdparty.any" = some none)
    (fi_ReasonError : PySem.W.findIn K (.ref C_ReasonError) "__init__" = some (some (.ref f_ReasonError)))
    (ti_ReasonError : PySem.W.typeIn K (.ref f_ReasonError) = some (.type "function"))
    (l_ReasonError : K.lookup f_ReasonError = some ⟨oc_ReasonError, od_ReasonError, .func (PySem.W.fnX "__init__" "ReasonError.__init__" (defArgs sI_ReasonError) (defBody sI_ReasonError) (defScope sI_ReasonError) [("__class__", cc_ReasonError)] .none kV_ReasonError dc_ReasonError pm_ReasonError an_ReasonError (.ref cda_ReasonError) ct_ReasonError), sl_ReasonError⟩)
    (c_ReasonError : PySem.W.codeIn K (.ref cda_ReasonError) "ReasonError.__init__" = true)
    (cc0_ReasonError : K.lookup cc_ReasonError = some ⟨cl_ReasonError, cld_ReasonError, .cell (some (.ref C_ReasonError)), csl_ReasonError⟩)
    (cd0_ReasonError : K.lookup cda_ReasonError = some ⟨ccl_ReasonError, cdd_ReasonError, .fields vs_ReasonError, ccs_ReasonError⟩)
    (cd1_ReasonError : vs_ReasonError[2]? = some (.str file_ReasonError tf_ReasonError))
    (cd2_ReasonError : ((PySem.Challenge.pw_manyunknowns_k30_whole_powers_and_orders.main.file : Str) == file_ReasonError) = true)
    (ic_ReasonError : PySem.W.isClsIn K C_ReasonError = true)
    (x_ArgumentError : K.lookup C_ArgumentError = some (excClassObj nm_ArgumentError q_ArgumentError C_ArgumentError N_ArgumentError bs_ArgumentError [.ref C_ReasonError, .ref C_IdealError, .type "ValueError", .type "Exception", .type "BaseException", .type "object"] true sn_ArgumentError sb_ArgumentError ab_ArgumentError col_ArgumentError dd_ArgumentError k0_ArgumentError k1_ArgumentError k2_ArgumentError k3_ArgumentError k5_ArgumentError "ValueError.__new__"))
    (sa_ArgumentError : PySem.W.findIn K (.ref C_ArgumentError) "__setattr__" = some (some (.builtin "object.__setattr__")))
    (kC_ArgumentError : PySem.W.keepIn K (.ref C_ArgumentError) = true)
    (in_ArgumentError : PySem.W.findIn K (.ref C_ArgumentError) "__init__" = some (some (.ref f_ReasonError)))
    (no_ArgumentError_reason : PySem.W.findIn K (.ref C_ArgumentError) "reason" = some none)
    (mr_ArgumentError : PySem.W.mroIn K C_ArgumentError (.ref C_ReasonError) = some true)
    (su_ArgumentError : PySem.W.ks_superIn K C_ArgumentError C_ReasonError "__init__" = some (some (.builtin "ValueError.__init__")))
    (ve_ArgumentError : PySem.W.subIn K (.ref C_ArgumentError) (.type "ValueError") = some true)
    (ga_ArgumentError : PySem.W.findIn K (.ref C_ArgumentError) "__getattribute__" = some (some (.builtin "BaseException.__getattribute__")))
    (gg_ArgumentError : PySem.W.findIn K (.ref C_ArgumentError) "__getattr__" = some none)
    (cl_ArgumentError : PySem.W.findIn K (.ref C_ArgumentError) "__class__" = some (some (.builtin "object.__class__")))
    (ob_ArgumentError : PySem.W.mroIn K C_ArgumentError (.type "object") = some true)
    (s_ArgumentError_ArgumentError : PySem.W.subIn K (.ref C_ArgumentError) (.ref C_ArgumentError) = some true)
    (k_ArgumentError_ArgumentError : PySem.W.kitOne K (.ref C_ArgumentError) (.ref C_ArgumentError) = some true)
    (s_ArgumentError_IdealError : PySem.W.subIn K (.ref C_ArgumentError) (.ref C_IdealError) = some true)
    (k_ArgumentError_IdealError : PySem.W.kitOne K (.ref C_ArgumentError) (.ref C_IdealError) = some true)
    (s_ArgumentError_ReasonError : PySem.W.subIn K (.ref C_ArgumentError) (.ref C_ReasonError) = some true)
    (k_ArgumentError_ReasonError : PySem.W.kitOne K (.ref C_ArgumentError) (.ref C_ReasonError) = some true)
    (kv_ArgumentError : PySem.W.kitOne K (.ref C_ArgumentError) (.type "ValueError") = some true)
    (b_abs : PySem.W.nsIn K mainGlobals "abs" = some none)
    (b_all : PySem.W.nsIn K mainGlobals "all" = some none)
    (b_any : PySem.W.nsIn K mainGlobals "any" = some none)
    (b_bool : PySem.W.nsIn K mainGlobals "bool" = some none)
    (b_enumerate : PySem.W.nsIn K mainGlobals "enumerate" = some none)
    (b_int : PySem.W.nsIn K mainGlobals "int" = some none)
    (b_isinstance : PySem.W.nsIn K mainGlobals "isinstance" = some none)
    (b_len : PySem.W.nsIn K mainGlobals "len" = some none)
    (b_list : PySem.W.nsIn K mainGlobals "list" = some none)
    (b_max : PySem.W.nsIn K mainGlobals "max" = some none)
    (b_min : PySem.W.nsIn K mainGlobals "min" = some none)
    (b_range : PySem.W.nsIn K mainGlobals "range" = some none)
    (b_repr : PySem.W.nsIn K mainGlobals "repr" = some none)
    (b_sorted : PySem.W.nsIn K mainGlobals "sorted" = some none)
    (b_str : PySem.W.nsIn K mainGlobals "str" = some none)
    (b_sum : PySem.W.nsIn K mainGlobals "sum" = some none)
    (b_tuple : PySem.W.nsIn K mainGlobals "tuple" = some none)
    (b_zip : PySem.W.nsIn K mainGlobals "zip" = some none)
    (c_MAX_NUMBER : PySem.W.nsIn K mainGlobals "MAX_NUMBER" = some (some (.int 1000000 t_MAX_NUMBER)))
    (c_MAX_POWER : PySem.W.nsIn K mainGlobals "MAX_POWER" = some (some (.int 30 t_MAX_POWER)))
    (c_MAX_UNKNOWNS : PySem.W.nsIn K mainGlobals "MAX_UNKNOWNS" = some (some (.int 4 t_MAX_UNKNOWNS)))
    (c_WORDS : PySem.W.nsIn K mainGlobals "WORDS" = some (some (.ref a_WORDS)))
    (lc_WORDS : K.lookup a_WORDS = some ⟨.type "tuple", od_WORDS, .seq #[.str "plain" t_WORDS_0, .str "degree" t_WORDS_1, .str "back" t_WORDS_2] n_WORDS, sl_WORDS⟩)
    (a_is_integer : PySem.W.nsIn K mainGlobals "is_integer" = some (some (.ref d_is_integer)))
    (l_is_integer : K.lookup d_is_integer = some ⟨oc_is_integer, od_is_integer, .func (PySem.W.fnOf "is_integer" "is_integer" (defArgs st_is_integer) (defBody st_is_integer) (defScope st_is_integer) .none kV_is_integer dc_is_integer pm_is_integer an_is_integer cd_is_integer ct_is_integer), sl_is_integer⟩)
    (c_is_integer : PySem.W.codeIn K cd_is_integer "is_integer" = true)
    (k_is_integer : PySem.W.keepIn K (.ref d_is_integer) = true)
    (a_in_range : PySem.W.nsIn K mainGlobals "in_range" = some (some (.ref d_in_range)))
    (l_in_range : K.lookup d_in_range = some ⟨oc_in_range, od_in_range, .func (PySem.W.fnOf "in_range" "in_range" (defArgs st_in_range) (defBody st_in_range) (defScope st_in_range) .none kV_in_range dc_in_range pm_in_range an_in_range cd_in_range ct_in_range), sl_in_range⟩)
    (c_in_range : PySem.W.codeIn K cd_in_range "in_range" = true)
    (k_in_range : PySem.W.keepIn K (.ref d_in_range) = true)
    (a_demand_count : PySem.W.nsIn K mainGlobals "demand_count" = some (some (.ref d_demand_count)))
    (l_demand_count : K.lookup d_demand_count = some ⟨oc_demand_count, od_demand_count, .func (PySem.W.fnOf "demand_count" "demand_count" (defArgs st_demand_count) (defBody st_demand_count) (defScope st_demand_count) .none kV_demand_count dc_demand_count pm_demand_count an_demand_count cd_demand_count ct_demand_count), sl_demand_count⟩)
    (c_demand_count : PySem.W.codeIn K cd_demand_count "demand_count" = true)
    (k_demand_count : PySem.W.keepIn K (.ref d_demand_count) = true)
    (a_is_powers : PySem.W.nsIn K mainGlobals "is_powers" = some (some (.ref d_is_powers)))
    (l_is_powers : K.lookup d_is_powers = some ⟨oc_is_powers, od_is_powers, .func (PySem.W.fnOf "is_powers" "is_powers" (defArgs st_is_powers) (defBody st_is_powers) (defScope st_is_powers) .none kV_is_powers dc_is_powers pm_is_powers an_is_powers cd_is_powers ct_is_powers), sl_is_powers⟩)
    (c_is_powers : PySem.W.codeIn K cd_is_powers "is_powers" = true)
    (k_is_powers : PySem.W.keepIn K (.ref d_is_powers) = true)
    (a_demand_powers : PySem.W.nsIn K mainGlobals "demand_powers" = some (some (.ref d_demand_powers)))
    (l_demand_powers : K.lookup d_demand_powers = some ⟨oc_demand_powers, od_demand_powers, .func (PySem.W.fnOf "demand_powers" "demand_powers" (defArgs st_demand_powers) (defBody st_demand_powers) (defScope st_demand_powers) .none kV_demand_powers dc_demand_powers pm_demand_powers an_demand_powers cd_demand_powers ct_demand_powers), sl_demand_powers⟩)
    (c_demand_powers : PySem.W.codeIn K cd_demand_powers "demand_powers" = true)
    (k_demand_powers : PySem.W.keepIn K (.ref d_demand_powers) = true)
    (a_is_above : PySem.W.nsIn K mainGlobals "is_above" = some (some (.ref d_is_above)))
    (l_is_above : K.lookup d_is_above = some ⟨oc_is_above, od_is_above, .func (PySem.W.fnOf "is_above" "is_above" (defArgs st_is_above) (defBody st_is_above) (defScope st_is_above) .none kV_is_above dc_is_above pm_is_above an_is_above cd_is_above ct_is_above), sl_is_above⟩)
    (c_is_above : PySem.W.codeIn K cd_is_above "is_above" = true)
    (k_is_above : PySem.W.keepIn K (.ref d_is_above) = true)
    (a_is_order : PySem.W.nsIn K mainGlobals "is_order" = some (some (.ref d_is_order)))
    (l_is_order : K.lookup d_is_order = some ⟨oc_is_order, od_is_order, .func (PySem.W.fnOf "is_order" "is_order" (defArgs st_is_order) (defBody st_is_order) (defScope st_is_order) .none kV_is_order dc_is_order pm_is_order an_is_order cd_is_order ct_is_order), sl_is_order⟩)
    (c_is_order : PySem.W.codeIn K cd_is_order "is_order" = true)
    (k_is_order : PySem.W.keepIn K (.ref d_is_order) = true)
    (a_demand_order : PySem.W.nsIn K mainGlobals "demand_order" = some (some (.ref d_demand_order)))
    (l_demand_order : K.lookup d_demand_order = some ⟨oc_demand_order, od_demand_order, .func (PySem.W.fnOf "demand_order" "demand_order" (defArgs st_demand_order) (defBody st_demand_order) (defScope st_demand_order) .none kV_demand_order dc_demand_order pm_demand_order an_demand_order cd_demand_order ct_demand_order), sl_demand_order⟩)
    (c_demand_order : PySem.W.codeIn K cd_demand_order "demand_order" = true)
    (k_demand_order : PySem.W.keepIn K (.ref d_demand_order) = true)
    (a_key_of : PySem.W.nsIn K mainGlobals "key_of" = some (some (.ref d_key_of)))
    (l_key_of : K.lookup d_key_of = some ⟨oc_key_of, od_key_of, .func (PySem.W.fnOf "key_of" "key_of" (defArgs st_key_of) (defBody st_key_of) (defScope st_key_of) .none kV_key_of dc_key_of pm_key_of an_key_of cd_key_of ct_key_of), sl_key_of⟩)
    (c_key_of : PySem.W.codeIn K cd_key_of "key_of" = true)
    (k_key_of : PySem.W.keepIn K (.ref d_key_of) = true)
    (a_product : PySem.W.nsIn K mainGlobals "product" = some (some (.ref d_product)))
    (l_product : K.lookup d_product = some ⟨oc_product, od_product, .func (PySem.W.fnOf "product" "product" (defArgs st_product) (defBody st_product) (defScope st_product) .none kV_product dc_product pm_product an_product cd_product ct_product), sl_product⟩)
    (c_product : PySem.W.codeIn K cd_product "product" = true)
    (k_product : PySem.W.keepIn K (.ref d_product) = true)
    (a_divides : PySem.W.nsIn K mainGlobals "divides" = some (some (.ref d_divides)))
    (l_divides : K.lookup d_divides = some ⟨oc_divides, od_divides, .func (PySem.W.fnOf "divides" "divides" (defArgs st_divides) (defBody st_divides) (defScope st_divides) .none kV_divides dc_divides pm_divides an_divides cd_divides ct_divides), sl_divides⟩)
    (c_divides : PySem.W.codeIn K cd_divides "divides" = true)
    (k_divides : PySem.W.keepIn K (.ref d_divides) = true)
    (a_quotient : PySem.W.nsIn K mainGlobals "quotient" = some (some (.ref d_quotient)))
    (l_quotient : K.lookup d_quotient = some ⟨oc_quotient, od_quotient, .func (PySem.W.fnOf "quotient" "quotient" (defArgs st_quotient) (defBody st_quotient) (defScope st_quotient) .none kV_quotient dc_quotient pm_quotient an_quotient cd_quotient ct_quotient), sl_quotient⟩)
    (c_quotient : PySem.W.codeIn K cd_quotient "quotient" = true)
    (k_quotient : PySem.W.keepIn K (.ref d_quotient) = true)
    (a_multiple : PySem.W.nsIn K mainGlobals "multiple" = some (some (.ref d_multiple)))
    (l_multiple : K.lookup d_multiple = some ⟨oc_multiple, od_multiple, .func (PySem.W.fnOf "multiple" "multiple" (defArgs st_multiple) (defBody st_multiple) (defScope st_multiple) .none kV_multiple dc_multiple pm_multiple an_multiple cd_multiple ct_multiple), sl_multiple⟩)
    (c_multiple : PySem.W.codeIn K cd_multiple "multiple" = true)
    (k_multiple : PySem.W.keepIn K (.ref d_multiple) = true)
    (a_shared : PySem.W.nsIn K mainGlobals "shared" = some (some (.ref d_shared)))
    (l_shared : K.lookup d_shared = some ⟨oc_shared, od_shared, .func (PySem.W.fnOf "shared" "shared" (defArgs st_shared) (defBody st_shared) (defScope st_shared) .none kV_shared dc_shared pm_shared an_shared cd_shared ct_shared), sl_shared⟩)
    (c_shared : PySem.W.codeIn K cd_shared "shared" = true)
    (k_shared : PySem.W.keepIn K (.ref d_shared) = true)
    (a_compare : PySem.W.nsIn K mainGlobals "compare" = some (some (.ref d_compare)))
    (l_compare : K.lookup d_compare = some ⟨oc_compare, od_compare, .func (PySem.W.fnOf "compare" "compare" (defArgs st_compare) (defBody st_compare) (defScope st_compare) .none kV_compare dc_compare pm_compare an_compare cd_compare ct_compare), sl_compare⟩)
    (c_compare : PySem.W.codeIn K cd_compare "compare" = true)
    (k_compare : PySem.W.keepIn K (.ref d_compare) = true)
    (a_times : PySem.W.nsIn K mainGlobals "times" = some (some (.ref d_times)))
    (l_times : K.lookup d_times = some ⟨oc_times, od_times, .func (PySem.W.fnOf "times" "times" (defArgs st_times) (defBody st_times) (defScope st_times) .none kV_times dc_times pm_times an_times cd_times ct_times), sl_times⟩)
    (c_times : PySem.W.codeIn K cd_times "times" = true)
    (k_times : PySem.W.keepIn K (.ref d_times) = true)
    (a_over : PySem.W.nsIn K mainGlobals "over" = some (some (.ref d_over)))
    (l_over : K.lookup d_over = some ⟨oc_over, od_over, .func (PySem.W.fnOf "over" "over" (defArgs st_over) (defBody st_over) (defScope st_over) .none kV_over dc_over pm_over an_over cd_over ct_over), sl_over⟩)
    (c_over : PySem.W.codeIn K cd_over "over" = true)
    (k_over : PySem.W.keepIn K (.ref d_over) = true)
    (a_least_multiple : PySem.W.nsIn K mainGlobals "least_multiple" = some (some (.ref d_least_multiple)))
    (l_least_multiple : K.lookup d_least_multiple = some ⟨oc_least_multiple, od_least_multiple, .func (PySem.W.fnOf "least_multiple" "least_multiple" (defArgs st_least_multiple) (defBody st_least_multiple) (defScope st_least_multiple) .none kV_least_multiple dc_least_multiple pm_least_multiple an_least_multiple cd_least_multiple ct_least_multiple), sl_least_multiple⟩)
    (c_least_multiple : PySem.W.codeIn K cd_least_multiple "least_multiple" = true)
    (k_least_multiple : PySem.W.keepIn K (.ref d_least_multiple) = true)
    (a_greatest_shared : PySem.W.nsIn K mainGlobals "greatest_shared" = some (some (.ref d_greatest_shared)))
    (l_greatest_shared : K.lookup d_greatest_shared = some ⟨oc_greatest_shared, od_greatest_shared, .func (PySem.W.fnOf "greatest_shared" "greatest_shared" (defArgs st_greatest_shared) (defBody st_greatest_shared) (defScope st_greatest_shared) .none kV_greatest_shared dc_greatest_shared pm_greatest_shared an_greatest_shared cd_greatest_shared ct_greatest_shared), sl_greatest_shared⟩)
    (c_greatest_shared : PySem.W.codeIn K cd_greatest_shared "greatest_shared" = true)
    (k_greatest_shared : PySem.W.keepIn K (.ref d_greatest_shared) = true)
    (a_all_with : PySem.W.nsIn K mainGlobals "all_with" = some (some (.ref d_all_with)))
    (l_all_with : K.lookup d_all_with = some ⟨oc_all_with, od_all_with, .func (PySem.W.fnOf "all_with" "all_with" (defArgs st_all_with) (defBody st_all_with) (defScope st_all_with) .none kV_all_with dc_all_with pm_all_with an_all_with cd_all_with ct_all_with), sl_all_with⟩)
    (c_all_with : PySem.W.codeIn K cd_all_with "all_with" = true)
    (k_all_with : PySem.W.keepIn K (.ref d_all_with) = true)
    (a_with_degree : PySem.W.nsIn K mainGlobals "with_degree" = some (some (.ref d_with_degree)))
    (l_with_degree : K.lookup d_with_degree = some ⟨oc_with_degree, od_with_degree, .func (PySem.W.fnOf "with_degree" "with_degree" (defArgs st_with_degree) (defBody st_with_degree) (defScope st_with_degree) .none kV_with_degree dc_with_degree pm_with_degree an_with_degree cd_with_degree ct_with_degree), sl_with_degree⟩)
    (c_with_degree : PySem.W.codeIn K cd_with_degree "with_degree" = true)
    (k_with_degree : PySem.W.keepIn K (.ref d_with_degree) = true)
    (a_in_order : PySem.W.nsIn K mainGlobals "in_order" = some (some (.ref d_in_order)))
    (l_in_order : K.lookup d_in_order = some ⟨oc_in_order, od_in_order, .func (PySem.W.fnOf "in_order" "in_order" (defArgs st_in_order) (defBody st_in_order) (defScope st_in_order) .none kV_in_order dc_in_order pm_in_order an_in_order cd_in_order ct_in_order), sl_in_order⟩)
    (c_in_order : PySem.W.codeIn K cd_in_order "in_order" = true)
    (k_in_order : PySem.W.keepIn K (.ref d_in_order) = true)
    (a_tells_apart : PySem.W.nsIn K mainGlobals "tells_apart" = some (some (.ref d_tells_apart)))
    (l_tells_apart : K.lookup d_tells_apart = some ⟨oc_tells_apart, od_tells_apart, .func (PySem.W.fnOf "tells_apart" "tells_apart" (defArgs st_tells_apart) (defBody st_tells_apart) (defScope st_tells_apart) .none kV_tells_apart dc_tells_apart pm_tells_apart an_tells_apart cd_tells_apart ct_tells_apart), sl_tells_apart⟩)
    (c_tells_apart : PySem.W.codeIn K cd_tells_apart "tells_apart" = true)
    (k_tells_apart : PySem.W.keepIn K (.ref d_tells_apart) = true)
    (a_is_by_degree : PySem.W.nsIn K mainGlobals "is_by_degree" = some (some (.ref d_is_by_degree)))
    (l_is_by_degree : K.lookup d_is_by_degree = some ⟨oc_is_by_degree, od_is_by_degree, .func (PySem.W.fnOf "is_by_degree" "is_by_degree" (defArgs st_is_by_degree) (defBody st_is_by_degree) (defScope st_is_by_degree) .none kV_is_by_degree dc_is_by_degree pm_is_by_degree an_is_by_degree cd_is_by_degree ct_is_by_degree), sl_is_by_degree⟩)
    (c_is_by_degree : PySem.W.codeIn K cd_is_by_degree "is_by_degree" = true)
    (k_is_by_degree : PySem.W.keepIn K (.ref d_is_by_degree) = true)
    (a_leaves_out : PySem.W.nsIn K mainGlobals "leaves_out" = some (some (.ref d_leaves_out)))
    (l_leaves_out : K.lookup d_leaves_out = some ⟨oc_leaves_out, od_leaves_out, .func (PySem.W.fnOf "leaves_out" "leaves_out" (defArgs st_leaves_out) (defBody st_leaves_out) (defScope st_leaves_out) .none kV_leaves_out dc_leaves_out pm_leaves_out an_leaves_out cd_leaves_out ct_leaves_out), sl_leaves_out⟩)
    (c_leaves_out : PySem.W.codeIn K cd_leaves_out "leaves_out" = true)
    (k_leaves_out : PySem.W.keepIn K (.ref d_leaves_out) = true)
    (a__law_draws : PySem.W.nsIn K mainGlobals "_law_draws" = some (some (.ref d__law_draws)))
    (l__law_draws : K.lookup d__law_draws = some ⟨oc__law_draws, od__law_draws, .func (PySem.W.fnOf "_law_draws" "_law_draws" (defArgs st__law_draws) (defBody st__law_draws) (defScope st__law_draws) .none kV__law_draws dc__law_draws pm__law_draws an__law_draws cd__law_draws ct__law_draws), sl__law_draws⟩)
    (c__law_draws : PySem.W.codeIn K cd__law_draws "_law_draws" = true)
    (k__law_draws : PySem.W.keepIn K (.ref d__law_draws) = true)
    (a__law_more : PySem.W.nsIn K mainGlobals "_law_more" = some (some (.ref d__law_more)))
    (l__law_more : K.lookup d__law_more = some ⟨oc__law_more, od__law_more, .func (PySem.W.fnOf "_law_more" "_law_more" (defArgs st__law_more) (defBody st__law_more) (defScope st__law_more) .none kV__law_more dc__law_more pm__law_more an__law_more cd__law_more ct__law_more), sl__law_more⟩)
    (c__law_more : PySem.W.codeIn K cd__law_more "_law_more" = true)
    (k__law_more : PySem.W.keepIn K (.ref d__law_more) = true)
    (a__law_take : PySem.W.nsIn K mainGlobals "_law_take" = some (some (.ref d__law_take)))
    (l__law_take : K.lookup d__law_take = some ⟨oc__law_take, od__law_take, .func (PySem.W.fnOf "_law_take" "_law_take" (defArgs st__law_take) (defBody st__law_take) (defScope st__law_take) .none kV__law_take dc__law_take pm__law_take an__law_take cd__law_take ct__law_take), sl__law_take⟩)
    (c__law_take : PySem.W.codeIn K cd__law_take "_law_take" = true)
    (k__law_take : PySem.W.keepIn K (.ref d__law_take) = true)
    (a__law_one : PySem.W.nsIn K mainGlobals "_law_one" = some (some (.ref d__law_one)))
    (l__law_one : K.lookup d__law_one = some ⟨oc__law_one, od__law_one, .func (PySem.W.fnOf "_law_one" "_law_one" (defArgs st__law_one) (defBody st__law_one) (defScope st__law_one) .none kV__law_one dc__law_one pm__law_one an__law_one cd__law_one ct__law_one), sl__law_one⟩)
    (c__law_one : PySem.W.codeIn K cd__law_one "_law_one" = true)
    (k__law_one : PySem.W.keepIn K (.ref d__law_one) = true)
    (a__law_key : PySem.W.nsIn K mainGlobals "_law_key" = some (some (.ref d__law_key)))
    (l__law_key : K.lookup d__law_key = some ⟨oc__law_key, od__law_key, .func (PySem.W.fnOf "_law_key" "_law_key" (defArgs st__law_key) (defBody st__law_key) (defScope st__law_key) .none kV__law_key dc__law_key pm__law_key an__law_key cd__law_key ct__law_key), sl__law_key⟩)
    (c__law_key : PySem.W.codeIn K cd__law_key "_law_key" = true)
    (k__law_key : PySem.W.keepIn K (.ref d__law_key) = true)
    (a__law_divides : PySem.W.nsIn K mainGlobals "_law_divides" = some (some (.ref d__law_divides)))
    (l__law_divides : K.lookup d__law_divides = some ⟨oc__law_divides, od__law_divides, .func (PySem.W.fnOf "_law_divides" "_law_divides" (defArgs st__law_divides) (defBody st__law_divides) (defScope st__law_divides) .none kV__law_divides dc__law_divides pm__law_divides an__law_divides cd__law_divides ct__law_divides), sl__law_divides⟩)
    (c__law_divides : PySem.W.codeIn K cd__law_divides "_law_divides" = true)
    (k__law_divides : PySem.W.keepIn K (.ref d__law_divides) = true)
    (a__law_order : PySem.W.nsIn K mainGlobals "_law_order" = some (some (.ref d__law_order)))
    (l__law_order : K.lookup d__law_order = some ⟨oc__law_order, od__law_order, .func (PySem.W.fnOf "_law_order" "_law_order" (defArgs st__law_order) (defBody st__law_order) (defScope st__law_order) .none kV__law_order dc__law_order pm__law_order an__law_order cd__law_order ct__law_order), sl__law_order⟩)
    (c__law_order : PySem.W.codeIn K cd__law_order "_law_order" = true)
    (k__law_order : PySem.W.keepIn K (.ref d__law_order) = true)
    (a__law_told : PySem.W.nsIn K mainGlobals "_law_told" = some (some (.ref d__law_told)))
    (l__law_told : K.lookup d__law_told = some ⟨oc__law_told, od__law_told, .func (PySem.W.fnOf "_law_told" "_law_told" (defArgs st__law_told) (defBody st__law_told) (defScope st__law_told) .none kV__law_told dc__law_told pm__law_told an__law_told cd__law_told ct__law_told), sl__law_told⟩)
    (c__law_told : PySem.W.codeIn K cd__law_told "_law_told" = true)
    (k__law_told : PySem.W.keepIn K (.ref d__law_told) = true)
    (a__law_powers : PySem.W.nsIn K mainGlobals "_law_powers" = some (some (.ref d__law_powers)))
    (l__law_powers : K.lookup d__law_powers = some ⟨oc__law_powers, od__law_powers, .func (PySem.W.fnOf "_law_powers" "_law_powers" (defArgs st__law_powers) (defBody st__law_powers) (defScope st__law_powers) .none kV__law_powers dc__law_powers pm__law_powers an__law_powers cd__law_powers ct__law_powers), sl__law_powers⟩)
    (c__law_powers : PySem.W.codeIn K cd__law_powers "_law_powers" = true)
    (k__law_powers : PySem.W.keepIn K (.ref d__law_powers) = true)
    (a__law_all : PySem.W.nsIn K mainGlobals "_law_all" = some (some (.ref d__law_all)))
    (l__law_all : K.lookup d__law_all = some ⟨oc__law_all, od__law_all, .func (PySem.W.fnOf "_law_all" "_law_all" (defArgs st__law_all) (defBody st__law_all) (defScope st__law_all) .none kV__law_all dc__law_all pm__law_all an__law_all cd__law_all ct__law_all), sl__law_all⟩)
    (c__law_all : PySem.W.codeIn K cd__law_all "_law_all" = true)
    (k__law_all : PySem.W.keepIn K (.ref d__law_all) = true)
    (a_law : PySem.W.nsIn K mainGlobals "law" = some (some (.ref d_law)))
    (l_law : K.lookup d_law = some ⟨oc_law, od_law, .func (PySem.W.fnOf "law" "law" (defArgs st_law) (defBody st_law) (defScope st_law) .none kV_law dc_law pm_law an_law cd_law ct_law), sl_law⟩)
    (c_law : PySem.W.codeIn K cd_law "law" = true)
    (k_law : PySem.W.keepIn K (.ref d_law) = true)
    : ∀ base : Heap, K.In base → base.Ns mainGlobals mg → FnD PySem.Challenge.pw_manyunknowns_k30_whole_powers_and_orders w K mg base 7 "law" 1 (mFn 33 1 m_law) := by
  have G_ArgumentError : mg "ArgumentError" = some (.ref C_ArgumentError) := PySem.W.mg_of X G g_ArgumentError
  have G_IdealError : mg "IdealError" = some (.ref C_IdealError) := PySem.W.mg_of X G g_IdealError
  have G_ReasonError : mg "ReasonError" = some (.ref C_ReasonError) := PySem.W.mg_of X G g_ReasonError
  have T : Txt K mg := ⟨PySem.W.mg_none_of X G b_abs, PySem.W.mg_none_of X G b_all, PySem.W.mg_none_of X G b_any, PySem.W.mg_none_of X G b_bool, PySem.W.mg_none_of X G b_enumerate, PySem.W.mg_none_of X G b_int, PySem.W.mg_none_of X G b_isinstance, PySem.W.mg_none_of X G b_len, PySem.W.mg_none_of X G b_list, PySem.W.mg_none_of X G b_max, PySem.W.mg_none_of X G b_min, PySem.W.mg_none_of X G b_range, PySem.W.mg_none_of X G b_repr, PySem.W.mg_none_of X G b_sorted, PySem.W.mg_none_of X G b_str, PySem.W.mg_none_of X G b_sum, PySem.W.mg_none_of X G b_tuple, PySem.W.mg_none_of X G b_zip, ⟨_, PySem.W.mg_of X G c_MAX_NUMBER⟩, ⟨_, PySem.W.mg_of X G c_MAX_POWER⟩, ⟨_, PySem.W.mg_of X G c_MAX_UNKNOWNS⟩, ⟨_, PySem.W.mg_of X G c_WORDS, _, _, _, lc_WORDS, rfl, rfl, (show 3 ≤ sizeLine by decide), .cons ⟨_, rfl⟩ (.cons ⟨_, rfl⟩ (.cons ⟨_, rfl⟩ (.nil)))⟩⟩
  have Ini_ReasonError : ExIni PySem.Challenge.pw_manyunknowns_k30_whole_powers_and_orders K mg C_ReasonError f_ReasonError cc_ReasonError cda_ReasonError := ⟨⟨_, _, _, _, _, _, cd0_ReasonError, cd1_ReasonError, cd2_ReasonError⟩, ⟨_, _, _, cc0_ReasonError⟩, Option.isSome_iff_exists.mp ic_ReasonError, PySem.W.mg_none_of X G nosup, by rfl, any_⟩
  have ox_ArgumentError : OexC K C_ArgumentError := ⟨⟨_, _, _, _, _, _, _, _, _, _, _, _, _, _, _, x_ArgumentError, refsVE_end⟩, sa_ArgumentError, bE_ArgumentError, ty_ArgumentError, kC_ArgumentError⟩
  have E0_ArgumentError : ExCls K mg "ArgumentError" C_ArgumentError C_ReasonError f_ReasonError ["reason"] := ⟨G_ArgumentError, ox_ArgumentError, in_ArgumentError, ti_ReasonError, ⟨mr_ArgumentError, su_ArgumentError, ve_ArgumentError⟩, fun f hf => by simp only [List.mem_cons, List.not_mem_nil, or_false] at hf; subst hf; exact no_ArgumentError_reason⟩
  have ec_ArgumentError : ExcC K C_ArgumentError := ⟨ga_ArgumentError, gg_ArgumentError, bE_ArgumentError, hd_ArgumentError, cl_ArgumentError, oget, otk, ob_ArgumentError⟩
  have xf_ArgumentError : XfC K C_ArgumentError := ⟨ga_ArgumentError, gg_ArgumentError, bE_ArgumentError, hd_ArgumentError⟩
  have E_ArgumentError : ∀ base : Heap, ExD PySem.Challenge.pw_manyunknowns_k30_whole_powers_and_orders w K mg base 1 "ArgumentError" ["reason"] := fun base => exd1 E0_ArgumentError Ini_ReasonError l_ReasonError c_ReasonError (nscope_by (by decide +kernel)) rfl (fun us hl => match us, hl with | [_, _], _ => rfl) (fun env => by rfl) rfl rfl rfl rfl (by decide) (by decide) (by decide) (by decide)
  have F_reason : ExF K mg ["ArgumentError"] "reason" := fun c hc => by
    simp only [List.mem_cons, List.not_mem_nil, or_false] at hc
    subst hc; exact ⟨_, G_ArgumentError, xf_ArgumentError, no_ArgumentError_reason⟩
  have EW : ExW K mg tbl owns := ew_of tbl owns [("ArgumentError", C_ArgumentError), ("IdealError", C_IdealError), ("ReasonError", C_ReasonError)]
    ⟨G_ArgumentError, G_IdealError, G_ReasonError, trivial⟩ (by rfl)
    ⟨⟨ec_ArgumentError, PySem.W.exm_ref bE_ArgumentError hd_ArgumentError ty_ArgumentError s_ArgumentError_ArgumentError, k_ArgumentError_ArgumentError⟩,
     ⟨ec_ArgumentError, PySem.W.exm_ref bE_IdealError hd_IdealError ty_IdealError s_ArgumentError_IdealError, k_ArgumentError_IdealError⟩,
     ⟨ec_ArgumentError, PySem.W.exm_ref bE_ReasonError hd_ReasonError ty_ReasonError s_ArgumentError_ReasonError, k_ArgumentError_ReasonError⟩,
     ⟨ec_ArgumentError, kv_ArgumentError⟩,
     trivial⟩ (by rfl)
  have F0_is_integer := fun_mk (st := st_is_integer) l_is_integer c_is_integer k_is_integer
  have F0_in_range := fun_mk (st := st_in_range) l_in_range c_in_range k_in_range
  have F0_demand_count := fun_mk (st := st_demand_count) l_demand_count c_demand_count k_demand_count
  have F0_is_powers := fun_mk (st := st_is_powers) l_is_powers c_is_powers k_is_powers
  have F0_demand_powers := fun_mk (st := st_demand_powers) l_demand_powers c_demand_powers k_demand_powers
  have F0_is_above := fun_mk (st := st_is_above) l_is_above c_is_above k_is_above
  have F0_is_order := fun_mk (st := st_is_order) l_is_order c_is_order k_is_order
  have F0_demand_order := fun_mk (st := st_demand_order) l_demand_order c_demand_order k_demand_order
  have F0_key_of := fun_mk (st := st_key_of) l_key_of c_key_of k_key_of
  have F0_product := fun_mk (st := st_product) l_product c_product k_product
  have F0_divides := fun_mk (st := st_divides) l_divides c_divides k_divides
  have F0_quotient := fun_mk (st := st_quotient) l_quotient c_quotient k_quotient
  have F0_multiple := fun_mk (st := st_multiple) l_multiple c_multiple k_multiple
  have F0_shared := fun_mk (st := st_shared) l_shared c_shared k_shared
  have F0_compare := fun_mk (st := st_compare) l_compare c_compare k_compare
  have F0_times := fun_mk (st := st_times) l_times c_times k_times
  have F0_over := fun_mk (st := st_over) l_over c_over k_over
  have F0_least_multiple := fun_mk (st := st_least_multiple) l_least_multiple c_least_multiple k_least_multiple
  have F0_greatest_shared := fun_mk (st := st_greatest_shared) l_greatest_shared c_greatest_shared k_greatest_shared
  have F0_all_with := fun_mk (st := st_all_with) l_all_with c_all_with k_all_with
  have F0_with_degree := fun_mk (st := st_with_degree) l_with_degree c_with_degree k_with_degree
  have F0_in_order := fun_mk (st := st_in_order) l_in_order c_in_order k_in_order
  have F0_tells_apart := fun_mk (st := st_tells_apart) l_tells_apart c_tells_apart k_tells_apart
  have F0_is_by_degree := fun_mk (st := st_is_by_degree) l_is_by_degree c_is_by_degree k_is_by_degree
  have F0_leaves_out := fun_mk (st := st_leaves_out) l_leaves_out c_leaves_out k_leaves_out
  have F0__law_draws := fun_mk (st := st__law_draws) l__law_draws c__law_draws k__law_draws
  have F0__law_more := fun_mk (st := st__law_more) l__law_more c__law_more k__law_more
  have F0__law_take := fun_mk (st := st__law_take) l__law_take c__law_take k__law_take
  have F0__law_one := fun_mk (st := st__law_one) l__law_one c__law_one k__law_one
  have F0__law_key := fun_mk (st := st__law_key) l__law_key c__law_key k__law_key
  have F0__law_divides := fun_mk (st := st__law_divides) l__law_divides c__law_divides k__law_divides
  have F0__law_order := fun_mk (st := st__law_order) l__law_order c__law_order k__law_order
  have F0__law_told := fun_mk (st := st__law_told) l__law_told c__law_told k__law_told
  have F0__law_powers := fun_mk (st := st__law_powers) l__law_powers c__law_powers k__law_powers
  have F0__law_all := fun_mk (st := st__law_all) l__law_all c__law_all k__law_all
  have F0_law := fun_mk (st := st_law) l_law c_law k_law
  intro base hk hn
  have Z_is_integer := ok_is_integer (P := PySem.Challenge.pw_manyunknowns_k30_whole_powers_and_orders) (w := w) (base := base) T F0_is_integer (PySem.W.mg_of X G a_is_integer) 
  have Z_in_range := ok_in_range (P := PySem.Challenge.pw_manyunknowns_k30_whole_powers_and_orders) (w := w) (base := base) T F0_in_range (PySem.W.mg_of X G a_in_range) Z_is_integer
  have Z_demand_count := ok_demand_count (P := PySem.Challenge.pw_manyunknowns_k30_whole_powers_and_orders) (w := w) (base := base) T F0_demand_count (PySem.W.mg_of X G a_demand_count) Z_in_range (E_ArgumentError base)
  have Z_is_powers := ok_is_powers (P := PySem.Challenge.pw_manyunknowns_k30_whole_powers_and_orders) (w := w) (base := base) T F0_is_powers (PySem.W.mg_of X G a_is_powers) Z_in_range
  have Z_demand_powers := ok_demand_powers (P := PySem.Challenge.pw_manyunknowns_k30_whole_powers_and_orders) (w := w) (base := base) T F0_demand_powers (PySem.W.mg_of X G a_demand_powers) Z_demand_count Z_is_powers (E_ArgumentError base)
  have Z_is_above := ok_is_above (P := PySem.Challenge.pw_manyunknowns_k30_whole_powers_and_orders) (w := w) (base := base) T F0_is_above (PySem.W.mg_of X G a_is_above) 
  have Z_is_order := ok_is_order (P := PySem.Challenge.pw_manyunknowns_k30_whole_powers_and_orders) (w := w) (base := base) T F0_is_order (PySem.W.mg_of X G a_is_order) Z_in_range Z_is_above
  have Z_demand_order := ok_demand_order (P := PySem.Challenge.pw_manyunknowns_k30_whole_powers_and_orders) (w := w) (base := base) T F0_demand_order (PySem.W.mg_of X G a_demand_order) Z_is_order (E_ArgumentError base)
  have Z_key_of := ok_key_of (P := PySem.Challenge.pw_manyunknowns_k30_whole_powers_and_orders) (w := w) (base := base) T F0_key_of (PySem.W.mg_of X G a_key_of) 
  have Z_product := ok_product (P := PySem.Challenge.pw_manyunknowns_k30_whole_powers_and_orders) (w := w) (base := base) T F0_product (PySem.W.mg_of X G a_product) 
  have Z_divides := ok_divides (P := PySem.Challenge.pw_manyunknowns_k30_whole_powers_and_orders) (w := w) (base := base) T F0_divides (PySem.W.mg_of X G a_divides) 
  have Z_quotient := ok_quotient (P := PySem.Challenge.pw_manyunknowns_k30_whole_powers_and_orders) (w := w) (base := base) T F0_quotient (PySem.W.mg_of X G a_quotient) 
  have Z_multiple := ok_multiple (P := PySem.Challenge.pw_manyunknowns_k30_whole_powers_and_orders) (w := w) (base := base) T F0_multiple (PySem.W.mg_of X G a_multiple) 
  have Z_shared := ok_shared (P := PySem.Challenge.pw_manyunknowns_k30_whole_powers_and_orders) (w := w) (base := base) T F0_shared (PySem.W.mg_of X G a_shared) 
  have Z_compare := ok_compare (P := PySem.Challenge.pw_manyunknowns_k30_whole_powers_and_orders) (w := w) (base := base) T F0_compare (PySem.W.mg_of X G a_compare) Z_demand_count Z_demand_order Z_demand_powers Z_key_of
  have Z_times := ok_times (P := PySem.Challenge.pw_manyunknowns_k30_whole_powers_and_orders) (w := w) (base := base) T F0_times (PySem.W.mg_of X G a_times) Z_demand_powers Z_product
  have Z_over := ok_over (P := PySem.Challenge.pw_manyunknowns_k30_whole_powers_and_orders) (w := w) (base := base) T F0_over (PySem.W.mg_of X G a_over) Z_demand_powers Z_divides Z_quotient
  have Z_least_multiple := ok_least_multiple (P := PySem.Challenge.pw_manyunknowns_k30_whole_powers_and_orders) (w := w) (base := base) T F0_least_multiple (PySem.W.mg_of X G a_least_multiple) Z_demand_powers Z_multiple
  have Z_greatest_shared := ok_greatest_shared (P := PySem.Challenge.pw_manyunknowns_k30_whole_powers_and_orders) (w := w) (base := base) T F0_greatest_shared (PySem.W.mg_of X G a_greatest_shared) Z_demand_powers Z_shared
  have Z_all_with := ok_all_with (P := PySem.Challenge.pw_manyunknowns_k30_whole_powers_and_orders) (w := w) (base := base) T F0_all_with (PySem.W.mg_of X G a_all_with) 
  have Z_with_degree := ok_with_degree (P := PySem.Challenge.pw_manyunknowns_k30_whole_powers_and_orders) (w := w) (base := base) T F0_with_degree (PySem.W.mg_of X G a_with_degree) Z_all_with Z_demand_count Z_in_range (E_ArgumentError base)
  have Z_in_order := ok_in_order (P := PySem.Challenge.pw_manyunknowns_k30_whole_powers_and_orders) (w := w) (base := base) T F0_in_order (PySem.W.mg_of X G a_in_order) Z_demand_count Z_demand_order Z_is_powers Z_key_of (E_ArgumentError base)
  have Z_tells_apart := ok_tells_apart (P := PySem.Challenge.pw_manyunknowns_k30_whole_powers_and_orders) (w := w) (base := base) T F0_tells_apart (PySem.W.mg_of X G a_tells_apart) Z_demand_count Z_demand_order Z_demand_powers Z_key_of
  have Z_is_by_degree := ok_is_by_degree (P := PySem.Challenge.pw_manyunknowns_k30_whole_powers_and_orders) (w := w) (base := base) T F0_is_by_degree (PySem.W.mg_of X G a_is_by_degree) Z_demand_count Z_demand_order
  have Z_leaves_out := ok_leaves_out (P := PySem.Challenge.pw_manyunknowns_k30_whole_powers_and_orders) (w := w) (base := base) T F0_leaves_out (PySem.W.mg_of X G a_leaves_out) Z_demand_count Z_demand_order Z_in_range (E_ArgumentError base)
  have Z__law_draws := ok__law_draws (P := PySem.Challenge.pw_manyunknowns_k30_whole_powers_and_orders) (w := w) (base := base) T F0__law_draws (PySem.W.mg_of X G a__law_draws) 
  have Z__law_more := ok__law_more (P := PySem.Challenge.pw_manyunknowns_k30_whole_powers_and_orders) (w := w) (base := base) T F0__law_more (PySem.W.mg_of X G a__law_more) 
  have Z__law_take := ok__law_take (P := PySem.Challenge.pw_manyunknowns_k30_whole_powers_and_orders) (w := w) (base := base) T F0__law_take (PySem.W.mg_of X G a__law_take) Z__law_more
  have Z__law_one := ok__law_one (P := PySem.Challenge.pw_manyunknowns_k30_whole_powers_and_orders) (w := w) (base := base) T F0__law_one (PySem.W.mg_of X G a__law_one) Z__law_take
  have Z__law_key := ok__law_key (P := PySem.Challenge.pw_manyunknowns_k30_whole_powers_and_orders) (w := w) (base := base) T F0__law_key (PySem.W.mg_of X G a__law_key) 
  have Z__law_divides := ok__law_divides (P := PySem.Challenge.pw_manyunknowns_k30_whole_powers_and_orders) (w := w) (base := base) T F0__law_divides (PySem.W.mg_of X G a__law_divides) 
  have Z__law_order := ok__law_order (P := PySem.Challenge.pw_manyunknowns_k30_whole_powers_and_orders) (w := w) (base := base) T F0__law_order (PySem.W.mg_of X G a__law_order) Z__law_one Z__law_take
  have Z__law_told := ok__law_told (P := PySem.Challenge.pw_manyunknowns_k30_whole_powers_and_orders) (w := w) (base := base) T F0__law_told (PySem.W.mg_of X G a__law_told) Z_compare Z_greatest_shared Z_in_order Z_is_by_degree Z_least_multiple Z_leaves_out Z_over Z_tells_apart Z_times Z_with_degree EW F_reason
  have Z__law_powers := ok__law_powers (P := PySem.Challenge.pw_manyunknowns_k30_whole_powers_and_orders) (w := w) (base := base) T F0__law_powers (PySem.W.mg_of X G a__law_powers) Z__law_one Z__law_take
  have Z__law_all := ok__law_all (P := PySem.Challenge.pw_manyunknowns_k30_whole_powers_and_orders) (w := w) (base := base) T F0__law_all (PySem.W.mg_of X G a__law_all) 
  have Z_law := ok_law (P := PySem.Challenge.pw_manyunknowns_k30_whole_powers_and_orders) (w := w) (base := base) T F0_law (PySem.W.mg_of X G a_law) Z__law_all Z__law_divides Z__law_draws Z__law_key Z__law_one Z__law_order Z__law_powers Z__law_take Z__law_told
  exact Z_law
end K30
end

section
set_option Elab.async false
set_option linter.all false
set_option maxRecDepth 100000
set_option maxHeartbeats 4000000
namespace K30
open PySem PySem.Spec PyProof.Rows L2 DL
theorem more_ok (ns : List Int) (p : Int) (st : Sto) : ∃ v, g__law_more [.val (.lst (ns.map .int)), .val (.int p)] st = some (.ok (.val (.int v)), st) := by
  unfold g__law_more mFn m__law_more
  have h1 : ∀ i : Int, smallF i 48271 = true := fun i => smallF_r _ _ (by decide)
  have h2 : ∀ i : Int, smallF i 16807 = true := fun i => smallF_r _ _ (by decide)
  have h3 : ∀ i : Int, smallF 69621 i = true := fun i => smallF_l _ _ (by decide)
  have hr : ∀ st : Sto, rangeOf1 [Va.val (D.int 3)] st = some (.ok (intsR 0 3), st) := fun st => range1 3 st (by decide)
  simp only [List.length_cons, List.length_nil, noExc, and_self, if_true, Nat.reduceAdd, List.map_cons, List.map_nil, List.replicate, Nat.reduceSub, List.cons_append, List.nil_append]
  simp only [mSeq_eq, mFor_eq]
  simp [DL.mulA_int, DL.mod_int, h1, h2, h3, hr]
  generalize hm : (p * 48271 + ((ns.length : Nat) : Int) + 11) % 2147483629 = m
  have L := forGo_inv (g := gVar 3) (body := b1__law_more) (fun ρ st' => st' = st ∧ ∃ m x, ρ = [some (.val (.lst (ns.map .int))), some (.val (.int p)), some (.val (.int m)), x]) (intsR 0 3) (fun d hd ρ st' hP => ?_) [some (.val (.lst (ns.map .int))), some (.val (.int p)), some (.val (.int m)), none] st ⟨rfl, m, none, rfl⟩
  · obtain ⟨ρ', st', e, rfl, m', x, rfl⟩ := L
    rw [e]
    simp [DL.fdiv_int]
  · obtain ⟨k, rfl, hk0, hk1⟩ := mem_intsR hd
    obtain ⟨rfl, m', x, rfl⟩ := hP
    have h4 : smallF p (k + 5) = true := smallF_r _ _ ⟨by omega, by omega⟩
    refine ⟨_, rfl, ?_⟩
    by_cases hn : ns = []
    · subst hn
      refine ⟨[some (.val (.lst [])), some (.val (.int p)), some (.val (.int ((m' * 16807 + 69621 * k + 5) % 2147483629))), some (.val (.int k))], st', ?_, rfl, _, _, rfl⟩
      simp [b1__law_more, DL.mulA_int, DL.mod_int, h2, h3]
    · have hlen : (0 : Int) < (ns.length : Nat) := by
        have := List.length_pos_iff.mpr hn
        omega
      obtain ⟨v, hv, hi⟩ := atI_mod (ns.map D.int) (p * (k + 5) + k) (by simpa using hn)
      obtain ⟨z, hz, rfl⟩ := List.mem_map.mp hv
      rw [List.length_map] at hi
      have hne : ns.isEmpty = false := by cases ns with | nil => exact absurd rfl hn | cons a r => rfl
      refine ⟨[some (.val (.lst (ns.map .int))), some (.val (.int p)), some (.val (.int (((m' + z) * 16807 + 69621 * k + 5) % 2147483629))), some (.val (.int k))], st', ?_, rfl, _, _, rfl⟩
      simp [b1__law_more, DL.mulA_int, h2, h3, h4, hne, hn, DL.mod_int _ _ _ hlen, ix_lst _ _ _ _ hi, DL.mod_int _ 2147483629]
end K30
end

section
set_option Elab.async false
set_option linter.all false
set_option maxRecDepth 100000
set_option maxHeartbeats 4000000
namespace K30
open PySem PySem.Spec PyProof.Rows L2 DL
theorem ix_at (p : Int) (st : Sto) : opIx (.obj 0) (.val (.int 0)) (Ob.lst [.int p] :: st) = some (.ok (.val (.int p)), Ob.lst [.int p] :: st) := rfl
theorem set_at (p q : Int) (st : Sto) : setIx (.obj 0) (.val (.int 0)) (.val (.int q)) (Ob.lst [.int p] :: st) = some (.ok (), Ob.lst [.int q] :: st) := rfl
theorem ix_in (ns : List Int) (p : Int) (h0 : 0 ≤ p) (h : p < (ns.length : Nat)) : ∃ z, atI (ns.map D.int) p = some (.int z) := by
  have hj : p.toNat < ns.length := by omega
  refine ⟨ns[p.toNat], ?_⟩
  have : (ns.map D.int)[p.toNat]? = some (D.int ns[p.toNat]) := by simp [hj]
  have q := atI_nat this
  rw [Int.toNat_of_nonneg h0] at q
  exact q
theorem take_ok (ns : List Int) (p many : Int) (st : Sto) (h0 : 0 ≤ p) (hm : 0 < many) :
    ∃ r, 0 ≤ r ∧ r < many ∧ g__law_take [.val (.lst (ns.map .int)), .obj 0, .val (.int many)] (Ob.lst [.int p] :: st) = some (.ok (.val (.int r)), Ob.lst [.int (p + 1)] :: st) := by
  have key : ∃ z, g__law_take [.val (.lst (ns.map .int)), .obj 0, .val (.int many)] (Ob.lst [.int p] :: st) = some (.ok (.val (.int (z % many))), Ob.lst [.int (p + 1)] :: st) := by
    by_cases hp : p < (ns.length : Nat)
    · obtain ⟨z, hz⟩ := ix_in ns p h0 hp
      refine ⟨z, ?_⟩
      unfold g__law_take mFn m__law_take
      simp [mSetIx, noExc, ix_at, set_at, hp, ix_lst _ _ _ _ hz, DL.mod_int _ _ _ hm, List.replicate]
    · obtain ⟨v, hv⟩ := more_ok ns p (Ob.lst [.int (p + 1)] :: st)
      refine ⟨v, ?_⟩
      unfold g__law_take mFn m__law_take
      simp [mSetIx, noExc, ix_at, set_at, hp, hv, DL.mod_int _ _ _ hm, List.replicate]
  obtain ⟨z, hz⟩ := key
  exact ⟨z % many, Int.emod_nonneg _ (by omega), Int.emod_lt_of_pos _ hm, hz⟩
theorem one_ok (ds : List D) (ns : List Int) (p : Int) (st : Sto) (h0 : 0 ≤ p) (hd : ds ≠ []) :
    ∃ d, d ∈ ds ∧ g__law_one [.val (.lst ds), .val (.lst (ns.map .int)), .obj 0] (Ob.lst [.int p] :: st) = some (.ok (.val d), Ob.lst [.int (p + 1)] :: st) := by
  have hl : (0 : Int) < (ds.length : Nat) := by
    have := List.length_pos_iff.mpr hd
    omega
  obtain ⟨r, r0, r1, hr⟩ := take_ok ns p (ds.length : Nat) st h0 hl
  have hj : r.toNat < ds.length := by omega
  have hi : atI ds r = some ds[r.toNat] := by
    have := atI_nat (List.getElem?_eq_getElem hj)
    rw [Int.toNat_of_nonneg r0] at this
    exact this
  refine ⟨ds[r.toNat], List.getElem_mem hj, ?_⟩
  unfold g__law_one mFn m__law_one
  simp [noExc, hr, ix_lst _ _ _ _ hi]
end K30
end

section
set_option Elab.async false
set_option linter.all false
set_option maxRecDepth 100000
set_option maxHeartbeats 4000000
set_option maxHeartbeats 400000
namespace K30
open PySem PySem.Spec PyProof.Rows L2 DL
theorem mApp_eq (mo me : En → M Va) (ρ : En) (st : Sto) : mApp mo me ρ st = (match mo ρ st with | none => none | some (.ok o, st') => (if isObjList o st' = true then M.bind (me ρ) (fun v => appendV o v) st' else none) | some (.ex c fs, st') => some (.ex c fs, st')) := by
  unfold mApp M.bind
  cases mo ρ st with
  | none => rfl
  | some p =>
    obtain ⟨r, st'⟩ := p
    cases r <;> rfl
theorem mkObj_nil (st : Sto) : mkObj [] st = some (.ok (.obj st.length), st ++ [.lst []]) := by
  unfold mkObj
  simp only [vals_nil, List.length_nil, Nat.zero_le, if_true]
theorem freeze_0 (ds : List D) : freeze (.obj 0) [.lst ds] = some (.ok (.val (.lst ds)), [.dead]) := rfl
theorem pow18 : ((10 : Int) ^ (18 : Int).toNat) = 1000000000000000000 := by decide
theorem opPow18 (st : Sto) : opPow (.val (.int 10)) (.val (.int 18)) st = some (.ok (.val (.int 1000000000000000000)), st) := by
  show (if (0:Int) ≤ 18 ∧ (18:Int) ≤ 1000000 ∧ (10:Int).natAbs < 2 ^ 64 then M.pure _ else stuck) st = _
  rw [if_pos (by decide), pow18]; rfl
theorem b1_ok (a c x4 x5 : Option Va) (ds : List Int) (rest : Int) (k : Int) (hl : ds.length < sizeLine) :
    ∃ ds' rest', b1__law_draws [a, some (.obj 0), c, some (.val (.int rest)), some (.val (.int k)), x5] [.lst (ds.map .int)] = some (.nx [a, some (.obj 0), c, some (.val (.int rest')), some (.val (.int k)), x5], [.lst ((ds' : List Int).map .int)]) ∧ ds'.length ≤ ds.length + 1 := by
  by_cases h : 0 < rest
  · refine ⟨ds ++ [rest % 1009], rest / 1009, ?_, by simp⟩
    have e := append_lst 0 (.int (rest % 1009)) (ds.map D.int) [.lst (ds.map .int)] rfl (by simpa using hl)
    simp [b1__law_draws, h, mApp_eq, DL.mod_int, DL.fdiv_int, e]
  · refine ⟨ds, rest, ?_, by omega⟩
    simp [b1__law_draws, h]
theorem b2_ok (a c d : Option Va) (ds : List Int) (m : Int) (k : Int) (h0 : 0 ≤ k) (h1 : k < 100) (hl : ds.length < sizeLine) :
    ∃ ds' m', b2__law_draws [a, some (.obj 0), c, d, some (.val (.int k)), some (.val (.int m))] [.lst (ds.map .int)] = some (.nx [a, some (.obj 0), c, d, some (.val (.int k)), some (.val (.int m'))], [.lst ((ds' : List Int).map .int)]) ∧ ds'.length ≤ ds.length + 1 := by
  have h2 : smallF m 16807 = true := smallF_r _ _ (by decide)
  have h3 : smallF 69621 k = true := smallF_l _ _ (by decide)
  refine ⟨ds ++ [(m * 16807 + 69621 * k + 5) % 2147483629 / 1009], (m * 16807 + 69621 * k + 5) % 2147483629, ?_, by simp⟩
  have e := append_lst 0 (.int ((m * 16807 + 69621 * k + 5) % 2147483629 / 1009)) (ds.map D.int) [.lst (ds.map .int)] rfl (by simpa using hl)
  simp [b2__law_draws, mApp_eq, DL.mulA_int, DL.mod_int, DL.fdiv_int, h2, h3, e]
theorem b3_ok (a x3 x4 x5 : Option Va) (ds : List Int) (cell : Int) (hl : ds.length + 60 < sizeLine) :
    ∃ ds' y3 y4 y5, b3__law_draws [a, some (.obj 0), some (.val (.int cell)), x3, x4, x5] [.lst (ds.map .int)] = some (.nx [a, some (.obj 0), some (.val (.int cell)), y3, y4, y5], [.lst ((ds' : List Int).map .int)]) ∧ ds'.length ≤ ds.length + 60 := by
  have hr60 : ∀ st : Sto, rangeOf1 [Va.val (D.int 60)] st = some (.ok (intsR 0 60), st) := fun st => range1 60 st (by decide)
  have hr12 : ∀ st : Sto, rangeOf1 [Va.val (D.int 12)] st = some (.ok (intsR 0 12), st) := fun st => range1 12 st (by decide)
  have h48 : ∀ i : Int, smallF i 48271 = true := fun i => smallF_r _ _ (by decide)
  generalize hrest : (if cell < 0 then -cell else cell) = rest
  by_cases hbig : (1000000000000000000 : Int) ≤ rest
  · obtain ⟨ρ', st', e, ds', r', x4', rfl, rfl, hle⟩ := forGo_invN (g := gVar 4) (body := b1__law_draws) (fun i ρ st => ∃ (ds' : List Int) (r' : Int) (x4' : Option Va), ρ = [a, some (.obj 0), some (.val (.int cell)), some (.val (.int r')), x4', x5] ∧ st = [.lst (ds'.map .int)] ∧ ds'.length ≤ ds.length + i) (intsR 0 60) 0
      (fun d hd i ρ st hi ⟨ds', r', x4', e1, e2, hle⟩ => by
        obtain ⟨k, rfl, k0, k1⟩ := mem_intsR hd
        subst e1 e2
        simp at hi
        obtain ⟨ds2, r2, e3, h3⟩ := b1_ok a (some (.val (.int cell))) none x5 ds' r' k (by omega)
        exact ⟨_, rfl, _, _, e3, ds2, r2, _, rfl, rfl, by omega⟩)
      [a, some (.obj 0), some (.val (.int cell)), some (.val (.int rest)), x4, x5] [.lst (ds.map .int)] ⟨ds, rest, x4, rfl, rfl, by omega⟩
    refine ⟨ds', some (.val (.int r')), x4', x5, ?_, by simpa using hle⟩
    simp [b3__law_draws, hrest, opPow18, hbig, hr60, e]
  · obtain ⟨ρ', st', e, ds', r', x4', rfl, rfl, hle⟩ := forGo_invN (g := gVar 4) (body := b2__law_draws) (fun i ρ st => ∃ (ds' : List Int) (m' : Int) (x4' : Option Va), ρ = [a, some (.obj 0), some (.val (.int cell)), some (.val (.int rest)), x4', some (.val (.int m'))] ∧ st = [.lst (ds'.map .int)] ∧ ds'.length ≤ ds.length + i) (intsR 0 12) 0
      (fun d hd i ρ st hi ⟨ds', r', x4', e1, e2, hle⟩ => by
        obtain ⟨k, rfl, k0, k1⟩ := mem_intsR hd
        subst e1 e2
        simp at hi
        obtain ⟨ds2, r2, e3, h3⟩ := b2_ok a (some (.val (.int cell))) (some (.val (.int rest))) ds' r' k k0 (by omega) (by omega)
        exact ⟨_, rfl, _, _, e3, ds2, r2, _, rfl, rfl, by omega⟩)
      [a, some (.obj 0), some (.val (.int cell)), some (.val (.int rest)), x4, some (.val (.int ((rest * 48271 + 11) % 2147483647)))] [.lst (ds.map .int)] ⟨ds, _, x4, rfl, rfl, by omega⟩
    refine ⟨ds', some (.val (.int rest)), x4', some (.val (.int r')), ?_, by simp at hle; omega⟩
    simp [b3__law_draws, hrest, opPow18, hbig, hr12, e, DL.mulA_int, DL.mod_int, h48]
theorem draws_ok (ns : List Int) (hn : ns.length ≤ 63) : ∃ ds : List Int, g__law_draws [.scr ns] [] = some (.ok (.val (.lst (ds.map .int))), []) := by
  have hcut : DL.cutD (ns.map D.int) none (some 63) = ns.map D.int := by
    unfold DL.cutD
    have e1 : HT.sIx (ns.map D.int).length 0 none = 0 := rfl
    have e2 : HT.sIx (ns.map D.int).length (ns.map D.int).length (some 63) = (ns.map D.int).length := by
      have := HT.sIx_nat (ns.map D.int).length (ns.map D.int).length 63
      rw [show ((63 : Nat) : Int) = 63 from rfl] at this
      rw [this]
      simp; omega
    rw [e1, e2]
    simp only [Nat.sub_zero, List.drop_zero]
    exact List.take_length
  obtain ⟨ρ', st', e, ds', y2, y3, y4, y5, rfl, rfl, hle⟩ := forGo_invN (g := gVar 2) (body := b3__law_draws) (fun i ρ st => ∃ (ds' : List Int) (y2 y3 y4 y5 : Option Va), ρ = [some (.scr ns), some (.obj 0), y2, y3, y4, y5] ∧ st = [.lst (ds'.map .int)] ∧ ds'.length ≤ 60 * i) (ns.map D.int) 0
    (fun d hd i ρ st hi ⟨ds', y2, y3, y4, y5, e1, e2, hle⟩ => by
      obtain ⟨cell, _, rfl⟩ := List.mem_map.mp hd
      subst e1 e2
      simp at hi
      obtain ⟨ds2, z3, z4, z5, e3, h3⟩ := b3_ok (some (.scr ns)) y3 y4 y5 ds' cell (by rw [sizeLine_eq]; omega)
      exact ⟨_, rfl, _, _, e3, ds2, _, _, _, _, rfl, rfl, by omega⟩)
    [some (.scr ns), some (.obj 0), none, none, none, none] [.lst []] ⟨[], none, none, none, none, rfl, rfl, by simp⟩
  refine ⟨ds', ?_⟩
  unfold g__law_draws mFn m__law_draws
  have hsl : slOf (.scr ns) none (some 63) [.lst []] = some (.ok (.val (.lst (ns.map .int))), [.lst []]) := by
    show some (R.ok (Va.val (D.lst (DL.cutD (ns.map .int) none (some 63)))), _) = _
    rw [hcut]
  have hs : mSlice (mVar 0) mNoPart (mPart (mC (.int 63))) [some (.scr ns), some (.obj 0), none, none, none, none] [.lst []] = some (.ok (.val (.lst (ns.map .int))), [.lst []]) := by
    unfold mSlice
    simp only [bind_eq, mVar0, mNoPart, pure_eq, mPart, mC_eq, asPart, calm_eq, hsl]
  have hf : mSeqI (mSlice (mVar 0) mNoPart (mPart (mC (.int 63)))) [some (.scr ns), some (.obj 0), none, none, none, none] [.lst []] = some (.ok (ns.map .int), [.lst []]) := by
    unfold mSeqI
    simp only [bind_eq, hs, seqOf, pure_eq]
  simp only [List.length_cons, List.length_nil, noExc, and_self, if_true, Nat.reduceAdd, List.map_cons, List.map_nil, List.replicate, Nat.reduceSub, List.cons_append, List.nil_append]
  simp only [mSeq_eq, mSet_eq, mObj_eq, bind_eq, mNil_eq, mkObj_nil, onE_ok, List.set_cons_succ, List.set_cons_zero, List.nil_append, List.length_nil, mFor_eq, hf, e, mRet_eq, mFrz_eq, mVarS, mVar0, freeze_0, bodyR_rt, cutR_val, List.take_zero]
end K30
end

section
set_option Elab.async false
set_option linter.all false
set_option maxRecDepth 100000
set_option maxHeartbeats 1000000
namespace K30
open PySem PySem.Spec PyProof.Rows L2 DL
def noG : D → Bool
  | .glo _ => false
  | _ => true
def isI : D → Bool
  | .int _ => true
  | _ => false
theorem is_integer_ok {d : D} (h : noG d = true) (st : Sto) : g_is_integer [.val d] st = some (.ok (.val (.bl (isI d))), st) := by
  cases d <;> first | (cases h; done) | simp [g_is_integer, mFn, m_is_integer, noExc, isT, isI]
def inR (lo hi : Int) : D → Bool
  | .int i => decide (lo ≤ i) && decide (i ≤ hi)
  | _ => false
theorem in_range_ok {d : D} (h : noG d = true) (lo hi : Int) (st : Sto) : g_in_range [.val d, .val (.int lo), .val (.int hi)] st = some (.ok (.val (.bl (inR lo hi d))), st) := by
  have e := is_integer_ok h st
  cases d with
  | int i =>
    by_cases h1 : lo ≤ i <;> simp [g_in_range, mFn, m_in_range, noExc, e, isI, inR, h1]
  | glo _ => cases h
  | _ => simp [g_in_range, mFn, m_in_range, noExc, e, isI, inR]
def ARG (r : Str) (st : Sto) : Option (R Va × Sto) := some (.ex "ArgumentError" [("reason", .str r)], st)
theorem demand_count_ok {d : D} (h : noG d = true) (hi : inR 1 4 d = true) (st : Sto) : g_demand_count [.val d] st = some (.ok (.val .non), st) := by
  simp [g_demand_count, mFn, m_demand_count, noExc, in_range_ok h, hi]
theorem demand_count_no {d : D} (h : noG d = true) (hi : inR 1 4 d = false) (st : Sto) : g_demand_count [.val d] st = ARG "count" st := by
  simp [g_demand_count, mFn, m_demand_count, noExc, in_range_ok h, hi, mRaise, ARG]
def isPow (c : Int) : D → Bool
  | .tup ds => decide ((ds.length : Int) = c) && ds.all (inR 0 30)
  | _ => false
def noGs : D → Bool
  | .tup ds => ds.all noG
  | d => noG d
theorem noG_of {d : D} (h : noGs d = true) : noG d = true := by
  cases d <;> simp_all [noGs, noG]
theorem c1_is_powers_ok {ds : List D} (h : ds.all noG = true) (hl : ds.length ≤ sizeLine) (a c : Option Va) (st : Sto) : c1_is_powers [a, some (.val (.tup ds)), c] st = some (.ok (.val (.lst ((ds.map (inR 0 30)).map .bl))), st) := by
  have e : c1_is_powers [a, some (.val (.tup ds)), c] st = some (.ok (.val (.lst (ds.map fun d => .bl (inR 0 30 d)))), st) := by
    refine lc_map st ds id (fun d => .bl (inR 0 30 d)) (by simp) hl fun d hd => ⟨_, rfl, fun ac => ?_⟩
    have hn : noG d = true := List.all_eq_true.mp h d hd
    simp [wipeE, in_range_ok hn]
  rw [e, List.map_map]; rfl
theorem is_powers_ok {d : D} (c : Int) (h : noGs d = true) (hl : ∀ ds, d = .tup ds → ds.length ≤ sizeLine) (st : Sto) : g_is_powers [.val (.int c), .val d] st = some (.ok (.val (.bl (isPow c d))), st) := by
  cases d with
  | tup ds =>
    have e := c1_is_powers_ok (ds := ds) (by simpa [noGs] using h) (hl ds rfl) (some (.val (.int c))) none st
    by_cases hc : (ds.length : Int) = c
    · simp [g_is_powers, mFn, m_is_powers, noExc, isT, isPow, hc, e, -List.map_map]
    · simp [g_is_powers, mFn, m_is_powers, noExc, isT, isPow, hc]
  | glo _ => cases h
  | _ => simp [g_is_powers, mFn, m_is_powers, noExc, isT, isPow]
theorem demand_powers_ok {c : Int} {d : D} {r : Str} (hc : inR 1 4 (.int c) = true) (h : noGs d = true) (hl : ∀ ds, d = .tup ds → ds.length ≤ sizeLine) (hp : isPow c d = true) (st : Sto) : g_demand_powers [.val (.int c), .val d, .val (.str r)] st = some (.ok (.val .non), st) := by
  have e := demand_count_ok (d := .int c) rfl hc st
  simp [g_demand_powers, mFn, m_demand_powers, noExc, e, is_powers_ok c h hl, hp]
theorem demand_powers_no {c : Int} {d : D} {r : Str} (hc : inR 1 4 (.int c) = true) (h : noGs d = true) (hl : ∀ ds, d = .tup ds → ds.length ≤ sizeLine) (hp : isPow c d = false) (st : Sto) : g_demand_powers [.val (.int c), .val d, .val (.str r)] st = ARG r st := by
  have e := demand_count_ok (d := .int c) rfl hc st
  simp [g_demand_powers, mFn, m_demand_powers, noExc, e, is_powers_ok c h hl, hp, mRaise, ARG]
theorem demand_powers_nc {c d : D} {r : Str} (hg : noG c = true) (hc : inR 1 4 c = false) (st : Sto) : g_demand_powers [.val c, .val d, .val (.str r)] st = ARG "count" st := by
  have e := demand_count_no (d := c) hg hc st
  rw [ARG] at e
  simp [g_demand_powers, mFn, m_demand_powers, noExc, e, mRaise, ARG]
/-! ### int tuples -/
def T (xs : List Int) : D := .tup (xs.map .int)
theorem zip_ints (xs ys : List Int) : zipD (xs.map .int) (ys.map .int) = (xs.zip ys).map fun p => D.tup [.int p.1, .int p.2] := by
  unfold zipD
  rw [List.zip_map, List.map_map]
  rfl
def small (xs : List Int) : Prop := xs.length ≤ 1000
theorem small_zip {xs ys : List Int} (h : small xs) : (xs.zip ys).length ≤ sizeLine := by
  unfold small at h
  rw [List.length_zip, sizeLine_eq]
  omega
theorem c1_product_ok {xs ys : List Int} (h : small xs) (a b : Option Va) (st : Sto) : c1_product [some (.val (T xs)), some (.val (T ys)), a, b] st = some (.ok (.val (.lst (((xs.zip ys).map fun p => p.1 + p.2).map .int))), st) := by
  have e : c1_product [some (.val (T xs)), some (.val (T ys)), a, b] st = some (.ok (.val (.lst ((xs.zip ys).map fun p => .int (p.1 + p.2)))), st) := by
    refine lc_map st (xs.zip ys) (fun p => D.tup [.int p.1, .int p.2]) _ (by simp [T, zip_ints]) (small_zip h) fun p hp => ⟨_, rfl, fun ac => ?_⟩
    simp [wipeE]
  rw [e, List.map_map]; rfl
theorem product_ok {xs ys : List Int} (h : small xs) (st : Sto) : g_product [.val (T xs), .val (T ys)] st = some (.ok (.val (T ((xs.zip ys).map fun p => p.1 + p.2))), st) := by
  simp [g_product, mFn, m_product, noExc, c1_product_ok h, -List.map_map]
  rfl
theorem c1_quotient_ok {xs ys : List Int} (h : small xs) (a b : Option Va) (st : Sto) : c1_quotient [some (.val (T xs)), some (.val (T ys)), a, b] st = some (.ok (.val (.lst (((xs.zip ys).map fun p => p.1 - p.2).map .int))), st) := by
  have e : c1_quotient [some (.val (T xs)), some (.val (T ys)), a, b] st = some (.ok (.val (.lst ((xs.zip ys).map fun p => .int (p.1 - p.2)))), st) := by
    refine lc_map st (xs.zip ys) (fun p => D.tup [.int p.1, .int p.2]) _ (by simp [T, zip_ints]) (small_zip h) fun p hp => ⟨_, rfl, fun ac => ?_⟩
    simp [wipeE]
  rw [e, List.map_map]; rfl
theorem quotient_ok {xs ys : List Int} (h : small xs) (st : Sto) : g_quotient [.val (T xs), .val (T ys)] st = some (.ok (.val (T ((xs.zip ys).map fun p => p.1 - p.2))), st) := by
  simp [g_quotient, mFn, m_quotient, noExc, c1_quotient_ok h, -List.map_map]
  rfl
def mx (p : Int × Int) : Int := if p.2 > p.1 then p.2 else p.1
def mn (p : Int × Int) : Int := if p.2 < p.1 then p.2 else p.1
theorem bMax2_ok (i j : Int) (st : Sto) : bMax2 [.val (.int i), .val (.int j)] st = some (.ok (.val (.int (mx (i, j)))), st) := rfl
theorem bMin2_ok (i j : Int) (st : Sto) : bMin2 [.val (.int i), .val (.int j)] st = some (.ok (.val (.int (mn (i, j)))), st) := rfl
theorem c1_multiple_ok {xs ys : List Int} (h : small xs) (a b : Option Va) (st : Sto) : c1_multiple [some (.val (T xs)), some (.val (T ys)), a, b] st = some (.ok (.val (.lst (((xs.zip ys).map mx).map .int))), st) := by
  have e : c1_multiple [some (.val (T xs)), some (.val (T ys)), a, b] st = some (.ok (.val (.lst ((xs.zip ys).map fun p => .int (mx p)))), st) := by
    refine lc_map st (xs.zip ys) (fun p => D.tup [.int p.1, .int p.2]) _ (by simp [T, zip_ints]) (small_zip h) fun p hp => ⟨_, rfl, fun ac => ?_⟩
    simp [wipeE, bMax2_ok]
  rw [e, List.map_map]; rfl
theorem multiple_ok {xs ys : List Int} (h : small xs) (st : Sto) : g_multiple [.val (T xs), .val (T ys)] st = some (.ok (.val (T ((xs.zip ys).map mx))), st) := by
  simp [g_multiple, mFn, m_multiple, noExc, c1_multiple_ok h, -List.map_map]
  rfl
theorem c1_shared_ok {xs ys : List Int} (h : small xs) (a b : Option Va) (st : Sto) : c1_shared [some (.val (T xs)), some (.val (T ys)), a, b] st = some (.ok (.val (.lst (((xs.zip ys).map mn).map .int))), st) := by
  have e : c1_shared [some (.val (T xs)), some (.val (T ys)), a, b] st = some (.ok (.val (.lst ((xs.zip ys).map fun p => .int (mn p)))), st) := by
    refine lc_map st (xs.zip ys) (fun p => D.tup [.int p.1, .int p.2]) _ (by simp [T, zip_ints]) (small_zip h) fun p hp => ⟨_, rfl, fun ac => ?_⟩
    simp [wipeE, bMin2_ok]
  rw [e, List.map_map]; rfl
theorem shared_ok {xs ys : List Int} (h : small xs) (st : Sto) : g_shared [.val (T xs), .val (T ys)] st = some (.ok (.val (T ((xs.zip ys).map mn))), st) := by
  simp [g_shared, mFn, m_shared, noExc, c1_shared_ok h, -List.map_map]
  rfl
def dvd (xs ys : List Int) : Bool := (xs.zip ys).all fun p => decide (p.1 ≤ p.2)
theorem divides_ok {xs ys : List Int} (h : small xs) (st : Sto) : g_divides [.val (T xs), .val (T ys)] st = some (.ok (.val (.bl (dvd xs ys))), st) := by
  have e : c1_divides [some (.val (T xs)), some (.val (T ys)), none, none] st = some (.ok (.val (.lst (((xs.zip ys).map fun p => decide (p.1 ≤ p.2)).map .bl))), st) := by
    have e : c1_divides [some (.val (T xs)), some (.val (T ys)), none, none] st = some (.ok (.val (.lst ((xs.zip ys).map fun p => .bl (decide (p.1 ≤ p.2))))), st) := by
      refine lc_map st (xs.zip ys) (fun p => D.tup [.int p.1, .int p.2]) _ (by simp [T, zip_ints]) (small_zip h) fun p hp => ⟨_, rfl, fun ac => ?_⟩
      simp [wipeE]
    rw [e, List.map_map]; rfl
  simp [g_divides, mFn, m_divides, noExc, e, -List.map_map, dvd]
end K30
end

section
set_option Elab.async false
set_option linter.all false
set_option maxRecDepth 100000
set_option maxHeartbeats 1000000
namespace K30
open PySem PySem.Spec PyProof.Rows L2 DL
/-- what may be handed in -/
structure Arg (d : D) : Prop where
  g : noGs d = true
  l : ∀ ds, d = .tup ds → ds.length ≤ sizeLine
theorem arg_T {xs : List Int} (h : small xs) : Arg (T xs) := by
  refine ⟨?_, fun ds e => ?_⟩
  · simp [T, noGs, noG]
  · cases e
    unfold small at h
    rw [List.length_map, sizeLine_eq]
    omega
theorem isPow_T {c : Int} {xs : List Int} (h1 : (xs.length : Int) = c) (h2 : ∀ x ∈ xs, 0 ≤ x ∧ x ≤ 30) : isPow c (T xs) = true := by
  simp only [isPow, T, List.length_map, h1, decide_true, Bool.true_and, List.all_map, List.all_eq_true]
  intro x hx
  simp [inR, h2 x hx]
structure Pw (c : Int) (xs : List Int) : Prop where
  len : (xs.length : Int) = c
  rng : ∀ x ∈ xs, 0 ≤ x ∧ x ≤ 30
theorem Pw.small {c : Int} {xs : List Int} (h : Pw c xs) (hc : c ≤ 4) : small xs := by
  have := h.len
  unfold K30.small
  omega
theorem c4 {c : Int} (h : inR 1 4 (.int c) = true) : 1 ≤ c ∧ c ≤ 4 := by simpa [inR] using h
section
variable {c : Int} {xs ys : List Int} {st : Sto} {d e : D}
theorem times_ok (hc : inR 1 4 (.int c) = true) (hx : Pw c xs) (hy : Pw c ys) : g_times [.val (.int c), .val (T xs), .val (T ys)] st = some (.ok (.val (T ((xs.zip ys).map fun p => p.1 + p.2))), st) := by
  have s1 := hx.small (c4 hc).2
  have s2 := hy.small (c4 hc).2
  have e1 := fun r => demand_powers_ok (r := r) hc (arg_T s1).g (arg_T s1).l (isPow_T hx.len hx.rng) st
  have e2 := fun r => demand_powers_ok (r := r) hc (arg_T s2).g (arg_T s2).l (isPow_T hy.len hy.rng) st
  simp [g_times, mFn, m_times, noExc, e1, e2, product_ok s1]
theorem over_ok (hc : inR 1 4 (.int c) = true) (hx : Pw c xs) (hy : Pw c ys) : g_over [.val (.int c), .val (T xs), .val (T ys)] st = some (.ok (.val (if dvd ys xs = true then T ((xs.zip ys).map fun p => p.1 - p.2) else .non)), st) := by
  have s1 := hx.small (c4 hc).2
  have s2 := hy.small (c4 hc).2
  have e1 := fun r => demand_powers_ok (r := r) hc (arg_T s1).g (arg_T s1).l (isPow_T hx.len hx.rng) st
  have e2 := fun r => demand_powers_ok (r := r) hc (arg_T s2).g (arg_T s2).l (isPow_T hy.len hy.rng) st
  by_cases h : dvd ys xs = true <;> simp [g_over, mFn, m_over, noExc, e1, e2, divides_ok s2, quotient_ok s1, h]
theorem least_multiple_ok (hc : inR 1 4 (.int c) = true) (hx : Pw c xs) (hy : Pw c ys) : g_least_multiple [.val (.int c), .val (T xs), .val (T ys)] st = some (.ok (.val (T ((xs.zip ys).map mx))), st) := by
  have s1 := hx.small (c4 hc).2
  have s2 := hy.small (c4 hc).2
  have e1 := fun r => demand_powers_ok (r := r) hc (arg_T s1).g (arg_T s1).l (isPow_T hx.len hx.rng) st
  have e2 := fun r => demand_powers_ok (r := r) hc (arg_T s2).g (arg_T s2).l (isPow_T hy.len hy.rng) st
  simp [g_least_multiple, mFn, m_least_multiple, noExc, e1, e2, multiple_ok s1]
theorem greatest_shared_ok (hc : inR 1 4 (.int c) = true) (hx : Pw c xs) (hy : Pw c ys) : g_greatest_shared [.val (.int c), .val (T xs), .val (T ys)] st = some (.ok (.val (T ((xs.zip ys).map mn))), st) := by
  have s1 := hx.small (c4 hc).2
  have s2 := hy.small (c4 hc).2
  have e1 := fun r => demand_powers_ok (r := r) hc (arg_T s1).g (arg_T s1).l (isPow_T hx.len hx.rng) st
  have e2 := fun r => demand_powers_ok (r := r) hc (arg_T s2).g (arg_T s2).l (isPow_T hy.len hy.rng) st
  simp [g_greatest_shared, mFn, m_greatest_shared, noExc, e1, e2, shared_ok s1]
/-- the four functions of two powers -/
def four : List (List Va → M Va) := [g_times, g_over, g_least_multiple, g_greatest_shared]
theorem four_c (hg : noG d = true) (hc : inR 1 4 d = false) (a b : D) : ∀ g ∈ four, g [.val d, .val a, .val b] st = ARG "count" st := by
  have e1 := fun a r => demand_powers_nc (d := a) (r := r) hg hc st
  simp only [ARG] at e1 ⊢
  intro g hm
  simp only [four, List.mem_cons, List.not_mem_nil, or_false] at hm
  rcases hm with rfl | rfl | rfl | rfl
  · simp [g_times, mFn, m_times, noExc, e1]
  · simp [g_over, mFn, m_over, noExc, e1]
  · simp [g_least_multiple, mFn, m_least_multiple, noExc, e1]
  · simp [g_greatest_shared, mFn, m_greatest_shared, noExc, e1]
theorem four_1 (hc : inR 1 4 (.int c) = true) (ha : Arg d) (hp : isPow c d = false) (b : D) : ∀ g ∈ four, g [.val (.int c), .val d, .val b] st = ARG "one" st := by
  have e1 := fun r => demand_powers_no (r := r) hc ha.g ha.l hp st
  simp only [ARG] at e1 ⊢
  intro g hm
  simp only [four, List.mem_cons, List.not_mem_nil, or_false] at hm
  rcases hm with rfl | rfl | rfl | rfl
  · simp [g_times, mFn, m_times, noExc, e1]
  · simp [g_over, mFn, m_over, noExc, e1]
  · simp [g_least_multiple, mFn, m_least_multiple, noExc, e1]
  · simp [g_greatest_shared, mFn, m_greatest_shared, noExc, e1]
theorem four_2 (hc : inR 1 4 (.int c) = true) (hx : Pw c xs) (ha : Arg d) (hp : isPow c d = false) : ∀ g ∈ four, g [.val (.int c), .val (T xs), .val d] st = ARG "other" st := by
  have s1 := hx.small (c4 hc).2
  have e0 := fun r => demand_powers_ok (r := r) hc (arg_T s1).g (arg_T s1).l (isPow_T hx.len hx.rng) st
  have e1 := fun r => demand_powers_no (r := r) hc ha.g ha.l hp st
  simp only [ARG] at e1 ⊢
  intro g hm
  simp only [four, List.mem_cons, List.not_mem_nil, or_false] at hm
  rcases hm with rfl | rfl | rfl | rfl
  · simp [g_times, mFn, m_times, noExc, e0, e1]
  · simp [g_over, mFn, m_over, noExc, e0, e1]
  · simp [g_least_multiple, mFn, m_least_multiple, noExc, e0, e1]
  · simp [g_greatest_shared, mFn, m_greatest_shared, noExc, e0, e1]
end
/-! ### orders -/
def rowOk (c : Int) : D → Bool
  | .tup ds => decide ((ds.length : Int) = c) && ds.all (inR (-1000000) 1000000)
  | _ => false
def aboveI : List (List Int) → Nat → Bool
  | [], _ => true
  | r :: t, k => if r.getD k 0 ≠ 0 then decide (0 < r.getD k 0) else aboveI t k
theorem rows_ints {c : Int} : ∀ {rows : List D}, rows.all (rowOk c) = true → ∃ rs : List (List Int), rows = rs.map T ∧ ∀ r ∈ rs, (r.length : Int) = c ∧ ∀ x ∈ r, -1000000 ≤ x ∧ x ≤ 1000000
  | [], _ => ⟨[], rfl, by simp⟩
  | d :: rows, h => by
    rw [List.all_cons, Bool.and_eq_true] at h
    obtain ⟨rs, rfl, h2⟩ := rows_ints h.2
    cases d with
    | tup ds =>
      have h1 := h.1
      simp only [rowOk, Bool.and_eq_true, decide_eq_true_eq] at h1
      have hints : ∀ ds : List D, ds.all (inR (-1000000) 1000000) = true → ∃ xs : List Int, ds = xs.map .int ∧ ∀ x ∈ xs, -1000000 ≤ x ∧ x ≤ 1000000 := by
        intro ds
        induction ds with
        | nil => exact fun _ => ⟨[], rfl, by simp⟩
        | cons e t ih =>
          intro hh
          rw [List.all_cons, Bool.and_eq_true] at hh
          obtain ⟨xs, rfl, k⟩ := ih hh.2
          cases e with
          | int i =>
            have := hh.1
            simp only [inR, Bool.and_eq_true, decide_eq_true_eq] at this
            exact ⟨i :: xs, rfl, fun x hx => by
              rcases List.mem_cons.mp hx with q | q
              · rw [q]; exact this
              · exact k x q⟩
          | _ => cases hh.1
      obtain ⟨xs, rfl, k⟩ := hints ds h1.2
      refine ⟨xs :: rs, rfl, fun r hr => ?_⟩
      rcases List.mem_cons.mp hr with q | q
      · rw [q]; exact ⟨by simpa using h1.1, k⟩
      · exact h2 r q
    | _ => cases h.1
theorem ix_T {xs : List Int} {k : Nat} (h : k < xs.length) (st : Sto) : opIx (.val (T xs)) (.val (.int (k : Nat))) st = some (.ok (.val (.int (xs.getD k 0))), st) := by
  have e : (xs.map D.int)[k]? = some (.int (xs.getD k 0)) := by simp [h]
  exact ix_tup _ _ _ st (atI_nat e)
theorem above_loop (k : Nat) (a : Option Va) (st : Sto) : ∀ (rs : List (List Int)) (x : Option Va), (∀ r ∈ rs, k < r.length) → (aboveI rs k = true ∧ ∃ x', forGo (gVar 2) b1_is_above (rs.map T) [a, some (.val (.int (k : Nat))), x] st = some (.nx [a, some (.val (.int (k : Nat))), x'], st)) ∨ forGo (gVar 2) b1_is_above (rs.map T) [a, some (.val (.int (k : Nat))), x] st = some (.rt (.val (.bl (aboveI rs k))), st)
  | [], x, _ => .inl ⟨rfl, x, rfl⟩
  | r :: rs, x, h => by
    have e := ix_T (h r (by simp)) st
    by_cases hz : r.getD k 0 = 0
    · have hb : b1_is_above [a, some (.val (.int (k : Nat))), some (.val (T r))] st = some (.nx [a, some (.val (.int (k : Nat))), some (.val (T r))], st) := by
        rw [hz] at e
        simp [b1_is_above, e]
      have ih := above_loop k a st rs (some (.val (T r))) fun s hs => h s (by simp [hs])
      have ea : aboveI (r :: rs) k = aboveI rs k := by
        show (if r.getD k 0 ≠ 0 then _ else _) = _
        rw [if_neg (by simpa using hz)]
      have eg : forGo (gVar 2) b1_is_above ((r :: rs).map T) [a, some (.val (.int (k : Nat))), x] st = forGo (gVar 2) b1_is_above (rs.map T) [a, some (.val (.int (k : Nat))), some (.val (T r))] st := by
        rw [List.map_cons]
        conv => lhs; unfold forGo
        simp only [gVar_eq, List.set_cons_succ, List.set_cons_zero, hb]
      rw [ea, eg]
      exact ih
    · refine .inr ?_
      have hb : b1_is_above [a, some (.val (.int (k : Nat))), some (.val (T r))] st = some (.rt (.val (.bl (decide (0 < r.getD k 0)))), st) := by
        have hne : (r.getD k 0 != 0) = true := by simpa using hz
        simp only [b1_is_above, mIfS_eq, mTruth_eq, mBin_eq, mVarS, mVar0, bind_eq, e, calm_eq, truth_int, hne, onE_ok, if_true, mRet_eq, mC_eq, gtA_int]
      have ea : aboveI (r :: rs) k = decide (0 < r.getD k 0) := by
        show (if r.getD k 0 ≠ 0 then _ else _) = _
        rw [if_pos hz]
      rw [List.map_cons, ea]
      unfold forGo
      simp only [gVar_eq, List.set_cons_succ, List.set_cons_zero, hb]
theorem is_above_ok {rs : List (List Int)} {k : Nat} (h : ∀ r ∈ rs, k < r.length) (st : Sto) : g_is_above [.val (.tup (rs.map T)), .val (.int (k : Nat))] st = some (.ok (.val (.bl (aboveI rs k))), st) := by
  rcases above_loop k (some (.val (.tup (rs.map T)))) st rs none h with ⟨e1, x', e2⟩ | e2
  · rw [e1]
    simp [g_is_above, mFn, m_is_above, noExc, e2]
  · simp [g_is_above, mFn, m_is_above, noExc, e2]
end K30
end

section
set_option Elab.async false
set_option linter.all false
set_option maxRecDepth 100000
set_option maxHeartbeats 1000000
namespace K30
open PySem PySem.Spec PyProof.Rows L2 DL
def WORDSD : List D := (["plain", "degree", "back"] : List Str).map D.str
def isOrd (c : Int) : D → Bool
  | .str s => inD (.str s) WORDSD
  | .tup rows => decide (1 ≤ rows.length) && decide (rows.length ≤ 4) && rows.all (rowOk c) && (match rows with | rows => true)
  | _ => false
structure ArgO (d : D) : Prop where
  g : noG d = true
  s : ∀ z, d = .str z → shD (.str z) = true
  l : ∀ rows, d = .tup rows → ∀ r ∈ rows, Arg r
theorem words_sh : shD (.tup WORDSD) = true := by decide +kernel
section
variable {c : Int} {st : Sto}
theorem c1_is_order_ok {ds : List D} (h : ds.all noG = true) (hl : ds.length ≤ sizeLine) (a b x4 x5 : Option Va) (st : Sto) : c1_is_order [a, b, some (.val (.tup ds)), x4, x5] st = some (.ok (.val (.lst ((ds.map (inR (-1000000) 1000000)).map .bl))), st) := by
  have e : c1_is_order [a, b, some (.val (.tup ds)), x4, x5] st = some (.ok (.val (.lst (ds.map fun d => .bl (inR (-1000000) 1000000 d)))), st) := by
    refine lc_map st ds id (fun d => .bl (inR (-1000000) 1000000 d)) (by simp) hl fun d hd => ⟨_, rfl, fun ac => ?_⟩
    have hn : noG d = true := List.all_eq_true.mp h d hd
    simp [wipeE, in_range_ok hn]
  rw [e, List.map_map]; rfl
theorem row_ok {r : D} (ha : Arg r) (b x4 x5 : Option Va) (st : Sto) : b1_is_order [some (.val (.int c)), b, some (.val r), x4, x5] st = if rowOk c r = true then some (.nx [some (.val (.int c)), b, some (.val r), x4, x5], st) else some (.rt (.val (.bl false)), st) := by
  cases r with
  | tup ds =>
    have e := c1_is_order_ok (ds := ds) (by simpa [noGs] using ha.g) (ha.l ds rfl) (some (.val (.int c))) b x4 x5 st
    by_cases hc : (ds.length : Int) = c
    · by_cases h2 : ds.all (inR (-1000000) 1000000) = true
      · have h3 : (ds.map (inR (-1000000) 1000000)).all id = true := by rw [List.all_map]; exact h2
        simp [b1_is_order, isT, rowOk, hc, e, h2, h3, -List.map_map, -List.all_map, -List.all_eq_true]
      · rw [Bool.not_eq_true] at h2
        have h3 : (ds.map (inR (-1000000) 1000000)).all id = false := by rw [List.all_map]; exact h2
        simp [b1_is_order, isT, rowOk, hc, e, h2, h3, -List.map_map, -List.all_map, -List.all_eq_true, -List.all_eq_false]
    · simp [b1_is_order, isT, rowOk, hc]
  | glo _ => cases ha.g
  | _ => simp [b1_is_order, isT, rowOk]
theorem rows_loop (b x4 x5 : Option Va) (st : Sto) : ∀ (rows : List D) (x : Option Va), (∀ r ∈ rows, Arg r) → (rows.all (rowOk c) = true ∧ ∃ x', forGo (gVar 2) b1_is_order rows [some (.val (.int c)), b, x, x4, x5] st = some (.nx [some (.val (.int c)), b, x', x4, x5], st)) ∨ (rows.all (rowOk c) = false ∧ forGo (gVar 2) b1_is_order rows [some (.val (.int c)), b, x, x4, x5] st = some (.rt (.val (.bl false)), st))
  | [], x, _ => .inl ⟨rfl, x, rfl⟩
  | r :: rows, x, h => by
    have hb := row_ok (c := c) (h r (by simp)) b x4 x5 st
    by_cases hr : rowOk c r = true
    · rw [if_pos hr] at hb
      have ih := rows_loop b x4 x5 st rows (some (.val r)) fun s hs => h s (by simp [hs])
      have eg : forGo (gVar 2) b1_is_order (r :: rows) [some (.val (.int c)), b, x, x4, x5] st = forGo (gVar 2) b1_is_order rows [some (.val (.int c)), b, some (.val r), x4, x5] st := by
        conv => lhs; unfold forGo
        simp only [gVar_eq, List.set_cons_succ, List.set_cons_zero, hb]
      rw [eg, List.all_cons, hr, Bool.true_and]
      exact ih
    · refine .inr ⟨by rw [List.all_cons]; simp [hr], ?_⟩
      rw [if_neg hr] at hb
      unfold forGo
      simp only [gVar_eq, List.set_cons_succ, List.set_cons_zero, hb]
theorem intsR_nat (n : Nat) : intsR 0 n = (List.range n).map fun k => D.int (k : Nat) := by
  unfold intsR
  exact List.map_congr_left fun k _ => by simp
theorem range_nat (n : Nat) (h : n ≤ 1000000) (st : Sto) : rangeOf1 [.val (.int (n : Nat))] st = some (.ok ((List.range n).map fun k => D.int (k : Nat)), st) := by
  have hb : B62 (n : Int) := by
    have h62 : (1000000 : Int) < 2 ^ 62 := by decide
    have h0 : -(2 ^ 62 : Int) ≤ 0 := by decide
    exact ⟨Int.le_trans h0 (Int.natCast_nonneg n), Int.lt_of_le_of_lt (Int.ofNat_le.mpr h) h62⟩
  have e := range1 (n : Int) st hb
  rw [Int.toNat_natCast, intsR_nat] at e
  exact e
theorem range4 {n : Nat} (hn : n ≤ 4) (st : Sto) : rangeOf1 [.val (.int (n : Nat))] st = some (.ok ((List.range n).map fun k => D.int (k : Nat)), st) := range_nat n (Nat.le_trans hn (by decide)) st
theorem c2_is_order_ok {n : Nat} {rs : List (List Int)} (hn : n ≤ 4) (h : ∀ r ∈ rs, r.length = n) (x2 x3 x4 : Option Va) (st : Sto) : c2_is_order [some (.val (.int (n : Nat))), some (.val (.tup (rs.map T))), x2, x3, x4] st = some (.ok (.val (.lst (((List.range n).map (aboveI rs)).map .bl))), st) := by
  have e : c2_is_order [some (.val (.int (n : Nat))), some (.val (.tup (rs.map T))), x2, x3, x4] st = some (.ok (.val (.lst ((List.range n).map fun k => .bl (aboveI rs k)))), st) := by
    refine lc_map st (List.range n) (fun k => .int (k : Nat)) (fun k => .bl (aboveI rs k)) (by
      refine (bind_of (m := mCons (mVar 0) mNil _) (a := [.val (.int (n : Nat))]) (st' := st) ?_).trans (range4 hn st)
      simp) (by rw [List.length_range]; exact Nat.le_trans hn (by decide)) fun k hk => ⟨_, rfl, fun ac => ?_⟩
    have hk' := List.mem_range.mp hk
    have := is_above_ok (rs := rs) (k := k) (fun r hr => by rw [h r hr]; exact hk') (st ++ [.lst ac])
    simp [wipeE, this]
  rw [e, List.map_map]; rfl
/-- no order -/
theorem is_order_no {d : D} (ha : ArgO d) (h : (∃ z, d = .str z ∧ inD (.str z) WORDSD = false) ∨ (∃ rows, d = .tup rows ∧ (rows.length = 0 ∨ 4 < rows.length ∨ rows.all (rowOk c) = false)) ∨ ((∀ z, d ≠ .str z) ∧ ∀ rows, d ≠ .tup rows)) : g_is_order [.val (.int c), .val d] st = some (.ok (.val (.bl false)), st) := by
  cases d with
  | str z =>
    rcases h with ⟨z', e, h⟩ | ⟨rows, e, h⟩ | h
    · cases e
      have e2 : opIn (.val (.str z)) (.val (.tup WORDSD)) st = some (.ok (.val (.bl false)), st) := by
        show (if shD (.str z) = true ∧ shD (.tup WORDSD) = true then some (R.ok (Va.val (D.bl (inD (.str z) WORDSD))), st) else none) = _
        rw [if_pos ⟨ha.s z rfl, words_sh⟩, h]
      have e3 : (mC (.tup WORDSD) : En → M Va) = mC (.tup ((["plain", "degree", "back"] : List Str).map D.str)) := rfl
      simp only [g_is_order, mFn, m_is_order, ← e3]
      simp [noExc, isT, e2, -List.map_map]
    · cases e
    · exact absurd rfl (h.1 z)
  | tup rows =>
    rcases h with ⟨z', e, h⟩ | ⟨rows', e, h⟩ | h
    · cases e
    · cases e
      by_cases h1 : (1 : Int) ≤ (rows.length : Int)
      · by_cases h4 : (rows.length : Int) ≤ 4
        · have h3 : rows.all (rowOk c) = false := by
            rcases h with q | q | q
            · omega
            · omega
            · exact q
          rcases rows_loop (c := c) (some (.val (.tup rows))) none none st rows none (fun r hr => ha.l rows rfl r hr) with ⟨q, _⟩ | ⟨_, q⟩
          · rw [h3] at q; cases q
          · simp [g_is_order, mFn, m_is_order, noExc, isT, h1, h4, q]
        · simp [g_is_order, mFn, m_is_order, noExc, isT, h1, h4]
      · simp [g_is_order, mFn, m_is_order, noExc, isT, h1]
    · exact absurd rfl (h.2 rows)
  | glo _ => cases ha.g
  | _ => simp [g_is_order, mFn, m_is_order, noExc, isT]
theorem is_order_gen {c : Int} {rows : List D} {bs : List Bool} {x' : Option Va} {st : Sto} (h1 : (1 : Int) ≤ (rows.length : Int)) (h4 : (rows.length : Int) ≤ 4) (q : forGo (gVar 2) b1_is_order rows [some (.val (.int c)), some (.val (.tup rows)), none, none, none] st = some (.nx [some (.val (.int c)), some (.val (.tup rows)), x', none, none], st))
    (e : c2_is_order [some (.val (.int c)), some (.val (.tup rows)), x', none, none] st = some (.ok (.val (.lst (bs.map .bl))), st)) : g_is_order [.val (.int c), .val (.tup rows)] st = some (.ok (.val (.bl (bs.all id))), st) := by
  simp [g_is_order, mFn, m_is_order, noExc, isT, h1, h4, q, e, -List.map_map]
theorem is_order_rows {n : Nat} {rs : List (List Int)} (hn : n ≤ 4) (h1 : 1 ≤ rs.length) (h4 : rs.length ≤ 4) (h : ∀ r ∈ rs, r.length = n ∧ ∀ x ∈ r, -1000000 ≤ x ∧ x ≤ 1000000) (st : Sto) : g_is_order [.val (.int (n : Nat)), .val (.tup (rs.map T))] st = some (.ok (.val (.bl ((List.range n).all (aboveI rs)))), st) := by
  have hrow : ∀ r ∈ rs, rowOk (n : Nat) (T r) = true := fun r hr => by
    obtain ⟨k1, k2⟩ := h r hr
    have h3 : ((r.map D.int).all (inR (-1000000) 1000000)) = true := by
      rw [List.all_eq_true]
      intro y hy
      obtain ⟨x, hx, rfl⟩ := List.mem_map.mp hy
      have := k2 x hx
      show (decide (-1000000 ≤ x) && decide (x ≤ 1000000)) = true
      rw [decide_eq_true this.1, decide_eq_true this.2]; rfl
    show (decide (((r.map D.int).length : Int) = (n : Nat)) && (r.map D.int).all (inR (-1000000) 1000000)) = true
    rw [h3, List.length_map, k1]; simp
  have hall : (rs.map T).all (rowOk (n : Nat)) = true := by
    rw [List.all_map, List.all_eq_true]
    exact hrow
  have e2 := fun x2 x3 x4 st => c2_is_order_ok (n := n) (rs := rs) hn (fun r hr => (h r hr).1) x2 x3 x4 st
  rcases rows_loop (c := (n : Nat)) (some (.val (.tup (rs.map T)))) none none st (rs.map T) none (fun r hr => by
      obtain ⟨r', h', rfl⟩ := List.mem_map.mp hr
      exact arg_T (by have e := (h r' h').1; unfold small; rw [e]; exact Nat.le_trans hn (by decide))) with ⟨_, x', q⟩ | ⟨q, _⟩
  · have a1 : (1 : Int) ≤ ((rs.length : Nat) : Int) := by omega
    have a4 : ((rs.length : Nat) : Int) ≤ 4 := by omega
    have e3 : ((List.range n).all (aboveI rs)) = ((List.range n).map (aboveI rs)).all id := by rw [List.all_map]; rfl
    rw [e3]
    exact is_order_gen (by rw [List.length_map]; exact a1) (by rw [List.length_map]; exact a4) q (e2 x' none none st)
  · rw [hall] at q; cases q
theorem is_order_word {z : Str} (hs : shD (.str z) = true) (h : inD (.str z) WORDSD = true) (st : Sto) : g_is_order [.val (.int c), .val (.str z)] st = some (.ok (.val (.bl true)), st) := by
  have e2 : opIn (.val (.str z)) (.val (.tup WORDSD)) st = some (.ok (.val (.bl true)), st) := by
    show (if shD (.str z) = true ∧ shD (.tup WORDSD) = true then some (R.ok (Va.val (D.bl (inD (.str z) WORDSD))), st) else none) = _
    rw [if_pos ⟨hs, words_sh⟩, h]
  have e3 : (mC (.tup WORDSD) : En → M Va) = mC (.tup ((["plain", "degree", "back"] : List Str).map D.str)) := rfl
  simp only [g_is_order, mFn, m_is_order, ← e3]
  simp [noExc, isT, e2, -List.map_map]
end
end K30
end

section
set_option Elab.async false
set_option linter.all false
set_option maxRecDepth 100000
set_option maxHeartbeats 1000000
namespace K30
open PySem PySem.Spec PyProof.Rows L2 DL
section
variable {c : Int} {st : Sto} {d : D}
theorem demand_order_ok (h : ∀ st, g_is_order [.val (.int c), .val d] st = some (.ok (.val (.bl true)), st)) (st : Sto) : g_demand_order [.val (.int c), .val d] st = some (.ok (.val .non), st) := by
  simp [g_demand_order, mFn, m_demand_order, noExc, h]
theorem demand_order_no (h : ∀ st, g_is_order [.val (.int c), .val d] st = some (.ok (.val (.bl false)), st)) (st : Sto) : g_demand_order [.val (.int c), .val d] st = ARG "order" st := by
  simp [g_demand_order, mFn, m_demand_order, noExc, h, mRaise, ARG]
/-! ### the orders of the law -/
inductive Or | plain | degree | back | rows (rs : List (List Int))
def Or.dat : Or → D
  | .plain => .str "plain" | .degree => .str "degree" | .back => .str "back" | .rows rs => .tup (rs.map T)
def keyOf : Or → List Int → List Int
  | .plain, p => p
  | .degree, p => p.sum :: p
  | .back, p => p.sum :: (p.reverse.take (p.length - 1)).map (fun x => 0 - x)
  | .rows rs, p => rs.map (fun r => ((r.zip p).map fun q => q.1 * q.2).sum) ++ p
/-- rows that the law makes -/
structure Or.Ok (n : Nat) (o : Or) : Prop where
  rows : ∀ rs, o = .rows rs → 1 ≤ rs.length ∧ rs.length ≤ 3 ∧ (∀ r ∈ rs, r.length = n ∧ ∀ x ∈ r, -2 ≤ x ∧ x ≤ 4) ∧ (List.range n).all (aboveI rs) = true
theorem aboveI_first {r : List Int} {t : List (List Int)} {k : Nat} (h : k < r.length) (h1 : ∀ x ∈ r, 1 ≤ x) : aboveI (r :: t) k = true := by
  have e : r.getD k 0 = r[k] := by simp [h]
  have := h1 r[k] (List.getElem_mem h)
  show (if r.getD k 0 ≠ 0 then decide (0 < r.getD k 0) else aboveI t k) = true
  rw [e, if_pos (by omega)]
  exact decide_eq_true (by omega)
theorem or_is {n : Nat} (hn : n ≤ 4) {o : Or} (h : o.Ok n) (st : Sto) : g_is_order [.val (.int (n : Nat)), .val o.dat] st = some (.ok (.val (.bl true)), st) := by
  cases o with
  | plain => exact is_order_word (by decide +kernel) (by decide +kernel) st
  | degree => exact is_order_word (by decide +kernel) (by decide +kernel) st
  | back => exact is_order_word (by decide +kernel) (by decide +kernel) st
  | rows rs =>
    obtain ⟨h1, h2, h3, h4⟩ := h.rows rs rfl
    have e := is_order_rows (n := n) (rs := rs) hn h1 (by omega) (fun r hr => ⟨(h3 r hr).1, fun x hx => by have := (h3 r hr).2 x hx; omega⟩) st
    rw [h4] at e
    exact e
theorem above_all {n : Nat} {r : List Int} {t : List (List Int)} (hl : r.length = n) (h : ∀ x ∈ r, 1 ≤ x) : (List.range n).all (aboveI (r :: t)) = true := by
  rw [List.all_eq_true]
  intro k hk
  exact aboveI_first (by rw [hl]; exact List.mem_range.mp hk) h
/-! ### key_of -/
theorem ok_rows {n : Nat} (hn : n ≤ 4) {rs : List (List Int)} (h : Or.Ok n (.rows rs)) : DL.Ok 2 400 (.tup (rs.map T)) := by
  obtain ⟨h1, h2, h3, _⟩ := h.rows rs rfl
  refine (ok_tup (n := 1) (b := 4 * 25) (m := 3) (fun d hd => ?_) (by rw [List.length_map]; exact h2)).le (Nat.le_refl _) (by decide)
  obtain ⟨r, hr, rfl⟩ := List.mem_map.mp hd
  obtain ⟨k1, k2⟩ := h3 r hr
  exact ok_int_tup (fun x hx => by have := k2 x hx; omega) (by omega)
theorem sh_plain : shD (.str "plain") = true := by decide +kernel
theorem sh_degree : shD (.str "degree") = true := by decide +kernel
theorem sh_back : shD (.str "back") = true := by decide +kernel
theorem eqA_ts {ds : List D} {s : Str} (h1 : shD (.tup ds) = true) (h2 : shD (.str s) = true) (st : Sto) : opEqA (.val (.tup ds)) (.val (.str s)) st = some (.ok (.val (.bl false)), st) := by
  show (if shD (.tup ds) = true ∧ shD (.str s) = true then some (R.ok (Va.val (D.bl (PyData.eqv (py (.tup ds)) (py (.str s))))), st) else none) = _
  rw [if_pos ⟨h1, h2⟩]
  simp [py, PyData.eqv]
theorem neA_ts {ds : List D} {s : Str} (h1 : shD (.tup ds) = true) (h2 : shD (.str s) = true) (st : Sto) : opNeA (.val (.tup ds)) (.val (.str s)) st = some (.ok (.val (.bl true)), st) := by
  show (if shD (.tup ds) = true ∧ shD (.str s) = true then some (R.ok (Va.val (D.bl (!PyData.eqv (py (.tup ds)) (py (.str s))))), st) else none) = _
  rw [if_pos ⟨h1, h2⟩]
  simp [py, PyData.eqv]
theorem s_pd : (("plain" : Str) = "degree") = False := by simp; decide
theorem s_pb : (("plain" : Str) = "back") = False := by simp; decide
theorem s_dp : (("degree" : Str) = "plain") = False := by simp; decide
theorem s_db : (("degree" : Str) = "back") = False := by simp; decide
theorem s_bp : (("back" : Str) = "plain") = False := by simp; decide
theorem s_bd : (("back" : Str) = "degree") = False := by simp; decide
theorem mkTup1 (d : D) (st : Sto) : mkTup [.val d] st = some (.ok (.val (.tup [d])), st) := mkTup_val [d] _ st rfl (show 1 ≤ sizeLine by rw [sizeLine_eq]; decide)
theorem mkTup2 (d e : D) (st : Sto) : mkTup [.val d, .val e] st = some (.ok (.val (.tup [d, e])), st) := mkTup_val [d, e] _ st rfl (show 2 ≤ sizeLine by rw [sizeLine_eq]; decide)
theorem cat1 {xs : List Int} (h : small xs) (i : Int) (st : Sto) : opAdd (.val (.tup [.int i])) (.val (T xs)) st = some (.ok (.val (T (i :: xs))), st) := by
  unfold small at h
  exact addA_tup [.int i] (xs.map .int) st (by rw [List.length_map, sizeLine_eq, List.length_singleton]; omega)
theorem cat2 {xs ys : List Int} (h : small xs) (h2 : small ys) (st : Sto) : opAdd (.val (T xs)) (.val (T ys)) st = some (.ok (.val (T (xs ++ ys))), st) := by
  unfold small at h h2
  have := addA_tup (xs.map .int) (ys.map .int) st (by rw [List.length_map, List.length_map, sizeLine_eq]; omega)
  rw [← List.map_append] at this
  exact this
theorem sum_T (xs : List Int) (st : Sto) : bSum2 [.val (T xs)] st = some (.ok (.val (.int xs.sum)), st) := bSum_tup xs st
theorem rev0_T (xs : List Int) (st : Sto) : revOf (.val (T xs)) (some 0) st = some (.ok (.val (T (xs.reverse.take (xs.length - 1)))), st) := by
  have e := revOf_tup0 (xs.map D.int) st
  rw [← List.map_reverse, ← List.map_take, List.length_map] at e
  exact e
theorem seq_T (xs : List Int) (st : Sto) : seqOf (.val (T xs)) st = some (.ok (xs.map .int), st) := rfl
theorem tup_ints (xs : List Int) (st : Sto) : bTuple [.val (.lst (xs.map .int))] st = some (.ok (.val (T xs)), st) := rfl
theorem key_plain {p : List Int} : g_key_of [.val (.str "plain"), .val (T p)] st = some (.ok (.val (T (keyOf .plain p))), st) := by
  simp [g_key_of, mFn, m_key_of, noExc, keyOf]
theorem key_degree {p : List Int} (h : small p) : g_key_of [.val (.str "degree"), .val (T p)] st = some (.ok (.val (T (keyOf .degree p))), st) := by
  simp [g_key_of, mFn, m_key_of, noExc, keyOf, s_dp, sum_T, mkTup1, cat1 h]
theorem c1_key_of_ok {p : List Int} (h : small p) (a x2 x3 x4 : Option Va) (st : Sto) : c1_key_of [a, some (.val (T p)), x2, x3, x4] st = some (.ok (.val (.lst (((p.reverse.take (p.length - 1)).map fun x => 0 - x).map .int))), st) := by
  have e : c1_key_of [a, some (.val (T p)), x2, x3, x4] st = some (.ok (.val (.lst ((p.reverse.take (p.length - 1)).map fun x => D.int (0 - x)))), st) := by
    refine lc_map st (p.reverse.take (p.length - 1)) .int (fun x => D.int (0 - x)) ?_ ?_ fun x hx => ⟨_, rfl, fun ac => ?_⟩
    · simp only [mSeqI_eq, mRev_eq, bind_eq, mVarS, mVar0, mPart_eq, mC_eq, asPart_int, calm_eq, rev0_T, seq_T]
    · unfold small at h
      rw [List.length_take, List.length_reverse, sizeLine_eq]
      omega
    · simp [wipeE]
  rw [e, List.map_map]; rfl
theorem small_rev {p : List Int} (h : small p) : small ((p.reverse.take (p.length - 1)).map fun x => 0 - x) := by
  unfold small at h ⊢
  rw [List.length_map, List.length_take, List.length_reverse]
  omega
theorem key_back {p : List Int} (h : small p) : g_key_of [.val (.str "back"), .val (T p)] st = some (.ok (.val (T (keyOf .back p))), st) := by
  have e := fun a x2 x3 x4 st => c1_key_of_ok h a x2 x3 x4 st
  have hr := small_rev h
  simp only [keyOf]
  generalize (p.reverse.take (p.length - 1)).map (fun x => 0 - x) = q at e hr
  simp only [g_key_of, mFn, m_key_of]
  simp [noExc, s_bp, s_bd, sum_T, mkTup1, cat1 hr, e, tup_ints, -bTuple_lst]
theorem zip_T (xs ys : List Int) (st : Sto) : zipOf [.val (T xs), .val (T ys)] st = some (.ok ((xs.zip ys).map fun p => D.tup [.int p.1, .int p.2]), st) := by
  have := zip_tup (xs.map D.int) (ys.map D.int) st
  rw [zip_ints] at this
  exact this
theorem c2_key_of_ok {r p : List Int} (h : small r) (hp : ∀ x ∈ p, 0 ≤ x ∧ x ≤ 30) (a x2 x3 : Option Va) (st : Sto) : c2_key_of [a, some (.val (T p)), x2, x3, some (.val (T r))] st = some (.ok (.val (.lst (((r.zip p).map fun q => q.1 * q.2).map .int))), st) := by
  have e : c2_key_of [a, some (.val (T p)), x2, x3, some (.val (T r))] st = some (.ok (.val (.lst ((r.zip p).map fun q => D.int (q.1 * q.2)))), st) := by
    refine lc_map st (r.zip p) (fun p => D.tup [.int p.1, .int p.2]) (fun q => D.int (q.1 * q.2)) ?_ (small_zip h) fun q hq => ⟨_, rfl, fun ac => ?_⟩
    · simp only [mArgI_eq, mCons_eq, bind_eq, mVarS, mVar0, mNil_eq, pure_eq, zip_T]
    · have hq2 := hp q.2 (List.of_mem_zip hq).2
      have := mulA_int q.1 q.2 (st ++ [.lst ac]) (smallF_r _ _ ⟨by omega, by omega⟩)
      simp [wipeE, this]
  rw [e, List.map_map]; rfl
theorem c3_key_of_ok {rs : List (List Int)} {p : List Int} (h : ∀ r ∈ rs, small r) (hl : rs.length ≤ 3) (hp : ∀ x ∈ p, 0 ≤ x ∧ x ≤ 30) (x2 x3 x4 : Option Va) (st : Sto) : c3_key_of [some (.val (.tup (rs.map T))), some (.val (T p)), x2, x3, x4] st = some (.ok (.val (.lst ((rs.map fun r => ((r.zip p).map fun q => q.1 * q.2).sum).map .int))), st) := by
  have e : c3_key_of [some (.val (.tup (rs.map T))), some (.val (T p)), x2, x3, x4] st = some (.ok (.val (.lst (rs.map fun r => D.int ((r.zip p).map fun q => q.1 * q.2).sum))), st) := by
    refine lc_map (it := mSeqI (mVar 0)) (g := gVar 4) (me := mBlt bSum2 (mCons c2_key_of mNil)) (vs := [4]) (ρ := [some (.val (.tup (rs.map T))), some (.val (T p)), x2, x3, x4]) st rs T (fun r => D.int (((r.zip p).map fun q => q.1 * q.2).sum)) ?_ ?_ fun r hr => ⟨_, rfl, fun ac => ?_⟩
    · simp only [mSeqI_eq, bind_eq, mVar0, seqOf_tup]
    · rw [sizeLine_eq]; omega
    have e2 := fun a x2 x3 st => c2_key_of_ok (r := r) (p := p) (h r hr) hp a x2 x3 st
    generalize (r.zip p).map (fun q => q.1 * q.2) = qs at e2
    simp [wipeE, e2]
  rw [e, List.map_map]; rfl
theorem key_rows {rs : List (List Int)} {p : List Int} {n : Nat} (hn : n ≤ 4) (h : Or.Ok n (.rows rs)) (hs : small p) (hp : ∀ x ∈ p, 0 ≤ x ∧ x ≤ 30) : g_key_of [.val (.tup (rs.map T)), .val (T p)] st = some (.ok (.val (T (keyOf (.rows rs) p))), st) := by
  obtain ⟨h1, h2, h3, _⟩ := h.rows rs rfl
  have e := fun x2 x3 x4 st => c3_key_of_ok (rs := rs) (p := p) (fun r hr => by have := (h3 r hr).1; unfold small; omega) h2 hp x2 x3 x4 st
  have sh := ok_sh (ok_rows hn h) (by decide)
  have e1 := fun st => eqA_ts (s := "plain") sh sh_plain st
  have e2 := fun st => eqA_ts (s := "degree") sh sh_degree st
  have e3 := fun st => eqA_ts (s := "back") sh sh_back st
  simp only [keyOf]
  have hq : small (rs.map fun r => ((r.zip p).map fun q => q.1 * q.2).sum) := by unfold small; rw [List.length_map]; omega
  generalize (rs.map fun r => ((r.zip p).map fun q => q.1 * q.2).sum) = ks at e hq
  generalize rs.map T = ds at e e1 e2 e3
  simp [g_key_of, mFn, m_key_of, noExc, e1, e2, e3, e, tup_ints, cat2 hq hs, -bTuple_lst]
theorem key_ok {o : Or} {p : List Int} {n : Nat} (hn : n ≤ 4) (h : o.Ok n) (hp : Pw (n : Nat) p) (st : Sto) : g_key_of [.val o.dat, .val (T p)] st = some (.ok (.val (T (keyOf o p))), st) := by
  have hs := hp.small (by omega)
  cases o with
  | plain => exact key_plain
  | degree => exact key_degree hs
  | back => exact key_back hs
  | rows rs => exact key_rows hn h hs hp.rng
end
end K30
end

section
set_option Elab.async false
set_option linter.all false
set_option maxRecDepth 100000
set_option maxHeartbeats 1000000
namespace K30
open PySem PySem.Spec PyProof.Rows L2 DL
theorem sh_T (xs : List Int) : shD (T xs) = true := by
  have h : ∀ ys : List Int, okDs (ys.map .int) = true ∧ depDs (ys.map .int) = 0 := by
    intro ys
    induction ys with
    | nil => exact ⟨rfl, rfl⟩
    | cons y r ih => exact ⟨by simp only [List.map_cons, okDs, okD, ih.1, Bool.and_self], by simp only [List.map_cons, depDs, depD, ih.2]; rfl⟩
  obtain ⟨a, b⟩ := h xs
  simp only [shD, T, okD, a, Bool.true_and, depD, b]
  decide
theorem alikes : ∀ xs ys : List Int, PySem.W.alikeAll (pys (xs.map .int)) (pys (ys.map .int)) = true
  | [], _ => by simp only [List.map_nil, pys, PySem.W.alikeAll]
  | _ :: _, [] => by simp only [List.map_nil, List.map_cons, pys, PySem.W.alikeAll]
  | x :: xs, y :: ys => by simp only [List.map_cons, pys, py, PySem.W.alikeAll, PySem.W.alike, alikes xs ys, Bool.and_self]
theorem alike_T (xs ys : List Int) : PySem.W.alike (py (T xs)) (py (T ys)) = true := by
  simp only [T, py, PySem.W.alike, alikes]
theorem gt_T (xs ys : List Int) (st : Sto) : opGt (.val (T xs)) (.val (T ys)) st = some (.ok (.val (.bl (dLt (T ys) (T xs)))), st) := by
  show (if shD (T xs) = true ∧ okD (T ys) = true ∧ PySem.W.alike (py (T xs)) (py (T ys)) = true ∧ isNone (T xs) = false then some (R.ok (Va.val (D.bl (dLt (T ys) (T xs)))), st) else none) = _
  rw [if_pos ⟨sh_T xs, shD_ok (sh_T ys), alike_T xs ys, rfl⟩]
theorem lt_T (xs ys : List Int) (st : Sto) : opLt (.val (T xs)) (.val (T ys)) st = some (.ok (.val (.bl (dLt (T xs) (T ys)))), st) := by
  show (if shD (T xs) = true ∧ okD (T ys) = true ∧ PySem.W.alike (py (T xs)) (py (T ys)) = true ∧ isNone (T xs) = false then some (R.ok (Va.val (D.bl (dLt (T xs) (T ys)))), st) else none) = _
  rw [if_pos ⟨sh_T xs, shD_ok (sh_T ys), alike_T xs ys, rfl⟩]
def cmpI (a b : List Int) : Int := (if dLt (T b) (T a) = true then (1 : Int) else 0) - if dLt (T a) (T b) = true then (1 : Int) else 0
theorem subB (i j : Bool) (st : Sto) : opSub (.val (.bl i)) (.val (.bl j)) st = some (.ok (.val (.int ((if i = true then (1 : Int) else 0) - if j = true then (1 : Int) else 0))), st) := rfl
theorem inR_n {n : Nat} (h1 : 1 ≤ n) (h4 : n ≤ 4) : inR 1 4 (.int (n : Nat)) = true := by
  simp only [inR]
  rw [decide_eq_true (by omega), decide_eq_true (by omega)]; rfl
section
variable {n : Nat} {o : Or} {xs ys : List Int} {st : Sto} {d e : D}
theorem dp_ok (h1 : 1 ≤ n) (h4 : n ≤ 4) (hx : Pw (n : Nat) xs) (r : Str) (st : Sto) : g_demand_powers [.val (.int (n : Nat)), .val (T xs), .val (.str r)] st = some (.ok (.val .non), st) := by
  have s1 := hx.small (by omega)
  exact demand_powers_ok (r := r) (inR_n h1 h4) (arg_T s1).g (arg_T s1).l (isPow_T hx.len hx.rng) st
theorem do_ok (h4 : n ≤ 4) (ho : o.Ok n) (st : Sto) : g_demand_order [.val (.int (n : Nat)), .val o.dat] st = some (.ok (.val .non), st) := demand_order_ok (fun st => or_is h4 ho st) st
theorem dc_ok (h1 : 1 ≤ n) (h4 : n ≤ 4) (st : Sto) : g_demand_count [.val (.int (n : Nat))] st = some (.ok (.val .non), st) := demand_count_ok rfl (inR_n h1 h4) st
theorem compare_ok (h1 : 1 ≤ n) (h4 : n ≤ 4) (ho : o.Ok n) (hx : Pw (n : Nat) xs) (hy : Pw (n : Nat) ys) (st : Sto) : g_compare [.val (.int (n : Nat)), .val o.dat, .val (T xs), .val (T ys)] st = some (.ok (.val (.int (cmpI (keyOf o xs) (keyOf o ys)))), st) := by
  simp [g_compare, mFn, m_compare, noExc, dc_ok h1 h4, do_ok h4 ho, dp_ok h1 h4 hx, dp_ok h1 h4 hy, mPar, setAllE, key_ok h4 ho hx, key_ok h4 ho hy, gt_T, lt_T, subB, cmpI]
def firstDiff : Nat → List Int → List Int → D
  | k, a :: as, b :: bs => if a = b then firstDiff (k + 1) as bs else .int (k : Nat)
  | _, _, _ => .non
theorem zipD_cons (x y : D) (xs ys : List D) : zipD (x :: xs) (y :: ys) = .tup [x, y] :: zipD xs ys := rfl
theorem apart_loop (a0 a1 a2 a3 a4 a5 : Option Va) (st : Sto) : ∀ (k : Nat) (as bs : List Int) (x6 x7 x8 : Option Va), (firstDiff k as bs = .non ∧ ∃ y6 y7 y8, forGo (gTupD 2 (gConsD (gVar 6) (gConsD (gTupD 2 (gConsD (gVar 7) (gConsD (gVar 8) gNilD))) gNilD))) b1_tells_apart (numD k (zipD (as.map .int) (bs.map .int))) [a0, a1, a2, a3, a4, a5, x6, x7, x8] st = some (.nx [a0, a1, a2, a3, a4, a5, y6, y7, y8], st)) ∨
    forGo (gTupD 2 (gConsD (gVar 6) (gConsD (gTupD 2 (gConsD (gVar 7) (gConsD (gVar 8) gNilD))) gNilD))) b1_tells_apart (numD k (zipD (as.map .int) (bs.map .int))) [a0, a1, a2, a3, a4, a5, x6, x7, x8] st = some (.rt (.val (firstDiff k as bs)), st)
  | k, [], bs, x6, x7, x8 => .inl ⟨by cases bs <;> rfl, x6, x7, x8, by cases bs <;> rfl⟩
  | k, a :: as, [], x6, x7, x8 => .inl ⟨rfl, x6, x7, x8, rfl⟩
  | k, a :: as, b :: bs, x6, x7, x8 => by
    have hd : numD k (zipD ((a :: as).map .int) ((b :: bs).map .int)) = .tup [.int (k : Nat), .tup [.int a, .int b]] :: numD (k + 1) (zipD (as.map .int) (bs.map .int)) := rfl
    have hg : gTupD 2 (gConsD (gVar 6) (gConsD (gTupD 2 (gConsD (gVar 7) (gConsD (gVar 8) gNilD))) gNilD)) (.val (.tup [.int (k : Nat), .tup [.int a, .int b]])) [a0, a1, a2, a3, a4, a5, x6, x7, x8] = some [a0, a1, a2, a3, a4, a5, some (.val (.int (k : Nat))), some (.val (.int a)), some (.val (.int b))] := rfl
    rw [hd]
    by_cases h : a = b
    · have hb : b1_tells_apart [a0, a1, a2, a3, a4, a5, some (.val (.int (k : Nat))), some (.val (.int a)), some (.val (.int b))] st = some (.nx [a0, a1, a2, a3, a4, a5, some (.val (.int (k : Nat))), some (.val (.int a)), some (.val (.int b))], st) := by
        simp [b1_tells_apart, h]
      have eg : ∀ r, forGo (gTupD 2 (gConsD (gVar 6) (gConsD (gTupD 2 (gConsD (gVar 7) (gConsD (gVar 8) gNilD))) gNilD))) b1_tells_apart (.tup [.int (k : Nat), .tup [.int a, .int b]] :: r) [a0, a1, a2, a3, a4, a5, x6, x7, x8] st = forGo (gTupD 2 (gConsD (gVar 6) (gConsD (gTupD 2 (gConsD (gVar 7) (gConsD (gVar 8) gNilD))) gNilD))) b1_tells_apart r [a0, a1, a2, a3, a4, a5, some (.val (.int (k : Nat))), some (.val (.int a)), some (.val (.int b))] st := by
        intro r
        conv => lhs; unfold forGo
        simp only [hg, hb]
      have ef : firstDiff k (a :: as) (b :: bs) = firstDiff (k + 1) as bs := if_pos h
      rw [eg, ef]
      exact apart_loop a0 a1 a2 a3 a4 a5 st (k + 1) as bs _ _ _
    · refine .inr ?_
      have hb : b1_tells_apart [a0, a1, a2, a3, a4, a5, some (.val (.int (k : Nat))), some (.val (.int a)), some (.val (.int b))] st = some (.rt (.val (.int (k : Nat))), st) := by
        simp [b1_tells_apart, h]
      have ef : firstDiff k (a :: as) (b :: bs) = .int (k : Nat) := if_neg h
      rw [ef]
      unfold forGo
      simp only [hg, hb]
theorem ez_T (as bs : List Int) (st : Sto) : ezOf [.val (T as), .val (T bs)] st = some (.ok (numD 0 (zipD (as.map .int) (bs.map .int))), st) := rfl
theorem tells_ok (h1 : 1 ≤ n) (h4 : n ≤ 4) (ho : o.Ok n) (hx : Pw (n : Nat) xs) (hy : Pw (n : Nat) ys) (st : Sto) : g_tells_apart [.val (.int (n : Nat)), .val o.dat, .val (T xs), .val (T ys)] st = some (.ok (.val (firstDiff 0 (keyOf o xs) (keyOf o ys))), st) := by
  have k1 := fun st => key_ok h4 ho hx st
  have k2 := fun st => key_ok h4 ho hy st
  generalize keyOf o xs = as at k1
  generalize keyOf o ys = bs at k2
  rcases apart_loop (some (.val (.int (n : Nat)))) (some (.val o.dat)) (some (.val (T xs))) (some (.val (T ys))) (some (.val (T as))) (some (.val (T bs))) st 0 as bs none none none with ⟨e1, y6, y7, y8, e2⟩ | e2
  · rw [e1]
    simp [g_tells_apart, mFn, m_tells_apart, noExc, dc_ok h1 h4, do_ok h4 ho, dp_ok h1 h4 hx, dp_ok h1 h4 hy, mPar, setAllE, k1, k2, ez_T, e2]
  · simp [g_tells_apart, mFn, m_tells_apart, noExc, dc_ok h1 h4, do_ok h4 ho, dp_ok h1 h4 hx, dp_ok h1 h4 hy, mPar, setAllE, k1, k2, ez_T, e2]
end
end K30
end

section
set_option Elab.async false
set_option linter.all false
set_option maxRecDepth 100000
set_option maxHeartbeats 1000000
namespace K30
open PySem PySem.Spec PyProof.Rows L2 DL
/-! ### in_order -/
def pairD (o : Or) (r : List Int) : D := .tup [T (keyOf o r), T r]
def sndD : D → D
  | .tup [_, r] => r
  | _ => .non
/-- the rows in order, the greatest first -/
def inOrd (o : Or) (rs : List (List Int)) : List D := ((sortD (rs.map (pairD o))).reverse).map sndD
theorem sh_pair (o : Or) (r : List Int) : shD (pairD o r) = true := by
  have a := shD_ok (sh_T (keyOf o r))
  have b := shD_ok (sh_T r)
  have ha := sh_T (keyOf o r)
  have hb := sh_T r
  simp only [shD, Bool.and_eq_true, decide_eq_true_eq] at ha hb ⊢
  refine ⟨by simp only [pairD, okD, okDs, a, b, Bool.and_self], ?_⟩
  have h1 : ∀ ys : List Int, depD (T ys) = 1 := by
    intro ys
    have h : depDs (ys.map .int) = 0 := by
      induction ys with
      | nil => rfl
      | cons y r ih => simp only [List.map_cons, depDs, depD, ih]; rfl
    simp only [T, depD, h]
  simp only [pairD, depD, depDs, h1]
  decide
theorem alike_pair (o : Or) (r s : List Int) : PySem.W.alike (py (pairD o r)) (py (pairD o s)) = true := by
  simp only [pairD, py, pys, PySem.W.alike, PySem.W.alikeAll, Bool.and_true, Bool.and_eq_true]
  exact ⟨alike_T _ _, alike_T _ _⟩
theorem sort_pairs (o : Or) (rs : List (List Int)) : sortOk (rs.map (pairD o)) = true := by
  unfold sortOk
  rw [Bool.and_eq_true, Bool.and_eq_true, Bool.or_eq_true]
  refine ⟨⟨?_, ?_⟩, .inl ?_⟩
  · rw [List.all_map, List.all_eq_true]
    exact fun r _ => sh_pair o r
  · rw [List.all_map, List.all_eq_true]
    intro r _
    show (rs.map (pairD o)).all _ = true
    rw [List.all_map, List.all_eq_true]
    exact fun s _ => alike_pair o r s
  · rw [List.all_map, List.all_eq_true]
    exact fun r _ => rfl
theorem sorted_pairs (o : Or) (rs : List (List Int)) (st : Sto) : bSorted [.val (.lst (rs.map (pairD o)))] st = some (.ok (.val (.lst (sortD (rs.map (pairD o))))), st) := by
  show (if sortOk (rs.map (pairD o)) = true then some (R.ok (Va.val (D.lst (sortD (rs.map (pairD o))))), st) else none) = _
  rw [if_pos (sort_pairs o rs)]
theorem mem_sorted {o : Or} {rs : List (List Int)} {d : D} (h : d ∈ (sortD (rs.map (pairD o))).reverse) : ∃ r ∈ rs, d = pairD o r := by
  rw [List.mem_reverse] at h
  unfold sortD at h
  rw [(List.mergeSort_perm _ _).mem_iff] at h
  obtain ⟨r, hr, rfl⟩ := List.mem_map.mp h
  exact ⟨r, hr, rfl⟩
theorem len_sorted (o : Or) (rs : List (List Int)) : (sortD (rs.map (pairD o))).reverse.length = rs.length := by
  unfold sortD
  rw [List.length_reverse, (List.mergeSort_perm _ _).length_eq, List.length_map]
section
variable {n : Nat} {o : Or} {xs ys : List Int} {st : Sto} {d e : D}
theorem c1_in_order_gen {rows : List D} (h : ∀ r ∈ rows, Arg r) (hl : rows.length ≤ sizeLine) (c : Int) (a x3 x4 x5 : Option Va) (st : Sto) : c1_in_order [some (.val (.int c)), a, some (.val (.tup rows)), x3, x4, x5] st = some (.ok (.val (.lst ((rows.map (isPow c)).map .bl))), st) := by
  have e : c1_in_order [some (.val (.int c)), a, some (.val (.tup rows)), x3, x4, x5] st = some (.ok (.val (.lst (rows.map fun r => .bl (isPow c r)))), st) := by
    refine lc_map (it := mSeqI (mVar 2)) (g := gVar 3) (me := mCall g_is_powers (mCons (mVar 0) (mCons (mVar 3) mNil))) (vs := [3]) (ρ := [some (.val (.int c)), a, some (.val (.tup rows)), x3, x4, x5]) st rows id (fun r => .bl (isPow c r)) ?_ hl fun r hr => ⟨_, rfl, fun ac => ?_⟩
    · simp
    · have ha := h r hr
      simp [wipeE, is_powers_ok c ha.g ha.l]
  rw [e, List.map_map]; rfl
theorem c2_in_order_ok {rs : List (List Int)} (h4 : n ≤ 4) (ho : o.Ok n) (h : ∀ r ∈ rs, Pw (n : Nat) r) (hl : rs.length ≤ 1000) (a x3 x4 x5 : Option Va) (st : Sto) : c2_in_order [a, some (.val o.dat), some (.val (.tup (rs.map T))), x3, x4, x5] st = some (.ok (.val (.lst (rs.map (pairD o)))), st) := by
  refine lc_map (it := mSeqI (mVar 2)) (g := gVar 3) (me := mTup (mCons (mCall g_key_of (mCons (mVar 1) (mCons (mVar 3) mNil))) (mCons (mVar 3) mNil))) (vs := [3]) (ρ := [a, some (.val o.dat), some (.val (.tup (rs.map T))), x3, x4, x5]) st rs T (pairD o) ?_ ?_ fun r hr => ⟨_, rfl, fun ac => ?_⟩
  · simp only [mSeqI_eq, bind_eq, mVarS, mVar0, seqOf_tup]
  · rw [sizeLine_eq]; omega
  · have k := key_ok h4 ho (h r hr) (st ++ [.lst ac])
    simp [wipeE, k, mkTup2, pairD]
theorem c3_in_order_ok {rs : List (List Int)} (hl : rs.length ≤ 1000) (a b c x3 x5 : Option Va) (st : Sto) : c3_in_order [a, b, c, x3, some (.val (.lst (sortD (rs.map (pairD o))))), x5] st = some (.ok (.val (.lst (inOrd o rs))), st) := by
  refine lc_map (it := mSeqI (mRev (mVar 4) mNoPart)) (g := gTupD 2 (gConsD (gVar 5) (gConsD (gVar 3) gNilD))) (me := mVar 3) (vs := [5, 3]) (ρ := [a, b, c, x3, some (.val (.lst (sortD (rs.map (pairD o))))), x5]) st ((sortD (rs.map (pairD o))).reverse) id sndD ?_ ?_ fun d hd => ?_
  · simp
  · rw [len_sorted, sizeLine_eq]; omega
  · obtain ⟨r, hr, rfl⟩ := mem_sorted hd
    exact ⟨_, rfl, fun ac => by simp [wipeE, pairD, sndD]⟩
theorem in_order_ok {rs : List (List Int)} (h1 : 1 ≤ n) (h4 : n ≤ 4) (ho : o.Ok n) (h : ∀ r ∈ rs, Pw (n : Nat) r) (hl : rs.length ≤ 200) (st : Sto) : g_in_order [.val (.int (n : Nat)), .val o.dat, .val (.tup (rs.map T))] st = some (.ok (.val (.tup (inOrd o rs))), st) := by
  have e1 := fun x3 x4 x5 st => c1_in_order_gen (rows := rs.map T) (fun r hr => by
    obtain ⟨r', h', rfl⟩ := List.mem_map.mp hr
    exact arg_T ((h r' h').small (by omega))) (by rw [List.length_map, sizeLine_eq]; omega) (n : Nat) (some (.val o.dat)) x3 x4 x5 st
  have e2 := fun x3 x4 x5 st => c2_in_order_ok (rs := rs) h4 ho h (by omega) (some (.val (.int (n : Nat)))) x3 x4 x5 st
  have e3 := fun x3 x5 st => c3_in_order_ok (o := o) (rs := rs) (by omega) (some (.val (.int (n : Nat)))) (some (.val o.dat)) (some (.val (.tup (rs.map T)))) x3 x5 st
  have e4 := fun st => sorted_pairs o rs st
  have a1 : ((rs.map T).map (isPow (n : Nat))).all id = true := by
    rw [List.all_map, List.all_map, List.all_eq_true]
    exact fun r hr => isPow_T (h r hr).len (h r hr).rng
  have a2 : ¬ (200 < ((rs.map T).length : Int)) := by rw [List.length_map]; omega
  generalize (rs.map T).map (isPow (n : Nat)) = bs at e1 a1
  generalize rs.map T = ds at e1 e2 e3 a2
  generalize inOrd o rs = res at e3
  generalize sortD (rs.map (pairD o)) = so at e3 e4
  generalize rs.map (pairD o) = ps at e2 e4
  simp [g_in_order, mFn, m_in_order, noExc, dc_ok h1 h4, do_ok h4 ho, isT, e1, e2, e3, e4, a1, a2, -List.all_eq_true]
theorem in_order_no (h1 : 1 ≤ n) (h4 : n ≤ 4) (ho : o.Ok n) (h : (∀ rows, d ≠ .tup rows) ∧ noG d = true ∨ ∃ rows, d = .tup rows ∧ (200 < rows.length ∨ ((∀ r ∈ rows, Arg r) ∧ rows.length ≤ 1000 ∧ rows.all (isPow (n : Nat)) = false))) (st : Sto) : g_in_order [.val (.int (n : Nat)), .val o.dat, .val d] st = ARG "rows" st := by
  rcases h with ⟨hd, hg⟩ | ⟨rows, rfl, h⟩
  · cases d with
    | tup rows => exact absurd rfl (hd rows)
    | glo _ => cases hg
    | _ => simp [g_in_order, mFn, m_in_order, noExc, dc_ok h1 h4, do_ok h4 ho, isT, mRaise, ARG]
  · rcases h with h | ⟨ha, hl, hp⟩
    · have a2 : (200 : Int) < (rows.length : Int) := by omega
      simp [g_in_order, mFn, m_in_order, noExc, dc_ok h1 h4, do_ok h4 ho, isT, mRaise, ARG, a2]
    · have e1 := fun x3 x4 x5 st => c1_in_order_gen (rows := rows) ha (by rw [sizeLine_eq]; omega) (n : Nat) (some (.val o.dat)) x3 x4 x5 st
      have a1 : (rows.map (isPow (n : Nat))).all id = false := by rw [List.all_map]; exact hp
      generalize rows.map (isPow (n : Nat)) = bs at e1 a1
      by_cases a2 : (200 : Int) < (rows.length : Int) <;> simp [g_in_order, mFn, m_in_order, noExc, dc_ok h1 h4, do_ok h4 ho, isT, mRaise, ARG, a2, e1, a1, -List.all_eq_false]
/-! ### is_by_degree, leaves_out -/
def byD (n : Nat) : Or → Bool
  | .plain => decide (n = 1)
  | .degree => true
  | .back => true
  | .rows rs => decide (n = 1) || (decide (0 < (rs.headD []).getD 0 0) && (rs.headD []).all fun x => decide (x = (rs.headD []).getD 0 0))
theorem ix0 {ds : List D} {r : D} (st : Sto) : opIx (.val (.tup (r :: ds))) (.val (.int 0)) st = some (.ok (.val r), st) := DL.ix_tup _ _ _ st (atI_nat (j := 0) rfl)
theorem c1_by_ok {r : List Int} (h : r ≠ []) (hl : small r) (a b x3 : Option Va) (st : Sto) : c1_is_by_degree [a, b, some (.val (T r)), x3] st = some (.ok (.val (.lst ((r.map fun x => decide (x = r.getD 0 0)).map .bl))), st) := by
  have e : c1_is_by_degree [a, b, some (.val (T r)), x3] st = some (.ok (.val (.lst (r.map fun x => .bl (decide (x = r.getD 0 0))))), st) := by
    refine lc_map (it := mSeqI (mVar 2)) (g := gVar 3) (me := mBin (fun a b => calm (opEqA a b)) (mVar 3) (mBin (fun a b => calm (opIx a b)) (mVar 2) (mC (.int 0)))) (vs := [3]) (ρ := [a, b, some (.val (T r)), x3]) st r .int (fun x => .bl (decide (x = r.getD 0 0))) ?_ ?_ fun x hx => ⟨_, rfl, fun ac => ?_⟩
    · simp only [mSeqI_eq, bind_eq, mVarS, mVar0, seq_T]
    · unfold small at hl; rw [sizeLine_eq]; omega
    · have := ix_T (xs := r) (k := 0) (List.length_pos_iff.mpr h) (st ++ [.lst ac])
      rw [show (((0 : Nat) : Int)) = 0 from rfl] at this
      simp [wipeE, this]
  rw [e, List.map_map]; rfl
theorem by_ok (h1 : 1 ≤ n) (h4 : n ≤ 4) (ho : o.Ok n) (st : Sto) : g_is_by_degree [.val (.int (n : Nat)), .val o.dat] st = some (.ok (.val (.bl (byD n o))), st) := by
  have hn : ((n : Int) = 1) = (n = 1) := by apply propext; omega
  have dc := fun st => dc_ok h1 h4 st
  have dor := fun st => do_ok h4 ho st
  cases o with
  | plain => simp only [Or.dat] at dor ⊢; simp [g_is_by_degree, mFn, m_is_by_degree, noExc, dc, dor, isT, byD, hn]
  | degree => simp only [Or.dat] at dor ⊢; simp [g_is_by_degree, mFn, m_is_by_degree, noExc, dc, dor, isT, byD, s_dp]
  | back => simp only [Or.dat] at dor ⊢; simp [g_is_by_degree, mFn, m_is_by_degree, noExc, dc, dor, isT, byD, s_bp]
  | rows rs =>
    obtain ⟨k1, k2, k3, k4⟩ := ho.rows rs rfl
    have sh := ok_sh (ok_rows h4 ho) (by decide)
    have e1 := fun st => neA_ts (s := "plain") sh sh_plain st
    cases rs with
    | nil => simp at k1
    | cons r t =>
      obtain ⟨m1, m2⟩ := k3 r (by simp)
      have hr : r ≠ [] := fun e => by rw [e] at m1; simp at m1; omega
      have sm : small r := by unfold small; omega
      have ei : ∀ st, opIx (.val (T r)) (.val (.int 0)) st = some (.ok (.val (.int (r.getD 0 0))), st) := fun st => ix_T (xs := r) (k := 0) (List.length_pos_iff.mpr hr) st
      have ec := fun a b x3 st => c1_by_ok hr sm a b x3 st
      have ee : (r.map fun x => decide (x = r.getD 0 0)).all id = r.all fun x => decide (x = r.getD 0 0) := by rw [List.all_map]; rfl
      have eq1 : ∀ st, opEqA (.val (.int (n : Nat))) (.val (.int 1)) st = some (.ok (.val (.bl (decide (n = 1)))), st) := fun st => by
        have : decide ((n : Int) = 1) = decide (n = 1) := decide_eq_decide.mpr (by omega)
        rw [eqA_int, this]
      refine (?_ : ∀ res, byD n (.rows (r :: t)) = res → g_is_by_degree [.val (.int (n : Nat)), .val (Or.rows (r :: t)).dat] st = some (.ok (.val (.bl res)), st)) _ rfl
      intro res hres
      replace hres : (decide (n = 1) || (decide (0 < r.getD 0 0) && r.all fun x => decide (x = r.getD 0 0))) = res := hres
      rw [← ee] at hres
      simp only [Or.dat, List.map_cons] at e1 dor ⊢
      generalize r.map (fun x => decide (x = r.getD 0 0)) = bs at ec hres
      generalize r.getD 0 0 = z at ei hres
      generalize t.map T = ts at e1 dor
      generalize decide (n = 1) = b at hres eq1
      subst hres
      cases b with
      | true => simp [g_is_by_degree, mFn, m_is_by_degree, noExc, dc, dor, isT, e1, eq1, -eqA_int]
      | false =>
        by_cases hz : 0 < z
        · simp [g_is_by_degree, mFn, m_is_by_degree, noExc, dc, dor, isT, e1, eq1, ix0, ei, ec, hz, -eqA_int, -List.all_eq_true]
        · simp [g_is_by_degree, mFn, m_is_by_degree, noExc, dc, dor, isT, e1, eq1, ix0, ei, ec, hz, -eqA_int, -List.all_eq_true]
def leavesB (n m : Nat) : Or → Bool
  | .plain => true
  | .degree => decide (m = n)
  | .back => decide (m = n)
  | .rows rs => decide (m = n) || (((rs.headD []).take m).all (fun x => decide (0 < x)) && !((rs.headD []).drop m).any (· != 0))
theorem cut_take {r : List Int} {m : Nat} (h : m ≤ r.length) : DL.cutD (r.map D.int) none (some (m : Int)) = (r.take m).map .int := by
  unfold DL.cutD
  have e1 : HT.sIx (r.map D.int).length 0 none = 0 := rfl
  have e2 : HT.sIx (r.map D.int).length (r.map D.int).length (some (m : Int)) = m := by
    rw [HT.sIx_nat, List.length_map]
    omega
  rw [e1, e2]
  simp
theorem cut_drop {r : List Int} {m : Nat} (h : m ≤ r.length) : DL.cutD (r.map D.int) (some (m : Int)) none = (r.drop m).map .int := by
  unfold DL.cutD
  have e1 : HT.sIx (r.map D.int).length (r.map D.int).length none = r.length := by rw [HT.sIx_none, List.length_map]
  have e2 : HT.sIx (r.map D.int).length 0 (some (m : Int)) = m := by
    rw [HT.sIx_nat, List.length_map]
    omega
  rw [e1, e2, ← List.map_drop]
  rw [List.take_of_length_le (by simp)]
theorem sl_take {r : List Int} {m : Nat} (h : m ≤ r.length) (st : Sto) : slOf (.val (T r)) none (some (m : Int)) st = some (.ok (.val (T (r.take m))), st) := by
  have e := slOf_tup (r.map D.int) none (some (m : Int)) st
  rw [cut_take h] at e
  exact e
theorem sl_drop {r : List Int} {m : Nat} (h : m ≤ r.length) (st : Sto) : slOf (.val (T r)) (some (m : Int)) none st = some (.ok (.val (T (r.drop m))), st) := by
  have e := slOf_tup (r.map D.int) (some (m : Int)) none st
  rw [cut_drop h] at e
  exact e
theorem any_T (xs : List Int) (st : Sto) : bAny2 [.val (T xs)] st = some (.ok (.val (.bl (xs.any (· != 0)))), st) := bAny_tup xs st
theorem c1_leaves_ok {r : List Int} {ts : List D} {m : Nat} (h : m ≤ r.length) (hl : small r) (a x3 : Option Va) (st : Sto) : c1_leaves_out [a, some (.val (.tup (T r :: ts))), some (.val (.int (m : Nat))), x3] st = some (.ok (.val (.lst (((r.take m).map fun x => decide (0 < x)).map .bl))), st) := by
  have e : c1_leaves_out [a, some (.val (.tup (T r :: ts))), some (.val (.int (m : Nat))), x3] st = some (.ok (.val (.lst ((r.take m).map fun x => .bl (decide (0 < x))))), st) := by
    refine lc_map (it := mSeqI (mSlice (mBin (fun a b => calm (opIx a b)) (mVar 1) (mC (.int 0))) mNoPart (mPart (mVar 2)))) (g := gVar 3) (me := mBin (fun a b => calm (opGt a b)) (mVar 3) (mC (.int 0))) (vs := [3]) (ρ := [a, some (.val (.tup (T r :: ts))), some (.val (.int (m : Nat))), x3]) st (r.take m) .int (fun x => .bl (decide (0 < x))) ?_ ?_ fun x hx => ⟨_, rfl, fun ac => ?_⟩
    · simp only [mSeqI_eq, mSlice_eq, mBin_eq, mC_eq, bind_eq, mVarS, mVar0, ix0, calm_eq, mNoPart_eq, mPart_eq, asPart_int, sl_take h, seq_T]
    · unfold small at hl; rw [sizeLine_eq, List.length_take]; omega
    · simp [wipeE]
  rw [e, List.map_map]; rfl
theorem leaves_ok {m : Nat} (h1 : 1 ≤ n) (h4 : n ≤ 4) (ho : o.Ok n) (hm1 : 1 ≤ m) (hm : m ≤ n) (st : Sto) : g_leaves_out [.val (.int (n : Nat)), .val o.dat, .val (.int (m : Nat))] st = some (.ok (.val (.bl (leavesB n m o))), st) := by
  have eq1 : ∀ st, opEqA (.val (.int (m : Nat))) (.val (.int (n : Nat))) st = some (.ok (.val (.bl (decide (m = n)))), st) := fun st => by
    have : decide ((m : Int) = (n : Int)) = decide (m = n) := decide_eq_decide.mpr (by omega)
    rw [eqA_int, this]
  have dc := fun st => dc_ok h1 h4 st
  have dor := fun st => do_ok h4 ho st
  have ir : inR 1 (n : Nat) (.int (m : Nat)) = true := by
    simp only [inR]
    rw [decide_eq_true (by omega), decide_eq_true (by omega)]; rfl
  have dr := fun st => in_range_ok (d := .int (m : Nat)) rfl 1 (n : Nat) st
  rw [ir] at dr
  cases o with
  | plain => simp only [Or.dat] at dor ⊢; simp [g_leaves_out, mFn, m_leaves_out, noExc, dc, dor, dr, isT, leavesB]
  | degree =>
    simp only [Or.dat, leavesB] at dor ⊢
    generalize decide (m = n) = b at eq1 ⊢
    cases b <;> simp [g_leaves_out, mFn, m_leaves_out, noExc, dc, dor, dr, isT, s_dp, eq1, -eqA_int]
  | back =>
    simp only [Or.dat, leavesB] at dor ⊢
    generalize decide (m = n) = b at eq1 ⊢
    cases b <;> simp [g_leaves_out, mFn, m_leaves_out, noExc, dc, dor, dr, isT, s_bp, eq1, -eqA_int]
  | rows rs =>
    obtain ⟨k1, k2, k3, k4⟩ := ho.rows rs rfl
    have sh := ok_sh (ok_rows h4 ho) (by decide)
    have e1 := fun st => eqA_ts (s := "plain") sh sh_plain st
    cases rs with
    | nil => simp at k1
    | cons r t =>
      obtain ⟨m1, m2⟩ := k3 r (by simp)
      have sm : small r := by unfold small; omega
      have hmr : m ≤ r.length := by omega
      have ec := fun a x3 st => c1_leaves_ok (ts := t.map T) hmr sm a x3 st
      have ed := fun st => sl_drop hmr st
      have ea := fun st => any_T (r.drop m) st
      have ee : ((r.take m).map fun x => decide (0 < x)).all id = (r.take m).all fun x => decide (0 < x) := by rw [List.all_map]; rfl
      refine (?_ : ∀ res, leavesB n m (.rows (r :: t)) = res → g_leaves_out [.val (.int (n : Nat)), .val (Or.rows (r :: t)).dat, .val (.int (m : Nat))] st = some (.ok (.val (.bl res)), st)) _ rfl
      intro res hres
      replace hres : (decide (m = n) || ((r.take m).all (fun x => decide (0 < x)) && !(r.drop m).any (· != 0))) = res := hres
      rw [← ee] at hres
      simp only [Or.dat, List.map_cons] at e1 dor ⊢
      generalize (r.take m).map (fun x => decide (0 < x)) = bs at ec hres
      generalize (r.drop m).any (· != 0) = z at ea hres
      generalize r.drop m = rd at ed ea
      generalize t.map T = ts at e1 dor ec
      generalize decide (m = n) = b at hres eq1
      subst hres
      cases b with
      | true => simp [g_leaves_out, mFn, m_leaves_out, noExc, dc, dor, dr, isT, e1, eq1, -eqA_int]
      | false =>
        cases hb : bs.all id with
        | false => simp [g_leaves_out, mFn, m_leaves_out, noExc, dc, dor, dr, isT, e1, eq1, ix0, ed, ea, ec, hb, -eqA_int, -List.all_eq_true, -List.all_eq_false]
        | true => simp [g_leaves_out, mFn, m_leaves_out, noExc, dc, dor, dr, isT, e1, eq1, ix0, ed, ea, ec, hb, -eqA_int, -List.all_eq_true, -List.all_eq_false]
theorem leaves_no (h1 : 1 ≤ n) (h4 : n ≤ 4) (ho : o.Ok n) (hg : noG d = true) (hd : inR 1 (n : Nat) d = false) (st : Sto) : g_leaves_out [.val (.int (n : Nat)), .val o.dat, .val d] st = ARG "number" st := by
  have dr := fun st => in_range_ok (d := d) hg 1 (n : Nat) st
  rw [hd] at dr
  simp [g_leaves_out, mFn, m_leaves_out, noExc, dc_ok h1 h4, do_ok h4 ho, dr, mRaise, ARG]
end
end K30
end

section
set_option Elab.async false
set_option linter.all false
set_option maxRecDepth 100000
set_option maxHeartbeats 1000000
namespace K30
open PySem PySem.Spec PyProof.Rows L2 DL
/-- all powers with a sum, descending -/
def allW : Nat → Nat → List (List Int)
  | 0, _ => []
  | 1, d => [[(d : Int)]]
  | k + 2, d => ((List.range (d + 1)).map fun i => (allW (k + 1) i).map fun r => ((d : Int) + (i : Nat) * (-1)) :: r).flatten
theorem flat_len {α : Type} (B : Nat) : ∀ (l : List (List α)), (∀ x ∈ l, x.length ≤ B) → l.flatten.length ≤ l.length * B
  | [], _ => by simp
  | x :: l, h => by
    have h1 := h x (by simp)
    have h2 := flat_len B l fun y hy => h y (by simp [hy])
    rw [List.flatten_cons, List.length_append, List.length_cons, Nat.add_mul]
    omega
theorem lenW : ∀ (k d : Nat), d ≤ 5 → (allW (k + 1) d).length ≤ 6 ^ k
  | 0, d, _ => Nat.le_refl _
  | k + 1, d, h => by
    show (((List.range (d + 1)).map fun i => (allW (k + 1) i).map fun r => ((d : Int) + (i : Nat) * (-1)) :: r).flatten).length ≤ _
    have h1 := flat_len (6 ^ k) ((List.range (d + 1)).map fun i => (allW (k + 1) i).map fun r => ((d : Int) + (i : Nat) * (-1)) :: r) fun x hx => by
      obtain ⟨i, hi, rfl⟩ := List.mem_map.mp hx
      have := List.mem_range.mp hi
      rw [List.length_map]
      exact lenW k i (by omega)
    rw [List.length_map, List.length_range] at h1
    have h2 : (d + 1) * 6 ^ k ≤ 6 * 6 ^ k := Nat.mul_le_mul_right _ (by omega)
    rw [Nat.pow_succ]
    omega
theorem memW : ∀ (k d : Nat), ∀ r ∈ allW (k + 1) d, r.length = k + 1 ∧ ∀ x ∈ r, 0 ≤ x ∧ x ≤ d
  | 0, d, r, h => by
    have : r = [(d : Int)] := by simpa [allW] using h
    subst this
    exact ⟨rfl, fun x hx => by
      have : x = (d : Int) := by simpa using hx
      omega⟩
  | k + 1, d, r, h => by
    have h' : r ∈ ((List.range (d + 1)).map fun i => (allW (k + 1) i).map fun r => ((d : Int) + (i : Nat) * (-1)) :: r).flatten := h
    obtain ⟨l, hl, hr⟩ := List.mem_flatten.mp h'
    obtain ⟨i, hi, rfl⟩ := List.mem_map.mp hl
    have hi' := List.mem_range.mp hi
    obtain ⟨s, hs, rfl⟩ := List.mem_map.mp hr
    obtain ⟨a, b⟩ := memW k i s hs
    refine ⟨by rw [List.length_cons, a], fun x hx => ?_⟩
    rcases List.mem_cons.mp hx with q | q
    · rw [q]; omega
    · have := b x q; omega
/-- what one turn of the loop adds -/
def turnW (k d i : Nat) : List D := (allW (k + 1) i).map fun r => T (((d : Int) + (i : Nat) * (-1)) :: r)
theorem allW_turns (k d : Nat) : (allW (k + 2) d).map T = ((List.range (d + 1)).map (turnW k d)).flatten := by
  show (((List.range (d + 1)).map fun i => (allW (k + 1) i).map fun r => ((d : Int) + (i : Nat) * (-1)) :: r).flatten).map T = _
  rw [List.map_flatten, List.map_map]
  congr 1
  refine List.map_congr_left fun i _ => ?_
  show ((allW (k + 1) i).map fun r => ((d : Int) + (i : Nat) * (-1)) :: r).map T = _
  rw [List.map_map]
  rfl
theorem range3 (d : Nat) (h : d ≤ 5) (st : Sto) : rangeOf3 [.val (.int (d : Nat)), .val (.int (-1)), .val (.int (-1))] st = some (.ok ((List.range (d + 1)).map fun i => D.int ((d : Int) + (i : Nat) * (-1))), st) := by
  have hb : B62 (d : Int) := ⟨Int.le_trans (by decide : -(2 ^ 62 : Int) ≤ 0) (Int.natCast_nonneg d), Int.lt_of_le_of_lt (Int.ofNat_le.mpr h) (by decide)⟩
  have hc : B62 (-1) := by decide
  show (if B62 (d : Int) ∧ B62 (-1) ∧ (-1 : Int) = -1 then M.pure (intsC (d : Int) (-1) ((d : Int) - -1).toNat) else stuck) st = _
  rw [if_pos ⟨hb, hc, rfl⟩]
  have e : ((d : Int) - -1).toNat = d + 1 := by omega
  rw [e]
  rfl
theorem mkObj0 (st : Sto) : mkObj [] st = some (.ok (.obj st.length), st ++ [.lst []]) := by
  unfold mkObj
  simp only [vals_nil, List.length_nil, Nat.zero_le, if_true]
theorem mkLst0 (st : Sto) : mkLst [] st = some (.ok (.val (.lst [])), st) := mkLst_val [] _ st rfl (Nat.zero_le _)
theorem mkLst1 (d : D) (st : Sto) : mkLst [.val d] st = some (.ok (.val (.lst [d])), st) := mkLst_val [d] _ st rfl (show 1 ≤ sizeLine by rw [sizeLine_eq]; decide)
section
variable {k d : Nat} {rc : En → MS}
/-- what the call inside gives -/
def RcOk (k : Nat) (rc : En → MS) : Prop := ∀ (i : Nat), i ≤ 5 → ∀ st : Sto, mFn 5 2 rc [.val (.int ((k + 1 : Nat) : Int)), .val (.int (i : Nat))] st = some (.ok (.val (.lst ((allW (k + 1) i).map T))), st)
theorem c1_all (hk : k ≤ 3) (hd : d ≤ 5) (h : RcOk k rc) (i : Nat) (hi : i ≤ 5) (x2 x4 : Option Va) (st : Sto) : c1_all_with rc [some (.val (.int ((k + 2 : Nat) : Int))), some (.val (.int (d : Nat))), x2, some (.val (.int ((d : Int) + (i : Nat) * (-1)))), x4] st = some (.ok (.val (.lst (turnW k d i))), st) := by
  have h' := h i hi
  have e1 : ((k + 2 : Nat) : Int) - 1 = ((k + 1 : Nat) : Int) := by omega
  have e2 : (d : Int) - ((d : Int) + (i : Nat) * (-1)) = (i : Int) := by omega
  have hl : (allW (k + 1) i).length ≤ sizeLine := by
    have := lenW k i hi
    have h6 : 6 ^ k ≤ 6 ^ 3 := Nat.pow_le_pow_right (by decide) hk
    rw [sizeLine_eq]
    omega
  refine lc_map (it := mSeqI (mCall (mFn 5 2 rc) (mCons (mBin (fun a b => calm (opSub a b)) (mVar 0) (mC (.int 1))) (mCons (mBin (fun a b => calm (opSub a b)) (mVar 1) (mVar 3)) mNil)))) (g := gVar 4) (me := mBin (fun a b => calm (opAdd a b)) (mTup (mCons (mVar 3) mNil)) (mVar 4)) (vs := [4])
    (ρ := [some (.val (.int ((k + 2 : Nat) : Int))), some (.val (.int (d : Nat))), x2, some (.val (.int ((d : Int) + (i : Nat) * (-1)))), x4]) st (allW (k + 1) i) T (fun r => T (((d : Int) + (i : Nat) * (-1)) :: r)) ?_ hl fun r hr => ⟨_, rfl, fun ac => ?_⟩
  · simp only [mSeqI_eq, mCall_eq, mCons_eq, mBin_eq, bind_eq, mVarS, mVar0, mC_eq, calm_eq, subA_int, mNil_eq, pure_eq, e1, e2, h', seqOf_lst]
  · have hs : small r := by
      have := (memW k i r hr).1
      unfold small; omega
    generalize (d : Int) + (i : Nat) * (-1) = z
    simp [wipeE, mkTup1, cat1 hs]
theorem c1_lall (hk : k ≤ 3) (hd : d ≤ 5) (h : RcOk k rc) (i : Nat) (hi : i ≤ 5) (x2 x4 : Option Va) (st : Sto) : c1__law_all rc [some (.val (.int ((k + 2 : Nat) : Int))), some (.val (.int (d : Nat))), x2, some (.val (.int ((d : Int) + (i : Nat) * (-1)))), x4] st = some (.ok (.val (.lst (turnW k d i))), st) := c1_all hk hd h i hi x2 x4 st
theorem len_turn (hk : k ≤ 3) {i : Nat} (hi : i ≤ 5) : (turnW k d i).length ≤ 216 := by
  have := lenW k i hi
  have h6 : 6 ^ k ≤ 6 ^ 3 := Nat.pow_le_pow_right (by decide) hk
  unfold turnW
  rw [List.length_map]
  omega
theorem ext_at (st : Sto) (acc es : List D) (h : acc.length + es.length ≤ sizeLine) : extO (.obj st.length) (.val (.lst es)) (st ++ [.lst acc]) = some (.ok (.obj st.length), st ++ [.lst (acc ++ es)]) := by
  unfold extO
  simp only [st_get, if_pos h, st_set]
theorem all_loop (hk : k ≤ 3) (hd : d ≤ 5) (h : RcOk k rc) (st : Sto) : ∀ (is : List Nat) (acc : List D) (x3 x4 : Option Va), (∀ i ∈ is, i ≤ 5) → acc.length + is.length * 216 ≤ sizeLine → ∃ y3 y4, forGo (gVar 3) (b1_all_with rc) (is.map fun i => D.int ((d : Int) + (i : Nat) * (-1))) [some (.val (.int ((k + 2 : Nat) : Int))), some (.val (.int (d : Nat))), some (.obj st.length), x3, x4] (st ++ [.lst acc]) =
    some (.nx [some (.val (.int ((k + 2 : Nat) : Int))), some (.val (.int (d : Nat))), some (.obj st.length), y3, y4], st ++ [.lst (acc ++ (is.map (turnW k d)).flatten)])
  | [], acc, x3, x4, _, _ => ⟨x3, x4, by simp⟩
  | i :: is, acc, x3, x4, hi, hl => by
    have hi5 := hi i (by simp)
    have hlt := len_turn (d := d) hk hi5
    rw [List.length_cons, Nat.add_mul] at hl
    have c := c1_all hk hd h i hi5 (some (.obj st.length)) x4 (st ++ [.lst acc])
    have ex := ext_at st acc (turnW k d i) (by omega)
    have hb : b1_all_with rc [some (.val (.int ((k + 2 : Nat) : Int))), some (.val (.int (d : Nat))), some (.obj st.length), some (.val (.int ((d : Int) + (i : Nat) * (-1)))), x4] (st ++ [.lst acc]) = some (.nx [some (.val (.int ((k + 2 : Nat) : Int))), some (.val (.int (d : Nat))), some (.obj st.length), some (.val (.int ((d : Int) + (i : Nat) * (-1)))), x4], st ++ [.lst (acc ++ turnW k d i)]) := by
      show mExt 2 (c1_all_with rc) _ _ = _
      unfold mExt
      simp only [List.getElem?_cons_succ, List.getElem?_cons_zero]
      have e := bind_of (f := fun v => extO (.obj st.length) v) c
      rw [e, ex]
      rfl
    obtain ⟨y3, y4, ih⟩ := all_loop hk hd h st is (acc ++ turnW k d i) (some (.val (.int ((d : Int) + (i : Nat) * (-1))))) x4 (fun j hj => hi j (by simp [hj])) (by rw [List.length_append]; omega)
    refine ⟨y3, y4, ?_⟩
    rw [List.map_cons, List.map_cons, List.flatten_cons, ← List.append_assoc, ← ih]
    conv => lhs; unfold forGo
    simp only [gVar_eq, List.set_cons_succ, List.set_cons_zero, hb]
theorem lall_loop (hk : k ≤ 3) (hd : d ≤ 5) (h : RcOk k rc) (st : Sto) : ∀ (is : List Nat) (acc : List D) (x3 x4 : Option Va), (∀ i ∈ is, i ≤ 5) → acc.length + is.length * 216 ≤ sizeLine → ∃ y3 y4, forGo (gVar 3) (b1__law_all rc) (is.map fun i => D.int ((d : Int) + (i : Nat) * (-1))) [some (.val (.int ((k + 2 : Nat) : Int))), some (.val (.int (d : Nat))), some (.val (.lst acc)), x3, x4] st =
    some (.nx [some (.val (.int ((k + 2 : Nat) : Int))), some (.val (.int (d : Nat))), some (.val (.lst (acc ++ (is.map (turnW k d)).flatten))), y3, y4], st)
  | [], acc, x3, x4, _, _ => ⟨x3, x4, by simp⟩
  | i :: is, acc, x3, x4, hi, hl => by
    have hi5 := hi i (by simp)
    have hlt := len_turn (d := d) hk hi5
    rw [List.length_cons, Nat.add_mul] at hl
    have c := c1_lall hk hd h i hi5 (some (.val (.lst acc))) x4 st
    have ex := addA_lst acc (turnW k d i) st (by omega)
    have hb : b1__law_all rc [some (.val (.int ((k + 2 : Nat) : Int))), some (.val (.int (d : Nat))), some (.val (.lst acc)), some (.val (.int ((d : Int) + (i : Nat) * (-1)))), x4] st = some (.nx [some (.val (.int ((k + 2 : Nat) : Int))), some (.val (.int (d : Nat))), some (.val (.lst (acc ++ turnW k d i))), some (.val (.int ((d : Int) + (i : Nat) * (-1)))), x4], st) := by
      show mSet 2 (mBin (fun a b => calm (opAdd a b)) (mVar 2) (c1__law_all rc)) _ _ = _
      simp only [mSet_eq, mBin_eq, bind_eq, mVarS, mVar0, c, calm_eq, ex, onE_ok, List.set_cons_succ, List.set_cons_zero]
    obtain ⟨y3, y4, ih⟩ := lall_loop hk hd h st is (acc ++ turnW k d i) (some (.val (.int ((d : Int) + (i : Nat) * (-1))))) x4 (fun j hj => hi j (by simp [hj])) (by rw [List.length_append]; omega)
    refine ⟨y3, y4, ?_⟩
    rw [List.map_cons, List.map_cons, List.flatten_cons, ← List.append_assoc, ← ih]
    conv => lhs; unfold forGo
    simp only [gVar_eq, List.set_cons_succ, List.set_cons_zero, hb]
end
theorem freeze_at (st : Sto) (ds : List D) : freeze (.obj st.length) (st ++ [.lst ds]) = some (.ok (.val (.lst ds)), st ++ [.dead]) := by
  unfold freeze
  simp only [st_get, st_set]
theorem ne1 (k : Nat) (st : Sto) : opEqA (.val (.int ((k + 2 : Nat) : Int))) (.val (.int 1)) st = some (.ok (.val (.bl false)), st) := by
  rw [eqA_int, decide_eq_false (by omega)]
theorem hit3 {z : Int} {is : List D} (r3 : ∀ st, rangeOf3 [.val (.int z), .val (.int (-1)), .val (.int (-1))] st = some (.ok is, st)) (a : Option Va) (r : En) (st : Sto) : mArgI rangeOf3 (mCons (mVar 1) (mCons (mNeg (mC (.int 1))) (mCons (mNeg (mC (.int 1))) mNil))) (a :: some (.val (.int z)) :: r) st = some (.ok is, st) := by
  refine (bind_of (a := [.val (.int z), .val (.int (-1)), .val (.int (-1))]) (st' := st) ?_).trans (r3 st)
  simp only [mCons_eq, bind_eq, mVarS, mVar0, mNeg_eq, mC_eq, negV_int, mNil_eq, pure_eq]
theorem seq_nx {m1 m2 : En → MS} {ρ ρ' : En} {st st' : Sto} (h : m1 ρ st = some (.nx ρ', st')) : mSeq m1 m2 ρ st = m2 ρ' st' := by
  rw [mSeq_eq, h]
theorem seq_rt {m1 m2 : En → MS} {ρ : En} {a : Va} {st st' : Sto} (h : m1 ρ st = some (.rt a, st')) : mSeq m1 m2 ρ st = some (.rt a, st') := by
  rw [mSeq_eq, h]
theorem fn_rt {NL n : Nat} {m : En → MS} {as : List Va} {d : D} {st st' st2 : Sto} (hl : as.length = n) (hn : noExc as = true) (h : m (as.map some ++ List.replicate (NL - n) none) st = some (.rt (.val d), st')) (ht : st'.take st.length = st2) : mFn NL n m as st = some (.ok (.val d), st2) := by
  unfold mFn
  rw [if_pos ⟨hl, hn⟩, h, bodyR_rt, cutR_val, ht]
theorem all_step {k f : Nat} (hk : k ≤ 2) (h : RcOk k (r_all_with f)) : RcOk (k + 1) (r_all_with (f + 1)) := by
  intro d hd st
  have L := fun x3 x4 => all_loop (k := k) (d := d) (by omega) hd h st (List.range (d + 1)) [] x3 x4 (fun i hi => by have := List.mem_range.mp hi; omega) (by rw [List.length_range, List.length_nil, sizeLine_eq]; omega)
  obtain ⟨y3, y4, e⟩ := L none none
  rw [List.nil_append, ← allW_turns] at e
  have r3 := fun st => range3 d hd st
  have e2 := ne1 k
  show mFn 5 2 (m_all_with (r_all_with f)) _ st = _
  generalize (List.range (d + 1)).map (fun i => D.int ((d : Int) + (i : Nat) * (-1))) = is at e r3
  generalize (allW (k + 1 + 1) d).map T = res at e ⊢
  generalize ((k + 1 + 1 : Nat) : Int) = kk at e e2 ⊢
  generalize ((d : Nat) : Int) = z at e r3 ⊢
  have hi := fun a r st => hit3 r3 a r st
  clear r3
  have e3 : mIfS (mT (mBin (fun a b => calm (opEqA a b)) (mVar 0) (mC (.int 1)))) (mRet (mLst (mCons (mTup (mCons (mVar 1) mNil)) mNil))) mNx [some (.val (.int kk)), some (.val (.int z)), none, none, none] st = some (.nx [some (.val (.int kk)), some (.val (.int z)), none, none, none], st) := by
    simp only [mIfS_eq, mT_eq, mBin_eq, bind_eq, mVar0, mC_eq, calm_eq, e2, asBool_eq, onE_ok, Bool.false_eq_true, if_false, mNx_eq]
  have e4 : mSet 2 (mObj mNil) [some (.val (.int kk)), some (.val (.int z)), none, none, none] st = some (.nx [some (.val (.int kk)), some (.val (.int z)), some (.obj st.length), none, none], st ++ [.lst []]) := by
    simp only [mSet_eq, mObj_eq, bind_eq, mNil_eq, mkObj0, onE_ok, List.set_cons_succ, List.set_cons_zero]
  have e5 : mFor (mArgI rangeOf3 (mCons (mVar 1) (mCons (mNeg (mC (.int 1))) (mCons (mNeg (mC (.int 1))) mNil)))) (gVar 3) (b1_all_with (r_all_with f)) [some (.val (.int kk)), some (.val (.int z)), some (.obj st.length), none, none] (st ++ [.lst []]) = some (.nx [some (.val (.int kk)), some (.val (.int z)), some (.obj st.length), y3, y4], st ++ [.lst res]) := by
    rw [mFor_eq, hi, onE_ok]
    exact e
  have e6 : mRet (mFrz (mVar 2)) [some (.val (.int kk)), some (.val (.int z)), some (.obj st.length), y3, y4] (st ++ [.lst res]) = some (.rt (.val (.lst res)), st ++ [.dead]) := by
    simp only [mRet_eq, mFrz_eq, bind_eq, mVarS, mVar0, freeze_at, onE_ok]
  exact fn_rt rfl rfl ((seq_nx e3).trans ((seq_nx e4).trans ((seq_nx e5).trans e6))) (st_take st _)
theorem lall_step {k f : Nat} (hk : k ≤ 2) (h : RcOk k (r__law_all f)) : RcOk (k + 1) (r__law_all (f + 1)) := by
  intro d hd st
  have L := fun x3 x4 => lall_loop (k := k) (d := d) (by omega) hd h st (List.range (d + 1)) [] x3 x4 (fun i hi => by have := List.mem_range.mp hi; omega) (by rw [List.length_range, List.length_nil, sizeLine_eq]; omega)
  obtain ⟨y3, y4, e⟩ := L none none
  rw [List.nil_append, ← allW_turns] at e
  have r3 := fun st => range3 d hd st
  have e2 := ne1 k
  show mFn 5 2 (m__law_all (r__law_all f)) _ st = _
  generalize (List.range (d + 1)).map (fun i => D.int ((d : Int) + (i : Nat) * (-1))) = is at e r3
  generalize (allW (k + 1 + 1) d).map T = res at e ⊢
  generalize ((k + 1 + 1 : Nat) : Int) = kk at e e2 ⊢
  generalize ((d : Nat) : Int) = z at e r3 ⊢
  have hi := fun a r st => hit3 r3 a r st
  clear r3
  have e3 : mIfS (mT (mBin (fun a b => calm (opEqA a b)) (mVar 0) (mC (.int 1)))) (mRet (mLst (mCons (mTup (mCons (mVar 1) mNil)) mNil))) mNx [some (.val (.int kk)), some (.val (.int z)), none, none, none] st = some (.nx [some (.val (.int kk)), some (.val (.int z)), none, none, none], st) := by
    simp only [mIfS_eq, mT_eq, mBin_eq, bind_eq, mVar0, mC_eq, calm_eq, e2, asBool_eq, onE_ok, Bool.false_eq_true, if_false, mNx_eq]
  have e4 : mSet 2 (mLst mNil) [some (.val (.int kk)), some (.val (.int z)), none, none, none] st = some (.nx [some (.val (.int kk)), some (.val (.int z)), some (.val (.lst [])), none, none], st) := by
    simp only [mSet_eq, mLst_eq, bind_eq, mNil_eq, mkLst0, onE_ok, List.set_cons_succ, List.set_cons_zero]
  have e5 : mFor (mArgI rangeOf3 (mCons (mVar 1) (mCons (mNeg (mC (.int 1))) (mCons (mNeg (mC (.int 1))) mNil)))) (gVar 3) (b1__law_all (r__law_all f)) [some (.val (.int kk)), some (.val (.int z)), some (.val (.lst [])), none, none] st = some (.nx [some (.val (.int kk)), some (.val (.int z)), some (.val (.lst res)), y3, y4], st) := by
    rw [mFor_eq, hi, onE_ok]
    exact e
  have e6 : mRet (mVar 2) [some (.val (.int kk)), some (.val (.int z)), some (.val (.lst res)), y3, y4] st = some (.rt (.val (.lst res)), st) := by
    simp only [mRet_eq, mVarS, mVar0, onE_ok]
  exact fn_rt rfl rfl ((seq_nx e3).trans ((seq_nx e4).trans ((seq_nx e5).trans e6))) (take_len st)
theorem all_base (f : Nat) : RcOk 0 (r_all_with (f + 1)) := by
  intro d hd st
  show mFn 5 2 (m_all_with (r_all_with f)) _ st = _
  simp [mFn, m_all_with, noExc, mkTup1, mkLst1, allW, T]
theorem lall_base (f : Nat) : RcOk 0 (r__law_all (f + 1)) := by
  intro d hd st
  show mFn 5 2 (m__law_all (r__law_all f)) _ st = _
  simp [mFn, m__law_all, noExc, mkTup1, mkLst1, allW, T]
theorem all_with_ok {n d : Nat} (h1 : 1 ≤ n) (h4 : n ≤ 4) (hd : d ≤ 5) (st : Sto) : g_all_with [.val (.int (n : Nat)), .val (.int (d : Nat))] st = some (.ok (.val (.lst ((allW n d).map T))), st) := by
  have a1 : RcOk 0 (r_all_with 4) := all_base 3
  have a2 : RcOk 1 (r_all_with 4) := all_step (by decide) (all_base 2)
  have a3 : RcOk 2 (r_all_with 4) := all_step (by decide) (all_step (by decide) (all_base 1))
  have a4 : RcOk 3 (r_all_with 4) := all_step (by decide) (all_step (by decide) (all_step (by decide) (all_base 0)))
  match n, h1, h4 with
  | 1, _, _ => exact a1 d hd st
  | 2, _, _ => exact a2 d hd st
  | 3, _, _ => exact a3 d hd st
  | 4, _, _ => exact a4 d hd st
theorem law_all_ok {n d : Nat} (h1 : 1 ≤ n) (h4 : n ≤ 4) (hd : d ≤ 5) (st : Sto) : g__law_all [.val (.int (n : Nat)), .val (.int (d : Nat))] st = some (.ok (.val (.lst ((allW n d).map T))), st) := by
  have a1 : RcOk 0 (r__law_all 4) := lall_base 3
  have a2 : RcOk 1 (r__law_all 4) := lall_step (by decide) (lall_base 2)
  have a3 : RcOk 2 (r__law_all 4) := lall_step (by decide) (lall_step (by decide) (lall_base 1))
  have a4 : RcOk 3 (r__law_all 4) := lall_step (by decide) (lall_step (by decide) (lall_step (by decide) (lall_base 0)))
  match n, h1, h4 with
  | 1, _, _ => exact a1 d hd st
  | 2, _, _ => exact a2 d hd st
  | 3, _, _ => exact a3 d hd st
  | 4, _, _ => exact a4 d hd st
theorem with_ok {n d : Nat} (h1 : 1 ≤ n) (h4 : n ≤ 4) (hd : d ≤ 5) (st : Sto) : g_with_degree [.val (.int (n : Nat)), .val (.int (d : Nat))] st = some (.ok (.val (.tup ((allW n d).map T))), st) := by
  have ir : inR 0 12 (.int (d : Nat)) = true := by
    simp only [inR]
    rw [decide_eq_true (by omega), decide_eq_true (by omega)]; rfl
  have dr := fun st => in_range_ok (d := .int (d : Nat)) rfl 0 12 st
  rw [ir] at dr
  have dc := dc_ok h1 h4
  have e := fun st => all_with_ok h1 h4 hd st
  generalize (allW n d).map T = res at e ⊢
  generalize (d : Int) = z at e dr ⊢
  simp [g_with_degree, mFn, m_with_degree, noExc, dc, dr, e]
theorem with_no {n : Nat} {d : D} (h1 : 1 ≤ n) (h4 : n ≤ 4) (hg : noG d = true) (hd : inR 0 12 d = false) (st : Sto) : g_with_degree [.val (.int (n : Nat)), .val d] st = ARG "degree" st := by
  have dr := fun st => in_range_ok (d := d) hg 0 12 st
  rw [hd] at dr
  simp [g_with_degree, mFn, m_with_degree, noExc, dc_ok h1 h4, dr, mRaise, ARG]
end K30
end

section
set_option Elab.async false
set_option linter.all false
set_option maxRecDepth 100000
set_option maxHeartbeats 1000000
namespace K30
open PySem PySem.Spec PyProof.Rows L2 DL
/-! ### what the law is told -/
def argD (r : Str) : D := .tup [.str "argument", .str r]
theorem sub_aa : sub "ArgumentError" "ArgumentError" = some true := by decide +kernel
theorem sub_ai : sub "ArgumentError" "IdealError" = some true := by decide +kernel
/-- a value, or the error of an argument -/
def Told (res : Option (R Va × Sto)) (st : Sto) (d : D) : Prop := res = some (.ok (.val d), st) ∨ ∃ r, res = ARG r st ∧ d = argD r
theorem Told.ok {res : Option (R Va × Sto)} {st : Sto} {d : D} (h : res = some (.ok (.val d), st)) : Told res st d := .inl h
theorem Told.no {res : Option (R Va × Sto)} {st : Sto} {r : Str} (h : res = ARG r st) : Told res st (argD r) := .inr ⟨r, h, rfl⟩
def toldB : En → MS :=
  (mSeq (mIfS (mT (mBin (fun a b => calm (opLt a b)) (mVar 0) (mC (.int 4)))) (mSeq (mSet 5 (mLst (mCons (mC (.glo "times")) (mCons (mC (.glo "over")) (mCons (mC (.glo "least_multiple")) (mCons (mC (.glo "greatest_shared")) mNil)))))) (mRet (mCallV [("times", g_times), ("over", g_over), ("least_multiple", g_least_multiple), ("greatest_shared", g_greatest_shared)] (mBin (fun a b => calm (opIx a b)) (mVar 5) (mVar 0)) (mCons (mVar 1) (mCons (mVar 2) (mCons (mVar 3) mNil)))))) mNx) (mSeq (mIfS (mT (mBin (fun a b => calm (opLt a b)) (mVar 0) (mC (.int 8)))) (mRet (mIf (mT (mBin (fun a b => calm (opEqA a b)) (mVar 0) (mC (.int 4)))) (mCall g_compare (mCons (mVar 1) (mCons (mVar 2) (mCons (mVar 3) (mCons (mVar 4) mNil))))) (mIf (mT (mBin (fun a b => calm (opEqA a b)) (mVar 0) (mC (.int 5)))) (mCall g_tells_apart (mCons (mVar 1) (mCons (mVar 2) (mCons (mVar 3) (mCons (mVar 4) mNil))))) (mIf (mT (mBin (fun a b => calm (opEqA a b)) (mVar 0) (mC (.int 6)))) (mCall g_in_order (mCons (mVar 1) (mCons (mVar 2) (mCons (mVar 3) mNil)))) (mCall g_leaves_out (mCons (mVar 1) (mCons (mVar 2) (mCons (mVar 3) mNil)))))))) mNx) (mRet (mIf (mT (mBin (fun a b => calm (opEqA a b)) (mVar 0) (mC (.int 8)))) (mCall g_is_by_degree (mCons (mVar 1) (mCons (mVar 2) mNil))) (mCall g_with_degree (mCons (mVar 1) (mCons (mVar 2) mNil)))))))
def toldH : List Hd := [("ArgumentError", some 6, (mRet (mIf (mT (mIsE sub "IdealError" (mVar 6))) (mTup (mCons (mC (.str "argument")) (mCons (mFld ["ArgumentError"] "reason" (mVar 6)) mNil))) (mC (.str "")))))]
theorem told_tb : m__law_told = mTry sub toldB toldH := rfl
theorem try_rt {ρ : En} {v : Va} {st st' : Sto} (h : toldB ρ st = some (.rt v, st')) : m__law_told ρ st = some (.rt v, st') := by
  rw [told_tb]
  unfold mTry
  rw [h]
theorem seven {l : En} (h : l.length = 7) (x : Option Va) : ∃ b0 b1 b2 b3 b4 b5, l.set 6 x = [b0, b1, b2, b3, b4, b5, x] := by
  match l, h with
  | [b0, b1, b2, b3, b4, b5, b6], _ => exact ⟨b0, b1, b2, b3, b4, b5, rfl⟩
theorem try_arg {ρ : En} {a0 a1 a2 a3 a4 a5 a6 : Option Va} {r : Str} {st st' : Sto} (h : toldB ρ st = some (.ex [a0, a1, a2, a3, a4, a5, a6] "ArgumentError" [("reason", .str r)], st')) : m__law_told ρ st = some (.rt (.val (argD r)), st') := by
  rw [told_tb]
  unfold mTry
  rw [h]
  simp only [handle, toldH, sub_aa]
  have e : ∃ b0 b1 b2 b3 b4 b5, (noX [a0, a1, a2, a3, a4, a5, a6]).set 6 (some (.exc "ArgumentError" [("reason", .str r)])) = [b0, b1, b2, b3, b4, b5, some (.exc "ArgumentError" [("reason", .str r)])] := seven (by rw [noX_length]; rfl) _
  obtain ⟨b0, b1, b2, b3, b4, b5, e⟩ := e
  rw [e]
  simp [mIsE, isEa, sub_ai, mFld, fldOf, List.lookup, suiteR, mkTup2, argD]
theorem told_of {a0 a1 a2 a3 a4 : D} {x5 : Option Va} {res : Option (R Va × Sto)} {st : Sto} {d : D} (h : Told res st d) (e : toldB [some (.val a0), some (.val a1), some (.val a2), some (.val a3), some (.val a4), none, none] st = onE res [some (.val a0), some (.val a1), some (.val a2), some (.val a3), some (.val a4), x5, none] fun a st' => some (.rt a, st')) :
    g__law_told [.val a0, .val a1, .val a2, .val a3, .val a4] st = some (.ok (.val d), st) := by
  rcases h with rfl | ⟨r, rfl, rfl⟩
  · exact fn_rt rfl rfl (try_rt e) (take_len st)
  · exact fn_rt rfl rfl (try_arg e) (take_len st)
section
variable {c x y z d : D} {st : Sto}
def glos : D := .lst [.glo "times", .glo "over", .glo "least_multiple", .glo "greatest_shared"]
theorem mkGlos (st : Sto) : mkLst [.val (.glo "times"), .val (.glo "over"), .val (.glo "least_multiple"), .val (.glo "greatest_shared")] st = some (.ok (.val glos), st) := mkLst_val _ _ st rfl (show 4 ≤ sizeLine by rw [sizeLine_eq]; decide)
theorem told_lt {k : Int} (hk : k < 4) {n : Str} {g : List Va → M Va} (hi : ∀ st, opIx (.val glos) (.val (.int k)) st = some (.ok (.val (.glo n)), st)) (hg : ([("times", g_times), ("over", g_over), ("least_multiple", g_least_multiple), ("greatest_shared", g_greatest_shared)] : List (Str × (List Va → M Va))).lookup n = some g) (h : Told (g [.val c, .val x, .val y] st) st d) :
    g__law_told [.val (.int k), .val c, .val x, .val y, .val z] st = some (.ok (.val d), st) := by
  refine told_of (x5 := some (.val glos)) h ?_
  unfold toldB
  have e1 : mIfS (mT (mBin (fun a b => calm (opLt a b)) (mVar 0) (mC (.int 4)))) (mSeq (mSet 5 (mLst (mCons (mC (.glo "times")) (mCons (mC (.glo "over")) (mCons (mC (.glo "least_multiple")) (mCons (mC (.glo "greatest_shared")) mNil)))))) (mRet (mCallV [("times", g_times), ("over", g_over), ("least_multiple", g_least_multiple), ("greatest_shared", g_greatest_shared)] (mBin (fun a b => calm (opIx a b)) (mVar 5) (mVar 0)) (mCons (mVar 1) (mCons (mVar 2) (mCons (mVar 3) mNil)))))) mNx [some (.val (.int k)), some (.val c), some (.val x), some (.val y), some (.val z), none, none] st
      = onE (g [.val c, .val x, .val y] st) [some (.val (.int k)), some (.val c), some (.val x), some (.val y), some (.val z), some (.val glos), none] fun a st' => some (.rt a, st') := by
    simp [hk, mkGlos, mCallV, hi, callV, hg]
  rw [mSeq_eq, e1]
  rcases h with h | ⟨r, h, rfl⟩ <;> rw [h] <;> rfl
theorem told0 (h : Told (g_times [.val c, .val x, .val y] st) st d) : g__law_told [.val (.int 0), .val c, .val x, .val y, .val z] st = some (.ok (.val d), st) := told_lt (by decide) (n := "times") (fun st => rfl) rfl h
theorem told1 (h : Told (g_over [.val c, .val x, .val y] st) st d) : g__law_told [.val (.int 1), .val c, .val x, .val y, .val z] st = some (.ok (.val d), st) := told_lt (by decide) (n := "over") (fun st => rfl) rfl h
theorem told2 (h : Told (g_least_multiple [.val c, .val x, .val y] st) st d) : g__law_told [.val (.int 2), .val c, .val x, .val y, .val z] st = some (.ok (.val d), st) := told_lt (by decide) (n := "least_multiple") (fun st => rfl) rfl h
theorem told3 (h : Told (g_greatest_shared [.val c, .val x, .val y] st) st d) : g__law_told [.val (.int 3), .val c, .val x, .val y, .val z] st = some (.ok (.val d), st) := told_lt (by decide) (n := "greatest_shared") (fun st => rfl) rfl h
theorem told4 (h : Told (g_compare [.val c, .val x, .val y, .val z] st) st d) : g__law_told [.val (.int 4), .val c, .val x, .val y, .val z] st = some (.ok (.val d), st) := by
  refine told_of (x5 := none) h ?_
  unfold toldB
  rcases h with h | ⟨r, h, rfl⟩ <;> simp [h, ARG]
theorem told5 (h : Told (g_tells_apart [.val c, .val x, .val y, .val z] st) st d) : g__law_told [.val (.int 5), .val c, .val x, .val y, .val z] st = some (.ok (.val d), st) := by
  refine told_of (x5 := none) h ?_
  unfold toldB
  rcases h with h | ⟨r, h, rfl⟩ <;> simp [h, ARG]
theorem told6 (h : Told (g_in_order [.val c, .val x, .val y] st) st d) : g__law_told [.val (.int 6), .val c, .val x, .val y, .val z] st = some (.ok (.val d), st) := by
  refine told_of (x5 := none) h ?_
  unfold toldB
  rcases h with h | ⟨r, h, rfl⟩ <;> simp [h, ARG]
theorem told7 (h : Told (g_leaves_out [.val c, .val x, .val y] st) st d) : g__law_told [.val (.int 7), .val c, .val x, .val y, .val z] st = some (.ok (.val d), st) := by
  refine told_of (x5 := none) h ?_
  unfold toldB
  rcases h with h | ⟨r, h, rfl⟩ <;> simp [h, ARG]
theorem told8 (h : Told (g_is_by_degree [.val c, .val x] st) st d) : g__law_told [.val (.int 8), .val c, .val x, .val y, .val z] st = some (.ok (.val d), st) := by
  refine told_of (x5 := none) h ?_
  unfold toldB
  rcases h with h | ⟨r, h, rfl⟩ <;> simp [h, ARG]
theorem told9 (h : Told (g_with_degree [.val c, .val x] st) st d) : g__law_told [.val (.int 9), .val c, .val x, .val y, .val z] st = some (.ok (.val d), st) := by
  refine told_of (x5 := none) h ?_
  unfold toldB
  rcases h with h | ⟨r, h, rfl⟩ <;> simp [h, ARG]
end
end K30
end

section
set_option Elab.async false
set_option linter.all false
set_option maxRecDepth 100000
set_option maxHeartbeats 1000000
namespace K30
open PySem PySem.Spec PyProof.Rows L2 DL
section
variable {n : Nat} {o : Or} {xs ys : List Int} {st : Sto} {d e x y z : D}
/-! ### a wrong count -/
theorem compare_c (hg : noG d = true) (hc : inR 1 4 d = false) (st : Sto) : g_compare [.val d, .val x, .val y, .val z] st = ARG "count" st := by
  have e := fun st => demand_count_no hg hc st
  simp only [ARG] at e ⊢
  simp [g_compare, mFn, m_compare, noExc, e]
theorem tells_c (hg : noG d = true) (hc : inR 1 4 d = false) (st : Sto) : g_tells_apart [.val d, .val x, .val y, .val z] st = ARG "count" st := by
  have e := fun st => demand_count_no hg hc st
  simp only [ARG] at e ⊢
  simp [g_tells_apart, mFn, m_tells_apart, noExc, e]
theorem in_order_c (hg : noG d = true) (hc : inR 1 4 d = false) (st : Sto) : g_in_order [.val d, .val x, .val y] st = ARG "count" st := by
  have e := fun st => demand_count_no hg hc st
  simp only [ARG] at e ⊢
  simp [g_in_order, mFn, m_in_order, noExc, e]
theorem leaves_c (hg : noG d = true) (hc : inR 1 4 d = false) (st : Sto) : g_leaves_out [.val d, .val x, .val y] st = ARG "count" st := by
  have e := fun st => demand_count_no hg hc st
  simp only [ARG] at e ⊢
  simp [g_leaves_out, mFn, m_leaves_out, noExc, e]
theorem by_c (hg : noG d = true) (hc : inR 1 4 d = false) (st : Sto) : g_is_by_degree [.val d, .val x] st = ARG "count" st := by
  have e := fun st => demand_count_no hg hc st
  simp only [ARG] at e ⊢
  simp [g_is_by_degree, mFn, m_is_by_degree, noExc, e]
theorem with_c (hg : noG d = true) (hc : inR 1 4 d = false) (st : Sto) : g_with_degree [.val d, .val x] st = ARG "count" st := by
  have e := fun st => demand_count_no hg hc st
  simp only [ARG] at e ⊢
  simp [g_with_degree, mFn, m_with_degree, noExc, e]
/-! ### a wrong order -/
def NoOr (n : Nat) (d : D) : Prop := ∀ st, g_is_order [.val (.int (n : Nat)), .val d] st = some (.ok (.val (.bl false)), st)
theorem compare_o (h1 : 1 ≤ n) (h4 : n ≤ 4) (h : NoOr n d) (st : Sto) : g_compare [.val (.int (n : Nat)), .val d, .val y, .val z] st = ARG "order" st := by
  have e := fun st => demand_order_no h st
  simp only [ARG] at e ⊢
  simp [g_compare, mFn, m_compare, noExc, dc_ok h1 h4, e]
theorem tells_o (h1 : 1 ≤ n) (h4 : n ≤ 4) (h : NoOr n d) (st : Sto) : g_tells_apart [.val (.int (n : Nat)), .val d, .val y, .val z] st = ARG "order" st := by
  have e := fun st => demand_order_no h st
  simp only [ARG] at e ⊢
  simp [g_tells_apart, mFn, m_tells_apart, noExc, dc_ok h1 h4, e]
theorem in_order_o (h1 : 1 ≤ n) (h4 : n ≤ 4) (h : NoOr n d) (st : Sto) : g_in_order [.val (.int (n : Nat)), .val d, .val y] st = ARG "order" st := by
  have e := fun st => demand_order_no h st
  simp only [ARG] at e ⊢
  simp [g_in_order, mFn, m_in_order, noExc, dc_ok h1 h4, e]
theorem leaves_o (h1 : 1 ≤ n) (h4 : n ≤ 4) (h : NoOr n d) (st : Sto) : g_leaves_out [.val (.int (n : Nat)), .val d, .val y] st = ARG "order" st := by
  have e := fun st => demand_order_no h st
  simp only [ARG] at e ⊢
  simp [g_leaves_out, mFn, m_leaves_out, noExc, dc_ok h1 h4, e]
theorem by_o (h1 : 1 ≤ n) (h4 : n ≤ 4) (h : NoOr n d) (st : Sto) : g_is_by_degree [.val (.int (n : Nat)), .val d] st = ARG "order" st := by
  have e := fun st => demand_order_no h st
  simp only [ARG] at e ⊢
  simp [g_is_by_degree, mFn, m_is_by_degree, noExc, dc_ok h1 h4, e]
/-! ### wrong powers -/
theorem dp_no (h1 : 1 ≤ n) (h4 : n ≤ 4) (ha : Arg d) (hp : isPow (n : Nat) d = false) (r : Str) (st : Sto) : g_demand_powers [.val (.int (n : Nat)), .val d, .val (.str r)] st = ARG r st := demand_powers_no (r := r) (inR_n h1 h4) ha.g ha.l hp st
theorem compare_1 (h1 : 1 ≤ n) (h4 : n ≤ 4) (ho : o.Ok n) (ha : Arg d) (hp : isPow (n : Nat) d = false) (st : Sto) : g_compare [.val (.int (n : Nat)), .val o.dat, .val d, .val z] st = ARG "one" st := by
  have e := fun r st => dp_no h1 h4 ha hp r st
  simp only [ARG] at e ⊢
  simp [g_compare, mFn, m_compare, noExc, dc_ok h1 h4, do_ok h4 ho, e]
theorem tells_1 (h1 : 1 ≤ n) (h4 : n ≤ 4) (ho : o.Ok n) (ha : Arg d) (hp : isPow (n : Nat) d = false) (st : Sto) : g_tells_apart [.val (.int (n : Nat)), .val o.dat, .val d, .val z] st = ARG "one" st := by
  have e := fun r st => dp_no h1 h4 ha hp r st
  simp only [ARG] at e ⊢
  simp [g_tells_apart, mFn, m_tells_apart, noExc, dc_ok h1 h4, do_ok h4 ho, e]
theorem compare_2 (h1 : 1 ≤ n) (h4 : n ≤ 4) (ho : o.Ok n) (hx : Pw (n : Nat) xs) (ha : Arg d) (hp : isPow (n : Nat) d = false) (st : Sto) : g_compare [.val (.int (n : Nat)), .val o.dat, .val (T xs), .val d] st = ARG "other" st := by
  have e := fun r st => dp_no h1 h4 ha hp r st
  simp only [ARG] at e ⊢
  simp [g_compare, mFn, m_compare, noExc, dc_ok h1 h4, do_ok h4 ho, dp_ok h1 h4 hx, e]
theorem tells_2 (h1 : 1 ≤ n) (h4 : n ≤ 4) (ho : o.Ok n) (hx : Pw (n : Nat) xs) (ha : Arg d) (hp : isPow (n : Nat) d = false) (st : Sto) : g_tells_apart [.val (.int (n : Nat)), .val o.dat, .val (T xs), .val d] st = ARG "other" st := by
  have e := fun r st => dp_no h1 h4 ha hp r st
  simp only [ARG] at e ⊢
  simp [g_tells_apart, mFn, m_tells_apart, noExc, dc_ok h1 h4, do_ok h4 ho, dp_ok h1 h4 hx, e]
end
end K30
end

section
set_option Elab.async false
set_option linter.all false
set_option maxRecDepth 100000
set_option maxHeartbeats 1000000
namespace K30
open PySem PySem.Spec PyProof.Rows L2 DL
/-! ### what the law reckons itself -/
theorem sh_L (xs : List Int) : shD (.lst (xs.map .int)) = true := by
  have h : ∀ ys : List Int, okDs (ys.map .int) = true ∧ depDs (ys.map .int) = 0 := by
    intro ys
    induction ys with
    | nil => exact ⟨rfl, rfl⟩
    | cons y r ih => exact ⟨by simp only [List.map_cons, okDs, okD, ih.1, Bool.and_self], by simp only [List.map_cons, depDs, depD, ih.2]; rfl⟩
  obtain ⟨a, b⟩ := h xs
  simp only [shD, okD, a, Bool.true_and, depD, b]
  decide
theorem eqA_nil {ds : List D} (h : shD (.lst ds) = true) (st : Sto) : opEqA (.val (.lst ds)) (.val (.lst [])) st = some (.ok (.val (.bl ds.isEmpty)), st) := by
  show (if shD (.lst ds) = true ∧ shD (.lst []) = true then some (R.ok (Va.val (D.bl (PyData.eqv (py (.lst ds)) (py (.lst []))))), st) else none) = _
  rw [if_pos ⟨h, by decide⟩]
  cases ds <;> simp [py, pys, PyData.eqv, PyData.eqvAll]
theorem neA_nil {ds : List D} (h : shD (.lst ds) = true) (st : Sto) : opNeA (.val (.lst ds)) (.val (.lst [])) st = some (.ok (.val (.bl (!ds.isEmpty))), st) := by
  show (if shD (.lst ds) = true ∧ shD (.lst []) = true then some (R.ok (Va.val (D.bl (!PyData.eqv (py (.lst ds)) (py (.lst []))))), st) else none) = _
  rw [if_pos ⟨h, by decide⟩]
  cases ds <;> simp [py, pys, PyData.eqv, PyData.eqvAll]
theorem eqA_nilI (xs : List Int) (st : Sto) : opEqA (.val (.lst (xs.map .int))) (.val (.lst [])) st = some (.ok (.val (.bl xs.isEmpty)), st) := by
  rw [eqA_nil (sh_L xs)]
  cases xs <;> rfl
theorem neA_nilI (xs : List Int) (st : Sto) : opNeA (.val (.lst (xs.map .int))) (.val (.lst [])) st = some (.ok (.val (.bl (!xs.isEmpty))), st) := by
  rw [neA_nil (sh_L xs)]
  cases xs <;> rfl
section
variable {n : Nat} {o : Or} {xs ys : List Int} {st : Sto} {d e x y z : D}
/-! ### _law_divides -/
def overs (xs ys : List Int) : List Int := ((List.range xs.length).filter fun k => decide (ys.getD k 0 < xs.getD k 0)).map fun k => ((k : Nat) : Int)
theorem overs_dvd (h : xs.length = ys.length) : (overs xs ys).isEmpty = dvd xs ys := by
  rw [Bool.eq_iff_iff]
  unfold overs dvd
  rw [List.isEmpty_iff, List.map_eq_nil_iff, List.filter_eq_nil_iff, List.all_eq_true]
  constructor
  · intro hh p hp
    obtain ⟨k, hk, rfl⟩ := List.getElem_of_mem hp
    rw [List.length_zip] at hk
    have := hh k (List.mem_range.mpr (by omega))
    have hx : k < xs.length := by omega
    have hy : k < ys.length := by omega
    rw [List.getElem_zip]
    simp only [List.getD_eq_getElem?_getD, List.getElem?_eq_getElem hx, List.getElem?_eq_getElem hy, Option.getD_some, decide_eq_true_eq] at this ⊢
    omega
  · intro hh k hk
    have hx := List.mem_range.mp hk
    have hy : k < ys.length := by omega
    have hz : k < (xs.zip ys).length := by rw [List.length_zip]; omega
    have := hh (xs.zip ys)[k] (List.getElem_mem hz)
    rw [List.getElem_zip] at this
    simp only [List.getD_eq_getElem?_getD, List.getElem?_eq_getElem hx, List.getElem?_eq_getElem hy, Option.getD_some, decide_eq_true_eq] at this ⊢
    omega
theorem hit_len (hs : small xs) (b c : Option Va) (st : Sto) : mArgI rangeOf1 (mCons (mBlt bLen (mCons (mVar 0) mNil)) mNil) [some (.val (T xs)), b, c] st = some (.ok ((List.range xs.length).map fun k => .int ((k : Nat) : Int)), st) := by
  have hl : xs.length ≤ 1000 := hs
  have r := range_nat xs.length (by omega) st
  have el : bLen [.val (T xs)] st = some (.ok (.val (.int (xs.length : Nat))), st) := by
    have := bLen_tup (xs.map D.int) st
    rw [List.length_map] at this
    exact this
  generalize (xs.length : Int) = q at r el
  refine (bind_of (a := [.val (.int q)]) (st' := st) ?_).trans r
  simp only [mCons_eq, mBlt_eq, bind_eq, mVar0, mNil_eq, pure_eq, calm_eq, el]
theorem divs_t (h : xs.length = ys.length) {k : Nat} (hx : k < xs.length) (c : Option Va) (st : Sto) : mT (mBin (fun a b => calm (opGt a b)) (mBin (fun a b => calm (opIx a b)) (mVar 0) (mVar 2)) (mBin (fun a b => calm (opIx a b)) (mVar 1) (mVar 2))) ([some (.val (T xs)), some (.val (T ys)), none].set 2 (some (.val (.int (k : Nat))))) st = some (.ok (decide (ys.getD k 0 < xs.getD k 0)), st) := by
  have e1 := fun st => ix_T (xs := xs) (k := k) hx st
  have e2 := fun st => ix_T (xs := ys) (k := k) (by omega) st
  generalize xs.getD k 0 = z at e1 ⊢
  generalize ys.getD k 0 = w at e2 ⊢
  generalize (k : Int) = q at e1 e2 ⊢
  simp [e1, e2]
theorem c1_divs_ok (h : xs.length = ys.length) (hs : small xs) (x2 : Option Va) (st : Sto) : c1__law_divides [some (.val (T xs)), some (.val (T ys)), x2] st = some (.ok (.val (.lst ((overs xs ys).map .int))), st) := by
  have e : c1__law_divides [some (.val (T xs)), some (.val (T ys)), x2] st = some (.ok (.val (.lst (((List.range xs.length).filter fun k => decide (ys.getD k 0 < xs.getD k 0)).map fun k => .int ((k : Nat) : Int)))), st) := by
    have hl : xs.length ≤ 1000 := hs
    refine lc_filter (it := mArgI rangeOf1 (mCons (mBlt bLen (mCons (mVar 0) mNil)) mNil)) (g := gVar 2) (mt := mT (mBin (fun a b => calm (opGt a b)) (mBin (fun a b => calm (opIx a b)) (mVar 0) (mVar 2)) (mBin (fun a b => calm (opIx a b)) (mVar 1) (mVar 2)))) (me := mVar 2) (vs := [2])
      (ρ := [some (.val (T xs)), some (.val (T ys)), x2]) st (List.range xs.length) (fun k => .int ((k : Nat) : Int)) (fun k => decide (ys.getD k 0 < xs.getD k 0)) (fun k => .int ((k : Nat) : Int)) ?_ (by rw [List.length_range, sizeLine_eq]; omega) fun k hk => ⟨_, rfl, fun ac => ⟨?_, fun _ => ?_⟩⟩
    · exact hit_len hs _ _ st
    · exact divs_t h (List.mem_range.mp hk) none _
    · simp [wipeE]
  rw [e]
  unfold overs
  rw [List.map_map]
  rfl
theorem law_divides_ok (h : xs.length = ys.length) (hs : small xs) (st : Sto) : g__law_divides [.val (T xs), .val (T ys)] st = some (.ok (.val (.bl (dvd xs ys))), st) := by
  have e := fun x2 st => c1_divs_ok h hs x2 st
  have e2 := fun st => eqA_nilI (overs xs ys) st
  rw [overs_dvd h] at e2
  generalize overs xs ys = os at e e2
  exact fn_rt rfl rfl (ret_of (op_of (e _ st) (lst_of nil_of (mkLst0 st)) (e2 st))) (take_len st)
/-! ### _law_key -/
theorem b62_nat {m : Nat} (h : m ≤ 5) : B62 (m : Int) := ⟨Int.le_trans (by decide : -(2 ^ 62 : Int) ≤ 0) (Int.natCast_nonneg m), Int.lt_of_le_of_lt (Int.ofNat_le.mpr h) (by decide)⟩
theorem b62_0 : B62 0 := by decide
theorem range3_if (st : Sto) (i j c : Int) : rangeOf3 [.val (.int i), .val (.int j), .val (.int c)] st = (if B62 i ∧ B62 j ∧ c = -1 then M.pure (intsC i (-1) (i - j).toNat) else stuck) st := rfl
theorem range_if {m : Nat} (hb : B62 (m : Int)) (hc : B62 0) (st : Sto) : (if B62 (m : Int) ∧ B62 0 ∧ (-1 : Int) = -1 then M.pure (intsC (m : Int) (-1) ((m : Int) - 0).toNat) else stuck) st = some (.ok ((List.range m).map fun i => D.int ((m : Int) + (i : Nat) * (-1))), st) := by
  rw [if_pos ⟨hb, hc, rfl⟩]
  have e : ((m : Int) - 0).toNat = m := by omega
  rw [e]
  rfl
theorem range_down {m : Nat} (h : m ≤ 5) (st : Sto) : rangeOf3 [.val (.int (m : Nat)), .val (.int 0), .val (.int (-1))] st = some (.ok ((List.range m).map fun i => D.int ((m : Int) + (i : Nat) * (-1))), st) := (range3_if st _ _ _).trans (range_if (b62_nat h) b62_0 st)
theorem hit_down {p : List Int} {q : Int} {ds : List D} (r : ∀ st, rangeOf3 [.val (.int q), .val (.int 0), .val (.int (-1))] st = some (.ok ds, st)) (e1 : ((p.length : Nat) : Int) - 1 = q) (a : Option Va) (rr : En) (st : Sto) : mArgI rangeOf3 (mCons (mBin (fun a b => calm (opSub a b)) (mBlt bLen (mCons (mVar 1) mNil)) (mC (.int 1))) (mCons (mC (.int 0)) (mCons (mNeg (mC (.int 1))) mNil))) (a :: some (.val (T p)) :: rr) st = some (.ok ds, st) := by
  have el : bLen [.val (T p)] st = some (.ok (.val (.int (p.length : Nat))), st) := by
    have := bLen_tup (p.map D.int) st
    rw [List.length_map] at this
    exact this
  refine (bind_of (a := [.val (.int q), .val (.int 0), .val (.int (-1))]) (st' := st) ?_).trans (r st)
  simp only [mCons_eq, mBin_eq, mBlt_eq, bind_eq, mVarS, mVar0, mNil_eq, pure_eq, calm_eq, el, mC_eq, subA_int, e1, mNeg_eq, negV_int]
theorem back_list {p : List Int} (h1 : 1 ≤ p.length) (h4 : p.length ≤ 4) : ((List.range (p.length - 1)).map fun i => 0 - p.getD (p.length - 1 - i) 0) = (p.reverse.take (p.length - 1)).map fun x => 0 - x := by
  match p, h1, h4 with
  | [a], _, _ => rfl
  | [a, b], _, _ => rfl
  | [a, b, c], _, _ => rfl
  | [a, b, c, d], _, _ => rfl
theorem c1_lkey_ok {p : List Int} (h1 : 1 ≤ p.length) (h4 : p.length ≤ 4) (a x2 x3 x4 x5 : Option Va) (st : Sto) : c1__law_key [a, some (.val (T p)), x2, x3, x4, x5] st = some (.ok (.val (.lst (((p.reverse.take (p.length - 1)).map fun x => 0 - x).map .int))), st) := by
  rw [← back_list h1 h4]
  have e : c1__law_key [a, some (.val (T p)), x2, x3, x4, x5] st = some (.ok (.val (.lst ((List.range (p.length - 1)).map fun i => .int (0 - p.getD (p.length - 1 - i) 0)))), st) := by
    refine lc_map (it := mArgI rangeOf3 (mCons (mBin (fun a b => calm (opSub a b)) (mBlt bLen (mCons (mVar 1) mNil)) (mC (.int 1))) (mCons (mC (.int 0)) (mCons (mNeg (mC (.int 1))) mNil)))) (g := gVar 2) (me := mBin (fun a b => calm (opSub a b)) (mC (.int 0)) (mBin (fun a b => calm (opIx a b)) (mVar 1) (mVar 2))) (vs := [2])
      (ρ := [a, some (.val (T p)), x2, x3, x4, x5]) st (List.range (p.length - 1)) (fun i => D.int (((p.length - 1 : Nat) : Int) + (i : Nat) * (-1))) (fun i => .int (0 - p.getD (p.length - 1 - i) 0)) ?_ (by rw [List.length_range, sizeLine_eq]; omega) fun i hi => ⟨_, rfl, fun ac => ?_⟩
    · exact hit_down (fun st => range_down (m := p.length - 1) (by omega) st) (by omega) _ _ st
    · have hx := List.mem_range.mp hi
      have e2 : ((p.length - 1 : Nat) : Int) + (i : Nat) * (-1) = ((p.length - 1 - i : Nat) : Int) := by omega
      have e1 := fun st => ix_T (xs := p) (k := p.length - 1 - i) (by omega) st
      rw [e2]
      generalize p.getD (p.length - 1 - i) 0 = z at e1 ⊢
      generalize ((p.length - 1 - i : Nat) : Int) = w at e1 ⊢
      simp [wipeE, e1]
  rw [e, List.map_map]
  rfl
theorem c2_lkey_ok {r p : List Int} (h : small r) (hp : ∀ x ∈ p, 0 ≤ x ∧ x ≤ 30) (a x2 x3 x4 : Option Va) (st : Sto) : c2__law_key [a, some (.val (T p)), x2, x3, x4, some (.val (T r))] st = some (.ok (.val (.lst (((r.zip p).map fun q => q.1 * q.2).map .int))), st) := by
  have e : c2__law_key [a, some (.val (T p)), x2, x3, x4, some (.val (T r))] st = some (.ok (.val (.lst ((r.zip p).map fun q => D.int (q.1 * q.2)))), st) := by
    refine lc_map st (r.zip p) (fun p => D.tup [.int p.1, .int p.2]) (fun q => D.int (q.1 * q.2)) ?_ (small_zip h) fun q hq => ⟨_, rfl, fun ac => ?_⟩
    · simp only [mArgI_eq, mCons_eq, bind_eq, mVarS, mVar0, mNil_eq, pure_eq, zip_T]
    · have hq2 := hp q.2 (List.of_mem_zip hq).2
      have := mulA_int q.1 q.2 (st ++ [.lst ac]) (smallF_r _ _ ⟨by omega, by omega⟩)
      simp [wipeE, this]
  rw [e, List.map_map]; rfl
theorem c3_lkey_ok {rs : List (List Int)} {p : List Int} (h : ∀ r ∈ rs, small r) (hl : rs.length ≤ 3) (hp : ∀ x ∈ p, 0 ≤ x ∧ x ≤ 30) (x2 x3 x4 x5 : Option Va) (st : Sto) : c3__law_key [some (.val (.tup (rs.map T))), some (.val (T p)), x2, x3, x4, x5] st = some (.ok (.val (.lst ((rs.map fun r => ((r.zip p).map fun q => q.1 * q.2).sum).map .int))), st) := by
  have e : c3__law_key [some (.val (.tup (rs.map T))), some (.val (T p)), x2, x3, x4, x5] st = some (.ok (.val (.lst (rs.map fun r => D.int ((r.zip p).map fun q => q.1 * q.2).sum))), st) := by
    refine lc_map (it := mSeqI (mVar 0)) (g := gVar 5) (me := mBlt bSum2 (mCons c2__law_key mNil)) (vs := [5]) (ρ := [some (.val (.tup (rs.map T))), some (.val (T p)), x2, x3, x4, x5]) st rs T (fun r => D.int (((r.zip p).map fun q => q.1 * q.2).sum)) ?_ ?_ fun r hr => ⟨_, rfl, fun ac => ?_⟩
    · simp only [mSeqI_eq, bind_eq, mVar0, seqOf_tup]
    · rw [sizeLine_eq]; omega
    have e2 := fun a x2 x3 x4 st => c2_lkey_ok (r := r) (p := p) (h r hr) hp a x2 x3 x4 st
    generalize (r.zip p).map (fun q => q.1 * q.2) = qs at e2
    simp [wipeE, e2]
  rw [e, List.map_map]; rfl
theorem lkey_plain {p : List Int} : g__law_key [.val (.str "plain"), .val (T p)] st = some (.ok (.val (T (keyOf .plain p))), st) := by
  simp [g__law_key, mFn, m__law_key, noExc, keyOf]
theorem lkey_degree {p : List Int} (h : small p) : g__law_key [.val (.str "degree"), .val (T p)] st = some (.ok (.val (T (keyOf .degree p))), st) := by
  simp [g__law_key, mFn, m__law_key, noExc, keyOf, s_dp, sum_T, mkTup1, cat1 h]
theorem lkey_back {p : List Int} (h1 : 1 ≤ p.length) (h4 : p.length ≤ 4) : g__law_key [.val (.str "back"), .val (T p)] st = some (.ok (.val (T (keyOf .back p))), st) := by
  have h : small p := by unfold small; omega
  have e := fun a x2 x3 x4 x5 st => c1_lkey_ok h1 h4 a x2 x3 x4 x5 st
  have hr := small_rev h
  simp only [keyOf]
  generalize (p.reverse.take (p.length - 1)).map (fun x => 0 - x) = q at e hr
  simp only [g__law_key, mFn, m__law_key]
  simp [noExc, s_bp, s_bd, sum_T, mkTup1, cat1 hr, e, tup_ints, -bTuple_lst]
theorem lkey_rows {rs : List (List Int)} {p : List Int} {n : Nat} (hn : n ≤ 4) (h : Or.Ok n (.rows rs)) (hs : small p) (hp : ∀ x ∈ p, 0 ≤ x ∧ x ≤ 30) : g__law_key [.val (.tup (rs.map T)), .val (T p)] st = some (.ok (.val (T (keyOf (.rows rs) p))), st) := by
  obtain ⟨h1, h2, h3, _⟩ := h.rows rs rfl
  have e := fun x2 x3 x4 x5 st => c3_lkey_ok (rs := rs) (p := p) (fun r hr => by have := (h3 r hr).1; unfold small; omega) h2 hp x2 x3 x4 x5 st
  have sh := ok_sh (ok_rows hn h) (by decide)
  have e1 := fun st => eqA_ts (s := "plain") sh sh_plain st
  have e2 := fun st => eqA_ts (s := "degree") sh sh_degree st
  have e3 := fun st => eqA_ts (s := "back") sh sh_back st
  simp only [keyOf]
  have hq : small (rs.map fun r => ((r.zip p).map fun q => q.1 * q.2).sum) := by unfold small; rw [List.length_map]; omega
  generalize (rs.map fun r => ((r.zip p).map fun q => q.1 * q.2).sum) = ks at e hq
  generalize rs.map T = ds at e e1 e2 e3
  simp [g__law_key, mFn, m__law_key, noExc, e1, e2, e3, e, tup_ints, cat2 hq hs, -bTuple_lst]
theorem law_key_ok {o : Or} {p : List Int} {n : Nat} (h1 : 1 ≤ n) (hn : n ≤ 4) (h : o.Ok n) (hp : Pw (n : Nat) p) (st : Sto) : g__law_key [.val o.dat, .val (T p)] st = some (.ok (.val (T (keyOf o p))), st) := by
  have hs := hp.small (by omega)
  have hl := hp.len
  cases o with
  | plain => exact lkey_plain
  | degree => exact lkey_degree hs
  | back => exact lkey_back (by omega) (by omega)
  | rows rs => exact lkey_rows hn h hs hp.rng
end
end K30
end

section
set_option Elab.async false
set_option linter.all false
set_option maxRecDepth 100000
set_option maxHeartbeats 1000000
namespace K30
open PySem PySem.Spec PyProof.Rows L2 DL
/-! ### what is drawn -/
def DR (ns : List Int) : D := .lst (ns.map .int)
/-- the store: the place of the next draw, then others -/
abbrev At (p : Int) (tl : Sto) : Sto := Ob.lst [.int p] :: tl
theorem at_take (p q : Int) (tl : Sto) : (At q tl).take (At p tl).length = At q tl := by simp
theorem all_ints {P : Int → Prop} : ∀ {ys : List D}, (∀ y ∈ ys, ∃ x, y = .int x ∧ P x) → ∃ xs : List Int, ys = xs.map .int ∧ ∀ x ∈ xs, P x
  | [], _ => ⟨[], rfl, by simp⟩
  | y :: ys, h => by
    obtain ⟨x, rfl, hx⟩ := h y (by simp)
    obtain ⟨xs, rfl, hxs⟩ := all_ints (ys := ys) fun y hy => h y (by simp [hy])
    refine ⟨x :: xs, rfl, fun z hz => ?_⟩
    rcases List.mem_cons.mp hz with rfl | hz
    · exact hx
    · exact hxs z hz
theorem hit_n {n : Nat} (hn : n ≤ 1000) (r : En) (st : Sto) : mArgI rangeOf1 (mCons (mVar 0) mNil) (some (.val (.int (n : Nat))) :: r) st = some (.ok ((List.range n).map fun k => D.int (k : Nat)), st) :=
  argI_of (cons_of (var_of rfl) nil_of) (range_nat n (Nat.le_trans hn (by decide)) st)
theorem mkLst3 (a b c : D) (st : Sto) : mkLst [.val a, .val b, .val c] st = some (.ok (.val (.lst [a, b, c])), st) := mkLst_val [a, b, c] _ st rfl (show 3 ≤ sizeLine by rw [sizeLine_eq]; decide)
theorem mkLst4 (a b c d : D) (st : Sto) : mkLst [.val a, .val b, .val c, .val d] st = some (.ok (.val (.lst [a, b, c, d])), st) := mkLst_val [a, b, c, d] _ st rfl (show 4 ≤ sizeLine by rw [sizeLine_eq]; decide)
section
variable {n : Nat} {p : Int} {ns : List Int} {tl : Sto}
theorem powers_ok (hn : n ≤ 4) (h0 : 0 ≤ p) (ns : List Int) (tl : Sto) : ∃ (xs : List Int) (p' : Int), 0 ≤ p' ∧ Pw (n : Nat) xs ∧ g__law_powers [.val (.int (n : Nat)), .val (DR ns), .obj 0] (At p tl) = some (.ok (.val (T xs)), At p' tl) := by
  obtain ⟨d, hd, e1⟩ := one_ok [.int 2, .int 4, .int 31] ns p tl h0 (by simp)
  obtain ⟨m, rfl, hm0, hm1⟩ : ∃ m, d = .int m ∧ 0 < m ∧ m ≤ 31 := by
    simp only [List.mem_cons, List.not_mem_nil, or_false] at hd
    rcases hd with rfl | rfl | rfl
    · exact ⟨2, rfl, by decide, by decide⟩
    · exact ⟨4, rfl, by decide, by decide⟩
    · exact ⟨31, rfl, by decide, by decide⟩
  obtain ⟨ys, p', h0', hl, hP, e2⟩ := lc_take (it := mArgI rangeOf1 (mCons (mVar 0) mNil)) (g := gVar 4) (me := mCall g__law_take (mCons (mVar 1) (mCons (mVar 2) (mCons (mVar 3) mNil)))) (vs := [4])
    (ρ := [some (.val (.int (n : Nat))), some (.val (DR ns)), some (.obj 0), some (.val (.int m)), none]) (fun d => ∃ x, d = .int x ∧ 0 ≤ x ∧ x < m) tl ((List.range n).map fun k => D.int (k : Nat)) (p + 1) (hit_n (by omega) _ _) (by omega)
    (by rw [List.length_map, List.length_range, sizeLine_eq]; omega) fun d hd => ⟨_, rfl, fun q hq ac => by
      obtain ⟨x, x0, x1, e⟩ := take_ok ns q m (tl ++ [.lst ac]) hq hm0
      exact ⟨.int x, q + 1, by omega, ⟨x, rfl, x0, x1⟩, call_of (cons_of (var_of rfl) (cons_of (var_of rfl) (cons_of (var_of rfl) nil_of))) e⟩⟩
  obtain ⟨xs, rfl, hx⟩ := all_ints hP
  rw [List.length_map, List.length_map, List.length_range] at hl
  refine ⟨xs, p', h0', ⟨by omega, fun x h => by have := hx x h; omega⟩, ?_⟩
  exact fn_rt rfl rfl (snx (set_of (call_of (cons_of (lst_of (cons_of c_of (cons_of c_of (cons_of c_of nil_of))) (mkLst3 _ _ _ _)) (cons_of (var_of rfl) (cons_of (var_of rfl) nil_of))) e1)) (ret_of (blt_of (cons_of e2 nil_of) (tup_ints xs _)))) (at_take _ _ _)
/-! ### orders -/
structure Or.Lw (n : Nat) (o : Or) : Prop where
  ok : o.Ok n
  one : ∀ rs, o = .rows rs → ∃ r t, rs = r :: t ∧ ∀ x ∈ r, 1 ≤ x
theorem c1_order_ok (hn : n ≤ 4) (h0 : 0 ≤ p) (ns : List Int) (tl : Sto) : ∃ (xs : List Int) (p' : Int), 0 ≤ p' ∧ (xs.length = n ∧ ∀ x ∈ xs, 1 ≤ x ∧ x ≤ 4) ∧ c1__law_order [some (.val (.int (n : Nat))), some (.val (DR ns)), some (.obj 0), none, none, none] (At p tl) = some (.ok (.val (.lst (xs.map .int))), At p' tl) := by
  obtain ⟨ys, p', h0', hl, hP, e2⟩ := lc_take (it := mArgI rangeOf1 (mCons (mVar 0) mNil)) (g := gVar 4) (me := mBin (fun a b => calm (opAdd a b)) (mC (.int 1)) (mCall g__law_take (mCons (mVar 1) (mCons (mVar 2) (mCons (mC (.int 4)) mNil))))) (vs := [4])
    (ρ := [some (.val (.int (n : Nat))), some (.val (DR ns)), some (.obj 0), none, none, none]) (fun d => ∃ x, d = .int x ∧ 1 ≤ x ∧ x ≤ 4) tl ((List.range n).map fun k => D.int (k : Nat)) p (hit_n (by omega) _ _) (by omega)
    (by rw [List.length_map, List.length_range, sizeLine_eq]; omega) fun d hd => ⟨_, rfl, fun q hq ac => by
      obtain ⟨x, x0, x1, e⟩ := take_ok ns q 4 (tl ++ [.lst ac]) hq (by decide)
      exact ⟨.int (1 + x), q + 1, by omega, ⟨1 + x, rfl, by omega, by omega⟩, op_of c_of (call_of (cons_of (var_of rfl) (cons_of (var_of rfl) (cons_of c_of nil_of))) e) (add_int _ _ _)⟩⟩
  obtain ⟨xs, rfl, hx⟩ := all_ints hP
  rw [List.length_map, List.length_map, List.length_range] at hl
  exact ⟨xs, p', h0', ⟨hl, hx⟩, e2⟩
theorem c2_order_ok (hn : n ≤ 4) (h0 : 0 ≤ p) (ns : List Int) (x3 x4 x5 : Option Va) (tl : Sto) : ∃ (xs : List Int) (p' : Int), 0 ≤ p' ∧ (xs.length = n ∧ ∀ x ∈ xs, -2 ≤ x ∧ x ≤ 4) ∧ c2__law_order [some (.val (.int (n : Nat))), some (.val (DR ns)), some (.obj 0), x3, x4, x5] (At p tl) = some (.ok (.val (.lst (xs.map .int))), At p' tl) := by
  obtain ⟨ys, p', h0', hl, hP, e2⟩ := lc_take (it := mArgI rangeOf1 (mCons (mVar 0) mNil)) (g := gVar 5) (me := mBin (fun a b => calm (opSub a b)) (mCall g__law_take (mCons (mVar 1) (mCons (mVar 2) (mCons (mC (.int 5)) mNil)))) (mC (.int 2))) (vs := [5])
    (ρ := [some (.val (.int (n : Nat))), some (.val (DR ns)), some (.obj 0), x3, x4, x5]) (fun d => ∃ x, d = .int x ∧ -2 ≤ x ∧ x ≤ 4) tl ((List.range n).map fun k => D.int (k : Nat)) p (hit_n (by omega) _ _) (by omega)
    (by rw [List.length_map, List.length_range, sizeLine_eq]; omega) fun d hd => ⟨_, rfl, fun q hq ac => by
      obtain ⟨x, x0, x1, e⟩ := take_ok ns q 5 (tl ++ [.lst ac]) hq (by decide)
      exact ⟨.int (x - 2), q + 1, by omega, ⟨x - 2, rfl, by omega, by omega⟩, op_of (call_of (cons_of (var_of rfl) (cons_of (var_of rfl) (cons_of c_of nil_of))) e) c_of (subA_int _ _ _)⟩⟩
  obtain ⟨xs, rfl, hx⟩ := all_ints hP
  rw [List.length_map, List.length_map, List.length_range] at hl
  exact ⟨xs, p', h0', ⟨hl, hx⟩, e2⟩
theorem b1_order_ok (hn : n ≤ 4) (h0 : 0 ≤ p) (ns : List Int) (rs : List (List Int)) (hr : rs.length ≤ 1000) (x4 x5 : Option Va) (tl : Sto) : ∃ (xs : List Int) (p' : Int), 0 ≤ p' ∧ (xs.length = n ∧ ∀ x ∈ xs, -2 ≤ x ∧ x ≤ 4) ∧
    b1__law_order [some (.val (.int (n : Nat))), some (.val (DR ns)), some (.obj 0), some (.obj (tl.length + 1)), x4, x5] (At p (tl ++ [.lst (rs.map T)])) = some (.nx [some (.val (.int (n : Nat))), some (.val (DR ns)), some (.obj 0), some (.obj (tl.length + 1)), x4, x5], At p' (tl ++ [.lst ((rs ++ [xs]).map T)])) := by
  obtain ⟨xs, p', h0', hx, e⟩ := c2_order_ok hn h0 ns (some (.obj (tl.length + 1))) x4 x5 (tl ++ [.lst (rs.map T)])
  refine ⟨xs, p', h0', hx, ?_⟩
  have hg : ∀ p, (At p (tl ++ [.lst (rs.map T)]))[tl.length + 1]? = some (.lst (rs.map T)) := fun p => by rw [List.getElem?_cons_succ, st_get]
  have ho : isObjList (.obj (tl.length + 1)) (At p (tl ++ [.lst (rs.map T)])) = true := by
    unfold isObjList
    simp only [hg]
  have ha := append_lst (tl.length + 1) (T xs) (rs.map T) _ (hg p') (by rw [List.length_map, sizeLine_eq]; omega)
  rw [List.set_cons_succ, st_set] at ha
  refine expr_of (a := .val .non) ?_
  rw [mApp_eq, var_of (i := 3) (a := .obj (tl.length + 1)) rfl]
  simp only [ho, if_true]
  refine (bind_of (blt_of (cons_of e nil_of) (tup_ints xs _))).trans ?_
  rw [ha, List.map_append]
  rfl
theorem law_order_ok (h1 : 1 ≤ n) (hn : n ≤ 4) (h0 : 0 ≤ p) (ns : List Int) (tl : Sto) : ∃ (o : Or) (p' : Int), 0 ≤ p' ∧ Or.Lw n o ∧ g__law_order [.val (.int (n : Nat)), .val (DR ns), .obj 0] (At p tl) = some (.ok (.val o.dat), At p' tl) := by
  obtain ⟨r, p1, q1, ⟨hr1, hr2⟩, e1⟩ := c1_order_ok hn h0 ns tl
  obtain ⟨m, m0, m1, e2⟩ := take_ok ns p1 3 (tl ++ [.lst [T r]]) q1 (by decide)
  have L := forGo_invN (g := gVar 4) (body := b1__law_order) (fun i ρ st => ∃ (x4 x5 : Option Va) (q : Int) (t : List (List Int)), 0 ≤ q ∧ t.length ≤ i ∧ (∀ s ∈ t, s.length = n ∧ ∀ x ∈ s, -2 ≤ x ∧ x ≤ 4) ∧ ρ = [some (.val (.int (n : Nat))), some (.val (DR ns)), some (.obj 0), some (.obj (tl.length + 1)), x4, x5] ∧ st = At q (tl ++ [.lst ((r :: t).map T)])) (intsR 0 m.toNat) 0
    (fun d hd i ρ st hi ⟨x4, x5, q, t, hq, ht, hs, eρ, es⟩ => by
      subst eρ es
      rw [intsR_length] at hi
      obtain ⟨xs, p', hp', hx, e⟩ := b1_order_ok (p := q) hn hq ns (r :: t) (by rw [List.length_cons]; omega) (some (.val d)) x5 tl
      refine ⟨_, rfl, _, _, e, some (.val d), x5, p', t ++ [xs], hp', by rw [List.length_append, List.length_singleton]; omega, fun s hs' => ?_, rfl, rfl⟩
      rcases List.mem_append.mp hs' with z | z
      · exact hs s z
      · rw [List.mem_singleton.mp z]; exact hx)
    [some (.val (.int (n : Nat))), some (.val (DR ns)), some (.obj 0), some (.obj (tl.length + 1)), none, none] (At (p1 + 1) (tl ++ [.lst ((r :: []).map T)])) ⟨none, none, p1 + 1, [], by omega, Nat.le_refl _, by simp, rfl, rfl⟩
  obtain ⟨ρ', st', e3, x4, x5, q, t, hq, ht, hs, rfl, rfl⟩ := L
  rw [intsR_length] at ht
  obtain ⟨d, hd, e4⟩ := one_ok [.str "plain", .str "degree", .str "back", .tup ((r :: t).map T)] ns q (tl ++ [.lst ((r :: t).map T)]) hq (by simp)
  have hok : Or.Lw n (.rows (r :: t)) := by
    refine ⟨⟨fun rs e => ?_⟩, fun rs e => ?_⟩
    · cases e
      refine ⟨by rw [List.length_cons]; omega, by rw [List.length_cons]; omega, fun s hs' => ?_, above_all hr1 fun x hx => (hr2 x hx).1⟩
      rcases List.mem_cons.mp hs' with rfl | z
      · exact ⟨hr1, fun x hx => by have := hr2 x hx; omega⟩
      · exact hs s z
    · cases e
      exact ⟨r, t, rfl, fun x hx => (hr2 x hx).1⟩
  have ho : ∃ o, Or.Lw n o ∧ d = o.dat := by
    simp only [List.mem_cons, List.not_mem_nil, or_false] at hd
    rcases hd with rfl | rfl | rfl | rfl
    · exact ⟨.plain, ⟨⟨fun rs e => by cases e⟩, fun rs e => by cases e⟩, rfl⟩
    · exact ⟨.degree, ⟨⟨fun rs e => by cases e⟩, fun rs e => by cases e⟩, rfl⟩
    · exact ⟨.back, ⟨⟨fun rs e => by cases e⟩, fun rs e => by cases e⟩, rfl⟩
    · exact ⟨_, hok, rfl⟩
  obtain ⟨o, hl, rfl⟩ := ho
  refine ⟨o, q + 1, by omega, hl, ?_⟩
  have eo : mkObj [.val (T r)] (At p1 tl) = some (.ok (.obj (tl.length + 1)), At p1 (tl ++ [.lst [T r]])) := by
    unfold mkObj
    simp only [vals_val, vals_nil, Option.map_some]
    rw [if_pos (show ([T r] : List D).length ≤ sizeLine by rw [sizeLine_eq, List.length_singleton]; decide)]
    rfl
  have et : bTuple [.obj (tl.length + 1)] (At q (tl ++ [.lst ((r :: t).map T)])) = some (.ok (.val (.tup ((r :: t).map T))), At q (tl ++ [.lst ((r :: t).map T)])) := by
    have hg : (At q (tl ++ [.lst ((r :: t).map T)]))[tl.length + 1]? = some (.lst ((r :: t).map T)) := by rw [List.getElem?_cons_succ, st_get]
    unfold bTuple
    simp only [deref, hg]
  have b62 : B62 m := ⟨Int.le_trans (by decide : -(2 ^ 62 : Int) ≤ 0) m0, Int.lt_of_lt_of_le m1 (by decide)⟩
  exact fn_rt rfl rfl (snx (set_of (obj_of (cons_of (blt_of (cons_of e1 nil_of) (tup_ints r _)) nil_of) eo)) (snx (for_of (argI_of (cons_of (call_of (cons_of (var_of rfl) (cons_of (var_of rfl) (cons_of c_of nil_of))) e2) nil_of) (range1 m _ b62)) e3)
    (ret_of (call_of (cons_of (lst_of (cons_of c_of (cons_of c_of (cons_of c_of (cons_of (blt_of (cons_of (var_of rfl) nil_of) et) nil_of)))) (mkLst4 _ _ _ _ _)) (cons_of (var_of rfl) (cons_of (var_of rfl) nil_of))) e4)))) (by simp)
end
end K30
end

section
set_option Elab.async false
set_option linter.all false
set_option maxRecDepth 100000
set_option maxHeartbeats 1000000
namespace K30
open PySem PySem.Spec PyProof.Rows L2 DL
/-! ### the turns: what is drawn -/
structure EB (ρ : En) (ns : List Int) : Prop where
  len : ρ.length = 33
  dr : ρ[1]? = some (some (.val (DR ns)))
  pl : ρ[2]? = some (some (.obj 0))
structure EC (ρ : En) (ns : List Int) (n : Nat) (o : Or) (xs ys : List Int) : Prop extends EB ρ ns where
  cnt : ρ[4]? = some (some (.val (.int (n : Nat))))
  ord : ρ[5]? = some (some (.val o.dat))
  one : ρ[6]? = some (some (.val (T xs)))
  oth : ρ[7]? = some (some (.val (T ys)))
/-- what the law may take as given -/
structure Giv (n : Nat) (o : Or) (xs ys : List Int) : Prop where
  n1 : 1 ≤ n
  n4 : n ≤ 4
  lw : o.Lw n
  x : Pw (n : Nat) xs
  y : Pw (n : Nat) ys
section
variable {n i : Nat} {p : Int} {ns : List Int} {tl st : Sto} {ρ : En} {o : Or} {xs ys : List Int} {x : Option Va}
theorem EB.set (h : EB ρ ns) (h1 : i ≠ 1) (h2 : i ≠ 2) : EB (ρ.set i x) ns := ⟨by rw [List.length_set]; exact h.len, get_ne h.dr h1, get_ne h.pl h2⟩
theorem EC.set (h : EC ρ ns n o xs ys) (hi : i ∉ [1, 2, 4, 5, 6, 7]) : EC (ρ.set i x) ns n o xs ys := by
  simp only [List.mem_cons, List.not_mem_nil, or_false, not_or] at hi
  obtain ⟨a, b, c, d, e, f⟩ := hi
  exact ⟨h.toEB.set a b, get_ne h.cnt c, get_ne h.ord d, get_ne h.one e, get_ne h.oth f⟩
theorem EB.wipe (h : EB ρ ns) {vs : List Nat} (hv : ∀ v ∈ vs, v ≠ 1 ∧ v ≠ 2) : EB (wipeE ρ vs) ns := ⟨by rw [DL.wipe_length]; exact h.len, get_wipe h.dr fun v q => (hv v q).1, get_wipe h.pl fun v q => (hv v q).2⟩
theorem EC.wipe (h : EC ρ ns n o xs ys) {vs : List Nat} (hv : ∀ v ∈ vs, 8 ≤ v) : EC (wipeE ρ vs) ns n o xs ys :=
  ⟨h.toEB.wipe fun v q => by have := hv v q; omega, get_wipe h.cnt fun v q => by have := hv v q; omega, get_wipe h.ord fun v q => by have := hv v q; omega, get_wipe h.one fun v q => by have := hv v q; omega, get_wipe h.oth fun v q => by have := hv v q; omega⟩
theorem s5_ok (h : EB ρ ns) (h0 : 0 ≤ p) (tl : Sto) : ∃ n : Nat, 1 ≤ n ∧ n ≤ 4 ∧ s5_law ρ (At p tl) = some (.nx (ρ.set 4 (some (.val (.int (n : Nat))))), At (p + 1) tl) := by
  obtain ⟨r, r0, r1, e⟩ := take_ok ns p 4 tl h0 (by decide)
  have er : (1 + r) = ((r.toNat + 1 : Nat) : Int) := by omega
  refine ⟨r.toNat + 1, by omega, by omega, ?_⟩
  exact set_of (op_of c_of (call_of (cons_of (var_of h.dr) (cons_of (var_of h.pl) (cons_of c_of nil_of))) e) (by rw [DL.add_int, er]))
theorem mkTup3 (a b c : D) (st : Sto) : mkTup [.val a, .val b, .val c] st = some (.ok (.val (.tup [a, b, c])), st) := mkTup_val [a, b, c] _ st rfl (show 3 ≤ sizeLine by rw [sizeLine_eq]; decide)
theorem s6_ok (h : EB ρ ns) (hc : ρ[4]? = some (some (.val (.int (n : Nat))))) (h1 : 1 ≤ n) (h4 : n ≤ 4) (h0 : 0 ≤ p) (tl : Sto) : ∃ (o : Or) (xs ys : List Int) (p' : Int), 0 ≤ p' ∧ Giv n o xs ys ∧ s6_law ρ (At p tl) = some (.nx (((ρ.set 5 (some (.val o.dat))).set 6 (some (.val (T xs)))).set 7 (some (.val (T ys)))), At p' tl) := by
  obtain ⟨o, p1, q1, ho, e1⟩ := law_order_ok h1 h4 h0 ns tl
  obtain ⟨xs, p2, q2, hx, e2⟩ := powers_ok h4 q1 ns tl
  obtain ⟨ys, p3, q3, hy, e3⟩ := powers_ok h4 q2 ns tl
  have ar : ∀ p, mCons (mVar 4) (mCons (mVar 1) (mCons (mVar 2) mNil)) ρ (At p tl) = some (.ok [.val (.int (n : Nat)), .val (DR ns), .obj 0], At p tl) := fun p => cons_of (var_of hc) (cons_of (var_of h.dr) (cons_of (var_of h.pl) nil_of))
  exact ⟨o, xs, ys, p3, q3, ⟨h1, h4, ho, hx, hy⟩, asg_of (tup_of (cons_of (call_of (ar _) e1) (cons_of (call_of (ar _) e2) (cons_of (call_of (ar _) e3) nil_of))) (mkTup3 _ _ _ _)) rfl⟩
theorem rev_T (xs : List Int) (st : Sto) : revOf (.val (T xs)) none st = some (.ok (.val (T xs.reverse)), st) := by
  have := revOf_tup (xs.map D.int) st
  rw [← List.map_reverse] at this
  exact this
theorem Pw.rev {c : Int} (h : Pw c xs) : Pw c xs.reverse := ⟨by rw [List.length_reverse]; exact h.len, fun x hx => h.rng x (List.mem_reverse.mp hx)⟩
theorem s7_ok (h : EC ρ ns n o xs ys) (g : Giv n o xs ys) (h0 : 0 ≤ p) (tl : Sto) : ∃ zs : List Int, Giv n o xs zs ∧ s7_law ρ (At p tl) = some (.nx (ρ.set 7 (some (.val (T zs)))), At (p + 1) tl) := by
  obtain ⟨d, hd, e⟩ := one_ok [T ys, T ys, T xs, T xs.reverse] ns p tl h0 (by simp)
  have : ∃ zs, d = T zs ∧ Pw (n : Nat) zs := by
    simp only [List.mem_cons, List.not_mem_nil, or_false] at hd
    rcases hd with rfl | rfl | rfl | rfl
    · exact ⟨ys, rfl, g.y⟩
    · exact ⟨ys, rfl, g.y⟩
    · exact ⟨xs, rfl, g.x⟩
    · exact ⟨_, rfl, g.x.rev⟩
  obtain ⟨zs, rfl, hz⟩ := this
  exact ⟨zs, ⟨g.n1, g.n4, g.lw, g.x, hz⟩, set_of (call_of (cons_of (lst_of (cons_of (var_of h.oth) (cons_of (var_of h.oth) (cons_of (var_of h.one) (cons_of (rev_of (var_of h.one) nopart_of (rev_T xs _)) nil_of)))) (mkLst4 _ _ _ _ _)) (cons_of (var_of h.dr) (cons_of (var_of h.pl) nil_of))) e)⟩
/-- the first three statements -/
theorem s567_ok (h : EB ρ ns) (h0 : 0 ≤ p) (tl : Sto) (k : En → MS) : ∃ (ρ' : En) (n : Nat) (o : Or) (xs ys : List Int) (p' : Int), 0 ≤ p' ∧ EC ρ' ns n o xs ys ∧ Giv n o xs ys ∧ mSeq s5_law (mSeq s6_law (mSeq s7_law k)) ρ (At p tl) = k ρ' (At p' tl) := by
  obtain ⟨n, h1, h4, e1⟩ := s5_ok h h0 tl
  have hb := h.set (i := 4) (x := some (.val (.int (n : Nat)))) (by decide) (by decide)
  have hc : (ρ.set 4 (some (.val (.int (n : Nat)))))[4]? = some (some (.val (.int (n : Nat)))) := get_eq (by rw [h.len]; decide)
  obtain ⟨o, xs, ys, p2, q2, g, e2⟩ := s6_ok (p := p + 1) hb hc h1 h4 (by omega) tl
  have hb5 := hb.set (i := 5) (x := some (.val o.dat)) (by decide) (by decide)
  have hb6 := hb5.set (i := 6) (x := some (.val (T xs))) (by decide) (by decide)
  have hb7 := hb6.set (i := 7) (x := some (.val (T ys))) (by decide) (by decide)
  have hC : EC ((((ρ.set 4 (some (.val (.int (n : Nat))))).set 5 (some (.val o.dat))).set 6 (some (.val (T xs)))).set 7 (some (.val (T ys)))) ns n o xs ys :=
    ⟨hb7, get_ne (get_ne (get_ne hc (by decide)) (by decide)) (by decide), get_ne (get_ne (get_eq (by rw [hb.len]; decide)) (by decide)) (by decide), get_ne (get_eq (by rw [hb5.len]; decide)) (by decide), get_eq (by rw [hb6.len]; decide)⟩
  obtain ⟨zs, g2, e3⟩ := s7_ok hC g q2 tl
  refine ⟨_, n, o, xs, zs, p2 + 1, by omega, ?_, g2, snx e1 (snx e2 (snx e3 rfl))⟩
  exact ⟨hC.toEB.set (by decide) (by decide), get_ne hC.cnt (by decide), get_ne hC.ord (by decide), get_ne hC.one (by decide), get_eq (by rw [hC.len]; decide)⟩
/-! ### the four of two powers -/
def prs (xs ys : List Int) : D := .lst ((xs.zip ys).map fun p => .tup [.int p.1, .int p.2])
theorem s8_ok (h : EC ρ ns n o xs ys) (g : Giv n o xs ys) (st : Sto) : s8_law ρ st = some (.nx (ρ.set 8 (some (.val (prs xs ys)))), st) := by
  have hx := g.x.len
  have hy := g.y.len
  have h4 := g.n4
  have e : lzOf [.val (T xs), .val (T ys)] st = some (.ok (.val (prs xs ys)), st) := by
    show (if (xs.map D.int).length = (ys.map D.int).length ∧ (xs.map D.int).length < sizeLine then (M.pure (Va.val (D.lst (zipD (xs.map .int) (ys.map .int)))) : M Va) else stuck) st = _
    rw [if_pos ⟨by rw [List.length_map, List.length_map]; omega, by rw [List.length_map, sizeLine_eq]; omega⟩, zip_ints]
    rfl
  exact set_of (lz_of (cons_of (var_of h.one) (cons_of (var_of h.oth) nil_of)) e)
theorem pair_lc {me : En → M Va} {F : Int × Int → Int} (hp : ρ[8]? = some (some (.val (prs xs ys)))) (hl : ρ.length = 33) (hs : small xs) (st : Sto) (h : ∀ (a b : Int) (ρ' : En) (st : Sto), ρ'[10]? = some (some (.val (.int a))) → ρ'[11]? = some (some (.val (.int b))) → me ρ' st = some (.ok (.val (.int (F (a, b)))), st)) :
    mLc (mSeqI (mVar 8)) (gTupD 2 (gConsD (gVar 10) (gConsD (gVar 11) gNilD))) mYes me [10, 11] ρ st = some (.ok (.val (.lst (((xs.zip ys).map F).map .int))), st) := by
  rw [List.map_map]
  refine lc_map st (xs.zip ys) (fun p => D.tup [.int p.1, .int p.2]) (fun p => D.int (F p)) (seqI_of (var_of hp) rfl) (small_zip hs) fun q hq => ⟨_, rfl, fun ac => ?_⟩
  exact h q.1 q.2 _ _ (get_ne (get_eq (by rw [DL.wipe_length, hl]; decide)) (by decide)) (get_eq (by rw [List.length_set, DL.wipe_length, hl]; decide))
theorem c2_law_ok (hp : ρ[8]? = some (some (.val (prs xs ys)))) (hl : ρ.length = 33) (hs : small xs) (st : Sto) : c2_law ρ st = some (.ok (.val (.lst (((xs.zip ys).map fun p => p.1 + p.2).map .int))), st) :=
  pair_lc hp hl hs st fun a b ρ' st h1 h2 => op_of (var_of h1) (var_of h2) (add_int _ _ _)
theorem c1_law_ok (hp : ρ[8]? = some (some (.val (prs xs ys)))) (hl : ρ.length = 33) (hs : small xs) (st : Sto) : c1_law ρ st = some (.ok (.val (.lst (((xs.zip ys).map fun p => p.1 - p.2).map .int))), st) :=
  pair_lc hp hl hs st fun a b ρ' st h1 h2 => op_of (var_of h1) (var_of h2) (subA_int _ _ _)
theorem c4_law_ok (hp : ρ[8]? = some (some (.val (prs xs ys)))) (hl : ρ.length = 33) (hs : small xs) (st : Sto) : c4_law ρ st = some (.ok (.val (.lst (((xs.zip ys).map mx).map .int))), st) :=
  pair_lc hp hl hs st fun a b ρ' st h1 h2 => blt_of (cons_of (var_of h1) (cons_of (var_of h2) nil_of)) (bMax2_ok _ _ _)
theorem c3_law_ok (hp : ρ[8]? = some (some (.val (prs xs ys)))) (hl : ρ.length = 33) (hs : small xs) (st : Sto) : c3_law ρ st = some (.ok (.val (.lst (((xs.zip ys).map mn).map .int))), st) :=
  pair_lc hp hl hs st fun a b ρ' st h1 h2 => blt_of (cons_of (var_of h1) (cons_of (var_of h2) nil_of)) (bMin2_ok _ _ _)
def sumsD (xs ys : List Int) : D := T ((xs.zip ys).map fun p => p.1 + p.2)
def overD (xs ys : List Int) : D := if dvd ys xs = true then T ((xs.zip ys).map fun p => p.1 - p.2) else .non
theorem mkLst2 (a b : D) (st : Sto) : mkLst [.val a, .val b] st = some (.ok (.val (.lst [a, b])), st) := mkLst_val [a, b] _ st rfl (show 2 ≤ sizeLine by rw [sizeLine_eq]; decide)
theorem s9_ok (h : EC ρ ns n o xs ys) (g : Giv n o xs ys) (hp : ρ[8]? = some (some (.val (prs xs ys)))) (st : Sto) : s9_law ρ st = some (.nx (ρ.set 9 (some (.val (.lst [sumsD xs ys, overD xs ys])))), st) := by
  have hx := g.x.len
  have hy := g.y.len
  have h4 := g.n4
  have hs : small xs := g.x.small (by omega)
  have hs2 : small ys := g.y.small (by omega)
  have e1 := law_divides_ok (xs := ys) (ys := xs) (by omega) hs2 st
  have e2 : mIf (mT (mCall g__law_divides (mCons (mVar 7) (mCons (mVar 6) mNil)))) (mBlt bTuple (mCons c1_law mNil)) (mC .non) ρ st = some (.ok (.val (overD xs ys)), st) := by
    unfold overD
    cases hd : dvd ys xs with
    | true =>
      rw [hd] at e1
      exact if_t (T_of (call_of (cons_of (var_of h.oth) (cons_of (var_of h.one) nil_of)) e1)) (blt_of (cons_of (c1_law_ok hp h.len hs st) nil_of) (tup_ints _ _))
    | false =>
      rw [hd] at e1
      exact if_f (T_of (call_of (cons_of (var_of h.oth) (cons_of (var_of h.one) nil_of)) e1)) c_of
  exact set_of (lst_of (cons_of (blt_of (cons_of (c2_law_ok hp h.len hs st) nil_of) (tup_ints _ _)) (cons_of e2 nil_of)) (mkLst2 _ _ _))
def due4 (xs ys : List Int) : List D := [sumsD xs ys, overD xs ys, T ((xs.zip ys).map mx), T ((xs.zip ys).map mn)]
theorem s10_ok (h : EC ρ ns n o xs ys) (g : Giv n o xs ys) (hp : ρ[8]? = some (some (.val (prs xs ys)))) (hd : ρ[9]? = some (some (.val (.lst [sumsD xs ys, overD xs ys])))) (st : Sto) : s10_law ρ st = some (.nx (ρ.set 9 (some (.val (.lst (due4 xs ys))))), st) := by
  have h4 := g.n4
  have hs : small xs := g.x.small (by omega)
  exact set_of (op_of (var_of hd) (lst_of (cons_of (blt_of (cons_of (c4_law_ok hp h.len hs st) nil_of) (tup_ints _ _)) (cons_of (blt_of (cons_of (c3_law_ok hp h.len hs st) nil_of) (tup_ints _ _)) nil_of)) (mkLst2 _ _ _)) (addA_lst _ _ _ (show 4 ≤ sizeLine by rw [sizeLine_eq]; decide)))
end
end K30
end

section
set_option Elab.async false
set_option linter.all false
set_option maxRecDepth 100000
set_option maxHeartbeats 1000000
namespace K30
open PySem PySem.Spec PyProof.Rows L2 DL
section
variable {n i : Nat} {p : Int} {ns : List Int} {tl st : Sto} {ρ : En} {o : Or} {xs ys : List Int} {x : Option Va}
theorem calls4 {me : En → M Va} {F : Nat → D} (hl : ρ.length = 33) (st : Sto) (h : ∀ (k : Nat) (ρ' : En) (st : Sto), k < 4 → (∀ j y, j ≠ 12 → ρ[j]? = y → ρ'[j]? = y) → ρ'[12]? = some (some (.val (.int (k : Nat)))) → me ρ' st = some (.ok (.val (F k)), st)) :
    mLc (mArgI rangeOf1 (mCons (mC (.int 4)) mNil)) (gVar 12) mYes me [12] ρ st = some (.ok (.val (.lst [F 0, F 1, F 2, F 3])), st) := by
  have e : mLc (mArgI rangeOf1 (mCons (mC (.int 4)) mNil)) (gVar 12) mYes me [12] ρ st = some (.ok (.val (.lst ((List.range 4).map F))), st) := by
    refine lc_map (it := mArgI rangeOf1 (mCons (mC (.int 4)) mNil)) (g := gVar 12) (me := me) (vs := [12]) (ρ := ρ) st (List.range 4) (fun k => D.int (k : Nat)) F (argI_of (cons_of c_of nil_of) (range_nat 4 (by decide) st)) (by rw [List.length_range, sizeLine_eq]; decide) fun k hk => ⟨_, rfl, fun ac => ?_⟩
    exact h k _ _ (List.mem_range.mp hk) (fun j y hj hy => get_ne (get_wipe hy (by simpa using fun e => hj e.symm)) (fun e => hj e.symm)) (get_eq (by rw [DL.wipe_length, hl]; decide))
  exact e
theorem mkTup_ints (ks : List Int) (h : ks.length ≤ 1000) (st : Sto) : mkTup (ks.map fun k => .val (.int k)) st = some (.ok (.val (T ks)), st) := by
  refine mkTup_val (ks.map .int) _ st ?_ (by rw [List.length_map, sizeLine_eq]; omega)
  clear h
  induction ks with
  | nil => rfl
  | cons k r ih => simp only [List.map_cons, vals_val, ih, Option.map_some]
theorem callsL {me : En → M Va} {it : En → M (List D)} {F : Int → D} {ks : List Int} (hl : ρ.length = 33) (hk : ks.length ≤ 1000) (st : Sto) (hit : it ρ st = some (.ok (ks.map .int), st)) (h : ∀ (k : Int) (ρ' : En) (st : Sto), k ∈ ks → (∀ j y, j ≠ 12 → ρ[j]? = y → ρ'[j]? = y) → ρ'[12]? = some (some (.val (.int k))) → me ρ' st = some (.ok (.val (F k)), st)) :
    mLc it (gVar 12) mYes me [12] ρ st = some (.ok (.val (.lst (ks.map F))), st) := by
  refine lc_map (it := it) (g := gVar 12) (me := me) (vs := [12]) (ρ := ρ) st ks D.int F hit (by rw [sizeLine_eq]; omega) fun k hk => ⟨_, rfl, fun ac => ?_⟩
  exact h k _ _ hk (fun j y hj hy => get_ne (get_wipe hy (by simpa using fun e => hj e.symm)) (fun e => hj e.symm)) (get_eq (by rw [DL.wipe_length, hl]; decide))
theorem it45 (ρ : En) (st : Sto) : mSeqI (mTup (mCons (mC (.int 4)) (mCons (mC (.int 5)) mNil))) ρ st = some (.ok ([4, 5].map .int), st) := seqI_of (tup_of (cons_of c_of (cons_of c_of nil_of)) (mkTup2 _ _ _)) rfl
/-! ### repr of what is due -/
theorem ok_T {zs : List Int} (hl : zs.length ≤ 4) (h : ∀ x ∈ zs, -1000 ≤ x ∧ x ≤ 1000) : DL.Ok 1 100 (T zs) := ok_int_tup (m := 4) (fun x hx => by have := h x hx; omega) hl
theorem ok_zip {F : Int × Int → Int} (g : Giv n o xs ys) (h : ∀ a b : Int, 0 ≤ a → a ≤ 30 → 0 ≤ b → b ≤ 30 → -1000 ≤ F (a, b) ∧ F (a, b) ≤ 1000) : DL.Ok 1 100 (T ((xs.zip ys).map F)) := by
  have hx := g.x.len
  have h4 := g.n4
  refine ok_T (by rw [List.length_map, List.length_zip]; omega) fun z hz => ?_
  obtain ⟨q, hq, rfl⟩ := List.mem_map.mp hz
  have q1 := g.x.rng q.1 (List.of_mem_zip hq).1
  have q2 := g.y.rng q.2 (List.of_mem_zip hq).2
  exact h q.1 q.2 q1.1 q1.2 q2.1 q2.2
theorem ok_due4 (g : Giv n o xs ys) : DL.Ok 2 1000 (.lst (due4 xs ys)) := by
  refine (ok_lst (n := 1) (b := 100) (m := 4) (fun d hd => ?_) (Nat.le_refl _)).le (Nat.le_refl _) (by decide)
  unfold due4 at hd
  simp only [List.mem_cons, List.not_mem_nil, or_false] at hd
  rcases hd with rfl | rfl | rfl | rfl
  · exact ok_zip g fun a b _ _ _ _ => by dsimp only; omega
  · unfold overD
    split
    · exact ok_zip g fun a b _ _ _ _ => by dsimp only; omega
    · exact ok_non.le (by decide) (by decide)
  · exact ok_zip g fun a b _ _ _ _ => by unfold mx; dsimp only; split <;> omega
  · exact ok_zip g fun a b _ _ _ _ => by unfold mn; dsimp only; split <;> omega
theorem c5_ok (h : EC ρ ns n o xs ys) (g : Giv n o xs ys) (st : Sto) : c5_law ρ st = some (.ok (.val (.lst (due4 xs ys))), st) := by
  have hc := inR_n g.n1 g.n4
  refine calls4 (me := mCall g__law_told (mCons (mVar 12) (mCons (mVar 4) (mCons (mVar 6) (mCons (mVar 7) (mCons (mC .non) mNil)))))) (F := fun k => (due4 xs ys).getD k .non) h.len st fun k ρ' st hk ht h12 => ?_
  have ar : mCons (mVar 12) (mCons (mVar 4) (mCons (mVar 6) (mCons (mVar 7) (mCons (mC .non) mNil)))) ρ' st = some (.ok [.val (.int (k : Nat)), .val (.int (n : Nat)), .val (T xs), .val (T ys), .val .non], st) :=
    cons_of (var_of h12) (cons_of (var_of (ht _ _ (by decide) h.cnt)) (cons_of (var_of (ht _ _ (by decide) h.one)) (cons_of (var_of (ht _ _ (by decide) h.oth)) (cons_of c_of nil_of))))
  refine call_of ar ?_
  match k, hk with
  | 0, _ => exact told0 (.ok (times_ok hc g.x g.y))
  | 1, _ => exact told1 (.ok (over_ok hc g.x g.y))
  | 2, _ => exact told2 (.ok (least_multiple_ok hc g.x g.y))
  | 3, _ => exact told3 (.ok (greatest_shared_ok hc g.x g.y))
theorem s11_ok (h : EC ρ ns n o xs ys) (g : Giv n o xs ys) (hd : ρ[9]? = some (some (.val (.lst (due4 xs ys))))) (st : Sto) : s11_law ρ st = some (.nx ρ, st) := by
  have r := ok_repr (ok_due4 g) (by decide) (by decide) rfl st
  exact ifs_f (ne_repr (blt_of (cons_of (c5_ok h g st) nil_of) r) (blt_of (cons_of (var_of hd) nil_of) r)) rfl
/-! ### keys -/
theorem s12_ok (h : EC ρ ns n o xs ys) (g : Giv n o xs ys) (st : Sto) : s12_law ρ st = some (.nx ((ρ.set 13 (some (.val (T (keyOf o xs))))).set 14 (some (.val (T (keyOf o ys))))), st) :=
  asg_of (tup_of (cons_of (call_of (cons_of (var_of h.ord) (cons_of (var_of h.one) nil_of)) (law_key_ok g.n1 g.n4 g.lw.ok g.x st)) (cons_of (call_of (cons_of (var_of h.ord) (cons_of (var_of h.oth) nil_of)) (law_key_ok g.n1 g.n4 g.lw.ok g.y st)) nil_of)) (mkTup2 _ _ _)) rfl
theorem key_len (o : Or) (h : xs.length = ys.length) : (keyOf o xs).length = (keyOf o ys).length := by
  cases o <;> simp [keyOf, h]
theorem key_small (g : Giv n o xs ys) {zs : List Int} (hz : Pw (n : Nat) zs) : (keyOf o zs).length ≤ 8 := by
  have hl := hz.len
  have h4 := g.n4
  cases o with
  | plain => simp only [keyOf]; omega
  | degree => simp only [keyOf, List.length_cons]; omega
  | back => simp only [keyOf, List.length_cons, List.length_map, List.length_take, List.length_reverse]; omega
  | rows rs =>
    have := (g.lw.ok.rows rs rfl).2.1
    simp only [keyOf, List.length_append, List.length_map]; omega
def diffs (as bs : List Int) : List Int := ((List.range as.length).filter fun k => !decide (as.getD k 0 = bs.getD k 0)).map fun k => ((k : Nat) : Int)
theorem diffs_head : ∀ (as bs : List Int) (j : Nat), as.length = bs.length → firstDiff j as bs = (match (List.range as.length).filter (fun k => !decide (as.getD k 0 = bs.getD k 0)) with | [] => D.non | k :: _ => D.int ((j + k : Nat) : Int))
  | [], [], j, _ => rfl
  | a :: as, b :: bs, j, h => by
    have hl : as.length = bs.length := by simpa using h
    have ih := diffs_head as bs (j + 1) hl
    rw [List.length_cons, List.range_succ_eq_map]
    by_cases e : a = b
    · have e1 : firstDiff j (a :: as) (b :: bs) = firstDiff (j + 1) as bs := if_pos e
      rw [e1, ih, List.filter_cons_of_neg (by simp [e]), List.filter_map]
      have e2 : ((fun k => !decide ((a :: as).getD k 0 = (b :: bs).getD k 0)) ∘ Nat.succ) = fun k => !decide (as.getD k 0 = bs.getD k 0) := by
        funext k; rfl
      rw [e2]
      cases (List.range as.length).filter (fun k => !decide (as.getD k 0 = bs.getD k 0)) with
      | nil => rfl
      | cons k t =>
        simp only [List.map_cons]
        rw [show j + 1 + k = j + k.succ from by omega]
    · have e1 : firstDiff j (a :: as) (b :: bs) = .int (j : Nat) := if_neg e
      rw [e1, List.filter_cons_of_pos (by simp [e])]
      rfl
theorem len_T (xs : List Int) (st : Sto) : bLen [.val (T xs)] st = some (.ok (.val (.int (xs.length : Nat))), st) := by
  have := bLen_tup (xs.map D.int) st
  rw [List.length_map] at this
  exact this
theorem c6_ok {as bs : List Int} (hl : ρ.length = 33) (h1 : ρ[13]? = some (some (.val (T as)))) (h2 : ρ[14]? = some (some (.val (T bs)))) (ha : as.length ≤ 8) (hab : as.length = bs.length) (st : Sto) : c6_law ρ st = some (.ok (.val (.lst ((diffs as bs).map .int))), st) := by
  unfold diffs
  rw [List.map_map]
  refine lc_filter (it := mArgI rangeOf1 (mCons (mBlt bLen (mCons (mVar 13) mNil)) mNil)) (g := gVar 16) (mt := mT (mBin (fun a b => calm (opNeA a b)) (mBin (fun a b => calm (opIx a b)) (mVar 13) (mVar 16)) (mBin (fun a b => calm (opIx a b)) (mVar 14) (mVar 16)))) (me := mVar 16) (vs := [16])
    (ρ := ρ) st (List.range as.length) (fun k => D.int ((k : Nat) : Int)) (fun k => !decide (as.getD k 0 = bs.getD k 0)) (fun k => D.int ((k : Nat) : Int)) (argI_of (cons_of (blt_of (cons_of (var_of h1) nil_of) (len_T as st)) nil_of) (range_nat as.length (by omega) st)) (by rw [List.length_range, sizeLine_eq]; omega) fun k hk => ⟨_, rfl, fun ac => ⟨?_, fun _ => ?_⟩⟩
  · have hx := List.mem_range.mp hk
    have g13 := get_ne (x := some (.val (.int (k : Nat)))) (get_wipe h1 (vs := [16]) (by decide)) (show 16 ≠ 13 by decide)
    have g14 := get_ne (x := some (.val (.int (k : Nat)))) (get_wipe h2 (vs := [16]) (by decide)) (show 16 ≠ 14 by decide)
    have g16 := get_eq (ρ := wipeE ρ [16]) (i := 16) (x := some (.val (.int (k : Nat)))) (by rw [DL.wipe_length, hl]; decide)
    exact T_of (op_of (op_of (var_of g13) (var_of g16) (ix_T hx _)) (op_of (var_of g14) (var_of g16) (ix_T (by omega) _)) (neA_int _ _ _))
  · exact var_of (get_eq (ρ := wipeE ρ [16]) (i := 16) (by rw [DL.wipe_length, hl]; decide))
theorem s13_ok {as bs : List Int} (hl : ρ.length = 33) (h1 : ρ[13]? = some (some (.val (T as)))) (h2 : ρ[14]? = some (some (.val (T bs)))) (ha : as.length ≤ 8) (hab : as.length = bs.length) (st : Sto) : s13_law ρ st = some (.nx (ρ.set 15 (some (.val (.lst ((diffs as bs).map .int))))), st) :=
  set_of (c6_ok hl h1 h2 ha hab st)
theorem s14_ok {as bs : List Int} (h1 : ρ[13]? = some (some (.val (T as)))) (h2 : ρ[14]? = some (some (.val (T bs)))) (h3 : ρ[15]? = some (some (.val (.lst ((diffs as bs).map .int))))) (hab : as.length = bs.length) (st : Sto) : s14_law ρ st = some (.nx (ρ.set 9 (some (.val (.lst [.int (cmpI as bs), firstDiff 0 as bs])))), st) := by
  have e1 : mBin (fun a b => calm (opSub a b)) (mBlt bInt (mCons (mBin (fun a b => calm (opGt a b)) (mVar 13) (mVar 14)) mNil)) (mBlt bInt (mCons (mBin (fun a b => calm (opLt a b)) (mVar 13) (mVar 14)) mNil)) ρ st = some (.ok (.val (.int (cmpI as bs))), st) :=
    op_of (blt_of (cons_of (op_of (var_of h1) (var_of h2) (gt_T as bs st)) nil_of) rfl) (blt_of (cons_of (op_of (var_of h1) (var_of h2) (lt_T as bs st)) nil_of) rfl) rfl
  have hh := diffs_head as bs 0 hab
  have e2 : mIf (mT (mBin (fun a b => calm (opNeA a b)) (mVar 15) (mLst mNil))) (mBin (fun a b => calm (opIx a b)) (mVar 15) (mC (.int 0))) (mC .non) ρ st = some (.ok (.val (firstDiff 0 as bs)), st) := by
    have en := neA_nilI (diffs as bs) st
    unfold diffs at en h3
    cases hf : (List.range as.length).filter (fun k => !decide (as.getD k 0 = bs.getD k 0)) with
    | nil =>
      rw [hf] at hh en h3
      rw [hh]
      exact if_f (T_of (op_of (var_of h3) (lst_of nil_of (mkLst0 st)) en)) c_of
    | cons k t =>
      rw [hf] at hh en h3
      rw [hh]
      refine if_t (T_of (op_of (var_of h3) (lst_of nil_of (mkLst0 st)) en)) (op_of (var_of h3) c_of ?_)
      have : opIx (.val (.lst ((List.map (fun k => ((k : Nat) : Int)) (k :: t)).map .int))) (.val (.int 0)) st = some (.ok (.val (.int (k : Nat))), st) := DL.ix_lst _ _ _ st (atI_nat (j := 0) rfl)
      rw [this]
      show some (R.ok (Va.val (D.int (k : Nat))), st) = some (R.ok (Va.val (D.int ((0 + k : Nat) : Int))), st)
      rw [Nat.zero_add]
  exact set_of (lst_of (cons_of e1 (cons_of e2 nil_of)) (mkLst2 _ _ _))
end
end K30
end

section
set_option Elab.async false
set_option linter.all false
set_option maxRecDepth 100000
set_option maxHeartbeats 1000000
namespace K30
open PySem PySem.Spec PyProof.Rows L2 DL
section
variable {n i : Nat} {p : Int} {ns : List Int} {tl st : Sto} {ρ : En} {o : Or} {xs ys : List Int} {x : Option Va}
theorem first_ok : ∀ (as bs : List Int) (j : Nat), j + as.length ≤ 1000 → DL.Ok 0 24 (firstDiff j as bs)
  | [], bs, j, h => ok_non.le (Nat.le_refl _) (by decide)
  | a :: as, [], j, h => ok_non.le (Nat.le_refl _) (by decide)
  | a :: as, b :: bs, j, h => by
    rw [List.length_cons] at h
    by_cases e : a = b
    · have e1 : firstDiff j (a :: as) (b :: bs) = firstDiff (j + 1) as bs := if_pos e
      rw [e1]
      exact first_ok as bs (j + 1) (by omega)
    · have e1 : firstDiff j (a :: as) (b :: bs) = .int (j : Nat) := if_neg e
      rw [e1]
      exact ok_int (by omega)
theorem cmp_small (as bs : List Int) : (cmpI as bs).natAbs < 10 ^ 7 := by
  unfold cmpI
  split <;> split <;> decide
theorem ok_due2 {as bs : List Int} (h : as.length ≤ 8) : DL.Ok 1 1000 (.lst [.int (cmpI as bs), firstDiff 0 as bs]) := by
  refine (ok_lst (n := 0) (b := 24) (m := 2) (fun d hd => ?_) (Nat.le_refl _)).le (Nat.le_refl _) (by decide)
  simp only [List.mem_cons, List.not_mem_nil, or_false] at hd
  rcases hd with rfl | rfl
  · exact ok_int (cmp_small as bs)
  · exact first_ok as bs 0 (by omega)
theorem c7_ok (h : EC ρ ns n o xs ys) (g : Giv n o xs ys) (st : Sto) : c7_law ρ st = some (.ok (.val (.lst [.int (cmpI (keyOf o xs) (keyOf o ys)), firstDiff 0 (keyOf o xs) (keyOf o ys)])), st) := by
  refine callsL (me := mCall g__law_told (mCons (mVar 12) (mCons (mVar 4) (mCons (mVar 5) (mCons (mVar 6) (mCons (mVar 7) mNil)))))) (F := fun k => if k = 4 then .int (cmpI (keyOf o xs) (keyOf o ys)) else firstDiff 0 (keyOf o xs) (keyOf o ys)) (ks := [4, 5]) h.len (by decide) st (it45 ρ st) fun k ρ' st hk ht h12 => ?_
  have ar : mCons (mVar 12) (mCons (mVar 4) (mCons (mVar 5) (mCons (mVar 6) (mCons (mVar 7) mNil)))) ρ' st = some (.ok [.val (.int k), .val (.int (n : Nat)), .val o.dat, .val (T xs), .val (T ys)], st) :=
    cons_of (var_of h12) (cons_of (var_of (ht _ _ (by decide) h.cnt)) (cons_of (var_of (ht _ _ (by decide) h.ord)) (cons_of (var_of (ht _ _ (by decide) h.one)) (cons_of (var_of (ht _ _ (by decide) h.oth)) nil_of))))
  refine call_of ar ?_
  simp only [List.mem_cons, List.not_mem_nil, or_false] at hk
  rcases hk with rfl | rfl
  · exact told4 (.ok (compare_ok g.n1 g.n4 g.lw.ok g.x g.y st))
  · exact told5 (.ok (tells_ok g.n1 g.n4 g.lw.ok g.x g.y st))
theorem s15_ok (h : EC ρ ns n o xs ys) (g : Giv n o xs ys) (hd : ρ[9]? = some (some (.val (.lst [.int (cmpI (keyOf o xs) (keyOf o ys)), firstDiff 0 (keyOf o xs) (keyOf o ys)])))) (st : Sto) : s15_law ρ st = some (.nx ρ, st) := by
  have r := ok_repr (ok_due2 (as := keyOf o xs) (bs := keyOf o ys) (key_small g g.x)) (by decide) (by decide) rfl st
  exact ifs_f (ne_repr (blt_of (cons_of (c7_ok h g st) nil_of) r) (blt_of (cons_of (var_of hd) nil_of) r)) rfl
/-! ### rows in order -/
theorem hit_take {a : Nat} {k : Int} (h : EB ρ ns) (h0 : 0 ≤ p) (hk : 0 < k) (hk2 : k ≤ 1000) (tl : Sto) : ∃ r : Nat, (r : Int) < k ∧ mArgI rangeOf1 (mCons (mCall g__law_take (mCons (mVar 1) (mCons (mVar 2) (mCons (mC (.int k)) mNil)))) mNil) ρ (At p tl) = some (.ok ((List.range r).map fun k => D.int (k : Nat)), At (p + 1) tl) := by
  obtain ⟨r, r0, r1, e⟩ := take_ok ns p k tl h0 hk
  have er : r = ((r.toNat : Nat) : Int) := by omega
  refine ⟨r.toNat, by omega, argI_of (cons_of (call_of (cons_of (var_of h.dr) (cons_of (var_of h.pl) (cons_of c_of nil_of))) e) nil_of) ?_⟩
  rw [er]
  exact range_nat r.toNat (by omega) _
theorem mLc_hit {it : En → M (List D)} {g : Va → En → Option En} {mt : En → M Bool} {me : En → M Va} {vs : List Nat} {st st1 : Sto} {ds : List D} {res : Option (R Va × Sto)} (h1 : it ρ st = some (.ok ds, st1)) (h2 : mLc (fun _ => M.pure ds) g mt me vs ρ st1 = res) : mLc it g mt me vs ρ st = res :=
  (bind_of h1).trans h2
theorem c8_ok (h : EC ρ ns n o xs ys) (g : Giv n o xs ys) (h0 : 0 ≤ p) (tl : Sto) : ∃ (rs : List (List Int)) (p' : Int), 0 ≤ p' ∧ rs.length ≤ 6 ∧ (∀ r ∈ rs, Pw (n : Nat) r) ∧ c8_law ρ (At p tl) = some (.ok (.val (.lst (rs.map T))), At p' tl) := by
  obtain ⟨m, hm, e1⟩ := hit_take (a := 0) (k := 7) h.toEB h0 (by decide) (by decide) tl
  obtain ⟨yy, p', h0', hl, hP, e2⟩ := lc_take (it := fun _ => M.pure ((List.range m).map fun k => D.int (k : Nat))) (g := gVar 16) (me := mCall g__law_powers (mCons (mVar 4) (mCons (mVar 1) (mCons (mVar 2) mNil)))) (vs := [16])
    (ρ := ρ) (fun d => ∃ r, d = T r ∧ Pw (n : Nat) r) tl ((List.range m).map fun k => D.int (k : Nat)) (p + 1) rfl (by omega)
    (by rw [List.length_map, List.length_range, sizeLine_eq]; omega) fun d hd => ⟨_, rfl, fun q hq ac => by
      obtain ⟨r, p2, q2, hr, e⟩ := powers_ok g.n4 hq ns (tl ++ [.lst ac])
      have g4 := get_ne (x := some (.val d)) (get_wipe h.cnt (vs := [16]) (by decide)) (show 16 ≠ 4 by decide)
      have g1 := get_ne (x := some (.val d)) (get_wipe h.dr (vs := [16]) (by decide)) (show 16 ≠ 1 by decide)
      have g2 := get_ne (x := some (.val d)) (get_wipe h.pl (vs := [16]) (by decide)) (show 16 ≠ 2 by decide)
      exact ⟨T r, p2, q2, ⟨r, rfl, hr⟩, call_of (cons_of (var_of g4) (cons_of (var_of g1) (cons_of (var_of g2) nil_of))) e⟩⟩
  have ex : ∀ {yy : List D}, (∀ y ∈ yy, ∃ r, y = T r ∧ Pw (n : Nat) r) → ∃ rs : List (List Int), yy = rs.map T ∧ ∀ r ∈ rs, Pw (n : Nat) r := by
    intro yy
    induction yy with
    | nil => exact fun _ => ⟨[], rfl, by simp⟩
    | cons y t ih =>
      intro hh
      obtain ⟨r, rfl, hr⟩ := hh y (by simp)
      obtain ⟨rs, rfl, hrs⟩ := ih fun z hz => hh z (by simp [hz])
      refine ⟨r :: rs, rfl, fun z hz => ?_⟩
      rcases List.mem_cons.mp hz with rfl | hz
      · exact hr
      · exact hrs z hz
  obtain ⟨rs, rfl, hrs⟩ := ex hP
  rw [List.length_map, List.length_map, List.length_range] at hl
  exact ⟨rs, p', h0', by omega, hrs, mLc_hit e1 e2⟩
theorem s16_ok (h : EC ρ ns n o xs ys) (g : Giv n o xs ys) (h0 : 0 ≤ p) (tl : Sto) : ∃ (rs : List (List Int)) (p' : Int), 0 ≤ p' ∧ rs.length ≤ 8 ∧ (∀ r ∈ rs, Pw (n : Nat) r) ∧ s16_law ρ (At p tl) = some (.nx (ρ.set 17 (some (.val (.tup (rs.map T))))), At p' tl) := by
  obtain ⟨rs, p', h0', hl, hr, e⟩ := c8_ok h g h0 tl
  refine ⟨rs ++ [xs, ys], p', h0', by rw [List.length_append]; exact Nat.add_le_add_right hl 2, fun r hr' => ?_, ?_⟩
  · rcases List.mem_append.mp hr' with z | z
    · exact hr r z
    · simp only [List.mem_cons, List.not_mem_nil, or_false] at z
      rcases z with rfl | rfl
      · exact g.x
      · exact g.y
  · rw [List.map_append]
    exact set_of (op_of (blt_of (cons_of e nil_of) (bTuple_lst _ _)) (tup_of (cons_of (var_of h.one) (cons_of (var_of h.oth) nil_of)) (mkTup2 _ _ _)) (addA_tup _ _ _ (by rw [List.length_map, sizeLine_eq]; simp only [List.length_cons, List.length_nil]; omega)))
theorem c9_ok {rs : List (List Int)} (h : EC ρ ns n o xs ys) (g : Giv n o xs ys) (hr : ∀ r ∈ rs, Pw (n : Nat) r) (hl : rs.length ≤ 8) (h17 : ρ[17]? = some (some (.val (.tup (rs.map T))))) (st : Sto) : c9_law ρ st = some (.ok (.val (.lst (rs.map (pairD o)))), st) := by
  refine lc_map (it := mSeqI (mVar 17)) (g := gVar 19) (me := mTup (mCons (mCall g__law_key (mCons (mVar 5) (mCons (mVar 19) mNil))) (mCons (mVar 19) mNil))) (vs := [19]) (ρ := ρ) st rs T (pairD o) (seqI_of (var_of h17) rfl) (by rw [sizeLine_eq]; omega) fun r hr' => ⟨_, rfl, fun ac => ?_⟩
  have g5 := get_ne (x := some (.val (T r))) (get_wipe h.ord (vs := [19]) (by decide)) (show 19 ≠ 5 by decide)
  have g19 := get_eq (ρ := wipeE ρ [19]) (i := 19) (x := some (.val (T r))) (by rw [DL.wipe_length, h.len]; decide)
  exact tup_of (cons_of (call_of (cons_of (var_of g5) (cons_of (var_of g19) nil_of)) (law_key_ok g.n1 g.n4 g.lw.ok (hr r hr') _)) (cons_of (var_of g19) nil_of)) (mkTup2 _ _ _)
theorem s17_ok {rs : List (List Int)} (h : EC ρ ns n o xs ys) (g : Giv n o xs ys) (hr : ∀ r ∈ rs, Pw (n : Nat) r) (hl : rs.length ≤ 8) (h17 : ρ[17]? = some (some (.val (.tup (rs.map T))))) (st : Sto) : s17_law ρ st = some (.nx (ρ.set 18 (some (.val (.lst (sortD (rs.map (pairD o))))))), st) :=
  set_of (blt_of (cons_of (c9_ok h g hr hl h17 st) nil_of) (sorted_pairs o rs st))
theorem s18_ok (h : EC ρ ns n o xs ys) (g : Giv n o xs ys) (h0 : 0 ≤ p) (tl : Sto) : ∃ m : Nat, 1 ≤ m ∧ m ≤ n ∧ s18_law ρ (At p tl) = some (.nx (ρ.set 20 (some (.val (.int (m : Nat))))), At (p + 1) tl) := by
  have n1 := g.n1
  obtain ⟨r, r0, r1, e⟩ := take_ok ns p (n : Nat) tl h0 (by omega)
  have er : (1 + r) = ((r.toNat + 1 : Nat) : Int) := by omega
  refine ⟨r.toNat + 1, by omega, by omega, ?_⟩
  exact set_of (op_of c_of (call_of (cons_of (var_of h.dr) (cons_of (var_of h.pl) (cons_of (var_of h.cnt) nil_of))) e) (by rw [DL.add_int, er]))
theorem s22_ok (h : EC ρ ns n o xs ys) (h0 : 0 ≤ p) (tl : Sto) : ∃ d : Nat, d ≤ 5 ∧ s22_law ρ (At p tl) = some (.nx (ρ.set 24 (some (.val (.int (d : Nat))))), At (p + 1) tl) := by
  obtain ⟨r, r0, r1, e⟩ := take_ok ns p 6 tl h0 (by decide)
  have er : r = ((r.toNat : Nat) : Int) := by omega
  rw [er] at e
  exact ⟨r.toNat, by omega, set_of (call_of (cons_of (var_of h.dr) (cons_of (var_of h.pl) (cons_of c_of nil_of))) e)⟩
end
end K30
end

section
set_option Elab.async false
set_option linter.all false
set_option maxRecDepth 100000
set_option maxHeartbeats 1000000
namespace K30
open PySem PySem.Spec PyProof.Rows L2 DL
section
variable {n m i : Nat} {p : Int} {ns : List Int} {tl st : Sto} {ρ : En} {o : Or} {xs ys : List Int} {x : Option Va}
/-! ### words and rows -/
def plainB : Or → Bool
  | .plain => true
  | _ => false
def wordB : Or → Bool
  | .rows _ => false
  | _ => true
def dbB : Or → Bool
  | .degree => true
  | .back => true
  | _ => false
theorem eq_plain (g : Giv n o xs ys) (st : Sto) : opEqA (.val o.dat) (.val (.str "plain")) st = some (.ok (.val (.bl (plainB o))), st) := by
  cases o with
  | plain => exact (eqA_str _ _ st).trans (by rw [decide_eq_true rfl]; rfl)
  | degree => exact (eqA_str _ _ st).trans (by rw [decide_eq_false (by simp [s_dp])]; rfl)
  | back => exact (eqA_str _ _ st).trans (by rw [decide_eq_false (by simp [s_bp])]; rfl)
  | rows rs => exact eqA_ts (ok_sh (ok_rows g.n4 g.lw.ok) (by decide)) sh_plain st
theorem is_word (o : Or) : isT .str o.dat = some (wordB o) := by cases o <;> rfl
theorem in_db (g : Giv n o xs ys) (st : Sto) : opIn (.val o.dat) (.val (.tup [.str "degree", .str "back"])) st = some (.ok (.val (.bl (dbB o))), st) := by
  have hs : shD (.tup [.str "degree", .str "back"]) = true := by decide +kernel
  have ho : shD o.dat = true := by
    cases o with
    | plain => exact sh_plain
    | degree => exact sh_degree
    | back => exact sh_back
    | rows rs => exact ok_sh (ok_rows g.n4 g.lw.ok) (by decide)
  show (if shD o.dat = true ∧ shD (.tup [.str "degree", .str "back"]) = true then some (R.ok (Va.val (D.bl (inD o.dat [.str "degree", .str "back"]))), st) else none) = _
  rw [if_pos ⟨ho, hs⟩]
  have : inD o.dat [.str "degree", .str "back"] = dbB o := by
    cases o with
    | plain => decide +kernel
    | degree => decide +kernel
    | back => decide +kernel
    | rows rs => simp [inD, Or.dat, py, PyData.eqv, dbB]
  rw [this]
theorem eq_nat (a b : Nat) (st : Sto) : opEqA (.val (.int (a : Nat))) (.val (.int (b : Nat))) st = some (.ok (.val (.bl (decide (a = b)))), st) := by
  have : decide ((a : Int) = (b : Int)) = decide (a = b) := decide_eq_decide.mpr (by omega)
  rw [eqA_int, this]
/-! ### leaves_out -/
theorem s19_ok (h : EC ρ ns n o xs ys) (g : Giv n o xs ys) (h20 : ρ[20]? = some (some (.val (.int (m : Nat))))) (st : Sto) : s19_law ρ st = some (.nx (ρ.set 21 (some (.val (.bl (plainB o || decide (m = n)))))), st) :=
  set_of (orV_of (op_of (var_of h.ord) c_of (eq_plain g st)) (op_of (var_of h20) (var_of h.cnt) (eq_nat m n st)))
theorem first_row {r : List Int} {t : List (List Int)} (h : ρ[5]? = some (some (.val (Or.rows (r :: t)).dat))) (st : Sto) : mBin (fun a b => calm (opIx a b)) (mVar 5) (mC (.int 0)) ρ st = some (.ok (.val (T r)), st) := by
  exact op_of (var_of h) c_of (ix0 (r := T r) (ds := t.map T) st)
theorem lc_fil {it : En → M (List D)} {t : Int → Bool} {mt : En → M Bool} {zs : List Int} (hl : ρ.length = 33) (hz : zs.length ≤ 1000) (st : Sto) (hit : it ρ st = some (.ok (zs.map .int), st)) (ht : ∀ (z : Int) (ρ' : En) (st : Sto), (∀ j y, j ≠ 22 → ρ[j]? = y → ρ'[j]? = y) → ρ'[22]? = some (some (.val (.int z))) → mt ρ' st = some (.ok (t z), st)) :
    mLc it (gVar 22) mt (mVar 22) [22] ρ st = some (.ok (.val (.lst ((zs.filter t).map .int))), st) := by
  refine lc_filter (it := it) (g := gVar 22) (mt := mt) (me := mVar 22) (vs := [22]) (ρ := ρ) st zs D.int t D.int hit (by rw [sizeLine_eq]; omega) fun z hz => ⟨_, rfl, fun ac => ⟨?_, fun _ => ?_⟩⟩
  · exact ht z _ _ (fun j y hj hy => get_ne (get_wipe hy (by simpa using fun e => hj e.symm)) (fun e => hj e.symm)) (get_eq (by rw [DL.wipe_length, hl]; decide))
  · exact var_of (get_eq (by rw [DL.wipe_length, hl]; decide))
theorem c11_ok {r : List Int} {t : List (List Int)} (hl : ρ.length = 33) (h5 : ρ[5]? = some (some (.val (Or.rows (r :: t)).dat))) (h20 : ρ[20]? = some (some (.val (.int (m : Nat))))) (hm : m ≤ r.length) (hr : r.length ≤ 1000) (st : Sto) : c11_law ρ st = some (.ok (.val (.lst (((r.take m).filter fun x => decide (x ≤ 0)).map .int))), st) := by
  refine lc_fil hl (by rw [List.length_take]; omega) st (seqI_of (slice_of (first_row h5 st) nopart_of (part_of (var_of h20)) (sl_take hm st)) rfl) fun z ρ' st _ h22 => ?_
  exact T_of (op_of (var_of h22) c_of (leA_int _ _ _))
theorem c10_ok {r : List Int} {t : List (List Int)} (hl : ρ.length = 33) (h5 : ρ[5]? = some (some (.val (Or.rows (r :: t)).dat))) (h20 : ρ[20]? = some (some (.val (.int (m : Nat))))) (hm : m ≤ r.length) (hr : r.length ≤ 1000) (st : Sto) : c10_law ρ st = some (.ok (.val (.lst (((r.drop m).filter fun x => !decide (x = 0)).map .int))), st) := by
  refine lc_fil hl (by rw [List.length_drop]; omega) st (seqI_of (slice_of (first_row h5 st) (part_of (var_of h20)) nopart_of (sl_drop hm st)) rfl) fun z ρ' st _ h22 => ?_
  exact T_of (op_of (var_of h22) c_of (neA_int _ _ _))
theorem emp_le (l : List Int) : (l.filter fun x => decide (x ≤ 0)).isEmpty = l.all fun x => decide (0 < x) := by
  induction l with
  | nil => rfl
  | cons a t ih =>
    by_cases h : a ≤ 0
    · rw [List.filter_cons_of_pos (by simpa using h), List.all_cons, decide_eq_false (by omega)]; rfl
    · rw [List.filter_cons_of_neg (by simpa using h), List.all_cons, decide_eq_true (by omega), ih]; rfl
theorem emp_ne (l : List Int) : (l.filter fun x => !decide (x = 0)).isEmpty = !l.any (· != 0) := by
  induction l with
  | nil => rfl
  | cons a t ih =>
    by_cases h : a = 0
    · rw [List.filter_cons_of_neg (by simp [h]), List.any_cons, ih]; simp [h]
    · rw [List.filter_cons_of_pos (by simp [h]), List.any_cons]; simp [h]
theorem emp_eq (l : List Int) (z : Int) : (l.filter fun x => !decide (x = z)).isEmpty = l.all fun x => decide (x = z) := by
  induction l with
  | nil => rfl
  | cons a t ih =>
    by_cases h : a = z
    · rw [List.filter_cons_of_neg (by simp [h]), List.all_cons, ih, decide_eq_true h]; rfl
    · rw [List.filter_cons_of_pos (by simp [h]), List.all_cons, decide_eq_false h]; rfl
theorem s20_ok (h : EC ρ ns n o xs ys) (g : Giv n o xs ys) (hm : m ≤ n) (h20 : ρ[20]? = some (some (.val (.int (m : Nat))))) (h21 : ρ[21]? = some (some (.val (.bl (plainB o || decide (m = n)))))) (st : Sto) : s20_law ρ st = some (.nx (ρ.set 21 (some (.val (.bl (leavesB n m o))))), st) := by
  have hw : ∀ b, wordB o = b → mNot (mT (mIsV .str (mVar 5))) ρ st = some (.ok (!b), st) := fun b hb => not_of (T_of (isV_of (var_of h.ord) (by rw [is_word, hb])))
  have self : ∀ b, (plainB o || decide (m = n)) = b → ρ.set 21 (some (.val (.bl b))) = ρ := fun b hb => by
    subst hb
    have hl : 21 < ρ.length := by rw [h.len]; decide
    have e : ρ[21] = some (.val (.bl (plainB o || decide (m = n)))) := by
      rw [List.getElem?_eq_getElem hl] at h21
      exact Option.some.inj h21
    rw [← e]
    exact List.set_getElem_self hl
  cases o with
  | plain => exact (ifs_f (hw true rfl) rfl).trans (by rw [self (leavesB n m .plain) rfl]; rfl)
  | degree => exact (ifs_f (hw true rfl) rfl).trans (by rw [self (leavesB n m .degree) (by simp [plainB, leavesB])]; rfl)
  | back => exact (ifs_f (hw true rfl) rfl).trans (by rw [self (leavesB n m .back) (by simp [plainB, leavesB])]; rfl)
  | rows rs =>
    obtain ⟨r, t, rfl, h1⟩ := g.lw.one rs rfl
    obtain ⟨k1, k2, k3, k4⟩ := g.lw.ok.rows _ rfl
    obtain ⟨m1, m2⟩ := k3 r (by simp)
    have h4 := g.n4
    have e1 := c11_ok h.len h.ord h20 (by omega) (by omega) st
    have e2 := c10_ok h.len h.ord h20 (by omega) (by omega) st
    have q1 := eqA_nilI ((r.take m).filter fun x => decide (x ≤ 0)) st
    have q2 := eqA_nilI ((r.drop m).filter fun x => !decide (x = 0)) st
    rw [emp_le] at q1
    rw [emp_ne] at q2
    refine ifs_t (hw false rfl) (set_of ?_)
    exact orV_of (var_of h21) (andV_of (op_of e1 (lst_of nil_of (mkLst0 st)) q1) (op_of e2 (lst_of nil_of (mkLst0 st)) q2))
/-! ### is_by_degree -/
theorem c12_ok {r : List Int} {t : List (List Int)} (hl : ρ.length = 33) (h5 : ρ[5]? = some (some (.val (Or.rows (r :: t)).dat))) (h0 : 0 < r.length) (hr : r.length ≤ 1000) (st : Sto) : c12_law ρ st = some (.ok (.val (.lst ((r.filter fun x => !decide (x = r.getD 0 0)).map .int))), st) := by
  refine lc_fil hl hr st (seqI_of (first_row h5 st) rfl) fun z ρ' st ht h22 => ?_
  exact T_of (op_of (var_of h22) (op_of (first_row (ht _ _ (by decide) h5) st) c_of (ix_T (k := 0) h0 st)) (neA_int _ _ _))
theorem s21_ok (h : EC ρ ns n o xs ys) (g : Giv n o xs ys) (st : Sto) : s21_law ρ st = some (.nx (ρ.set 23 (some (.val (.bl (byD n o))))), st) := by
  have hin : mBin (fun a b => calm (opIn a b)) (mVar 5) (mTup (mCons (mC (.str "degree")) (mCons (mC (.str "back")) mNil))) ρ st = some (.ok (.val (.bl (dbB o))), st) := op_of (var_of h.ord) (tup_of (cons_of c_of (cons_of c_of nil_of)) (mkTup2 _ _ _)) (in_db g st)
  have hw : mNotV (mIsV .str (mVar 5)) ρ st = some (.ok (.val (.bl (!wordB o))), st) := notV_of (isV_of (var_of h.ord) (is_word o))
  have e1 : mBin (fun a b => calm (opEqA a b)) (mVar 4) (mC (.int 1)) ρ st = some (.ok (.val (.bl (decide (n = 1)))), st) := op_of (var_of h.cnt) c_of (eq_nat n 1 st)
  refine set_of ?_
  cases o with
  | plain =>
    have := orV_of e1 (orV_of hin (andV_f (mb := mBin (fun a b => calm (opEqA a b)) c12_law (mLst mNil)) hw))
    simpa [dbB, byD] using this
  | degree =>
    have := orV_of e1 (orV_t (mb := mAndV (mNotV (mIsV .str (mVar 5))) (mBin (fun a b => calm (opEqA a b)) c12_law (mLst mNil))) hin)
    simpa [dbB, byD] using this
  | back =>
    have := orV_of e1 (orV_t (mb := mAndV (mNotV (mIsV .str (mVar 5))) (mBin (fun a b => calm (opEqA a b)) c12_law (mLst mNil))) hin)
    simpa [dbB, byD] using this
  | rows rs =>
    obtain ⟨r, t, rfl, h1⟩ := g.lw.one rs rfl
    obtain ⟨k1, k2, k3, k4⟩ := g.lw.ok.rows _ rfl
    obtain ⟨m1, m2⟩ := k3 r (by simp)
    have h4 := g.n4
    have hn1 := g.n1
    have e2 := c12_ok h.len h.ord (by omega) (by omega) st
    have q := eqA_nilI (r.filter fun x => !decide (x = r.getD 0 0)) st
    rw [emp_eq] at q
    have hp : decide (0 < r.getD 0 0) = true := by
      have hl : 0 < r.length := by omega
      have : r.getD 0 0 = r[0] := by simp [hl]
      rw [this]
      have := h1 r[0] (List.getElem_mem hl)
      exact decide_eq_true (by omega)
    have hb : byD n (.rows (r :: t)) = (decide (n = 1) || (dbB (.rows (r :: t)) || ((!wordB (.rows (r :: t))) && r.all fun x => decide (x = r.getD 0 0)))) := by
      show (decide (n = 1) || (decide (0 < r.getD 0 0) && r.all fun x => decide (x = r.getD 0 0))) = _
      rw [hp]
      rfl
    rw [hb]
    exact orV_of e1 (orV_of hin (andV_of hw (op_of e2 (lst_of nil_of (mkLst0 st)) q)))
end
end K30
end

section
set_option Elab.async false
set_option linter.all false
set_option maxRecDepth 100000
set_option maxHeartbeats 1000000
namespace K30
open PySem PySem.Spec PyProof.Rows L2 DL
section
variable {n m i dg : Nat} {p : Int} {ns : List Int} {tl st : Sto} {ρ : En} {o : Or} {xs ys : List Int} {x : Option Va} {rs : List (List Int)}
/-- the last four answers of a turn -/
def last4 (n m dg : Nat) (o : Or) (rs : List (List Int)) : List D := [.tup (inOrd o rs), .bl (leavesB n m o), .bl (byD n o), .tup ((allW n dg).map T)]
theorem ok_last4 (g : Giv n o xs ys) (hd : dg ≤ 5) (hl : rs.length ≤ 8) (hr : ∀ r ∈ rs, Pw (n : Nat) r) : DL.Ok 3 200000 (.lst (last4 n m dg o rs)) := by
  have h1 := g.n1
  have h4 := g.n4
  refine (ok_lst (n := 2) (b := 40000) (m := 4) (fun d hd' => ?_) (Nat.le_refl _)).le (Nat.le_refl _) (by decide)
  unfold last4 at hd'
  simp only [List.mem_cons, List.not_mem_nil, or_false] at hd'
  rcases hd' with rfl | rfl | rfl | rfl
  · refine (ok_tup (n := 1) (b := 100) (m := 8) (fun d hd' => ?_) ?_).le (Nat.le_refl _) (by decide)
    · unfold inOrd at hd'
      obtain ⟨e, he, rfl⟩ := List.mem_map.mp hd'
      obtain ⟨r, hr', rfl⟩ := mem_sorted he
      have hp := hr r hr'
      have hl := hp.len
      exact ok_T (by omega) fun x hx => by have := hp.rng x hx; omega
    · unfold inOrd
      rw [List.length_map, len_sorted]
      exact hl
  · exact (ok_bl _).le (by decide) (by decide)
  · exact (ok_bl _).le (by decide) (by decide)
  · obtain ⟨k, rfl⟩ : ∃ k, n = k + 1 := ⟨n - 1, by omega⟩
    refine (ok_tup (n := 1) (b := 100) (m := 216) (fun d hd' => ?_) ?_).le (Nat.le_refl _) (by decide)
    · obtain ⟨r, hr', rfl⟩ := List.mem_map.mp hd'
      obtain ⟨q1, q2⟩ := memW k dg r hr'
      exact ok_T (by omega) fun x hx => by have := q2 x hx; omega
    · have := lenW k dg hd
      have h6 : 6 ^ k ≤ 6 ^ 3 := Nat.pow_le_pow_right (by decide) (by omega)
      rw [List.length_map]
      omega
theorem s23_ok (h : EC ρ ns n o xs ys) (g : Giv n o xs ys) (hm1 : 1 ≤ m) (hm : m ≤ n) (hd : dg ≤ 5) (hl : rs.length ≤ 8) (hr : ∀ r ∈ rs, Pw (n : Nat) r) (h17 : ρ[17]? = some (some (.val (.tup (rs.map T))))) (h20 : ρ[20]? = some (some (.val (.int (m : Nat))))) (h24 : ρ[24]? = some (some (.val (.int (dg : Nat))))) (st : Sto) :
    s23_law ρ st = some (.nx (ρ.set 25 (some (.val (.lst (last4 n m dg o rs))))), st) := by
  have e6 := told6 (z := .non) (.ok (in_order_ok g.n1 g.n4 g.lw.ok hr (by omega) st))
  have e7 := told7 (z := .non) (.ok (leaves_ok g.n1 g.n4 g.lw.ok hm1 hm st))
  have e8 := told8 (y := .non) (z := .non) (.ok (by_ok g.n1 g.n4 g.lw.ok st))
  have e9 := told9 (y := .non) (z := .non) (.ok (with_ok g.n1 g.n4 hd st))
  exact set_of (lst_of (cons_of (call_of (cons_of c_of (cons_of (var_of h.cnt) (cons_of (var_of h.ord) (cons_of (var_of h17) (cons_of c_of nil_of))))) e6)
    (cons_of (call_of (cons_of c_of (cons_of (var_of h.cnt) (cons_of (var_of h.ord) (cons_of (var_of h20) (cons_of c_of nil_of))))) e7)
    (cons_of (call_of (cons_of c_of (cons_of (var_of h.cnt) (cons_of (var_of h.ord) (cons_of c_of (cons_of c_of nil_of))))) e8)
    (cons_of (call_of (cons_of c_of (cons_of (var_of h.cnt) (cons_of (var_of h24) (cons_of c_of (cons_of c_of nil_of))))) e9) nil_of)))) (mkLst4 _ _ _ _ _))
theorem c13_ok (hl : ρ.length = 33) (hr : rs.length ≤ 8) (h18 : ρ[18]? = some (some (.val (.lst (sortD (rs.map (pairD o))))))) (st : Sto) : c13_law ρ st = some (.ok (.val (.lst (inOrd o rs))), st) := by
  refine lc_map (it := mSeqI (mRev (mVar 18) mNoPart)) (g := gTupD 2 (gConsD (gVar 26) (gConsD (gVar 19) gNilD))) (me := mVar 19) (vs := [26, 19]) (ρ := ρ) st ((sortD (rs.map (pairD o))).reverse) (fun d => d) sndD ?_ ?_ fun d hd => ?_
  · rw [List.map_id']
    exact seqI_of (rev_of (var_of h18) nopart_of (revOf_lst _ st)) rfl
  · rw [len_sorted, sizeLine_eq]; omega
  · obtain ⟨r, hr, rfl⟩ := mem_sorted hd
    exact ⟨_, rfl, fun ac => var_of (get_eq (by rw [List.length_set, DL.wipe_length, hl]; decide))⟩
theorem s24_ok (h : EC ρ ns n o xs ys) (g : Giv n o xs ys) (hd : dg ≤ 5) (hl : rs.length ≤ 8) (hr : ∀ r ∈ rs, Pw (n : Nat) r) (h18 : ρ[18]? = some (some (.val (.lst (sortD (rs.map (pairD o)))))))
    (h21 : ρ[21]? = some (some (.val (.bl (leavesB n m o))))) (h23 : ρ[23]? = some (some (.val (.bl (byD n o))))) (h24 : ρ[24]? = some (some (.val (.int (dg : Nat))))) (h25 : ρ[25]? = some (some (.val (.lst (last4 n m dg o rs))))) (st : Sto) : s24_law ρ st = some (.nx ρ, st) := by
  have r := ok_repr (ok_last4 (m := m) g hd hl hr) (by decide) (by decide) rfl st
  refine ifs_f (ne_repr (blt_of (cons_of (var_of h25) nil_of) r) (blt_of (cons_of (lst_of (cons_of (blt_of (cons_of (c13_ok h.len hl h18 st) nil_of) (bTuple_lst _ _)) (cons_of (var_of h21) (cons_of (var_of h23) (cons_of (blt_of (cons_of (call_of (cons_of (var_of h.cnt) (cons_of (var_of h24) nil_of)) (law_all_ok g.n1 g.n4 hd st)) nil_of) (bTuple_lst _ _)) nil_of)))) (mkLst4 _ _ _ _ _)) nil_of) r)) rfl
/-! ### one turn -/
theorem turn_ok (h : EB ρ ns) (h0 : 0 ≤ p) (tl : Sto) : ∃ (ρ' : En) (n : Nat) (o : Or) (xs ys : List Int) (p' : Int), 0 ≤ p' ∧ EC ρ' ns n o xs ys ∧ Giv n o xs ys ∧ b1_law ρ (At p tl) = some (.nx ρ', At p' tl) := by
  obtain ⟨ρ1, n, o, xs, ys, p1, q1, h1, g, e1⟩ := s567_ok h h0 tl (mSeq s8_law (mSeq s9_law (mSeq s10_law (mSeq s11_law (mSeq s12_law (mSeq s13_law (mSeq s14_law (mSeq s15_law (mSeq s16_law (mSeq s17_law (mSeq s18_law (mSeq s19_law (mSeq s20_law (mSeq s21_law (mSeq s22_law (mSeq s23_law s24_law))))))))))))))))
  have e8 := s8_ok h1 g (At p1 tl)
  have h8 := h1.set (i := 8) (x := some (.val (prs xs ys))) (by decide)
  have f8 := get_eq (ρ := ρ1) (i := 8) (x := some (.val (prs xs ys))) (by rw [h1.len]; decide)
  generalize ρ1.set 8 (some (.val (prs xs ys))) = ρ2 at e8 h8 f8
  have e9 := s9_ok h8 g f8 (At p1 tl)
  have h9 := h8.set (i := 9) (x := some (.val (.lst [sumsD xs ys, overD xs ys]))) (by decide)
  have f9 := get_eq (ρ := ρ2) (i := 9) (x := some (.val (.lst [sumsD xs ys, overD xs ys]))) (by rw [h8.len]; decide)
  have f98 := get_ne (i := 9) (x := some (.val (.lst [sumsD xs ys, overD xs ys]))) f8 (by decide)
  generalize ρ2.set 9 (some (.val (.lst [sumsD xs ys, overD xs ys]))) = ρ3 at e9 h9 f9 f98
  have e10 := s10_ok h9 g f98 f9 (At p1 tl)
  have h10 := h9.set (i := 9) (x := some (.val (.lst (due4 xs ys)))) (by decide)
  have f10 := get_eq (ρ := ρ3) (i := 9) (x := some (.val (.lst (due4 xs ys)))) (by rw [h9.len]; decide)
  generalize ρ3.set 9 (some (.val (.lst (due4 xs ys)))) = ρ4 at e10 h10 f10
  have e11 := s11_ok h10 g f10 (At p1 tl)
  have e12 := s12_ok h10 g (At p1 tl)
  have h12 := (h10.set (i := 13) (x := some (.val (T (keyOf o xs)))) (by decide)).set (i := 14) (x := some (.val (T (keyOf o ys)))) (by decide)
  have f14 := get_eq (ρ := ρ4.set 13 (some (.val (T (keyOf o xs))))) (i := 14) (x := some (.val (T (keyOf o ys)))) (by rw [List.length_set, h10.len]; decide)
  have f13 := get_ne (i := 14) (x := some (.val (T (keyOf o ys)))) (get_eq (ρ := ρ4) (i := 13) (x := some (.val (T (keyOf o xs)))) (by rw [h10.len]; decide)) (by decide)
  generalize (ρ4.set 13 (some (.val (T (keyOf o xs))))).set 14 (some (.val (T (keyOf o ys)))) = ρ5 at e12 h12 f13 f14
  have kl : (keyOf o xs).length = (keyOf o ys).length := key_len o (by have := g.x.len; have := g.y.len; omega)
  have ks := key_small g g.x
  have e13 := s13_ok h12.len f13 f14 ks kl (At p1 tl)
  have h13 := h12.set (i := 15) (x := some (.val (.lst ((diffs (keyOf o xs) (keyOf o ys)).map .int)))) (by decide)
  have f15 := get_eq (ρ := ρ5) (i := 15) (x := some (.val (.lst ((diffs (keyOf o xs) (keyOf o ys)).map .int)))) (by rw [h12.len]; decide)
  have f13' := get_ne (i := 15) (x := some (.val (.lst ((diffs (keyOf o xs) (keyOf o ys)).map .int)))) f13 (by decide)
  have f14' := get_ne (i := 15) (x := some (.val (.lst ((diffs (keyOf o xs) (keyOf o ys)).map .int)))) f14 (by decide)
  generalize ρ5.set 15 (some (.val (.lst ((diffs (keyOf o xs) (keyOf o ys)).map .int)))) = ρ6 at e13 h13 f15 f13' f14'
  have e14 := s14_ok f13' f14' f15 kl (At p1 tl)
  have h14 := h13.set (i := 9) (x := some (.val (.lst [.int (cmpI (keyOf o xs) (keyOf o ys)), firstDiff 0 (keyOf o xs) (keyOf o ys)]))) (by decide)
  have f9b := get_eq (ρ := ρ6) (i := 9) (x := some (.val (.lst [.int (cmpI (keyOf o xs) (keyOf o ys)), firstDiff 0 (keyOf o xs) (keyOf o ys)]))) (by rw [h13.len]; decide)
  generalize ρ6.set 9 (some (.val (.lst [.int (cmpI (keyOf o xs) (keyOf o ys)), firstDiff 0 (keyOf o xs) (keyOf o ys)]))) = ρ7 at e14 h14 f9b
  have e15 := s15_ok h14 g f9b (At p1 tl)
  obtain ⟨rs, p2, q2, hl, hr, e16⟩ := s16_ok h14 g q1 tl
  have h16 := h14.set (i := 17) (x := some (.val (.tup (rs.map T)))) (by decide)
  have f17 := get_eq (ρ := ρ7) (i := 17) (x := some (.val (.tup (rs.map T)))) (by rw [h14.len]; decide)
  generalize ρ7.set 17 (some (.val (.tup (rs.map T)))) = ρ8 at e16 h16 f17
  have e17 := s17_ok h16 g hr hl f17 (At p2 tl)
  have h17 := h16.set (i := 18) (x := some (.val (.lst (sortD (rs.map (pairD o)))))) (by decide)
  have f18 := get_eq (ρ := ρ8) (i := 18) (x := some (.val (.lst (sortD (rs.map (pairD o)))))) (by rw [h16.len]; decide)
  have f17b := get_ne (i := 18) (x := some (.val (.lst (sortD (rs.map (pairD o)))))) f17 (by decide)
  generalize ρ8.set 18 (some (.val (.lst (sortD (rs.map (pairD o)))))) = ρ9 at e17 h17 f18 f17b
  obtain ⟨m, hm1, hm, e18⟩ := s18_ok h17 g q2 tl
  have h18 := h17.set (i := 20) (x := some (.val (.int (m : Nat)))) (by decide)
  have f20 := get_eq (ρ := ρ9) (i := 20) (x := some (.val (.int (m : Nat)))) (by rw [h17.len]; decide)
  have f18b := get_ne (i := 20) (x := some (.val (.int (m : Nat)))) f18 (by decide)
  have f17c := get_ne (i := 20) (x := some (.val (.int (m : Nat)))) f17b (by decide)
  generalize ρ9.set 20 (some (.val (.int (m : Nat)))) = ρa at e18 h18 f20 f18b f17c
  have e19 := s19_ok h18 g f20 (At (p2 + 1) tl)
  have h19 := h18.set (i := 21) (x := some (.val (.bl (plainB o || decide (m = n))))) (by decide)
  have f21 := get_eq (ρ := ρa) (i := 21) (x := some (.val (.bl (plainB o || decide (m = n))))) (by rw [h18.len]; decide)
  have f20b := get_ne (i := 21) (x := some (.val (.bl (plainB o || decide (m = n))))) f20 (by decide)
  have f18c := get_ne (i := 21) (x := some (.val (.bl (plainB o || decide (m = n))))) f18b (by decide)
  have f17d := get_ne (i := 21) (x := some (.val (.bl (plainB o || decide (m = n))))) f17c (by decide)
  generalize ρa.set 21 (some (.val (.bl (plainB o || decide (m = n))))) = ρb at e19 h19 f21 f20b f18c f17d
  have e20 := s20_ok h19 g hm f20b f21 (At (p2 + 1) tl)
  have h20 := h19.set (i := 21) (x := some (.val (.bl (leavesB n m o)))) (by decide)
  have f21b := get_eq (ρ := ρb) (i := 21) (x := some (.val (.bl (leavesB n m o)))) (by rw [h19.len]; decide)
  have f20c := get_ne (i := 21) (x := some (.val (.bl (leavesB n m o)))) f20b (by decide)
  have f18d := get_ne (i := 21) (x := some (.val (.bl (leavesB n m o)))) f18c (by decide)
  have f17e := get_ne (i := 21) (x := some (.val (.bl (leavesB n m o)))) f17d (by decide)
  generalize ρb.set 21 (some (.val (.bl (leavesB n m o)))) = ρc at e20 h20 f21b f20c f18d f17e
  have e21 := s21_ok h20 g (At (p2 + 1) tl)
  have h21 := h20.set (i := 23) (x := some (.val (.bl (byD n o)))) (by decide)
  have f23 := get_eq (ρ := ρc) (i := 23) (x := some (.val (.bl (byD n o)))) (by rw [h20.len]; decide)
  have f21c := get_ne (i := 23) (x := some (.val (.bl (byD n o)))) f21b (by decide)
  have f20d := get_ne (i := 23) (x := some (.val (.bl (byD n o)))) f20c (by decide)
  have f18e := get_ne (i := 23) (x := some (.val (.bl (byD n o)))) f18d (by decide)
  have f17f := get_ne (i := 23) (x := some (.val (.bl (byD n o)))) f17e (by decide)
  generalize ρc.set 23 (some (.val (.bl (byD n o)))) = ρd at e21 h21 f23 f21c f20d f18e f17f
  obtain ⟨dg, hd, e22⟩ := s22_ok (p := p2 + 1) h21 (by omega) tl
  have h22 := h21.set (i := 24) (x := some (.val (.int (dg : Nat)))) (by decide)
  have f24 := get_eq (ρ := ρd) (i := 24) (x := some (.val (.int (dg : Nat)))) (by rw [h21.len]; decide)
  have f23b := get_ne (i := 24) (x := some (.val (.int (dg : Nat)))) f23 (by decide)
  have f21d := get_ne (i := 24) (x := some (.val (.int (dg : Nat)))) f21c (by decide)
  have f20e := get_ne (i := 24) (x := some (.val (.int (dg : Nat)))) f20d (by decide)
  have f18f := get_ne (i := 24) (x := some (.val (.int (dg : Nat)))) f18e (by decide)
  have f17g := get_ne (i := 24) (x := some (.val (.int (dg : Nat)))) f17f (by decide)
  generalize ρd.set 24 (some (.val (.int (dg : Nat)))) = ρe at e22 h22 f24 f23b f21d f20e f18f f17g
  have e23 := s23_ok h22 g hm1 hm hd hl hr f17g f20e f24 (At (p2 + 1 + 1) tl)
  have h23 := h22.set (i := 25) (x := some (.val (.lst (last4 n m dg o rs)))) (by decide)
  have f25 := get_eq (ρ := ρe) (i := 25) (x := some (.val (.lst (last4 n m dg o rs)))) (by rw [h22.len]; decide)
  have f24b := get_ne (i := 25) (x := some (.val (.lst (last4 n m dg o rs)))) f24 (by decide)
  have f23c := get_ne (i := 25) (x := some (.val (.lst (last4 n m dg o rs)))) f23b (by decide)
  have f21e := get_ne (i := 25) (x := some (.val (.lst (last4 n m dg o rs)))) f21d (by decide)
  have f18g := get_ne (i := 25) (x := some (.val (.lst (last4 n m dg o rs)))) f18f (by decide)
  generalize ρe.set 25 (some (.val (.lst (last4 n m dg o rs)))) = ρf at e23 h23 f25 f24b f23c f21e f18g
  have e24 := s24_ok h23 g hd hl hr f18g f21e f23c f24b f25 (At (p2 + 1 + 1) tl)
  refine ⟨ρf, n, o, xs, ys, p2 + 1 + 1, by omega, h23, g, ?_⟩
  show mSeq s5_law (mSeq s6_law (mSeq s7_law _)) ρ (At p tl) = _
  rw [e1]
  exact snx e8 (snx e9 (snx e10 (snx e11 (snx e12 (snx e13 (snx e14 (snx e15 (snx e16 (snx e17 (snx e18 (snx e19 (snx e20 (snx e21 (snx e22 (snx e23 e24)))))))))))))))
end
end K30
end

section
set_option Elab.async false
set_option linter.all false
set_option maxRecDepth 100000
set_option maxHeartbeats 1000000
namespace K30
open PySem PySem.Spec PyProof.Rows L2 DL
section
variable {n m i : Nat} {p : Int} {ns : List Int} {tl st : Sto} {ρ : En} {o : Or} {xs ys : List Int} {x : Option Va} {rs : List (List Int)}
theorem cons_s {a : Va} {r : List Va} {ma : En → M Va} {mr : En → M (List Va)} (h1 : ma ρ st = some (.ok a, st)) (h2 : mr ρ st = some (.ok r, st)) : mCons ma mr ρ st = some (.ok (a :: r), st) := cons_of h1 h2
theorem turns_ok (h : EB ρ ns) (h0 : 0 ≤ p) (tl : Sto) : ∃ (ρ' : En) (n : Nat) (o : Or) (xs ys : List Int) (p' : Int), 0 ≤ p' ∧ EC ρ' ns n o xs ys ∧ Giv n o xs ys ∧ s31_law ρ (At p tl) = some (.nx ρ', At p' tl) := by
  have L := forGo_invN (g := gVar 3) (body := b1_law) (fun i ρ st => ∃ q, 0 ≤ q ∧ st = At q tl ∧ EB ρ ns ∧ (i = 0 ∨ ∃ (n : Nat) (o : Or) (xs ys : List Int), EC ρ ns n o xs ys ∧ Giv n o xs ys)) (intsR 0 4) 0
    (fun d hd i ρ st hi ⟨q, hq, es, hb, _⟩ => by
      subst es
      obtain ⟨ρ', n, o, xs, ys, p', q', hc, g, e⟩ := turn_ok (hb.set (i := 3) (x := some (.val d)) (by decide) (by decide)) hq tl
      exact ⟨_, rfl, ρ', _, e, p', q', rfl, hc.toEB, .inr ⟨n, o, xs, ys, hc, g⟩⟩)
    ρ (At p tl) ⟨p, h0, rfl, h, .inl rfl⟩
  obtain ⟨ρ', st', e, q, hq, rfl, hb, z⟩ := L
  rcases z with z | ⟨n, o, xs, ys, hc, g⟩
  · rw [intsR_length] at z; omega
  · exact ⟨ρ', n, o, xs, ys, q, hq, hc, g, for_of (argI_of (cons_of c_of nil_of) (range1 4 _ (by decide))) e⟩
/-! ### the order 1, 0, .. -/
def zrow (n : Nat) : List Int := 1 :: List.replicate (n - 1) 0
def zeroO (n : Nat) : Or := .rows [zrow n]
theorem zero_Ok (h1 : 1 ≤ n) (h4 : n ≤ 4) : (zeroO n).Ok n := by
  refine ⟨fun rs e => ?_⟩
  cases e
  refine ⟨Nat.le_refl _, (show 1 ≤ 3 by decide), fun r hr => ?_, ?_⟩
  · rw [List.mem_singleton] at hr
    subst hr
    unfold zrow
    refine ⟨by rw [List.length_cons, List.length_replicate]; omega, fun x hx => ?_⟩
    rcases List.mem_cons.mp hx with rfl | hx
    · decide
    · rw [(List.mem_replicate.mp hx).2]; decide
  · match n, h1, h4 with
    | 1, _, _ => decide
    | 2, _, _ => decide
    | 3, _, _ => decide
    | 4, _, _ => decide
theorem rep_tup (x : D) {k : Nat} (h : k ≤ 1000) (st : Sto) : opMulA (.val (.tup [x])) (.val (.int (k : Nat))) st = some (.ok (.val (.tup (List.replicate k x))), st) := by
  rw [mulA_tup [x] (k : Nat) st ⟨by omega, by omega, (show 1 ≤ 1000 by decide)⟩, Int.toNat_natCast, List.flatten_replicate_singleton]
theorem rep_lst (x : D) {k : Nat} (h : k ≤ 1000) (st : Sto) : opMulA (.val (.lst [x])) (.val (.int (k : Nat))) st = some (.ok (.val (.lst (List.replicate k x))), st) := by
  have h1 : (-(2 ^ 63) : Int) ≤ (k : Int) := Int.le_trans (by decide : (-(2 ^ 63) : Int) ≤ 0) (Int.natCast_nonneg k)
  have h2 : (k : Int) < 2 ^ 63 := Int.lt_of_le_of_lt (Int.ofNat_le.mpr h) (by decide)
  rw [mulA_lst [x] (k : Nat) st ⟨h1, h2, by rw [Int.toNat_natCast, sizeLine_eq, List.length_singleton]; omega⟩, Int.toNat_natCast, List.flatten_replicate_singleton]
theorem rep_T (x : Int) {k : Nat} (h : k ≤ 1000) (st : Sto) : opMulA (.val (.tup [.int x])) (.val (.int (k : Nat))) st = some (.ok (.val (T (List.replicate k x))), st) := by
  rw [rep_tup _ h]
  unfold T
  rw [List.map_replicate]
theorem tup1_of {e : En → M Va} {d : D} (h : e ρ st = some (.ok (.val d), st)) : mTup (mCons e mNil) ρ st = some (.ok (.val (.tup [d])), st) := tup_of (cons_of h nil_of) (mkTup1 d st)
theorem cnt1 (h : EC ρ ns n o xs ys) (h1 : 1 ≤ n) (st : Sto) : mBin (fun a b => calm (opSub a b)) (mVar 4) (mC (.int 1)) ρ st = some (.ok (.val (.int ((n - 1 : Nat) : Int))), st) := by
  refine op_of (var_of h.cnt) c_of ?_
  rw [subA_int, show (n : Int) - 1 = ((n - 1 : Nat) : Int) from by omega]
theorem small_rep (x : Int) {k : Nat} (h : k ≤ 1000) : small (List.replicate k x) := by unfold small; rw [List.length_replicate]; exact h
theorem s32_ok (h : EC ρ ns n o xs ys) (g : Giv n o xs ys) (st : Sto) : s32_law ρ st = some (.nx (ρ.set 27 (some (.val (zeroO n).dat))), st) := by
  have h1 := g.n1
  have h4 := g.n4
  refine set_of (tup1_of ?_)
  exact op_of (tup1_of c_of) (op_of (tup1_of c_of) (cnt1 h h1 st) (rep_T 0 (by omega) st)) (cat1 (small_rep 0 (by omega)) 1 st)
theorem zero_leaves (h1 : 1 ≤ n) (h4 : n ≤ 4) : leavesB n 1 (zeroO n) = true := by
  match n, h1, h4 with
  | 1, _, _ => decide
  | 2, _, _ => decide
  | 3, _, _ => decide
  | 4, _, _ => decide
theorem zero_by (h1 : 1 ≤ n) (h4 : n ≤ 4) : byD n (zeroO n) = decide (n = 1) := by
  match n, h1, h4 with
  | 1, _, _ => decide
  | 2, _, _ => decide
  | 3, _, _ => decide
  | 4, _, _ => decide
theorem s33_ok (h : EC ρ ns n o xs ys) (g : Giv n o xs ys) (h27 : ρ[27]? = some (some (.val (zeroO n).dat))) (st : Sto) : s33_law ρ st = some (.nx ρ, st) := by
  have ho := zero_Ok g.n1 g.n4
  have e7 := leaves_ok (m := 1) g.n1 g.n4 ho (Nat.le_refl _) g.n1 st
  have e8 := by_ok g.n1 g.n4 ho st
  rw [zero_leaves g.n1 g.n4] at e7
  rw [zero_by g.n1 g.n4] at e8
  have t7 := told7 (z := .non) (.ok e7)
  have t8 := told8 (y := .non) (z := .non) (.ok e8)
  have ok : DL.Ok 1 100 (.lst [.bl true, .bl (decide (n = 1))]) := by
    refine (ok_lst (n := 0) (b := 0) (m := 2) (fun d hd => ?_) (Nat.le_refl _)).le (Nat.le_refl _) (by decide)
    simp only [List.mem_cons, List.not_mem_nil, or_false] at hd
    rcases hd with rfl | rfl <;> exact ok_bl _
  have r := ok_repr ok (by decide) (by decide) rfl st
  refine ifs_f (ne_repr (blt_of (cons_of (lst_of (cons_of (call_of (cons_of c_of (cons_of (var_of h.cnt) (cons_of (var_of h27) (cons_of c_of (cons_of c_of nil_of))))) t7) (cons_of (call_of (cons_of c_of (cons_of (var_of h.cnt) (cons_of (var_of h27) (cons_of c_of (cons_of c_of nil_of))))) t8) nil_of)) (mkLst2 _ _ _)) nil_of) r)
    (blt_of (cons_of (lst_of (cons_of c_of (cons_of (op_of (var_of h.cnt) c_of (eq_nat n 1 st)) nil_of)) (mkLst2 _ _ _)) nil_of) r)) rfl
/-! ### bad powers -/
structure Bad (n : Nat) (d : D) : Prop where
  a : Arg d
  p : isPow (n : Nat) d = false
theorem bad_first {d0 : D} {zs : List Int} (h : noG d0 = true) (hb : inR 0 30 d0 = false) (hl : zs.length ≤ 1000) : Bad n (.tup (d0 :: zs.map .int)) := by
  refine ⟨⟨?_, fun ds e => ?_⟩, ?_⟩
  · show ((d0 :: zs.map D.int).all noG) = true
    rw [List.all_cons, h, Bool.true_and, List.all_map, List.all_eq_true]
    exact fun _ _ => rfl
  · cases e
    rw [List.length_cons, List.length_map, sizeLine_eq]; omega
  · show (decide (((d0 :: zs.map D.int).length : Int) = (n : Nat)) && (d0 :: zs.map D.int).all (inR 0 30)) = false
    rw [List.all_cons, hb, Bool.false_and, Bool.and_false]
theorem mkLst7 (a b c d e f g : D) (st : Sto) : mkLst [.val a, .val b, .val c, .val d, .val e, .val f, .val g] st = some (.ok (.val (.lst [a, b, c, d, e, f, g])), st) := mkLst_val [a, b, c, d, e, f, g] _ st rfl (show 7 ≤ sizeLine by rw [sizeLine_eq]; decide)
theorem rest_ok (h : EC ρ ns n o xs ys) (g : Giv n o xs ys) (st : Sto) : mSlice (mVar 6) (mPart (mC (.int 1))) mNoPart ρ st = some (.ok (.val (T (xs.drop 1))), st) := by
  have hl := g.x.len
  have h1 := g.n1
  exact slice_of (var_of h.one) (part_of c_of) nopart_of (sl_drop (m := 1) (by omega) st)
theorem s34_ok (h : EC ρ ns n o xs ys) (g : Giv n o xs ys) (h0 : 0 ≤ p) (tl : Sto) : ∃ d : D, Bad n d ∧ s34_law ρ (At p tl) = some (.nx (ρ.set 28 (some (.val d))), At (p + 1) tl) := by
  have hl := g.x.len
  have h1 := g.n1
  have h4 := g.n4
  have hs : small xs := g.x.small (by omega)
  have hd : small (xs.drop 1) := by unfold small at hs ⊢; rw [List.length_drop]; omega
  have hs0 : small [(0 : Int)] := by unfold small; decide
  obtain ⟨d, hm, e⟩ := one_ok [.non, .int 5, T (xs ++ [0]), T (31 :: xs.drop 1), T (-1 :: xs.drop 1), .tup (.bl true :: (xs.drop 1).map .int), .lst (xs.map .int)] ns p tl h0 (by simp)
  have hb : Bad n d := by
    simp only [List.mem_cons, List.not_mem_nil, or_false] at hm
    rcases hm with rfl | rfl | rfl | rfl | rfl | rfl | rfl
    · exact ⟨⟨rfl, fun ds e => by cases e⟩, rfl⟩
    · exact ⟨⟨rfl, fun ds e => by cases e⟩, rfl⟩
    · have : small (xs ++ [0]) := by unfold small at hs ⊢; rw [List.length_append, List.length_singleton]; omega
      refine ⟨arg_T this, ?_⟩
      show (decide ((((xs ++ [0]).map D.int).length : Int) = (n : Nat)) && _) = false
      rw [List.length_map, List.length_append, List.length_singleton, decide_eq_false (by omega), Bool.false_and]
    · exact bad_first (d0 := .int 31) rfl (by decide) hd
    · exact bad_first (d0 := .int (-1)) rfl (by decide) hd
    · exact bad_first (d0 := .bl true) rfl rfl hd
    · exact ⟨⟨rfl, fun ds e => by cases e⟩, rfl⟩
  refine ⟨d, hb, set_of (call_of (cons_of (lst_of (as := [.val .non, .val (.int 5), .val (T (xs ++ [0])), .val (T (31 :: xs.drop 1)), .val (T (-1 :: xs.drop 1)), .val (.tup (.bl true :: (xs.drop 1).map .int)), .val (.lst (xs.map .int))]) ?_ (mkLst7 _ _ _ _ _ _ _ _)) (cons_of (var_of h.dr) (cons_of (var_of h.pl) nil_of))) e)⟩
  refine cons_s c_of (cons_s c_of (cons_s ?_ (cons_s ?_ (cons_s ?_ (cons_s ?_ (cons_s ?_ nil_of))))))
  · exact op_of (var_of h.one) (tup1_of c_of) (cat2 (ys := [0]) hs hs0 _)
  · exact op_of (tup1_of c_of) (rest_ok h g _) (cat1 hd 31 _)
  · exact op_of (tup1_of (neg_of c_of)) (rest_ok h g _) (cat1 hd (-1) _)
  · exact op_of (tup1_of c_of) (rest_ok h g _) (addA_tup [.bl true] ((xs.drop 1).map .int) _ (by unfold small at hd; rw [List.length_map, List.length_singleton, sizeLine_eq]; omega))
  · exact blt_of (cons_of (var_of h.one) nil_of) (bList_tup _ _)
end
end K30
end

section
set_option Elab.async false
set_option linter.all false
set_option maxRecDepth 100000
set_option maxHeartbeats 1000000
namespace K30
open PySem PySem.Spec PyProof.Rows L2 DL
section
variable {n m i : Nat} {p : Int} {ns : List Int} {tl st : Sto} {ρ : En} {o : Or} {xs ys : List Int} {x : Option Va} {rs : List (List Int)} {d : D}
theorem ne_same {l : List D} (h : shD (.lst l) = true) (he : PyData.eqv (py (.lst l)) (py (.lst l)) = true) (st : Sto) : opNeA (.val (.lst l)) (.val (.lst l)) st = some (.ok (.val (.bl false)), st) := by
  show (if shD (.lst l) = true ∧ shD (.lst l) = true then some (R.ok (Va.val (D.bl (!PyData.eqv (py (.lst l)) (py (.lst l))))), st) else none) = _
  rw [if_pos ⟨h, h⟩, he]
  rfl
theorem eq_same {l : List D} (h : shD (.lst l) = true) (he : PyData.eqv (py (.lst l)) (py (.lst l)) = true) (st : Sto) : opEqA (.val (.lst l)) (.val (.lst l)) st = some (.ok (.val (.bl true)), st) := by
  show (if shD (.lst l) = true ∧ shD (.lst l) = true then some (R.ok (Va.val (D.bl (PyData.eqv (py (.lst l)) (py (.lst l))))), st) else none) = _
  rw [if_pos ⟨h, h⟩, he]
theorem back_Ok (n : Nat) : Or.Ok n .back := ⟨fun rs e => by cases e⟩
theorem n_le {a k : Nat} (h : a = k) (hk : k ≤ 1000) : a ≤ sizeLine := by rw [sizeLine_eq]; omega
theorem len_le {α : Type} {l : List α} {k : Nat} (h : l.length = k) (hk : k ≤ 1000) : l.length ≤ sizeLine := by rw [sizeLine_eq]; omega
/-! ### bad powers -/
theorem c14_ok (h : EC ρ ns n o xs ys) (g : Giv n o xs ys) (hd : ρ[28]? = some (some (.val d))) (hb : Bad n d) (st : Sto) : c14_law ρ st = some (.ok (.val (.lst [argD "one", argD "one", argD "one", argD "one"])), st) := by
  have hc := inR_n g.n1 g.n4
  refine calls4 (me := mCall g__law_told (mCons (mVar 12) (mCons (mVar 4) (mCons (mVar 28) (mCons (mVar 6) (mCons (mC .non) mNil)))))) (F := fun k => argD "one") h.len st fun k ρ' st hk ht h12 => ?_
  refine call_of (cons_s (var_of h12) (cons_s (var_of (ht _ _ (by decide) h.cnt)) (cons_s (var_of (ht _ _ (by decide) hd)) (cons_s (var_of (ht _ _ (by decide) h.one)) (cons_s c_of nil_of))))) ?_
  match k, hk with
  | 0, _ => exact told0 (.no (four_1 hc hb.a hb.p _ g_times (by simp [four])))
  | 1, _ => exact told1 (.no (four_1 hc hb.a hb.p _ g_over (by simp [four])))
  | 2, _ => exact told2 (.no (four_1 hc hb.a hb.p _ g_least_multiple (by simp [four])))
  | 3, _ => exact told3 (.no (four_1 hc hb.a hb.p _ g_greatest_shared (by simp [four])))
theorem c15_ok (h : EC ρ ns n o xs ys) (g : Giv n o xs ys) (hd : ρ[28]? = some (some (.val d))) (hb : Bad n d) (st : Sto) : c15_law ρ st = some (.ok (.val (.lst [argD "other", argD "other", argD "other", argD "other"])), st) := by
  have hc := inR_n g.n1 g.n4
  refine calls4 (me := mCall g__law_told (mCons (mVar 12) (mCons (mVar 4) (mCons (mVar 6) (mCons (mVar 28) (mCons (mC .non) mNil)))))) (F := fun k => argD "other") h.len st fun k ρ' st hk ht h12 => ?_
  refine call_of (cons_s (var_of h12) (cons_s (var_of (ht _ _ (by decide) h.cnt)) (cons_s (var_of (ht _ _ (by decide) h.one)) (cons_s (var_of (ht _ _ (by decide) hd)) (cons_s c_of nil_of))))) ?_
  match k, hk with
  | 0, _ => exact told0 (.no (four_2 hc g.x hb.a hb.p g_times (by simp [four])))
  | 1, _ => exact told1 (.no (four_2 hc g.x hb.a hb.p g_over (by simp [four])))
  | 2, _ => exact told2 (.no (four_2 hc g.x hb.a hb.p g_least_multiple (by simp [four])))
  | 3, _ => exact told3 (.no (four_2 hc g.x hb.a hb.p g_greatest_shared (by simp [four])))
theorem c16_ok (h : EC ρ ns n o xs ys) (g : Giv n o xs ys) (hd : ρ[28]? = some (some (.val d))) (hb : Bad n d) (st : Sto) : c16_law ρ st = some (.ok (.val (.lst [argD "one", argD "one"])), st) := by
  refine callsL (me := mCall g__law_told (mCons (mVar 12) (mCons (mVar 4) (mCons (mC (.str "back")) (mCons (mVar 28) (mCons (mVar 6) mNil)))))) (F := fun k => argD "one") (ks := [4, 5]) h.len (by decide) st (it45 ρ st) fun k ρ' st hk ht h12 => ?_
  refine call_of (cons_s (var_of h12) (cons_s (var_of (ht _ _ (by decide) h.cnt)) (cons_s c_of (cons_s (var_of (ht _ _ (by decide) hd)) (cons_s (var_of (ht _ _ (by decide) h.one)) nil_of))))) ?_
  simp only [List.mem_cons, List.not_mem_nil, or_false] at hk
  rcases hk with rfl | rfl
  · exact told4 (.no (compare_1 (o := .back) g.n1 g.n4 (back_Ok n) hb.a hb.p st))
  · exact told5 (.no (tells_1 (o := .back) g.n1 g.n4 (back_Ok n) hb.a hb.p st))
theorem c17_ok (h : EC ρ ns n o xs ys) (g : Giv n o xs ys) (hd : ρ[28]? = some (some (.val d))) (hb : Bad n d) (st : Sto) : c17_law ρ st = some (.ok (.val (.lst [argD "other", argD "other"])), st) := by
  refine callsL (me := mCall g__law_told (mCons (mVar 12) (mCons (mVar 4) (mCons (mC (.str "back")) (mCons (mVar 6) (mCons (mVar 28) mNil)))))) (F := fun k => argD "other") (ks := [4, 5]) h.len (by decide) st (it45 ρ st) fun k ρ' st hk ht h12 => ?_
  refine call_of (cons_s (var_of h12) (cons_s (var_of (ht _ _ (by decide) h.cnt)) (cons_s c_of (cons_s (var_of (ht _ _ (by decide) h.one)) (cons_s (var_of (ht _ _ (by decide) hd)) nil_of))))) ?_
  simp only [List.mem_cons, List.not_mem_nil, or_false] at hk
  rcases hk with rfl | rfl
  · exact told4 (.no (compare_2 (o := .back) g.n1 g.n4 (back_Ok n) g.x hb.a hb.p st))
  · exact told5 (.no (tells_2 (o := .back) g.n1 g.n4 (back_Ok n) g.x hb.a hb.p st))
def rows8 : List D := [argD "one", argD "one", argD "one", argD "one", argD "other", argD "other", argD "other", argD "other"]
def rows12 : List D := [argD "one", argD "one", argD "one", argD "one", argD "other", argD "other", argD "other", argD "other", argD "one", argD "one", argD "other", argD "other"]
def words12 : List Str := ["one", "one", "one", "one", "other", "other", "other", "other", "one", "one", "other", "other"]
theorem s35_ok (h : EC ρ ns n o xs ys) (g : Giv n o xs ys) (hd : ρ[28]? = some (some (.val d))) (hb : Bad n d) (st : Sto) : s35_law ρ st = some (.nx (ρ.set 17 (some (.val (.lst rows8)))), st) :=
  set_of (op_of (c14_ok h g hd hb st) (c15_ok h g hd hb st) (addA_lst _ _ _ (len_le (l := rows8) rfl (by decide))))
theorem s36_ok (h : EC ρ ns n o xs ys) (g : Giv n o xs ys) (hd : ρ[28]? = some (some (.val d))) (hb : Bad n d) (h17 : ρ[17]? = some (some (.val (.lst rows8)))) (st : Sto) : s36_law ρ st = some (.nx (ρ.set 17 (some (.val (.lst rows12)))), st) :=
  set_of (op_of (op_of (var_of h17) (c16_ok h g hd hb st) (addA_lst rows8 [argD "one", argD "one"] _ (len_le (l := rows8 ++ [argD "one", argD "one"]) rfl (by decide)))) (c17_ok h g hd hb st) (addA_lst (rows8 ++ [argD "one", argD "one"]) [argD "other", argD "other"] _ (len_le (l := rows12) rfl (by decide))))
theorem lst1_of {e : En → M Va} {d : D} (h : e ρ st = some (.ok (.val d), st)) : mLst (mCons e mNil) ρ st = some (.ok (.val (.lst [d])), st) := lst_of (cons_of h nil_of) (mkLst1 d st)
theorem c18_ok (hl : ρ.length = 33) (st : Sto) : c18_law ρ st = some (.ok (.val (.lst rows12)), st) := by
  have a4 := op_of (ρ := ρ) (lst1_of (c_of (d := .str "one"))) (c_of (d := .int 4)) (rep_lst (.str "one") (k := 4) (by decide) st)
  have b4 := op_of (ρ := ρ) (lst1_of (c_of (d := .str "other"))) (c_of (d := .int 4)) (rep_lst (.str "other") (k := 4) (by decide) st)
  have a2 := op_of (ρ := ρ) (lst1_of (c_of (d := .str "one"))) (c_of (d := .int 2)) (rep_lst (.str "one") (k := 2) (by decide) st)
  have b2 := op_of (ρ := ρ) (lst1_of (c_of (d := .str "other"))) (c_of (d := .int 2)) (rep_lst (.str "other") (k := 2) (by decide) st)
  have hit := seqI_of (op_of (op_of (op_of a4 b4 (addA_lst _ _ st (n_le (k := 8) rfl (by decide)))) a2 (addA_lst _ _ st (n_le (k := 10) rfl (by decide)))) b2 (addA_lst _ _ st (n_le (k := 12) rfl (by decide)))) (seqOf_lst _ st)
  refine lc_map st words12 D.str argD hit (len_le (k := 12) rfl (by decide)) fun z hz => ⟨_, rfl, fun ac => ?_⟩
  exact tup_of (cons_of c_of (cons_of (var_of (get_eq (by rw [DL.wipe_length, hl]; decide))) nil_of)) (mkTup2 _ _ _)
theorem s37_ok (hl : ρ.length = 33) (h17 : ρ[17]? = some (some (.val (.lst rows12)))) (st : Sto) : s37_law ρ st = some (.nx ρ, st) :=
  ifs_f (T_of (op_of (var_of h17) (c18_ok hl st) (ne_same (by decide +kernel) (by decide +kernel) st))) rfl
end
end K30
end

section
set_option Elab.async false
set_option linter.all false
set_option maxRecDepth 100000
set_option maxHeartbeats 1000000
namespace K30
open PySem PySem.Spec PyProof.Rows L2 DL
section
variable {n m i : Nat} {p : Int} {ns : List Int} {tl st : Sto} {ρ : En} {o : Or} {xs ys : List Int} {x : Option Va} {rs : List (List Int)} {d : D}
/-! ### odd orders -/
theorem argO_tup {rows : List D} (h : ∀ r ∈ rows, Arg r) : ArgO (.tup rows) := ⟨rfl, fun z e => (nomatch e), fun rs e => by cases e; exact h⟩
theorem arg_ns {d : D} (hg : noG d = true) (hd : ∀ ds, d ≠ .tup ds) : Arg d := by
  refine ⟨?_, fun ds e => absurd e (hd ds)⟩
  cases d with
  | tup ds => exact absurd rfl (hd ds)
  | _ => exact hg
theorem arg_rep {d : D} (hg : noG d = true) {k : Nat} (h : k ≤ 1000) : Arg (.tup (List.replicate k d)) := by
  refine ⟨?_, fun ds e => ?_⟩
  · show (List.replicate k d).all noG = true
    rw [List.all_replicate, hg]
    simp
  · cases e
    rw [List.length_replicate, sizeLine_eq]; omega
theorem no_rows {rows : List D} (h : ∀ r ∈ rows, Arg r) (hb : rows.length = 0 ∨ 4 < rows.length ∨ rows.all (rowOk (n : Nat)) = false) : NoOr n (.tup rows) := fun st => is_order_no (argO_tup h) (.inr (.inl ⟨rows, rfl, hb⟩))
theorem no_above {rs : List (List Int)} (h4 : n ≤ 4) (h1 : 1 ≤ rs.length) (hl : rs.length ≤ 4) (h : ∀ r ∈ rs, r.length = n ∧ ∀ x ∈ r, -1000000 ≤ x ∧ x ≤ 1000000) (hb : (List.range n).all (aboveI rs) = false) : NoOr n (.tup (rs.map T)) := fun st => by
  have := is_order_rows (n := n) h4 h1 hl h st
  rw [hb] at this
  exact this
theorem row_bad {d : D} {k : Nat} (hk : 1 ≤ k) (hb : inR (-1000000) 1000000 d = false) : rowOk (n : Nat) (.tup (List.replicate k d)) = false := by
  show (decide (((List.replicate k d).length : Int) = (n : Nat)) && (List.replicate k d).all (inR (-1000000) 1000000)) = false
  rw [List.all_replicate, hb]
  have : k ≠ 0 := by omega
  simp [this]
theorem T_rep (x : Int) (k : Nat) : T (List.replicate k x) = .tup (List.replicate k (.int x)) := by
  unfold T
  rw [List.map_replicate]
def odds (n : Nat) : List D := [.str "Plain", .non, .tup [], .tup (List.replicate 5 (T (List.replicate n 1))), .tup [T (List.replicate (n + 1) 1)], .tup [T (List.replicate n (-1))], .tup [T (List.replicate n 0), T (-1 :: List.replicate (n - 1) 1)], .int 5,
  .tup [.lst (List.replicate n (.int 1))], .tup [.tup (List.replicate n (.bl true))], .tup [T (List.replicate n 1000001)]]
theorem odd_all (h1 : 1 ≤ n) (h4 : n ≤ 4) : ∀ d ∈ odds n, NoOr n d := by
  intro d hd
  unfold odds at hd
  simp only [List.mem_cons, List.not_mem_nil, or_false] at hd
  rcases hd with rfl | rfl | rfl | rfl | rfl | rfl | rfl | rfl | rfl | rfl | rfl
  · exact fun st => is_order_no ⟨rfl, fun z e => by cases e; decide +kernel, fun rows e => (nomatch e)⟩ (.inl ⟨_, rfl, by decide +kernel⟩)
  · exact fun st => is_order_no ⟨rfl, fun z e => (nomatch e), fun rows e => (nomatch e)⟩ (.inr (.inr ⟨fun z e => (nomatch e), fun rows e => (nomatch e)⟩))
  · exact no_rows (by simp) (.inl rfl)
  · exact no_rows (fun r hr => by rw [(List.mem_replicate.mp hr).2]; exact arg_T (small_rep 1 (by omega))) (.inr (.inl (by rw [List.length_replicate]; decide)))
  · refine no_rows (fun r hr => by rw [List.mem_singleton.mp hr]; exact arg_T (small_rep 1 (by omega))) (.inr (.inr ?_))
    have : rowOk (n : Nat) (T (List.replicate (n + 1) 1)) = false := by
      show (decide ((((List.replicate (n + 1) (1 : Int)).map D.int).length : Int) = (n : Nat)) && _) = false
      rw [List.length_map, List.length_replicate, decide_eq_false (by omega), Bool.false_and]
    rw [List.all_cons, this, Bool.false_and]
  · refine no_above (rs := [List.replicate n (-1)]) h4 (Nat.le_refl _) (show 1 ≤ 4 by decide) (fun r hr => ?_) ?_
    · rw [List.mem_singleton.mp hr]
      exact ⟨List.length_replicate, fun x hx => by rw [(List.mem_replicate.mp hx).2]; decide⟩
    · match n, h1, h4 with
      | 1, _, _ => decide
      | 2, _, _ => decide
      | 3, _, _ => decide
      | 4, _, _ => decide
  · refine no_above (rs := [List.replicate n 0, -1 :: List.replicate (n - 1) 1]) h4 (show 1 ≤ 2 by decide) (show 2 ≤ 4 by decide) (fun r hr => ?_) ?_
    · simp only [List.mem_cons, List.not_mem_nil, or_false] at hr
      rcases hr with rfl | rfl
      · exact ⟨List.length_replicate, fun x hx => by rw [(List.mem_replicate.mp hx).2]; decide⟩
      · refine ⟨by rw [List.length_cons, List.length_replicate]; omega, fun x hx => ?_⟩
        rcases List.mem_cons.mp hx with rfl | hx
        · decide
        · rw [(List.mem_replicate.mp hx).2]; decide
    · match n, h1, h4 with
      | 1, _, _ => decide
      | 2, _, _ => decide
      | 3, _, _ => decide
      | 4, _, _ => decide
  · exact fun st => is_order_no ⟨rfl, fun z e => (nomatch e), fun rows e => (nomatch e)⟩ (.inr (.inr ⟨fun z e => (nomatch e), fun rows e => (nomatch e)⟩))
  · exact no_rows (fun r hr => by rw [List.mem_singleton.mp hr]; exact arg_ns rfl (fun ds e => (nomatch e))) (.inr (.inr rfl))
  · refine no_rows (fun r hr => by rw [List.mem_singleton.mp hr]; exact arg_rep rfl (by omega)) (.inr (.inr ?_))
    rw [List.all_cons, row_bad h1 rfl, Bool.false_and]
  · refine no_rows (fun r hr => by rw [List.mem_singleton.mp hr]; exact arg_T (small_rep _ (by omega))) (.inr (.inr ?_))
    rw [List.all_cons, T_rep, row_bad h1 (by decide), Bool.false_and]
def odds8 (n : Nat) : List D := [.str "Plain", .non, .tup [], .tup (List.replicate 5 (T (List.replicate n 1))), .tup [T (List.replicate (n + 1) 1)], .tup [T (List.replicate n (-1))], .tup [T (List.replicate n 0), T (-1 :: List.replicate (n - 1) 1)], .int 5]
theorem tup0_of : mTup mNil ρ st = some (.ok (.val (.tup [])), st) := tup_of nil_of (mkTup_val [] _ st rfl (Nat.zero_le _))
theorem rep_cnt (h : EC ρ ns n o xs ys) (g : Giv n o xs ys) {e : En → M Va} {k : Int} (he : e ρ st = some (.ok (.val (.int k)), st)) : mBin (fun a b => calm (opMulA a b)) (mTup (mCons e mNil)) (mVar 4) ρ st = some (.ok (.val (T (List.replicate n k))), st) := by
  have h4 := g.n4
  exact op_of (tup1_of he) (var_of h.cnt) (rep_T k (by omega) st)
theorem s38_ok (h : EC ρ ns n o xs ys) (g : Giv n o xs ys) (st : Sto) : s38_law ρ st = some (.nx (ρ.set 30 (some (.val (.lst (odds8 n))))), st) := by
  have h1 := g.n1
  have h4 := g.n4
  refine set_of (lst_of (as := (odds8 n).map .val) ?_ (mkLst_val (odds8 n) _ st rfl (len_le (k := 8) rfl (by decide))))
  refine cons_s c_of (cons_s c_of (cons_s tup0_of (cons_s ?_ (cons_s ?_ (cons_s ?_ (cons_s ?_ (cons_s c_of nil_of)))))))
  · exact op_of (tup1_of (rep_cnt h g c_of)) c_of (rep_tup _ (k := 5) (by decide) st)
  · refine tup1_of (op_of (tup1_of c_of) (op_of (var_of h.cnt) c_of (DL.add_int _ _ _)) ?_)
    exact rep_T 1 (k := n + 1) (by omega) st
  · exact tup1_of (rep_cnt h g (neg_of c_of))
  · exact tup_of (cons_s (rep_cnt h g c_of) (cons_s (op_of (tup1_of (neg_of c_of)) (op_of (tup1_of c_of) (cnt1 h h1 st) (rep_T 1 (by omega) st)) (cat1 (small_rep 1 (by omega)) (-1) st)) nil_of)) (mkTup2 _ _ st)
theorem s39_ok (h : EC ρ ns n o xs ys) (g : Giv n o xs ys) (h30 : ρ[30]? = some (some (.val (.lst (odds8 n))))) (h0 : 0 ≤ p) (tl : Sto) : ∃ d : D, NoOr n d ∧ s39_law ρ (At p tl) = some (.nx (ρ.set 31 (some (.val d))), At (p + 1) tl) := by
  have h4 := g.n4
  obtain ⟨d, hm, e⟩ := one_ok (odds n) ns p tl h0 (by simp [odds])
  refine ⟨d, odd_all g.n1 g.n4 d hm, set_of (call_of (cons_s (op_of (var_of h30) (lst_of (as := [.val (.tup [.lst (List.replicate n (.int 1))]), .val (.tup [.tup (List.replicate n (.bl true))]), .val (.tup [T (List.replicate n 1000001)])]) ?_ (mkLst3 _ _ _ _)) (addA_lst _ _ _ (n_le (k := 11) rfl (by decide)))) (cons_s (var_of h.dr) (cons_s (var_of h.pl) nil_of))) e)⟩
  refine cons_s ?_ (cons_s ?_ (cons_s ?_ nil_of))
  · exact tup1_of (op_of (lst1_of c_of) (var_of h.cnt) (rep_lst _ (by omega) _))
  · exact tup1_of (op_of (tup1_of c_of) (var_of h.cnt) (rep_tup _ (by omega) _))
  · exact tup1_of (rep_cnt h g c_of)
theorem c19_ok (h : EC ρ ns n o xs ys) (g : Giv n o xs ys) (hd : ρ[31]? = some (some (.val d))) (hb : NoOr n d) (st : Sto) : c19_law ρ st = some (.ok (.val (.lst [argD "order", argD "order"])), st) := by
  refine callsL (me := mCall g__law_told (mCons (mVar 12) (mCons (mVar 4) (mCons (mVar 31) (mCons (mVar 6) (mCons (mVar 7) mNil)))))) (F := fun k => argD "order") (ks := [4, 5]) h.len (by decide) st (it45 ρ st) fun k ρ' st hk ht h12 => ?_
  refine call_of (cons_s (var_of h12) (cons_s (var_of (ht _ _ (by decide) h.cnt)) (cons_s (var_of (ht _ _ (by decide) hd)) (cons_s (var_of (ht _ _ (by decide) h.one)) (cons_s (var_of (ht _ _ (by decide) h.oth)) nil_of))))) ?_
  simp only [List.mem_cons, List.not_mem_nil, or_false] at hk
  rcases hk with rfl | rfl
  · exact told4 (.no (compare_o g.n1 g.n4 hb st))
  · exact told5 (.no (tells_o g.n1 g.n4 hb st))
def ords4 : List D := [argD "order", argD "order", argD "order", argD "order"]
def ords5 : List D := [argD "order", argD "order", argD "order", argD "order", argD "order"]
theorem s40_ok (h : EC ρ ns n o xs ys) (g : Giv n o xs ys) (hd : ρ[31]? = some (some (.val d))) (hb : NoOr n d) (st : Sto) : s40_law ρ st = some (.nx (ρ.set 25 (some (.val (.lst ords4)))), st) := by
  have t6 := told6 (z := .non) (.no (in_order_o (y := .tup []) g.n1 g.n4 hb st))
  have t7 := told7 (z := .non) (.no (leaves_o (y := .int 1) g.n1 g.n4 hb st))
  exact set_of (op_of (c19_ok h g hd hb st) (lst_of (cons_s (call_of (cons_s c_of (cons_s (var_of h.cnt) (cons_s (var_of hd) (cons_s tup0_of (cons_s c_of nil_of))))) t6) (cons_s (call_of (cons_s c_of (cons_s (var_of h.cnt) (cons_s (var_of hd) (cons_s c_of (cons_s c_of nil_of))))) t7) nil_of)) (mkLst2 _ _ _)) (addA_lst _ _ _ (n_le (k := 4) rfl (by decide))))
theorem pairE (s : Str) (ρ : En) (st : Sto) : mTup (mCons (mC (.str "argument")) (mCons (mC (.str s)) mNil)) ρ st = some (.ok (.val (argD s)), st) := tup_of (cons_s c_of (cons_s c_of nil_of)) (mkTup2 _ _ _)
theorem s41_ok (h : EC ρ ns n o xs ys) (g : Giv n o xs ys) (hd : ρ[31]? = some (some (.val d))) (hb : NoOr n d) (h25 : ρ[25]? = some (some (.val (.lst ords4)))) (st : Sto) : s41_law ρ st = some (.nx ρ, st) := by
  have t8 := told8 (y := .non) (z := .non) (.no (by_o g.n1 g.n4 hb st))
  refine ifs_f (T_of (op_of (op_of (var_of h25) (lst1_of (call_of (cons_s c_of (cons_s (var_of h.cnt) (cons_s (var_of hd) (cons_s c_of (cons_s c_of nil_of))))) t8)) (addA_lst _ _ _ (n_le (k := 5) rfl (by decide)))) (op_of (lst1_of (pairE "order" ρ st)) c_of (rep_lst _ (k := 5) (by decide) st)) ?_)) rfl
  exact ne_same (l := ords5) (by decide +kernel) (by decide +kernel) st
end
end K30
end

section
set_option Elab.async false
set_option linter.all false
set_option maxRecDepth 100000
set_option maxHeartbeats 1000000
namespace K30
open PySem PySem.Spec PyProof.Rows L2 DL
section
variable {n m i : Nat} {p : Int} {ns : List Int} {tl st : Sto} {ρ : En} {o : Or} {xs ys : List Int} {x : Option Va} {rs : List (List Int)} {d : D}
/-! ### wrong counts -/
structure Wr (d : D) : Prop where
  g : noG d = true
  c : inR 1 4 d = false
def wrongs : List D := [.int 0, .int 5, .non, .bl true, .str "1"]
theorem wrong_all : ∀ d ∈ wrongs, Wr d := by
  intro d hd
  unfold wrongs at hd
  simp only [List.mem_cons, List.not_mem_nil, or_false] at hd
  rcases hd with rfl | rfl | rfl | rfl | rfl
  · exact ⟨rfl, by decide⟩
  · exact ⟨rfl, by decide⟩
  · exact ⟨rfl, rfl⟩
  · exact ⟨rfl, rfl⟩
  · exact ⟨rfl, rfl⟩
theorem mkLst5 (a b c d e : D) (st : Sto) : mkLst [.val a, .val b, .val c, .val d, .val e] st = some (.ok (.val (.lst [a, b, c, d, e])), st) := mkLst_val [a, b, c, d, e] _ st rfl (show 5 ≤ sizeLine by rw [sizeLine_eq]; decide)
theorem s42_ok (h : EC ρ ns n o xs ys) (h0 : 0 ≤ p) (tl : Sto) : ∃ d : D, Wr d ∧ s42_law ρ (At p tl) = some (.nx (ρ.set 32 (some (.val d))), At (p + 1) tl) := by
  obtain ⟨d, hm, e⟩ := one_ok wrongs ns p tl h0 (by simp [wrongs])
  exact ⟨d, wrong_all d hm, set_of (call_of (cons_s (lst_of (cons_s c_of (cons_s c_of (cons_s c_of (cons_s c_of (cons_s c_of nil_of))))) (mkLst5 _ _ _ _ _ _)) (cons_s (var_of h.dr) (cons_s (var_of h.pl) nil_of))) e)⟩
theorem c20_ok (h : EC ρ ns n o xs ys) (hd : ρ[32]? = some (some (.val d))) (hb : Wr d) (st : Sto) : c20_law ρ st = some (.ok (.val (.lst [argD "count", argD "count", argD "count", argD "count"])), st) := by
  refine calls4 (me := mCall g__law_told (mCons (mVar 12) (mCons (mVar 32) (mCons (mVar 6) (mCons (mVar 7) (mCons (mC .non) mNil)))))) (F := fun k => argD "count") h.len st fun k ρ' st hk ht h12 => ?_
  refine call_of (cons_s (var_of h12) (cons_s (var_of (ht _ _ (by decide) hd)) (cons_s (var_of (ht _ _ (by decide) h.one)) (cons_s (var_of (ht _ _ (by decide) h.oth)) (cons_s c_of nil_of))))) ?_
  match k, hk with
  | 0, _ => exact told0 (.no (four_c hb.g hb.c _ _ g_times (by simp [four])))
  | 1, _ => exact told1 (.no (four_c hb.g hb.c _ _ g_over (by simp [four])))
  | 2, _ => exact told2 (.no (four_c hb.g hb.c _ _ g_least_multiple (by simp [four])))
  | 3, _ => exact told3 (.no (four_c hb.g hb.c _ _ g_greatest_shared (by simp [four])))
theorem it48 (ρ : En) (st : Sto) : mSeqI (mTup (mCons (mC (.int 4)) (mCons (mC (.int 5)) (mCons (mC (.int 6)) (mCons (mC (.int 7)) (mCons (mC (.int 8)) mNil)))))) ρ st = some (.ok ([4, 5, 6, 7, 8].map .int), st) :=
  seqI_of (tup_of (cons_s c_of (cons_s c_of (cons_s c_of (cons_s c_of (cons_s c_of nil_of))))) (mkTup_val [.int 4, .int 5, .int 6, .int 7, .int 8] _ st rfl (n_le (k := 5) rfl (by decide)))) rfl
def cnts5 : List D := [argD "count", argD "count", argD "count", argD "count", argD "count"]
def cnts10 : List D := [argD "count", argD "count", argD "count", argD "count", argD "count", argD "count", argD "count", argD "count", argD "count", argD "count"]
theorem c21_ok (h : EC ρ ns n o xs ys) (hd : ρ[32]? = some (some (.val d))) (hb : Wr d) (st : Sto) : c21_law ρ st = some (.ok (.val (.lst cnts5)), st) := by
  refine callsL (me := mCall g__law_told (mCons (mVar 12) (mCons (mVar 32) (mCons (mC (.str "back")) (mCons (mVar 6) (mCons (mVar 7) mNil)))))) (F := fun k => argD "count") (ks := [4, 5, 6, 7, 8]) h.len (by decide) st (it48 ρ st) fun k ρ' st hk ht h12 => ?_
  refine call_of (cons_s (var_of h12) (cons_s (var_of (ht _ _ (by decide) hd)) (cons_s c_of (cons_s (var_of (ht _ _ (by decide) h.one)) (cons_s (var_of (ht _ _ (by decide) h.oth)) nil_of))))) ?_
  simp only [List.mem_cons, List.not_mem_nil, or_false] at hk
  rcases hk with rfl | rfl | rfl | rfl | rfl
  · exact told4 (.no (compare_c hb.g hb.c st))
  · exact told5 (.no (tells_c hb.g hb.c st))
  · exact told6 (.no (in_order_c hb.g hb.c st))
  · exact told7 (.no (leaves_c hb.g hb.c st))
  · exact told8 (.no (by_c hb.g hb.c st))
theorem s43_ok (h : EC ρ ns n o xs ys) (hd : ρ[32]? = some (some (.val d))) (hb : Wr d) (st : Sto) : s43_law ρ st = some (.nx (ρ.set 25 (some (.val (.lst cnts10)))), st) := by
  have t9 := told9 (y := .non) (z := .non) (.no (with_c (x := .int 1) hb.g hb.c st))
  exact set_of (op_of (op_of (c20_ok h hd hb st) (c21_ok h hd hb st) (addA_lst _ _ _ (n_le (k := 9) rfl (by decide)))) (lst1_of (call_of (cons_s c_of (cons_s (var_of hd) (cons_s c_of (cons_s c_of (cons_s c_of nil_of))))) t9)) (addA_lst _ _ _ (n_le (k := 10) rfl (by decide))))
theorem s44_ok (h25 : ρ[25]? = some (some (.val (.lst cnts10)))) (st : Sto) : s44_law ρ st = some (.nx ρ, st) := by
  refine ifs_f (T_of (op_of (var_of h25) (op_of (lst1_of (pairE "count" ρ st)) c_of (rep_lst _ (k := 10) (by decide) st)) ?_)) rfl
  exact ne_same (l := cnts10) (by decide +kernel) (by decide +kernel) st
/-! ### wrong rows, numbers, degrees -/
theorem rows_bad (g : Giv n o xs ys) (hb : Bad n d) : ∀ e ∈ ([.non, .lst [T xs], .tup [T xs, d], .tup (List.replicate 201 (T xs))] : List D), ∀ st, g_in_order [.val (.int (n : Nat)), .val (.str "back"), .val e] st = ARG "rows" st := by
  have h4 := g.n4
  intro e he
  simp only [List.mem_cons, List.not_mem_nil, or_false] at he
  rcases he with rfl | rfl | rfl | rfl
  · exact in_order_no (o := .back) g.n1 g.n4 (back_Ok n) (.inl ⟨fun rows e => (nomatch e), rfl⟩)
  · exact in_order_no (o := .back) g.n1 g.n4 (back_Ok n) (.inl ⟨fun rows e => (nomatch e), rfl⟩)
  · refine in_order_no (o := .back) g.n1 g.n4 (back_Ok n) (.inr ⟨_, rfl, .inr ⟨fun r hr => ?_, (show 2 ≤ 1000 by decide), ?_⟩⟩)
    · simp only [List.mem_cons, List.not_mem_nil, or_false] at hr
      rcases hr with rfl | rfl
      · exact arg_T (g.x.small (by omega))
      · exact hb.a
    · simp only [List.all_cons, hb.p, Bool.false_and, Bool.and_false]
  · exact in_order_no (o := .back) g.n1 g.n4 (back_Ok n) (.inr ⟨_, rfl, .inl (by rw [List.length_replicate]; decide)⟩)
theorem nums_bad (g : Giv n o xs ys) : ∀ e ∈ ([.int 0, .int ((n + 1 : Nat) : Int), .non, .bl true] : List D), ∀ st, g_leaves_out [.val (.int (n : Nat)), .val (.str "back"), .val e] st = ARG "number" st := by
  intro e he
  simp only [List.mem_cons, List.not_mem_nil, or_false] at he
  rcases he with rfl | rfl | rfl | rfl
  · exact leaves_no (o := .back) g.n1 g.n4 (back_Ok n) rfl (by simp [inR])
  · refine leaves_no (o := .back) g.n1 g.n4 (back_Ok n) rfl ?_
    show (decide ((1 : Int) ≤ ((n + 1 : Nat) : Int)) && decide (((n + 1 : Nat) : Int) ≤ (n : Nat))) = false
    rw [decide_eq_false (p := ((n + 1 : Nat) : Int) ≤ (n : Nat)) (by omega), Bool.and_false]
  · exact leaves_no (o := .back) g.n1 g.n4 (back_Ok n) rfl rfl
  · exact leaves_no (o := .back) g.n1 g.n4 (back_Ok n) rfl rfl
theorem degs_bad (g : Giv n o xs ys) : ∀ e ∈ ([.int (-1), .int 13, .non, .bl true] : List D), ∀ st, g_with_degree [.val (.int (n : Nat)), .val e] st = ARG "degree" st := by
  intro e he
  simp only [List.mem_cons, List.not_mem_nil, or_false] at he
  rcases he with rfl | rfl | rfl | rfl
  · exact with_no g.n1 g.n4 rfl (by decide)
  · exact with_no g.n1 g.n4 rfl (by decide)
  · exact with_no g.n1 g.n4 rfl rfl
  · exact with_no g.n1 g.n4 rfl rfl
theorem s45_ok (h : EC ρ ns n o xs ys) (g : Giv n o xs ys) (hd : ρ[28]? = some (some (.val d))) (hb : Bad n d) (h0 : 0 ≤ p) (tl : Sto) : s45_law ρ (At p tl) = some (.nx (ρ.set 25 (some (.val (.lst [argD "rows", argD "number"])))), At (p + 1 + 1) tl) := by
  obtain ⟨a, ha, e1⟩ := one_ok [.non, .lst [T xs], .tup [T xs, d], .tup (List.replicate 201 (T xs))] ns p tl h0 (by simp)
  obtain ⟨b, hb2, e2⟩ := one_ok [.int 0, .int ((n + 1 : Nat) : Int), .non, .bl true] ns (p + 1) tl (by omega) (by simp)
  have t6 := told6 (z := .non) (.no (rows_bad g hb a ha (At (p + 1) tl)))
  have t7 := told7 (z := .non) (.no (nums_bad g b hb2 (At (p + 1 + 1) tl)))
  have l1 : mLst (mCons (mC .non) (mCons (mLst (mCons (mVar 6) mNil)) (mCons (mTup (mCons (mVar 6) (mCons (mVar 28) mNil))) (mCons (mBin (fun a b => calm (opMulA a b)) (mTup (mCons (mVar 6) mNil)) (mC (.int 201))) mNil)))) ρ (At p tl) = some (.ok (.val (.lst [.non, .lst [T xs], .tup [T xs, d], .tup (List.replicate 201 (T xs))])), At p tl) :=
    lst_of (cons_s c_of (cons_s (lst1_of (var_of h.one)) (cons_s (tup_of (cons_s (var_of h.one) (cons_s (var_of hd) nil_of)) (mkTup2 _ _ _)) (cons_s (op_of (tup1_of (var_of h.one)) c_of (rep_tup _ (k := 201) (by decide) _)) nil_of)))) (mkLst4 _ _ _ _ _)
  have l2 : mLst (mCons (mC (.int 0)) (mCons (mBin (fun a b => calm (opAdd a b)) (mVar 4) (mC (.int 1))) (mCons (mC .non) (mCons (mC (.bl true)) mNil)))) ρ (At (p + 1) tl) = some (.ok (.val (.lst [.int 0, .int ((n + 1 : Nat) : Int), .non, .bl true])), At (p + 1) tl) :=
    lst_of (cons_s c_of (cons_s (op_of (var_of h.cnt) c_of (DL.add_int _ _ _)) (cons_s c_of (cons_s c_of nil_of)))) (mkLst4 _ _ _ _ _)
  exact set_of (lst_of (cons_of (call_of (cons_of c_of (cons_of (var_of h.cnt) (cons_of c_of (cons_of (call_of (cons_s l1 (cons_s (var_of h.dr) (cons_s (var_of h.pl) nil_of))) e1) (cons_s c_of nil_of))))) t6)
    (cons_of (call_of (cons_of c_of (cons_of (var_of h.cnt) (cons_of c_of (cons_of (call_of (cons_s l2 (cons_s (var_of h.dr) (cons_s (var_of h.pl) nil_of))) e2) (cons_s c_of nil_of))))) t7) nil_of)) (mkLst2 _ _ _))
def last3 : List D := [argD "rows", argD "number", argD "degree"]
theorem s46_ok (h : EC ρ ns n o xs ys) (g : Giv n o xs ys) (h25 : ρ[25]? = some (some (.val (.lst [argD "rows", argD "number"])))) (h0 : 0 ≤ p) (tl : Sto) : s46_law ρ (At p tl) = some (.rt (.val (.bl true)), At (p + 1) tl) := by
  obtain ⟨a, ha, e1⟩ := one_ok [.int (-1), .int 13, .non, .bl true] ns p tl h0 (by simp)
  have t9 := told9 (y := .non) (z := .non) (.no (degs_bad g a ha (At (p + 1) tl)))
  have l1 : mLst (mCons (mNeg (mC (.int 1))) (mCons (mC (.int 13)) (mCons (mC .non) (mCons (mC (.bl true)) mNil)))) ρ (At p tl) = some (.ok (.val (.lst [.int (-1), .int 13, .non, .bl true])), At p tl) :=
    lst_of (cons_s (neg_of c_of) (cons_s c_of (cons_s c_of (cons_s c_of nil_of)))) (mkLst4 _ _ _ _ _)
  refine ret_of (op_of (op_of (var_of h25) (lst_of (cons_of (call_of (cons_of c_of (cons_of (var_of h.cnt) (cons_of (call_of (cons_s l1 (cons_s (var_of h.dr) (cons_s (var_of h.pl) nil_of))) e1) (cons_s c_of (cons_s c_of nil_of))))) t9) nil_of) (mkLst1 _ _)) (addA_lst _ _ _ (n_le (k := 3) rfl (by decide)))) (lst_of (cons_s (pairE "rows" ρ _) (cons_s (pairE "number" ρ _) (cons_s (pairE "degree" ρ _) nil_of))) (mkLst3 _ _ _ _)) ?_)
  exact eq_same (l := last3) (by decide +kernel) (by decide +kernel) _
end
/-! ### the law -/
theorem law_tail {ρ : En} {ns : List Int} {n : Nat} {o : Or} {xs ys : List Int} {p : Int} (h1 : EC ρ ns n o xs ys) (g : Giv n o xs ys) (h0 : 0 ≤ p) (tl : Sto) : ∃ q : Int, (mSeq s32_law (mSeq s33_law (mSeq s34_law (mSeq s35_law (mSeq s36_law (mSeq s37_law (mSeq s38_law (mSeq s39_law (mSeq s40_law (mSeq s41_law (mSeq s42_law (mSeq s43_law (mSeq s44_law (mSeq s45_law s46_law)))))))))))))) ρ (At p tl) = some (.rt (.val (.bl true)), At q tl) := by
  have e32 := s32_ok h1 g (At p tl)
  have h32 := h1.set (i := 27) (x := some (.val (zeroO n).dat)) (by decide)
  have f27 := get_eq (ρ := ρ) (i := 27) (x := some (.val (zeroO n).dat)) (by rw [h1.len]; decide)
  generalize ρ.set 27 (some (.val (zeroO n).dat)) = ρ1 at e32 h32 f27
  have e33 := s33_ok h32 g f27 (At p tl)
  obtain ⟨d, hb, e34⟩ := s34_ok h32 g h0 tl
  have h34 := h32.set (i := 28) (x := some (.val d)) (by decide)
  have f28 := get_eq (ρ := ρ1) (i := 28) (x := some (.val d)) (by rw [h32.len]; decide)
  generalize ρ1.set 28 (some (.val d)) = ρ2 at e34 h34 f28
  have e35 := s35_ok h34 g f28 hb (At (p + 1) tl)
  have h35 := h34.set (i := 17) (x := some (.val (.lst rows8))) (by decide)
  have f17 := get_eq (ρ := ρ2) (i := 17) (x := some (.val (.lst rows8))) (by rw [h34.len]; decide)
  have f28b := get_ne (i := 17) (x := some (.val (.lst rows8))) f28 (by decide)
  generalize ρ2.set 17 (some (.val (.lst rows8))) = ρ3 at e35 h35 f17 f28b
  have e36 := s36_ok h35 g f28b hb f17 (At (p + 1) tl)
  have h36 := h35.set (i := 17) (x := some (.val (.lst rows12))) (by decide)
  have f17b := get_eq (ρ := ρ3) (i := 17) (x := some (.val (.lst rows12))) (by rw [h35.len]; decide)
  have f28c := get_ne (i := 17) (x := some (.val (.lst rows12))) f28b (by decide)
  generalize ρ3.set 17 (some (.val (.lst rows12))) = ρ4 at e36 h36 f17b f28c
  have e37 := s37_ok h36.len f17b (At (p + 1) tl)
  have e38 := s38_ok h36 g (At (p + 1) tl)
  have h38 := h36.set (i := 30) (x := some (.val (.lst (odds8 n)))) (by decide)
  have f30 := get_eq (ρ := ρ4) (i := 30) (x := some (.val (.lst (odds8 n)))) (by rw [h36.len]; decide)
  have f28d := get_ne (i := 30) (x := some (.val (.lst (odds8 n)))) f28c (by decide)
  generalize ρ4.set 30 (some (.val (.lst (odds8 n)))) = ρ5 at e38 h38 f30 f28d
  obtain ⟨d2, hb2, e39⟩ := s39_ok (p := p + 1) h38 g f30 (by omega) tl
  have h39 := h38.set (i := 31) (x := some (.val d2)) (by decide)
  have f31 := get_eq (ρ := ρ5) (i := 31) (x := some (.val d2)) (by rw [h38.len]; decide)
  have f28e := get_ne (i := 31) (x := some (.val d2)) f28d (by decide)
  generalize ρ5.set 31 (some (.val d2)) = ρ6 at e39 h39 f31 f28e
  have e40 := s40_ok h39 g f31 hb2 (At (p + 1 + 1) tl)
  have h40 := h39.set (i := 25) (x := some (.val (.lst ords4))) (by decide)
  have f25 := get_eq (ρ := ρ6) (i := 25) (x := some (.val (.lst ords4))) (by rw [h39.len]; decide)
  have f31b := get_ne (i := 25) (x := some (.val (.lst ords4))) f31 (by decide)
  have f28f := get_ne (i := 25) (x := some (.val (.lst ords4))) f28e (by decide)
  generalize ρ6.set 25 (some (.val (.lst ords4))) = ρ7 at e40 h40 f25 f31b f28f
  have e41 := s41_ok h40 g f31b hb2 f25 (At (p + 1 + 1) tl)
  obtain ⟨d3, hb3, e42⟩ := s42_ok (p := p + 1 + 1) h40 (by omega) tl
  have h42 := h40.set (i := 32) (x := some (.val d3)) (by decide)
  have f32 := get_eq (ρ := ρ7) (i := 32) (x := some (.val d3)) (by rw [h40.len]; decide)
  have f28g := get_ne (i := 32) (x := some (.val d3)) f28f (by decide)
  generalize ρ7.set 32 (some (.val d3)) = ρ8 at e42 h42 f32 f28g
  have e43 := s43_ok h42 f32 hb3 (At (p + 1 + 1 + 1) tl)
  have h43 := h42.set (i := 25) (x := some (.val (.lst cnts10))) (by decide)
  have f25b := get_eq (ρ := ρ8) (i := 25) (x := some (.val (.lst cnts10))) (by rw [h42.len]; decide)
  have f28h := get_ne (i := 25) (x := some (.val (.lst cnts10))) f28g (by decide)
  generalize ρ8.set 25 (some (.val (.lst cnts10))) = ρ9 at e43 h43 f25b f28h
  have e44 := s44_ok f25b (At (p + 1 + 1 + 1) tl)
  have e45 := s45_ok (p := p + 1 + 1 + 1) h43 g f28h hb (by omega) tl
  have h45 := h43.set (i := 25) (x := some (.val (.lst [argD "rows", argD "number"]))) (by decide)
  have f25c := get_eq (ρ := ρ9) (i := 25) (x := some (.val (.lst [argD "rows", argD "number"]))) (by rw [h43.len]; decide)
  have e46 := s46_ok (p := p + 1 + 1 + 1 + 1 + 1) h45 g f25c (by omega) tl
  exact ⟨_, snx e32 (snx e33 (snx e34 (snx e35 (snx e36 (snx e37 (snx e38 (snx e39 (snx e40 (snx e41 (snx e42 (snx e43 (snx e44 (snx e45 e46)))))))))))))⟩
def start (ns : List Int) : En := some (.scr ns) :: List.replicate 32 none
theorem pure_law (ns : List Int) (hn : ns.length ≤ 63) : ∃ st, mFn 33 1 m_law [.scr ns] [] = some (.ok (.val (.bl true)), st) := by
  obtain ⟨ds, ed⟩ := draws_ok ns hn
  have e29 : s29_law (start ns) [] = some (.nx ((start ns).set 1 (some (.val (DR ds)))), []) := set_of (call_of (cons_s (var_of rfl) nil_of) ed)
  have eo : mkObj [.val (.int 0)] [] = some (.ok (.obj 0), At 0 []) := by
    unfold mkObj
    simp only [vals_val, vals_nil, Option.map_some]
    rw [if_pos (show ([D.int 0] : List D).length ≤ sizeLine by rw [sizeLine_eq]; decide)]
    rfl
  have e30 : s30_law ((start ns).set 1 (some (.val (DR ds)))) [] = some (.nx (((start ns).set 1 (some (.val (DR ds)))).set 2 (some (.obj 0))), At 0 []) := set_of (obj_of (cons_s c_of nil_of) eo)
  have hb : EB (((start ns).set 1 (some (.val (DR ds)))).set 2 (some (.obj 0))) ds := ⟨rfl, rfl, rfl⟩
  obtain ⟨ρ', n, o, xs, ys, p', q', hc, g, e31⟩ := turns_ok hb (Int.le_refl 0) []
  obtain ⟨q, et⟩ := law_tail hc g q' []
  have e : m_law (start ns) [] = some (.rt (.val (.bl true)), At q []) := snx e29 (snx e30 (snx e31 et))
  exact ⟨_, fn_rt rfl rfl e rfl⟩
end K30
end

section
set_option Elab.async false
open PySem PySem.W PyProof.Rows
set_option maxRecDepth 100000
set_option maxHeartbeats 0
theorem PySem.Challenge.cw_manyunknowns_k30_whole_powers_and_orders_holds : PySem.Challenge.rw_manyunknowns_k30_whole_powers_and_orders.Holds := by
  w_on; o_law; k_head; (case hw => w_witness2)
  k_fill
  refine DL.walk_d (l := PySem.Challenge.rw_manyunknowns_k30_whole_powers_and_orders) (n := 63) (k := 7) (NL := 33) (m := K30.m_law) (y := "law") rfl (by decide) rfl ⟨rfl, by decide, by decide⟩ (fun w h Y => PySem.W.kIn_of Y) ?F rfl K30.pure_law
  case F =>
    intro w mg fa h KX G hmg
    refine' K30.all_mk KX G hmg ?g_ArgumentError ?bE_ArgumentError ?hd_ArgumentError ?ty_ArgumentError ?g_IdealError ?bE_IdealError ?hd_IdealError ?ty_IdealError ?g_ReasonError ?bE_ReasonError ?hd_ReasonError ?ty_ReasonError ?oget ?otk ?nosup ?any_ ?fi_ReasonError ?ti_ReasonError ?l_ReasonError ?c_ReasonError ?cc0_ReasonError ?cd0_ReasonError ?cd1_ReasonError ?cd2_ReasonError ?ic_ReasonError ?x_ArgumentError ?sa_ArgumentError ?kC_ArgumentError ?in_ArgumentError ?no_ArgumentError_reason ?mr_ArgumentError ?su_ArgumentError ?ve_ArgumentError ?ga_ArgumentError ?gg_ArgumentError ?cl_ArgumentError ?ob_ArgumentError ?s_ArgumentError_ArgumentError ?k_ArgumentError_ArgumentError ?s_ArgumentError_IdealError ?k_ArgumentError_IdealError ?s_ArgumentError_ReasonError ?k_ArgumentError_ReasonError ?kv_ArgumentError ?b_abs ?b_all ?b_any ?b_bool ?b_enumerate ?b_int ?b_isinstance ?b_len ?b_list ?b_max ?b_min ?b_range ?b_repr ?b_sorted ?b_str ?b_sum ?b_tuple ?b_zip ?c_MAX_NUMBER ?c_MAX_POWER ?c_MAX_UNKNOWNS ?c_WORDS ?lc_WORDS ?a_is_integer ?l_is_integer ?c_is_integer ?k_is_integer ?a_in_range ?l_in_range ?c_in_range ?k_in_range ?a_demand_count ?l_demand_count ?c_demand_count ?k_demand_count ?a_is_powers ?l_is_powers ?c_is_powers ?k_is_powers ?a_demand_powers ?l_demand_powers ?c_demand_powers ?k_demand_powers ?a_is_above ?l_is_above ?c_is_above ?k_is_above ?a_is_order ?l_is_order ?c_is_order ?k_is_order ?a_demand_order ?l_demand_order ?c_demand_order ?k_demand_order ?a_key_of ?l_key_of ?c_key_of ?k_key_of ?a_product ?l_product ?c_product ?k_product ?a_divides ?l_divides ?c_divides ?k_divides ?a_quotient ?l_quotient ?c_quotient ?k_quotient ?a_multiple ?l_multiple ?c_multiple ?k_multiple ?a_shared ?l_shared ?c_shared ?k_shared ?a_compare ?l_compare ?c_compare ?k_compare ?a_times ?l_times ?c_times ?k_times ?a_over ?l_over ?c_over ?k_over ?a_least_multiple ?l_least_multiple ?c_least_multiple ?k_least_multiple ?a_greatest_shared ?l_greatest_shared ?c_greatest_shared ?k_greatest_shared ?a_all_with ?l_all_with ?c_all_with ?k_all_with ?a_with_degree ?l_with_degree ?c_with_degree ?k_with_degree ?a_in_order ?l_in_order ?c_in_order ?k_in_order ?a_tells_apart ?l_tells_apart ?c_tells_apart ?k_tells_apart ?a_is_by_degree ?l_is_by_degree ?c_is_by_degree ?k_is_by_degree ?a_leaves_out ?l_leaves_out ?c_leaves_out ?k_leaves_out ?a__law_draws ?l__law_draws ?c__law_draws ?k__law_draws ?a__law_more ?l__law_more ?c__law_more ?k__law_more ?a__law_take ?l__law_take ?c__law_take ?k__law_take ?a__law_one ?l__law_one ?c__law_one ?k__law_one ?a__law_key ?l__law_key ?c__law_key ?k__law_key ?a__law_divides ?l__law_divides ?c__law_divides ?k__law_divides ?a__law_order ?l__law_order ?c__law_order ?k__law_order ?a__law_told ?l__law_told ?c__law_told ?k__law_told ?a__law_powers ?l__law_powers ?c__law_powers ?k__law_powers ?a__law_all ?l__law_all ?c__law_all ?k__law_all ?a_law ?l_law ?c_law ?k_law
    (case g_ArgumentError => k_is)
    (case bE_ArgumentError => k_is)
    (case hd_ArgumentError => k_is)
    (case ty_ArgumentError => k_is)
    (case g_IdealError => k_is)
    (case bE_IdealError => k_is)
    (case hd_IdealError => k_is)
    (case ty_IdealError => k_is)
    (case g_ReasonError => k_is)
    (case bE_ReasonError => k_is)
    (case hd_ReasonError => k_is)
    (case ty_ReasonError => k_is)
    (case oget => k_is)
    (case otk => k_is)
    (case nosup => k_is)
    (case any_ => k_is)
    (case fi_ReasonError => k_is)
    (case ti_ReasonError => k_is)
    (case l_ReasonError => k_is)
    (case c_ReasonError => k_is)
    (case cc0_ReasonError => k_is)
    (case cd0_ReasonError => k_is)
    (case cd1_ReasonError => first | rfl | exact rfl)
    (case cd2_ReasonError => first | rfl | decide +kernel)
    (case ic_ReasonError => k_is)
    (case x_ArgumentError => k_is)
    (case sa_ArgumentError => k_is)
    (case kC_ArgumentError => k_is)
    (case in_ArgumentError => k_is)
    (case no_ArgumentError_reason => k_is)
    (case mr_ArgumentError => k_is)
    (case su_ArgumentError => ks_is)
    (case ve_ArgumentError => k_is)
    (case ga_ArgumentError => k_is)
    (case gg_ArgumentError => k_is)
    (case cl_ArgumentError => k_is)
    (case ob_ArgumentError => k_is)
    (case s_ArgumentError_ArgumentError => k_is)
    (case k_ArgumentError_ArgumentError => kit_is)
    (case s_ArgumentError_IdealError => k_is)
    (case k_ArgumentError_IdealError => kit_is)
    (case s_ArgumentError_ReasonError => k_is)
    (case k_ArgumentError_ReasonError => kit_is)
    (case kv_ArgumentError => kit_is)
    (case b_abs => k_is)
    (case b_all => k_is)
    (case b_any => k_is)
    (case b_bool => k_is)
    (case b_enumerate => k_is)
    (case b_int => k_is)
    (case b_isinstance => k_is)
    (case b_len => k_is)
    (case b_list => k_is)
    (case b_max => k_is)
    (case b_min => k_is)
    (case b_range => k_is)
    (case b_repr => k_is)
    (case b_sorted => k_is)
    (case b_str => k_is)
    (case b_sum => k_is)
    (case b_tuple => k_is)
    (case b_zip => k_is)
    (case c_MAX_NUMBER => k_is)
    (case c_MAX_POWER => k_is)
    (case c_MAX_UNKNOWNS => k_is)
    (case c_WORDS => k_is)
    (case lc_WORDS => k_is)
    (case a_is_integer => k_is)
    (case l_is_integer => k_is)
    (case c_is_integer => k_is)
    (case k_is_integer => k_is)
    (case a_in_range => k_is)
    (case l_in_range => k_is)
    (case c_in_range => k_is)
    (case k_in_range => k_is)
    (case a_demand_count => k_is)
    (case l_demand_count => k_is)
    (case c_demand_count => k_is)
    (case k_demand_count => k_is)
    (case a_is_powers => k_is)
    (case l_is_powers => k_is)
    (case c_is_powers => k_is)
    (case k_is_powers => k_is)
    (case a_demand_powers => k_is)
    (case l_demand_powers => k_is)
    (case c_demand_powers => k_is)
    (case k_demand_powers => k_is)
    (case a_is_above => k_is)
    (case l_is_above => k_is)
    (case c_is_above => k_is)
    (case k_is_above => k_is)
    (case a_is_order => k_is)
    (case l_is_order => k_is)
    (case c_is_order => k_is)
    (case k_is_order => k_is)
    (case a_demand_order => k_is)
    (case l_demand_order => k_is)
    (case c_demand_order => k_is)
    (case k_demand_order => k_is)
    (case a_key_of => k_is)
    (case l_key_of => k_is)
    (case c_key_of => k_is)
    (case k_key_of => k_is)
    (case a_product => k_is)
    (case l_product => k_is)
    (case c_product => k_is)
    (case k_product => k_is)
    (case a_divides => k_is)
    (case l_divides => k_is)
    (case c_divides => k_is)
    (case k_divides => k_is)
    (case a_quotient => k_is)
    (case l_quotient => k_is)
    (case c_quotient => k_is)
    (case k_quotient => k_is)
    (case a_multiple => k_is)
    (case l_multiple => k_is)
    (case c_multiple => k_is)
    (case k_multiple => k_is)
    (case a_shared => k_is)
    (case l_shared => k_is)
    (case c_shared => k_is)
    (case k_shared => k_is)
    (case a_compare => k_is)
    (case l_compare => k_is)
    (case c_compare => k_is)
    (case k_compare => k_is)
    (case a_times => k_is)
    (case l_times => k_is)
    (case c_times => k_is)
    (case k_times => k_is)
    (case a_over => k_is)
    (case l_over => k_is)
    (case c_over => k_is)
    (case k_over => k_is)
    (case a_least_multiple => k_is)
    (case l_least_multiple => k_is)
    (case c_least_multiple => k_is)
    (case k_least_multiple => k_is)
    (case a_greatest_shared => k_is)
    (case l_greatest_shared => k_is)
    (case c_greatest_shared => k_is)
    (case k_greatest_shared => k_is)
    (case a_all_with => k_is)
    (case l_all_with => k_is)
    (case c_all_with => k_is)
    (case k_all_with => k_is)
    (case a_with_degree => k_is)
    (case l_with_degree => k_is)
    (case c_with_degree => k_is)
    (case k_with_degree => k_is)
    (case a_in_order => k_is)
    (case l_in_order => k_is)
    (case c_in_order => k_is)
    (case k_in_order => k_is)
    (case a_tells_apart => k_is)
    (case l_tells_apart => k_is)
    (case c_tells_apart => k_is)
    (case k_tells_apart => k_is)
    (case a_is_by_degree => k_is)
    (case l_is_by_degree => k_is)
    (case c_is_by_degree => k_is)
    (case k_is_by_degree => k_is)
    (case a_leaves_out => k_is)
    (case l_leaves_out => k_is)
    (case c_leaves_out => k_is)
    (case k_leaves_out => k_is)
    (case a__law_draws => k_is)
    (case l__law_draws => k_is)
    (case c__law_draws => k_is)
    (case k__law_draws => k_is)
    (case a__law_more => k_is)
    (case l__law_more => k_is)
    (case c__law_more => k_is)
    (case k__law_more => k_is)
    (case a__law_take => k_is)
    (case l__law_take => k_is)
    (case c__law_take => k_is)
    (case k__law_take => k_is)
    (case a__law_one => k_is)
    (case l__law_one => k_is)
    (case c__law_one => k_is)
    (case k__law_one => k_is)
    (case a__law_key => k_is)
    (case l__law_key => k_is)
    (case c__law_key => k_is)
    (case k__law_key => k_is)
    (case a__law_divides => k_is)
    (case l__law_divides => k_is)
    (case c__law_divides => k_is)
    (case k__law_divides => k_is)
    (case a__law_order => k_is)
    (case l__law_order => k_is)
    (case c__law_order => k_is)
    (case k__law_order => k_is)
    (case a__law_told => k_is)
    (case l__law_told => k_is)
    (case c__law_told => k_is)
    (case k__law_told => k_is)
    (case a__law_powers => k_is)
    (case l__law_powers => k_is)
    (case c__law_powers => k_is)
    (case k__law_powers => k_is)
    (case a__law_all => k_is)
    (case l__law_all => k_is)
    (case c__law_all => k_is)
    (case k__law_all => k_is)
    (case a_law => k_is)
    (case l_law => k_is)
    (case c_law => k_is)
    (case k_law => k_is)
end
