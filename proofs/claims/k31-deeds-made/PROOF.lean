import PyProof.Rows.All
import Wide.All
import OpenK.AllK
import Wide.FinOn
import HandS.ForMost
import HandS.ForExc
import HandS.ExcInit
import HandS.ExcField
import HandS.ExcIs
import KE.KExcSuper
import HandS.Wide
import HandS.Codes
import HandS.IsInst
import HandS.Defaults
import HandS.TupAny
import HandS.Walk
import KE.KTreeR
import KE.DataEq
import HandS.Lambda
import HandS.HeadHook4
import PyProof.ReprRoads
import HandS.Property
import HandS.MakeKw
import HandS.MakeKwOnly
import HandS.OwnEq
import KE.KCallOwn
import HandS.HeadWalk
import HandS.HeadEnd
import HandS.Head0
import HandS.Head1
import HandS.Head2
import HandS.FStr
import HandS.EndTab
import PySem.Challenge.RW_nextkind_k31_deeds_made
set_option Elab.async false
set_option linter.all false
set_option maxRecDepth 100000
set_option maxHeartbeats 4000000
/-! Sup: a def whose only captured name is its class (super() in it), its body with super().__init__(..) at a place; super().__init__ of an exception over ValueError. -/
namespace Nk
open PySem PySem.Spec PyProof.Rows L2

/-- the names of such a def -/
structure FnSup (N P : List Str) (sc : Scope) : Prop where
  kind : sc.kind = .function
  co : sc.isCoroutine = false
  gen : sc.isGenerator = false
  nd : N.Nodup
  pre : N.take P.length = P
  par : ∀ x ∈ P, sc.names.lookup x = some .local
  nocell : ∀ y ∈ sc.names, y.2 ≠ .cell
  free : ∀ y ∈ sc.names, y.2 = .free → y.1 = ("__class__" : Str)
def fnSupB (N P : List Str) (sc : Scope) : Bool :=
  decide (sc.kind = .function) && !sc.isCoroutine && !sc.isGenerator && decide (N.Nodup) && decide (N.take P.length = P) && P.all (fun x => decide (sc.names.lookup x = some .local)) &&
    sc.names.all fun y => !decide (y.2 = .cell) && (!decide (y.2 = .free) || decide (y.1 = ("__class__" : Str)))
theorem fnSup_by {N P : List Str} {sc : Scope} (h : fnSupB N P sc = true) : FnSup N P sc := by
  unfold fnSupB at h
  simp only [Bool.and_eq_true, Bool.or_eq_true, Bool.not_eq_true', decide_eq_true_eq, decide_eq_false_iff_not, List.all_eq_true] at h
  obtain ⟨⟨⟨⟨⟨⟨h1, h2⟩, h3⟩, h4⟩, h5⟩, h6⟩, h7⟩ := h
  exact ⟨h1, h2, h3, h4, h5, h6, fun y hy => (h7 y hy).1, fun y hy e => ((h7 y hy).2).elim (fun z => absurd e z) id⟩

abbrev supEnv (qual : Str) (scope : Scope) (L f : Addr) (cd : Value) (cc : Addr) : Env := PySem.W.ksEnv qual scope L f cd cc
def supCx (CX : CXT) (P : Program) (w : World) (K : PySem.W.Frag) (mg : Str → Option Value) (base : Heap) (N : List Str) (qual : Str) (scope : Scope) (f : Addr) (cd : Value) (cc : Addr) (A : Around) (outer : List Env) (s : Shared) (H : Hp) (E : XK) : Cx where
  prog := P
  w := w
  K := K
  mg := mg
  base := base
  A := A.deeper (supEnv qual scope s.heap.objs.size f cd cc)
  N := N
  s_0 := s
  H_0 := H
  env := supEnv qual scope s.heap.objs.size f cd cc
  outer := outer
  stack := supEnv qual scope s.heap.objs.size f cd cc :: outer
  ex := []
  calm := true
  fn := fun _ => false
  pn := []
  xe := fun e s' => wpAny (model P w) (A.deeper (supEnv qual scope s.heap.objs.size f cd cc)) (leaving (supEnv qual scope s.heap.objs.size f cd cc) e) (fun _ s'' => CX outer H s E e s'') (fun e' s'' => CX outer H s E e' s'') s'

/-- a statement, a block, at a known code -/
structure PSc (X : Cx) (c : Code) (st : Stmt) (t : TS) : Prop where
  run : ∀ (pins : List (Addr × Obj)) (s : Shared) (σ : L2.St) (H : Hp) (D : Ends), Inv X pins σ H s → t D σ H → _root_.PySem.wpAt (model X.prog X.w) X.A c (exec st X.env) (SP X pins D) X.xe s
structure PScs (X : Cx) (c : Code) (st : List Stmt) (t : TS) : Prop where
  run : ∀ (pins : List (Addr × Obj)) (s : Shared) (σ : L2.St) (H : Hp) (D : Ends), Inv X pins σ H s → t D σ H → _root_.PySem.wpAt (model X.prog X.w) X.A c (execs st X.env) (SP X pins D) X.xe s
section
variable {X : Cx} {c : Code} {st : Stmt} {rest : List Stmt} {t u : TS}
theorem psc_of (h : PS X st t) : PSc X c st t := ⟨fun pins s σ H D I q => fun Γ p _ hΓ => h.run pins s σ H D I q Γ p hΓ⟩
theorem pscs_of (h : PSs X rest t) : PScs X c rest t := ⟨fun pins s σ H D I q => fun Γ p _ hΓ => h.run pins s σ H D I q Γ p hΓ⟩
theorem pscs_cons (h1 : PSc X c st t) (h2 : PScs X c rest u) : PScs X c (st :: rest) (tSeq t u) := by
  refine ⟨fun pins s σ H D I h => ?_⟩
  refine ks_wpAt_execs_cons (ks_wpAt_mono (h1.run pins s σ H { D with nx := u D } I h) (fun f s1 q => ?_) fun _ _ z => z)
  cases f with
  | next =>
    obtain ⟨σ', H', I', q⟩ := q
    exact h2.run pins s1 σ' H' D I' q
  | ret v => exact q
  | brk => exact q
  | cont => exact q
theorem pscs_one (h1 : PSc X c st t) : PScs X c [st] t := by
  refine ⟨fun pins s σ H D I h => ?_⟩
  refine ks_wpAt_execs_cons (ks_wpAt_mono (h1.run pins s σ H D I h) (fun f s1 q => ?_) fun _ _ z => z)
  cases f with
  | next => exact fun Γ p _ hΓ => (wpAny_execs_nil q) Γ p hΓ
  | ret v => exact q
  | brk => exact q
  | cont => exact q
end

/-- what the written part says of the def's cell -/
def ClsCell (K : PySem.W.Frag) (cc D : Addr) : Prop := ∃ cl cld csl, K.lookup cc = some ⟨cl, cld, .cell (some (.ref D)), csl⟩

theorem sup_inv {CX : CXT} {P : Program} {w : World} {K : PySem.W.Frag} {mg : Str → Option Value} {base : Heap} {N ps : List Str} {qual : Str} {scope : Scope} {f cc D : Addr} {cd : Value} {A : Around} {outer : List Env} {s : Shared} {H : Hp} {E : XK} {us : List Value} {vs : List V} {h₁ : Heap} {tk : Nat}
    (S : FnSup N ps scope) (hd : A.handled = none) (e0 : Env0 P w K mg base A outer s H) (hl : vs.length = ps.length) (r : Vals vs us) (C : ClsCell K cc D)
    (hns : h₁.Ns s.heap.objs.size fun y => (ps.zip us).reverse.lookup y) (kp : ∀ b o, s.heap.get? b = some o → h₁.get? b = some o) :
    Inv (supCx CX P w K mg base N qual scope f cd cc A outer s H E) [] (L2.start N vs) H { s with heap := h₁, toks := tk } := by
  have hpl : ps.length ≤ N.length := by have := congrArg List.length S.pre; rw [List.length_take] at this; omega
  obtain ⟨cl, cld, csl, hc⟩ := C
  have hb : base.get? cc = some ⟨cl, cld, .cell (some (.ref D)), csl⟩ := e0.mod.kin _ _ hc
  have hs := (e0.bs _ _ hb).1
  have hcl : ∀ x c, (supCx CX P w K mg base N qual scope f cd cc A outer s H E).env.cells.lookup x = some c → x = ("__class__" : Str) ∧ c = cc := fun x c h => by
    have h' : List.lookup x [(("__class__" : Str), cc)] = some c := h
    by_cases e : x = ("__class__" : Str)
    · subst e
      simp [List.lookup] at h'
      exact ⟨rfl, h'.symm⟩
    · have q : (x == ("__class__" : Str)) = false := by simpa using e
      simp [List.lookup, q] at h'
  have noA : ∀ b : Addr, b ∉ (supCx CX P w K mg base N qual scope f cd cc A outer s H E).ex := fun b z => absurd (show b ∈ ([] : List Addr) from z) (by simp)
  refine ⟨⟨e0.mod, S.kind, rfl, rfl, Nat.le_refl _, fun y z c h1 h2 => ?_, fun y hy => ?_, fun y c h _ => ?_, fun _ => hd, Around.frames_deeper e0.frames, .inr ⟨rfl, rfl⟩, fun b z => absurd z (noA b), e0.bs, e0.bsz, fun b _ _ => noA b, fun b z => absurd z (noA b), e0.funs, e0.frf⟩,
    rfl, e0.bare, Un.kept kp, ⟨_, hns, fun i y v h1 h2 h3 => ?_⟩, fun y c h => ?_, e0.hok.fresh (Nat.le_refl _), fun y c h => ?_, fun p hp => absurd (show p ∈ ([] : List (Addr × Obj)) from hp) (by simp), e0.hok.kept kp, ?_⟩
  · exact (hcl _ _ h1).1.trans (hcl _ _ h2).1.symm
  · have hy : scope.names.lookup y = some .cell ∨ scope.names.lookup y = some .free := hy
    rcases hy with hy | hy
    · exact absurd rfl (S.nocell _ (PySem.mem_of_lookup hy))
    · have e := S.free _ (PySem.mem_of_lookup hy) rfl
      have e : y = ("__class__" : Str) := e
      subst e
      exact ⟨cc, by show List.lookup _ [_] = _; simp [List.lookup]⟩
  · exact Bool.noConfusion (show false = true from h)
  · have hi : i < vs.length := by
      unfold L2.start at h2
      by_cases hi : i < vs.length
      · exact hi
      · rw [List.getElem?_append_right (by simpa using hi)] at h2
        rw [List.getElem?_replicate] at h2
        split at h2 <;> cases h2
    have ha : vs[i]? = some v := by
      unfold L2.start at h2
      rw [List.getElem?_append_left (by simpa using hi), List.getElem?_map] at h2
      cases e : vs[i]? with
      | none => rw [e] at h2; cases h2
      | some a => rw [e] at h2; cases h2; rfl
    obtain ⟨u, hu, rv⟩ := r.get ha
    have hp : ps[i]? = some y := by
      rw [← S.pre, List.getElem?_take_of_lt (by omega)]; exact h1
    have ndP : ps.Nodup := by rw [← S.pre]; exact S.nd.sublist (List.take_sublist _ _)
    refine ⟨u, rv, .inl ⟨S.par y (List.mem_of_getElem? hp), ?_⟩⟩
    show (ps.zip us).reverse.lookup y = some u
    have hz : (ps.zip us)[i]? = some (y, u) := by rw [List.getElem?_zip_eq_some]; exact ⟨hp, hu⟩
    have hm : (y, u) ∈ ps.zip us := List.mem_of_getElem? hz
    clear hz
    have key : ∀ (ps : List Str) (us : List Value), ps.Nodup → (y, u) ∈ ps.zip us → (ps.zip us).reverse.lookup y = some u := by
      intro ps
      induction ps with
      | nil => intro us _ h; simp at h
      | cons p ps ih =>
        intro us nd h
        cases us with
        | nil => simp at h
        | cons w us =>
          rw [List.zip_cons_cons] at h ⊢
          rw [List.reverse_cons, List.lookup_append]
          rcases List.mem_cons.mp h with e | h
          · cases e
            have hn : (ps.zip us).reverse.lookup y = none := by
              rw [List.lookup_eq_none_iff]
              intro q hq
              have hq' : q ∈ ps.zip us := by simpa using hq
              have : q.1 ∈ ps := (List.of_mem_zip hq').1
              have ne : y ≠ q.1 := fun e => (List.nodup_cons.mp nd).1 (by rw [e]; exact this)
              simpa using ne
            rw [hn]
            simp [List.lookup]
          · rw [ih us (List.nodup_cons.mp nd).2 h]
            rfl
    exact key ps us ndP hm
  · obtain ⟨_, e⟩ := hcl y c h
    subst e
    exact ⟨_, _, kp _ _ hs, rfl⟩
  · obtain ⟨_, e⟩ := hcl y c h
    subst e
    exact (e0.bs _ _ hb).2
  · unfold L2.start
    show _ = N.length
    rw [List.length_append, List.length_map, List.length_replicate]
    omega

theorem fn_sup {CX : CXT} {P : Program} {w : World} {K : PySem.W.Frag} {mg : Str → Option Value} {base : Heap} {k : Nat} {f cc D : Addr} {name qual : Str} {params : Arguments} {body : List Stmt} {scope : Scope} {dV kV doc pm cdv ct oc : Value} {an od : Option Addr}
    {osl : Array (Option Value)} {N ps : List Str} {sp : Sp} (lk : K.lookup f = some ⟨oc, od, .func (PySem.W.ksFn name qual params body scope dV kV doc pm an cdv ct cc), osl⟩) (hcd : PySem.W.codeIn K cdv qual = true) (C : ClsCell K cc D) (S : FnSup N ps scope)
    (len : ∀ vs H Q E, sp vs H Q E → vs.length = ps.length)
    (hbody : ∀ (A : Around) (outer : List Env) (s : Shared) (H : Hp) (vs : List V) (Q : VK) (E : XK), Room k (A.deeper (supEnv qual scope s.heap.objs.size f cdv cc)) → sp vs H Q E →
      ∃ t, PScs (supCx CX P w K mg base N qual scope f cdv cc A outer s H E) (.func body (supEnv qual scope s.heap.objs.size f cdv cc)) body t ∧ t { nx := fun _ H' => Q .non H', rt := Q } (L2.start N vs) H) :
    FnOk P w K mg base CX (k + 1) f (PySem.W.ksFn name qual params body scope dV kV doc pm an cdv ct cc) ps sp := by
  refine ⟨len, fun A outer s H args us vs Q E hr e0 hb r hsp => ?_⟩
  have hl := len _ _ _ _ hsp
  have KX : K.In s.heap := e0.mod.kin.keeps fun b o e => (e0.bs b o e).1
  have lim : s.heap.NoLimit := e0.mod.nolimit.keeps fun b o e => (e0.bs b o e).1
  refine ks_codeAny_call_defAt (binds := ps.zip us) hr.depth (KX _ _ lk) rfl lim (PySem.W.codeRec_of KX hcd) rfl hb S.nocell (fun x hx => S.par _ (List.of_mem_zip (show (x.1, x.2) ∈ ps.zip us from hx)).1) (fun h₁ hns kp => ?_) S.co S.gen S.kind
  obtain ⟨t, ht, hq⟩ := hbody A outer s H vs Q E (hr.deeper _) hsp
  have I : Inv (supCx CX P w K mg base N qual scope f cdv cc A outer s H E) [] (L2.start N vs) H { s with heap := h₁, toks := s.toks + (ps.zip us).length } := sup_inv S hr.hd e0 hl r C hns kp
  refine ks_wpAt_mono (ht.run [] _ (L2.start N vs) H _ I hq) (fun fl s' hs => ?_) fun e s' hs => hs
  have fin : ∀ {σ' : L2.St} {H' : Hp} {v : V} {u : Value}, Inv (supCx CX P w K mg base N qual scope f cdv cc A outer s H E) [] σ' H' s' → RelV v u → Q v H' → CE outer P w H s Q u s' :=
    fun {σ' H' v u} J rv q => ⟨v, H', J.os, J.bare, J.base, J.hok, rv, q⟩
  cases fl with
  | ret u =>
    obtain ⟨v, σ', H', J, rv, q⟩ := hs
    exact fin J rv q
  | next =>
    obtain ⟨σ', H', J, q⟩ := hs
    exact fin (v := V.non) (u := Value.none) J rfl q
  | brk =>
    obtain ⟨_, _, _, q⟩ := hs
    exact False.elim q
  | cont =>
    obtain ⟨_, _, _, q⟩ := hs
    exact False.elim q

/-- what is known where super() stands in a def: the def at f, its cell cc (class D), its code object -/
structure SupAt (X : Cx) (f cc D : Addr) (sf : Str) : Prop where
  fn : ∃ oc od fd osl ar, X.K.lookup f = some ⟨oc, od, .func fd, osl⟩ ∧ (fd.params.posonlyargs ++ fd.params.args).head? = some ar ∧ ar.arg = sf
  code : ∃ cda ccl cdd vs ccs file tf, X.env.code = .ref cda ∧ X.K.lookup cda = some ⟨ccl, cdd, .fields vs, ccs⟩ ∧ vs[2]? = some (.str file tf) ∧ ((X.prog.main.file : Str) == file) = true
  top : (X.prog.main.scope.names.lookup ("super" : Str)).isSome = false
  mgs : X.mg "super" = none
  func : X.env.func = some f
  cell : ClsCell X.K cc D
  cells : X.env.cells.lookup ("__class__" : Str) = some cc
  sS : X.env.scope.names.lookup ("super" : Str) = some .globalImplicit
  sC : X.env.scope.names.lookup ("__class__" : Str) = some .free
  sX : X.env.scope.names.lookup sf = some .local
  n0 : X.N[0]? = some sf
  D : ∃ cd, PySem.W.clsIn X.K D = some cd
theorem cls_at {K : PySem.W.Frag} {h : Heap} {D : Addr} {cdD : ClassData} (X : K.In h) (hD : PySem.W.clsIn K D = some cdD) : ∃ oD, h.get? D = some oD ∧ oD.data = .cls cdD := by
  unfold PySem.W.clsIn at hD
  split at hD
  · rename_i c d cd' sl ho
    cases hD
    exact ⟨_, X _ _ ho, rfl⟩
  · cases hD
/-- super() is reckoned: a super object at so, new and untracked -/
theorem super_base {X : Cx} {f cc D x C : Addr} {sf : Str} {pins : List (Addr × Obj)} {σ : L2.St} {H : Hp} {s : Shared} {Q : Value → Shared → Prop} {body : List Stmt} {p0 p1 : Pos} {attr : Str} {whole : Sem Value} {ox : Obj}
    (S : SupAt X f cc D sf) (I : Inv X pins σ H s) (h0 : σ[0]? = some (some (.ref x))) (hx : s.heap.get? x = some ox) (hcls : ox.cls = .ref C) (hno : ∀ c, ox.data ≠ .cls c) (hsub : PySem.W.mroIn X.K C (.ref D) = some true) (hat : (attr == ("__class__" : Str)) = false)
    (h : ∀ so s', Inv X pins σ H s' → s'.heap.get? so = some (PySem.W.ks_superObj D x C) → (∀ b o, s.heap.get? b = some o → s'.heap.get? b = some o) → H so = none → Q (.ref so) s') :
    _root_.PySem.wpAt (model X.prog X.w) X.A (.func body X.env) (attributeBase (.Call (.Name "super" p0) [] [] p1) attr X.env whole) Q X.xe s := by
  obtain ⟨oc, od, fd, osl, ar, hf, hp, ea⟩ := S.fn
  obtain ⟨cda, ccl, cdd, vs, ccs, file, tf, hco, hcc, hvs, hfile⟩ := S.code
  obtain ⟨cl, cld, csl, hcell⟩ := S.cell
  obtain ⟨cdD, hD⟩ := S.D
  obtain ⟨oD, hD1, hD2⟩ := cls_at I.kIn hD
  have KX := I.kIn
  refine ks_wpAt_super_base (env := X.env) S.sS S.sC hat S.func (KX _ _ hf) rfl hp hco (KX _ _ hcc) rfl hvs hfile S.top ?_
  obtain ⟨mb, b1, b2⟩ := I.mod.blt
  refine PySem.W.ks_loadName_global I.ok.kind S.sS (Calls.loadGlobal_builtin (by rw [I.ok.glob]; exact I.mod.glob.keeps I.bk) S.mgs (by rw [I.ok.blt]; exact b1.keeps I.bk) ((b2 "super" (by decide)).trans PyProof.Rows.Boot.«super») ⟨rfl, ?_⟩)
  refine wpAny_loadName_free I.ok.kind S.sC S.cells ⟨_, KX _ _ hcell, rfl⟩ ?_
  obtain ⟨m, hn, hl⟩ := I.loc
  obtain ⟨u, ru, lk⟩ := hl 0 sf (.ref x) S.n0 h0 (.inl S.sX)
  have hu : m sf = some (.ref x) := by
    have e : u = .ref x := ru
    rcases lk with ⟨_, e2⟩ | ⟨k, _⟩
    · rw [e2, e]
    · have k1 : X.env.scope.names.lookup sf = some .cell ∨ X.env.scope.names.lookup sf = some .free := k
      rw [S.sX] at k1
      rcases k1 with k1 | k1 <;> cases k1
  subst ea
  refine wpAny_loadName_local I.ok.kind S.sX hn hu ?_
  refine ks_wpAny_isType_cls hD1 hD2 ⟨rfl, ?_⟩
  obtain ⟨hh, g, d, t, os⟩ := s
  refine ks_wpAny_call_super hD1 hD2 hx hcls hno (PySem.W.looks_mroIn KX hsub) fun h' e k => ?_
  exact h _ _ (I.kept (h' := h') (t' := t) k) e k (I.hok.fresh (Nat.le_refl _))

/-- super().__init__(e, ..) in the __init__ of an exception over ValueError -/
def tSupX (C : Addr) (K : PySem.W.Frag) (ta : TA) : TS := fun D σ H => ∃ a, σ[0]? = some (some (.ref a)) ∧ H a = some (exo a C none) ∧ ta σ H fun vs H1 => vs.length ≤ 1000 ∧ H1 a = some (exo a C none) ∧ D.nx σ H1
/-- what the written part says of such a class -/
structure SupX (K : PySem.W.Frag) (C : Addr) : Prop where
  T : OexC K C
  sup : PySem.W.ks_superIn K C C "__init__" = some (some (.builtin "ValueError.__init__"))
  sub : PySem.W.mroIn K C (.ref C) = some true
  ve : PySem.W.subIn K (.ref C) (.type "ValueError") = some true
  op : PySem.W.nsIn K cStatics "thirdparty.any" = some none
theorem psc_superX {X : Cx} {f cc C : Addr} {sf : Str} {body : List Stmt} {e : Expr} {es : List Expr} {p0 p1 p2 p3 p4 : Pos} {ta : TA} {pl : Sem Bool} (S : SupAt X f cc C sf) (T : SupX X.K C) (ha : PA X (e :: es) ta)
    (hev : eval (.Call (.Attribute (.Call (.Name "super" p0) [] [] p1) "__init__" p2) (e :: es) [] p3) X.env = (do
      let ov ← attributeBase (.Call (.Name "super" p0) [] [] p1) "__init__" X.env (eval (.Call (.Name "super" p0) [] [] p1) X.env)
      standAt p2.atName
      let (f, first) ← holding [ov] (getMethod ov "__init__" pl)
      callWith p3 f first (backTo p3 (starEach (e :: es) X.env)) []) := by rfl)
    (hsw : swapsWith (.Call (.Attribute (.Call (.Name "super" p0) [] [] p1) "__init__" p2) (e :: es) [] p3) none p4.line X.env = pure false := by rfl)
    (hst : starEach (e :: es) X.env = (false, eval e X.env) :: starEach es X.env := by rfl) (hpl : (backTo p3 (starEach es X.env)).any (·.1) = false := by rfl) :
    PSc X (.func body X.env) (.Expr (.Call (.Attribute (.Call (.Name "super" p0) [] [] p1) "__init__" p2) (e :: es) [] p3) p4) (tSupX C X.K ta) := by
  refine ⟨fun pins s σ H D I h => ?_⟩
  obtain ⟨a, h0, ea, h⟩ := h
  obtain ⟨nm, q, N, bs, bm, sn, sub, ab, col, dd, k0, k1, k2, k3, k5, hC, hbm⟩ := T.T.cls
  have hcl : PySem.W.clsIn X.K C = some { name := nm, bases := bs, mro := .ref C :: bm, ns := N, qualname := q, hasDict := true, slotNames := sn, subclasses := sub, abstract := ab, collection := col, hasDel := false } := by unfold PySem.W.clsIn; rw [hC] <;> rfl
  obtain ⟨t1, ho⟩ := exo_at I.hok ea
  refine ks_wpAt_Expr_any (ks_wpAt_MethodCall ?_ hev) I.quiet hsw
  refine super_base S I h0 ho rfl (fun c z => by cases z) T.sub (by decide) fun so s1 I1 hso kp _ => ?_
  have hoa := kp _ _ ho
  -- the method
  have hm := T.sup
  unfold PySem.W.ks_superIn at hm
  rw [hcl] at hm
  have hin : PySem.W.InstAt s1.heap a { cls := .ref C, dict := none, data := .fields #[.ref t1, .none, .none, .none, .bool false, .none] } C none := ⟨hoa, rfl, rfl, trivial⟩
  have hI : PySem.W.Looks (model X.prog X.w) s1.heap (isInstance (.ref a) (.type "ValueError")) true := hin.type.andThen (PySem.W.looks_subIn I1.kIn T.ve)
  obtain ⟨hh, g, d, t, os⟩ := s1
  refine PySem.W.kxs_getMethod PySem.W.kxs_ValueError hso (PySem.W.looks_opaque I1.kIn T.op) (l₀ := .ref C :: bm) (fun A Q E s k q => wpAny_bind ((PySem.W.looks_clsIn I1.kIn hcl) A _ E s k (wpAny_pure q))) rfl I1.kIn hm hI (PySem.W.ks_ne I1.kIn hin hcl) (by decide) ?_
  have hkp : ∀ b u, hh.get? b = some u → (hh.push (PySem.W.kxs_mw "ValueError.__init__" a)).get? b = some u := fun b u e => Heap.get?_push_of_some _ e
  have I2 : Inv X pins σ H ⟨hh.push (PySem.W.kxs_mw "ValueError.__init__" a), g, d, t + 1, os⟩ := I1.kept hkp
  have hu : (hh.push (PySem.W.kxs_mw "ValueError.__init__" a)).get? hh.objs.size = some (PySem.W.kxs_mw "ValueError.__init__" a) := Heap.get?_push_size _ rfl
  -- the wrapper is pinned
  have ne_loc : hh.objs.size ≠ X.env.locals := Nat.ne_of_gt I1.lt
  have ne_fs : hh.objs.size ∉ X.fs := I1.nofs (Nat.le_refl _)
  have fresh : H hh.objs.size = none := I1.hok.fresh (Nat.le_refl _)
  have I3 : Inv X ((hh.objs.size, PySem.W.kxs_mw "ValueError.__init__" a) :: pins) σ H ⟨hh.push (PySem.W.kxs_mw "ValueError.__init__" a), g, d, t + 1, os⟩ := I2.pins_of fun p hp => by
    rcases List.mem_cons.mp hp with e | hp
    · subst e
      exact ⟨hu, fresh, ne_loc, ne_fs, fun v z => by cases z⟩
    · exact I2.pin p (List.mem_append_right _ hp)
  refine PySem.W.kxs_callWith (i := "ValueError.__init__") (x := a) (by rw [hst]; exact (show (false || (backTo p3 (starEach es X.env)).any (·.1)) = false by rw [hpl]; rfl)) ?_
  rw [hst]
  refine Calls.evalArgs_plain ?_
  have hrun := ha.run p3 _ _ σ H _ I3 h
  rw [hst] at hrun
  refine thn hrun fun us s2 ⟨vs, H2, I4, r, hl, ea2, q⟩ => ?_
  obtain ⟨hpin, hpn, _, _, _⟩ := I4.pin (hh.objs.size, PySem.W.kxs_mw "ValueError.__init__" a) (List.mem_append_right _ List.mem_cons_self)
  refine ⟨hpin, ?_⟩
  show wpAny _ _ (call (.ref hh.objs.size) us) _ _ _
  have I5 : Inv X pins σ H2 s2 := I4.pins_of fun p hp => I4.pin p (List.mem_append_right _ (List.mem_cons_of_mem _ hp))
  obtain ⟨t2, ho2⟩ := exo_at I5.hok ea2
  obtain ⟨hp2, g2, d2, tk2, os2⟩ := s2
  refine wpAny_call (codeAny_of_tree ?_)
  show wpAny _ X.A.in1 (callAny (.ref hh.objs.size) ⟨us, []⟩) _ _ _
  simp only [callAny]
  refine wpAny_bind (wpAny_load hpin ?_)
  simp only [PySem.W.kxs_mw, show (Value.type "method-wrapper" == Value.type "method" || Value.type "method-wrapper" == Value.type "builtin_function_or_method" || Value.type "method-wrapper" == Value.type "method-wrapper") = true by decide, if_true]
  refine PySem.W.KFB.if_so (by decide) ?_
  refine wpAny_bind (PySem.W.check_bound_init F.excBase_ValueError.toExcCallFacts (I5.kIn _ _ hC) ho2 rfl ?_)
  refine wpAny_bind (wpAny_pure (wpAny_pure ?_))
  refine ⟨plainId_quiet F.excBase_ValueError.init.plain _, codeAny_builtin F.excBase_ValueError.initEntry ?_⟩
  refine PySem.W.exc_init_tree (cls := .ref C) (t0 := t2) (dv := none) (c2 := .none) (c3 := .none) (b4 := .bool false) ho2 (by rw [← Paired.length r, sizeLine_eq]; omega) fun h' k hx _ => ?_
  have J := I5.write (t' := tk2) (x := a) (e := a) (o := exo a C none) (by rw [ea2]; exact True.intro) (.inl rfl) k ⟨_, hx⟩ (exo_ok hx)
  have eu : upd H2 a (exo a C none) = H2 := by
    funext b
    by_cases hb : b = a
    · rw [hb, upd_same, ea2]
    · rw [upd_ne hb]
  rw [eu] at J
  exact ⟨σ, H2, J, q⟩
end Nk

/-! Pre: a def's bundle (Df), readings step by step (r_*), what a call keeps (Kp), the pen of the laws. -/
namespace Nk
open PySem PySem.Spec PyProof.Rows L2

/-! ### defs by their promises -/
def Df (P : Program) (w : World) (K : PySem.W.Frag) (mg : Str → Option Value) (base : Heap) (x : Str) (k : Nat) (ps : List Str) (sp : Sp) : Prop :=
  ∃ (f : Addr) (fd : FuncData), FnOk P w K mg base (L2.CX P w) k f fd ps sp ∧ mg x = some (.ref f) ∧ PySem.W.keepIn K (.ref f) = true ∧ Binds K fd ps []
def tDf (sp : Sp) (W : WX) (t : TA) : TE := fun σ H Q => t σ H fun vs H1 => sp vs H1 Q (fun cls d H' => W cls d σ H')
section
variable {X : Cx} {k j : Nat} {ps : List Str} {sp : Sp} {x : Str} {p pos : Pos} {e : Expr} {es : List Expr} {t : TA} {W : WX}
theorem pe_df (c : Df X.prog X.w X.K X.mg X.base x k ps sp) (hr : Room j X.A) (hk : k ≤ j) (hg : Gl X x) (tk : Takes X W) (ha : PA X (e :: es) t)
    (hdb : (x == ("__debug__" : Str)) = false := by decide) (he : starEach (e :: es) X.env = (false, eval e X.env) :: starEach es X.env := by rfl) (hpl : (backTo pos (starEach es X.env)).any (·.1) = false := by rfl) :
    PE X (.Call (.Name x p) (e :: es) [] pos) (tDf sp W t) := by
  obtain ⟨f, fd, F, hm, hkp, hb⟩ := c
  exact pe_callS (E := WE W) F (hr.mono hk) hg hm hkp hb (fun σ => passAt tk σ) ha hdb he hpl
end

theorem pe_gc {X : Cx} {x : Str} {v : V} {pos : Pos} (hg : Gl X x) (h : ∃ u, X.mg x = some u ∧ RelV v u) (hd : (x == ("__debug__" : Str)) = false := by decide) : PE X (.Name x pos) (tC v) := by
  obtain ⟨u, hm, r⟩ := h
  exact pe_glob hg hm r hd

/-! ### readings, a step at a time -/
section
variable {σ : L2.St} {H : Hp} {Q : VK} {D : Ends} {i : Nat} {v x y : V} {ta tb tc te : TE} {tt tu : TT} {K : PySem.W.Frag} {ts tv : TS} {tA tB' : TA}
theorem r_seq (h : ts { D with nx := tv D } σ H) : tSeq ts tv D σ H := h
theorem r_next (h : D.nx σ H) : tNext D σ H := h
theorem r_asgN (h : te σ H fun v H' => D.nx (σ.set i (some v)) H') : tAsg te (gName i) D σ H := h
theorem r_asg {g : TG} (h : te σ H fun v H' => g v σ H' D.nx) : tAsg te g D σ H := h
theorem r_ret (h : te σ H D.rt) : tRet te D σ H := h
theorem r_retN (h : D.rt .non H) : tRetN D σ H := h
theorem r_drop (h : te σ H fun _ H1 => D.nx σ H1) : tDrop te D σ H := h
theorem r_ifS (h : tt σ H fun b H1 => if b = true then ts D σ H1 else tv D σ H1) : tIfS tt ts tv D σ H := h
theorem r_var (h : σ[i]? = some (some v)) (q : Q v H) : tVar i σ H Q := ⟨v, h, q⟩
theorem r_c (q : Q v H) : tC v σ H Q := q
theorem r_op {r : R2} (h : ta σ H fun x H1 => tb σ H1 fun y H2 => r x y H2 Q) : tOp r ta tb σ H Q := h
theorem r_un {r : V → Hp → VK → Prop} (h : ta σ H fun x H1 => r x H1 Q) : tUn r ta σ H Q := h
theorem r_I0 {g : Int → Int → V} {a b : Int} (q : Q (g a b) H) : rI0 g (.int a) (.int b) H Q := ⟨a, b, rfl, rfl, q⟩
theorem r_I {C : Int → Int → Prop} {g : Int → Int → V} {a b : Int} (hc : C a b) (q : Q (g a b) H) : rI C g (.int a) (.int b) H Q := ⟨a, b, rfl, rfl, hc, q⟩
theorem r_eq (h : scal x y = true) (q : Q (.bl (decide (x = y))) H) : rEq x y H Q := ⟨h, q⟩
theorem r_ne (h : scal x y = true) (q : Q (.bl (!decide (x = y))) H) : rNe x y H Q := ⟨h, q⟩
theorem r_test {Q : Bool → Hp → Prop} (h : te σ H fun x H' => ∃ k, x = .bl k ∧ Q k H') : tTest te σ H Q := h
theorem r_B {Q : Bool → Hp → Prop} (h : te σ H fun x H' => ∃ k, x = .bl k ∧ Q k H') : L2.tB te σ H Q := h
theorem r_k {b : Bool} {R : Bool → Prop} (h : R b) : ∃ k, V.bl b = .bl k ∧ R k := ⟨b, rfl, h⟩
theorem r_not {Q : Bool → Hp → Prop} (h : tt σ H fun c H1 => Q (!c) H1) : tNot tt σ H Q := h
theorem r_and {Q : Bool → Hp → Prop} (h : tt σ H fun c H1 => if c = true then tu σ H1 Q else Q false H1) : tAnd tt tu σ H Q := h
theorem r_or {Q : Bool → Hp → Prop} (h : tt σ H fun c H1 => if c = true then Q true H1 else tu σ H1 Q) : tOr tt tu σ H Q := h
theorem r_andV (h : ta σ H fun x H1 => ∃ c, x = .bl c ∧ if c = true then tb σ H1 Q else Q (.bl false) H1) : tAndV ta tb σ H Q := h
theorem r_orV (h : ta σ H fun x H1 => ∃ c, x = .bl c ∧ if c = true then Q (.bl true) H1 else tb σ H1 Q) : tOrV ta tb σ H Q := h
theorem r_notV (h : ta σ H fun x H1 => ∃ c, x = .bl c ∧ Q (.bl (!c)) H1) : tNotV ta σ H Q := h
theorem r_if (h : tt σ H fun c H1 => if c = true then ta σ H1 Q else tb σ H1 Q) : tIf tt ta tb σ H Q := h
theorem r_nil {Q : List V → Hp → Prop} (q : Q [] H) : tNil σ H Q := q
theorem r_cons {Q : List V → Hp → Prop} (h : te σ H fun x H1 => tA σ H1 fun xs H2 => Q (x :: xs) H2) : tCons te tA σ H Q := h
theorem r_cb {r : List V → Hp → VK → Prop} (h : tA σ H fun vs H1 => r vs H1 Q) : tCB r tA σ H Q := h
theorem r_df {sp : Sp} {W : WX} (h : tA σ H fun vs H1 => sp vs H1 Q (fun cls d H' => W cls d σ H')) : tDf sp W tA σ H Q := h
theorem r_lst (h : tA σ H fun xs H1 => xs.length ≤ sizeLine ∧ ∀ p, H1 p = none → Q (.ref p) (upd H1 p (.lst xs))) : tLst tA σ H Q := h
theorem r_tup (h : tA σ H fun xs H1 => xs.length ≤ sizeLine ∧ ∀ p, H1 p = none → Q (.ref p) (upd H1 p (.tup xs))) : tTup tA σ H Q := h
theorem r_gsub {to ti : TE} {t : TSet} {Qs : L2.St → Hp → Prop} (h : to σ H fun o H1 => ti σ H1 fun i H2 => t o i v H2 fun H3 => Qs σ H3) : gSub to ti t v σ H Qs := h
theorem r_chain {r r' : R2} (h : ta σ H fun x H1 => tb σ H1 fun y H2 => r x y H2 fun z H3 => ∃ k, z = .bl k ∧ (if k = true then tc σ H3 fun w' H4 => r' y w' H4 Q else Q (.bl false) H3)) : tChain r r' ta tb tc σ H Q := h
/-- a list, a tuple that stands -/
theorem r_ixL {p : Addr} {xs : List V} {k : Int} (h : SqL K H p xs) (ha : atI xs k = some v) (q : Q v H) : rIxL K (.ref p) (.int k) H Q := ⟨p, xs, k, v, rfl, rfl, h, ha, q⟩
theorem r_ixT {p : Addr} {xs : List V} {k : Int} (h : SqT K H p xs) (ha : atI xs k = some v) (q : Q v H) : rIxT K (.ref p) (.int k) H Q := ⟨p, xs, k, v, rfl, rfl, h, ha, q⟩
theorem r_setL {p : Addr} {xs : List V} {k : Int} {j : Nat} {R : Hp → Prop} (h : H p = some (.lst xs)) (hj : ixN xs.length k = some j) (q : R (upd H p (.lst (xs.set j v)))) : rSetL (.ref p) (.int k) v H R := ⟨p, xs, k, j, rfl, rfl, h, hj, q⟩
theorem r_ite {c A B : Prop} [Decidable c] (h1 : c → A) (h2 : ¬ c → B) : if c then A else B := ite2 h1 h2
theorem r_iteT {A B : Prop} (h : A) : if true = true then A else B := iteT h
theorem r_iteF {A B : Prop} (h : B) : if false = true then A else B := iteF h
theorem r_iteNF {A B : Prop} (h : A) : if (!false) = true then A else B := iteT h
theorem r_iteNT {A B : Prop} (h : B) : if (!true) = true then A else B := iteF h
theorem r_isi {n T : String} {b : Bool} (ty : TyX K H x (.type T)) (h : kitB T n = some b) (q : Q (.bl b) H) : rIsi K [x, .ty n] H Q := ⟨x, .ty n, _, _, b, rfl, .ty n, ty, kit_ty h, q⟩
theorem r_lenS {z : Str} {R : Nat → Prop} (h : z.length ≤ 90000) (q : R z.length) : ∃ (x : V) (n : Nat), [V.str z] = [x] ∧ LenV K x H n ∧ R n := ⟨_, _, rfl, (by simp [LenV]; exact Nat.le_trans h (by decide)), q⟩
theorem r_lenL {a : Addr} {xs : List V} {R : Nat → Prop} (h : SqL K H a xs) (q : R xs.length) : ∃ (x : V) (n : Nat), [V.ref a] = [x] ∧ LenV K x H n ∧ R n := ⟨_, _, rfl, .inl ⟨xs, h, rfl⟩, q⟩
theorem r_lenT {a : Addr} {xs : List V} {R : Nat → Prop} (h : SqT K H a xs) (q : R xs.length) : ∃ (x : V) (n : Nat), [V.ref a] = [x] ∧ LenV K x H n ∧ R n := ⟨_, _, rfl, .inr ⟨xs, h, rfl⟩, q⟩
theorem r_bool {bs : List Bool} {a : Addr} (h : SqL K H a (bs.map V.bl)) (q : Q (.bl (bs.all id)) H) : rAll K [.ref a] H Q := ⟨a, bs, rfl, h, q⟩
theorem r_iteD {c : Prop} [Decidable c] {A B : Prop} (h1 : c → A) (h2 : ¬ c → B) : if decide c = true then A else B := by
  by_cases h : c
  · rw [decide_eq_true h]; exact iteT (h1 h)
  · rw [decide_eq_false h]; exact iteF (h2 h)
theorem r_iteN {c : Prop} [Decidable c] {A B : Prop} (h1 : ¬ c → A) (h2 : c → B) : if (!decide c) = true then A else B := by
  by_cases h : c
  · rw [decide_eq_true h]; exact iteF (h2 h)
  · rw [decide_eq_false h]; exact iteT (h1 h)
theorem r_iteB {b : Bool} {A B : Prop} (h1 : b = true → A) (h2 : b = false → B) : if b = true then A else B := by
  cases b with
  | true => exact iteT (h1 rfl)
  | false => exact iteF (h2 rfl)
theorem r_gN {R : L2.St → Hp → Prop} (h : R (σ.set i (some v)) H) : gName i v σ H R := h
theorem r_yes {R : Bool → Hp → Prop} (h : R true H) : tYes σ H R := h
theorem r_lc {wi : TI} {g : TG} {vs : List Nat} (h : wi σ H fun J H1 => ∀ D, H1 D = none → ∃ W : Nat → Nat → Hp → Prop, (∃ m, W 0 m (upd H1 D (.lst []))) ∧ ∀ i m H, W i m H →
      (J.stop i H ∧ Q (.ref D) H) ∨ (J.go i H ∧ ∃ Nx : Hp → Prop, (∀ H', Nx H' → ∃ m', m' < m ∧ W (i + 1) m' H') ∧ ∀ x H', J.yld i H x H' → g x (wipe σ vs) H' fun σ2 H2 => wipe σ2 vs = wipe σ vs ∧ tt σ2 H2 fun b H3 =>
        if b = true then te σ2 H3 fun y H4 => ∃ acc, H4 D = some (.lst acc) ∧ acc.length < sizeLine ∧ Nx (upd H4 D (.lst (acc ++ [y]))) else Nx H3)) : tLc wi g tt te vs σ H Q := h
theorem r_for {wi : TI} {g : TG} (h : wi σ H fun J H1 => ∃ W : Nat → Nat → L2.St → Hp → Prop, (∃ m, W 0 m σ H1) ∧ ∀ i m σ H, W i m σ H →
      (J.stop i H ∧ D.nx σ H) ∨ (J.go i H ∧ ∃ N : L2.St → Hp → Prop, (∀ σ' H', N σ' H' → ∃ m', m' < m ∧ W (i + 1) m' σ' H') ∧ ∀ x H', J.yld i H x H' → g x σ H' fun σ2 H2 => ts { D with nx := N, ct := N, bk := D.nx } σ2 H2)) : tFor wi g ts D σ H := h
theorem r_iStr {R : It → Hp → Prop} (h : te σ H fun v H1 => ∃ x, v = .str x ∧ R (Its x) H1) : iStr te σ H R := h
theorem r_iList {R : It → Hp → Prop} (h : te σ H fun x H1 => ∃ a, x = .ref a ∧ (∃ xs, SqL K H1 a xs) ∧ R (Itl K a) H1) : iList K te σ H R := h
theorem r_iTup {R : It → Hp → Prop} (h : te σ H fun x H1 => ∃ a, x = .ref a ∧ (∃ xs, SqT K H1 a xs) ∧ R (Itt K a) H1) : iTup K te σ H R := h
theorem r_iRng1 {R : It → Hp → Prop} (h : tA σ H fun vs H1 => ∃ j : Int, vs = [.int j] ∧ -(2 ^ 62) ≤ j ∧ j < 2 ^ 62 ∧ R (Itr 0 j.toNat) H1) : iRng1 tA σ H R := h
theorem r_xstr {z : Str} {R : Str → Prop} (h : R z) : ∃ x, V.str z = .str x ∧ R x := ⟨z, rfl, h⟩
theorem r_xref {a : Addr} {R : Addr → Prop} (h : R a) : ∃ x, V.ref a = .ref x ∧ R x := ⟨a, rfl, h⟩
theorem r_xint {k : Int} {R : Int → Prop} (h : R k) : ∃ x, V.int k = .int x ∧ R x := ⟨k, rfl, h⟩
theorem r_xints {k : Int} {R : Int → Prop} (h : R k) : ∃ x, [V.int k] = [.int x] ∧ R x := ⟨k, rfl, h⟩
theorem r_int1 {k : Int} {R : Int → Prop} {S : Prop} (h : R k) : (∃ x, [V.int k] = [.int x] ∧ R x) ∨ S := .inl ⟨k, rfl, h⟩
theorem r_intb {b : Bool} {R : Bool → Prop} {S : Prop} (h : R b) : S ∨ ∃ x, [V.bl b] = [.bl x] ∧ R x := .inr ⟨b, rfl, h⟩
theorem r_cut {ts tv : TS} (Mid : L2.St → Hp → Prop) (h : ts { D with nx := Mid } σ H) (hu : ∀ σ' H', Mid σ' H' → tv D σ' H') : C8.tCut ts tv D σ H := ⟨Mid, h, hu⟩
theorem c_mulL {a b : Int} (h : -(2 ^ 64) < a ∧ a < 2 ^ 64) : CMul a b := .inl h
theorem c_mulR {a b : Int} (h : -(2 ^ 64) < b ∧ b < 2 ^ 64) : CMul a b := .inr h
theorem c_pow {a b : Int} (h : 0 ≤ b ∧ b ≤ 1000000) (ha : -(2 ^ 63) ≤ a ∧ a < 2 ^ 63) : CPow a b := ⟨h.1, h.2, by omega⟩
theorem c_divW {a b : Int} (h : 0 < b) (hb : b < 2 ^ 1000) : CDivW a b := wide_div (b := 1000) h (by omega) (by decide) (by decide)
theorem r_sl {r : V → Option Int → Option Int → Hp → VK → Prop} {tl th : TO} (h : te σ H fun x H1 => tl σ H1 fun l H2 => th σ H2 fun u H3 => r x l u H3 Q) : tSl r te tl th σ H Q := h
theorem r_nop {R : Option Int → Hp → Prop} (h : R none H) : tNoPart σ H R := h
theorem r_part {R : Option Int → Hp → Prop} (h : te σ H fun x H1 => ∃ i, x = .int i ∧ R (some i) H1) : tPart te σ H R := h
theorem r_slL {a : Addr} {xs : List V} {lo hi : Option Int} (h : SqL K H a xs) (q : ∀ p, H p = none → Q (.ref p) (upd H p (.lst (cutV xs lo hi)))) : rSlL K (.ref a) lo hi H Q := ⟨a, xs, rfl, h, q⟩
theorem r_listL {a : Addr} {xs : List V} {R : Addr → List V → Prop} (h : SqL K H a xs) (q : ∀ l, H l = none → R l xs) : ∃ p ys, [V.ref a] = [.ref p] ∧ (SqL K H p ys ∨ SqT K H p ys) ∧ ∀ l, H l = none → R l ys := ⟨a, xs, rfl, .inl h, q⟩
theorem r_abs {k : Int} {R : Int → Prop} (h : R k) : ∃ x, [V.int k] = [.int x] ∧ R x := ⟨k, rfl, h⟩
theorem r_m1 {r : V → List V → Hp → VK → Prop} (h : ta σ H fun x H1 => (∃ a, x = .str a) ∧ te σ H1 fun y H2 => r x [y] H2 Q) : tM1 r ta te σ H Q := h
theorem r_isS {a : Str} {R : Prop} (h : R) : (∃ b, V.str a = .str b) ∧ R := ⟨⟨a, rfl⟩, h⟩
/-- made anew: the heap is a letter from here on -/
theorem r_new {o : HO} {R : Addr → Hp → Prop} (h : ∀ p H', H p = none → Same H H' → H' p = some o → (∀ b, b ≠ p → H' b = H b) → R p H') : ∀ p, H p = none → R p (upd H p o) := fun p hp =>
  h p _ hp (fun b u e => by rw [upd_ne (ne_of_none e hp)]; exact e) upd_same fun b hb => upd_ne hb
theorem r_size {n : Nat} (h : n ≤ 100000) : n ≤ sizeLine := Nat.le_trans h (by decide)
theorem r_sizeL {n : Nat} (h : n < 100000) : n < sizeLine := Nat.lt_of_lt_of_le h (by decide)
/-- an item appended -/
theorem r_app {l : Addr} {xs : List V} (hl : H l = some (.lst xs)) (hz : xs.length < 100000) (q : Q .non (upd H l (.lst (xs ++ [y])))) : rAppend (.ref l) [y] H Q := ⟨l, xs, y, rfl, rfl, hl, r_sizeL hz, q⟩
theorem r_bm {T : String} {r : V → List V → Hp → VK → Prop} (h : te σ H fun x H1 => tyV K T x H1 ∧ tA σ H1 fun xs H2 => r x xs H2 Q) : tBM K T r te tA σ H Q := h
end

theorem cut_all {n : Nat} {xs : List V} (h : xs.length ≤ n) : cutV xs none (some (n : Int)) = xs := by
  unfold cutV
  rw [HT.sIx_nat, HT.sIx_none, List.drop_zero, Nat.sub_zero, Nat.min_eq_right h, List.take_length]
theorem cut63 {xs : List V} (h : xs.length ≤ 63) : cutV xs none (some 63) = xs := cut_all (n := 63) h
theorem lay_ints : ∀ ns : List Int, PyData.canLayAll0 (ns.map PyData.int) = true ∧ PyData.depthAll (ns.map PyData.int) = 0
  | [] => ⟨rfl, rfl⟩
  | z :: r => by
    have ih := lay_ints r
    refine ⟨?_, ?_⟩
    · show (PyData.canLay0 (.int z) && PyData.canLayAll0 (r.map PyData.int)) = true
      rw [ih.1]
      rfl
    · show max (PyData.depth (.int z)) (PyData.depthAll (r.map PyData.int)) = 0
      rw [ih.2]
      rfl
theorem shaped_ints (ns : List Int) : SeqAt.shaped (.list (ns.map PyData.int)) = true := by
  have h := lay_ints ns
  unfold SeqAt.shaped
  show (PyData.canLayAll0 (ns.map PyData.int) && decide (PyData.depthAll (ns.map PyData.int) + 1 ≤ 64)) = true
  rw [h.1, h.2]
  rfl
theorem eqv_nil (ns : List Int) : PyData.eqv (.list (ns.map PyData.int)) (.list []) = decide (ns = []) := by
  cases ns with
  | nil => rfl
  | cons z r => rw [decide_eq_false (by simp)]; rfl
theorem new_facts {H H' : Hp} {p : Addr} {o : HO} (hp : H p = none) (e : upd H p o = H') : Same H H' ∧ H' p = some o ∧ ∀ b, b ≠ p → H' b = H b := by
  subst e
  exact ⟨fun b u e => by rw [upd_ne (ne_of_none e hp)]; exact e, upd_same, fun b hb => upd_ne hb⟩
/-- two lists of data -/
theorem dp_ints {K : PySem.W.Frag} {H : Hp} : ∀ ns : List Int, DpAll K H (ns.map V.int) (ns.map PyData.int)
  | [] => .nil
  | _ :: r => .cons (.int _) (dp_ints r)
/-! ### what stays -/
/-- all but p stays -/
def Kp (p : Addr) (H H' : Hp) : Prop := ∀ b o, H b = some o → b ≠ p → H' b = some o
theorem Kp.refl (p : Addr) (H : Hp) : Kp p H H := fun _ _ h _ => h
theorem Kp.trans {p : Addr} {H H1 H2 : Hp} (a : Kp p H H1) (b : Kp p H1 H2) : Kp p H H2 := fun c o h n => b c o (a c o h n) n
theorem Kp.same {p : Addr} {H H' : Hp} (s : Same H H') : Kp p H H' := fun b o h _ => s b o h
theorem Kp.upd {p : Addr} {H H' : Hp} {o : HO} (s : Kp p H H') : Kp p H (upd H' p o) := fun b u h n => by rw [upd_ne n]; exact s b u h n
theorem Kp.seq {p a : Addr} {H H' : Hp} {K : PySem.W.Frag} {xs : List V} (k : Kp p H H') (h : SqL K H a xs) (n : a ≠ p) : SqL K H' a xs := by
  rcases h with (h | ⟨o, h⟩) | h
  · exact .inl (.inl (k _ _ h n))
  · exact .inl (.inr ⟨o, k _ _ h n⟩)
  · exact .inr h

/-- a store into a list, the heap a letter from here on -/
theorem r_setN {K : PySem.W.Frag} {H : Hp} {v : V} {p : Addr} {xs : List V} {k : Int} {j : Nat} {R : Hp → Prop} (h : H p = some (.lst xs)) (hj : ixN xs.length k = some j) (q : ∀ H', H' p = some (.lst (xs.set j v)) → Kp p H H' → (∀ b, b ≠ p → H' b = H b) → R H') : rSetL (.ref p) (.int k) v H R :=
  r_setL h hj (q _ upd_same ((Kp.refl p H).upd) fun _ hb => upd_ne hb)

theorem draw_pow {q i a b c : Int} (h0 : 0 ≤ q) (h1 : q < 2147483629) (h2 : 0 ≤ i) (h3 : i ≤ 100000) (a0 : 0 ≤ a) (a1 : a ≤ 10000) (b0 : 0 ≤ b) (b1 : b ≤ 1000000) (c0 : 0 ≤ c) (c1 : c ≤ 1000000) : CPow (q * (2 * i + a) + b * i * i + c) 3 := by
  have e1 : q * (2 * i + a) ≤ 2147483629 * 210000 := Int.mul_le_mul (by omega) (by omega) (by omega) (by omega)
  have e2 : 0 ≤ q * (2 * i + a) := Int.mul_nonneg h0 (by omega)
  have e3 : b * i ≤ 1000000 * 100000 := Int.mul_le_mul b1 h3 h2 (by omega)
  have e4 : 0 ≤ b * i := Int.mul_nonneg b0 h2
  have e5 : b * i * i ≤ (1000000 * 100000) * 100000 := Int.mul_le_mul e3 h3 h2 (by omega)
  have e6 : 0 ≤ b * i * i := Int.mul_nonneg e4 h2
  exact c_pow ⟨by omega, by omega⟩ ⟨by omega, by omega⟩
theorem draw_mul {b i : Int} (h2 : 0 ≤ i) (h3 : i ≤ 100000) (b0 : 0 ≤ b) (b1 : b ≤ 1000000) : CMul (b * i) i := c_mulR ⟨by omega, by omega⟩

/-! ### the pen -/
structure Pen (H : Hp) (p c : Addr) (ns : List Int) (n : Nat) : Prop where
  at_ : ∃ (i : Nat) (g : Int), H p = some (.lst [.ref c, .int i, .int g]) ∧ i ≤ n
  cells : H c = some (.lst (ns.map V.int))
  len : ns.length ≤ 63
theorem Pen.mono {H : Hp} {p c : Addr} {ns : List Int} {n m : Nat} (h : Pen H p c ns n) (l : n ≤ m) : Pen H p c ns m := by
  obtain ⟨⟨i, g, a, b⟩, d, e⟩ := h
  exact ⟨⟨i, g, a, Nat.le_trans b l⟩, d, e⟩
theorem Pen.same {H H' : Hp} {p c : Addr} {ns : List Int} {n : Nat} (h : Pen H p c ns n) (s : Same H H') : Pen H' p c ns n := by
  obtain ⟨⟨i, g, a, b⟩, d, e⟩ := h
  exact ⟨⟨i, g, s _ _ a, b⟩, s _ _ d, e⟩
theorem Pen.ne {H : Hp} {p c : Addr} {ns : List Int} {n : Nat} (h : Pen H p c ns n) : c ≠ p := fun e => by
  obtain ⟨⟨i, g, a, b⟩, d, _⟩ := h
  rw [e, a] at d
  cases ns with
  | nil => cases d
  | cons z r => cases d
/-- p, c stand for the pen: something else than a list is not it -/
theorem Pen.off {H : Hp} {p c b : Addr} {ns : List Int} {n : Nat} {o : HO} (h : Pen H p c ns n) (hb : H b = some o) (ho : ∀ xs, o ≠ .lst xs) : b ≠ p := fun e => by
  obtain ⟨⟨i, g, a, _⟩, _, _⟩ := h
  rw [e, a] at hb
  exact ho _ (Option.some.inj hb).symm

theorem same_mut {H H' : Hp} {p : Addr} {o : HO} (e : Same H H') (h : H p = none) : Same H (upd H' p o) := fun a u ha => by
  rw [upd_ne (ne_of_none ha h)]
  exact e a u ha
theorem kp_mut {q : Addr} {H H' : Hp} {p : Addr} {o : HO} (e : Kp q H H') (h : H p = none) : Kp q H (upd H' p o) := fun a u ha n => by
  rw [upd_ne (ne_of_none ha h)]
  exact e a u ha n

/-! ### comprehensions: what is made so far is a letter -/
def LcP (D : Addr) (R : Nat → List V → Hp → Prop) : Nat → Hp → Prop := fun i H => ∃ acc, H D = some (.lst acc) ∧ acc.length ≤ i ∧ R i acc H
theorem lc_put {D : Addr} {R : Nat → List V → Hp → Prop} {i : Nat} {H : Hp} {acc : List V} {y : V} (h : H D = some (.lst acc)) (hl : acc.length ≤ i) (hi : i < 90000) (r : R (i + 1) (acc ++ [y]) (upd H D (.lst (acc ++ [y])))) :
    ∃ acc, H D = some (.lst acc) ∧ acc.length < sizeLine ∧ LcP D R (i + 1) (upd H D (.lst (acc ++ [y]))) :=
  ⟨acc, h, r_sizeL (by omega), acc ++ [y], upd_same, by rw [List.length_append]; exact Nat.add_le_add_right hl 1, r⟩
theorem lc_skip {D : Addr} {R : Nat → List V → Hp → Prop} {i : Nat} {H : Hp} {acc : List V} (h : H D = some (.lst acc)) (hl : acc.length ≤ i) (r : R (i + 1) acc H) : LcP D R (i + 1) H := ⟨acc, h, Nat.le_succ_of_le hl, r⟩
theorem lc_acc {J : It} {n : Nat} {G : Hp → Prop} {Y : Nat → Hp → V → Hp → Prop} (w : Walk J n G Y) {g : TG} {tt : TT} {te : TE} {vs : List Nat} {σ : L2.St} {H1 : Hp} {D : Addr} {Qd : Hp → Prop} (R : Nat → List V → Hp → Prop)
    (h0 : R 0 [] (upd H1 D (.lst []))) (hG : ∀ i acc H, i ≤ n → R i acc H → G H)
    (hs : ∀ i x H H' acc, i < n → H D = some (.lst acc) → acc.length ≤ i → R i acc H → Y i H x H' → g x (wipe σ vs) H' fun σ2 H2 => wipe σ2 vs = wipe σ vs ∧ tt σ2 H2 fun b H3 =>
      if b = true then te σ2 H3 fun y H4 => ∃ acc, H4 D = some (.lst acc) ∧ acc.length < sizeLine ∧ LcP D R (i + 1) (upd H4 D (.lst (acc ++ [y]))) else LcP D R (i + 1) H3)
    (hd : ∀ H acc, H D = some (.lst acc) → acc.length ≤ n → R n acc H → Qd H) :
    ∃ W : Nat → Nat → Hp → Prop, (∃ m, W 0 m (upd H1 D (.lst []))) ∧ ∀ i m H, W i m H →
      (J.stop i H ∧ Qd H) ∨ (J.go i H ∧ ∃ Nx : Hp → Prop, (∀ H', Nx H' → ∃ m', m' < m ∧ W (i + 1) m' H') ∧ ∀ x H', J.yld i H x H' → g x (wipe σ vs) H' fun σ2 H2 => wipe σ2 vs = wipe σ vs ∧ tt σ2 H2 fun b H3 =>
        if b = true then te σ2 H3 fun y H4 => ∃ acc, H4 D = some (.lst acc) ∧ acc.length < sizeLine ∧ Nx (upd H4 D (.lst (acc ++ [y]))) else Nx H3) :=
  lc_it w (LcP D R) ⟨[], upd_same, Nat.le_refl _, h0⟩ (fun i H hi ⟨acc, _, _, r⟩ => hG i acc H hi r) (fun i x H H' hi ⟨acc, h, hl, r⟩ y => hs i x H H' acc hi h hl r y) (fun H ⟨acc, h, hl, r⟩ => hd H acc h hl r)

/-! ### a def of the text to its bundle -/
theorem df_mk {P : Program} {w : World} {K : PySem.W.Frag} {mg : Str → Option Value} {base : Heap} {x qual : Str} {st : Stmt} {f : Addr} {N ps : List Str} {k : Nat} {sp : Sp} (F : ∃ fd, FunD K x qual (defArgs st) (defBody st) (defScope st) [] [] f fd) (hm : mg x = some (.ref f)) (S : FnScope N ps (defScope st))
    (hb : ∀ (kV doc pm : Value) (an : Option Addr) (cdv ct : Value) (us : List Value), us.length = ps.length → bindArgs (PySem.W.fnOf x qual (defArgs st) (defBody st) (defScope st) .none kV doc pm an cdv ct) ⟨us, []⟩ = pure (ps.zip us))
    (len : ∀ vs H Q E, sp vs H Q E → vs.length = ps.length)
    (hbody : ∀ (cdv : Value) (A : Around) (outer : List Env) (s : Shared) (H : Hp) (vs : List V) (Q : VK) (E : XK), Room k (A.deeper (envOfC qual (defScope st) s.heap.objs.size f cdv)) → sp vs H Q E →
      ∃ t, PSs (cxOf (L2.CX P w) P w K mg base N qual (defScope st) f cdv A outer s H E) (defBody st) t ∧ t { nx := fun _ H' => Q .non H', rt := Q } (L2.start N vs) H) : Df P w K mg base x (k + 1) ps sp := by
  obtain ⟨fd, F⟩ := F
  exact ⟨f, fd, F.ok S len hbody, hm, F.kp, F.bindsN hb⟩

/-! ### one of some: what a draw out of a list, a tuple, a text hands on -/
theorem at_nat {α : Type} {xs : List α} {r : Int} (h0 : 0 ≤ r) (h1 : r < (xs.length : Int)) : ∃ v, atI xs r = some v ∧ v ∈ xs := by
  obtain ⟨j, rfl⟩ := Int.eq_ofNat_of_zero_le h0
  have hj : j < xs.length := by omega
  exact ⟨xs[j], atI_nat (List.getElem?_eq_getElem hj), List.getElem_mem hj⟩
/-- a value out of which is drawn: its items as values -/
inductive Row (K : PySem.W.Frag) (H : Hp) (p : Addr) : V → List V → Prop
  | lst {a : Addr} {xs : List V} (h : SqL K H a xs) (n : a ≠ p) : Row K H p (.ref a) xs
  | tup {a : Addr} {xs : List V} (h : SqT K H a xs) (n : a ≠ p) : Row K H p (.ref a) xs
  | str (z : Str) : Row K H p (.str z) (z.cps.toList.map fun c => .str ⟨#[c]⟩)
theorem Kp.seqT {p a : Addr} {H H' : Hp} {K : PySem.W.Frag} {xs : List V} (k : Kp p H H') (h : SqT K H a xs) (n : a ≠ p) : SqT K H' a xs := by
  rcases h with (h | ⟨o, h⟩) | h
  · exact .inl (.inl (k _ _ h n))
  · exact .inl (.inr ⟨o, k _ _ h n⟩)
  · exact .inr h
theorem Row.kp {K : PySem.W.Frag} {H H' : Hp} {p : Addr} {v : V} {xs : List V} (r : Row K H p v xs) (k : Kp p H H') : Row K H' p v xs := by
  cases r with
  | lst h n => exact .lst (k.seq h n) n
  | tup h n => exact .tup (k.seqT h n) n
  | str z => exact .str z
theorem Row.len {K : PySem.W.Frag} {H : Hp} {p : Addr} {v : V} {xs : List V} (r : Row K H p v xs) (h : xs.length ≤ 90000) : LenV K v H xs.length := by
  cases r with
  | lst h n => exact .inl ⟨xs, h, rfl⟩
  | tup h n => exact .inr ⟨xs, h, rfl⟩
  | str z =>
    rw [List.length_map] at h
    refine ⟨?_, by rw [List.length_map]; simp [Str.length]⟩
    unfold Str.length
    exact r_size (by simpa using Nat.le_trans h (by decide))
theorem Row.ix {K : PySem.W.Frag} {H : Hp} {p : Addr} {v : V} {xs : List V} (r : Row K H p v xs) {k : Int} {Q : VK} (h : xs.length ≤ 90000) (h0 : 0 ≤ k) (h1 : k < (xs.length : Int)) (q : ∀ y, y ∈ xs → Q y H) : rIx K v (.int k) H Q := by
  cases r with
  | lst hs n =>
    obtain ⟨y, ey, hm⟩ := at_nat h0 h1
    exact .inl ⟨_, xs, k, y, rfl, rfl, hs, ey, q y hm⟩
  | tup hs n =>
    obtain ⟨y, ey, hm⟩ := at_nat h0 h1
    exact .inr (.inl ⟨_, xs, k, y, rfl, rfl, hs, ey, q y hm⟩)
  | str z =>
    rw [List.length_map] at h h1
    obtain ⟨c, ey, hm⟩ := at_nat (xs := z.cps.toList) h0 h1
    exact .inr (.inr ⟨z, k, c, rfl, rfl, by unfold Str.length; exact r_size (by simpa using Nat.le_trans h (by decide)), ey, q _ (List.mem_map.mpr ⟨c, hm, rfl⟩)⟩)

/-! ### signs and texts -/
def sgn (c : Nat) : Str := ⟨#[c]⟩
theorem joinL_nil : ∀ ps : List (List Nat), TL.joinL [] ps = ps.flatten
  | [] => rfl
  | [p] => by simp [TL.joinL]
  | p :: q :: r => by
    show p ++ ([] ++ TL.joinL [] (q :: r)) = p ++ (q :: r).flatten
    rw [List.nil_append, joinL_nil (q :: r)]
theorem tl_sgn (c : Nat) : TL.tl (sgn c) = [c] := rfl
theorem flat_one : ∀ ls : List Nat, (ls.map fun c => [c]).flatten = ls
  | [] => rfl
  | c :: r => by
    show [c] ++ (r.map fun c => [c]).flatten = c :: r
    rw [flat_one r]
    rfl
theorem join_signs {e : Str} (he : TL.tl e = []) (ls : List Nat) : TL.tl (Txt.join e (ls.map sgn)) = ls := by
  rw [TL.join_eq, TL.tl_join, he, List.map_map, joinL_nil]
  show (ls.map fun c => [c]).flatten = ls
  exact flat_one ls
def inClass (st : Stmt) (j : Nat) : Stmt := match st with
  | .ClassDef _ _ _ b _ _ _ _ _ _ _ => b.getD j (.Pass ⟨0, 0, 0, 0⟩)
  | _ => .Pass ⟨0, 0, 0, 0⟩
theorem Df.imp {P : Program} {w : World} {K : PySem.W.Frag} {mg : Str → Option Value} {base : Heap} {x : Str} {k : Nat} {ps : List Str} {sp sp' : Sp} (c : Df P w K mg base x k ps sp) (h : ∀ vs H Q E, sp' vs H Q E → sp vs H Q E) : Df P w K mg base x k ps sp' := by
  obtain ⟨f, fd, F, r⟩ := c
  exact ⟨f, fd, F.imp h, r⟩
theorem str_nil (x : Str) : Str.empty ++ x = x := TL.ext_tl (by rw [TL.tl_append]; rfl)
theorem str_len (x y : Str) : (x ++ y).length = x.length + y.length := by
  have h := congrArg List.length (TL.tl_append x y)
  rw [List.length_append] at h
  unfold TL.tl at h
  unfold Str.length
  simpa using h
/-- == and != of data of any size of texts -/
def rEqP (K : PySem.W.Frag) : R2 := fun x y H Q => ∃ d e, Dp K H x d ∧ Dp K H y e ∧ d.plain = true ∧ e.plain = true ∧ d.depth ≤ 60 ∧ Q (.bl (PyData.eqv d e)) H
def rNeP (K : PySem.W.Frag) : R2 := fun x y H Q => ∃ d e, Dp K H x d ∧ Dp K H y e ∧ d.plain = true ∧ e.plain = true ∧ d.depth ≤ 60 ∧ Q (.bl (!PyData.eqv d e)) H
theorem op_eqP {X : Cx} (hu : X.A.units + 64 < cLine) : OpR X (compareOp .Eq) (rEqP X.K) := by
  intro pins s σ H x y v u Q I rx ry h
  obtain ⟨d, e, hd, he, pd, pe, h60, q⟩ := h
  obtain ⟨as, r1⟩ := Dp.reads I d x v hd rx
  obtain ⟨bs, r2⟩ := Dp.reads I e y u he ry
  exact SeqAt.eq_plain r1 r2 pd pe (by omega) ⟨.bl _, H, I, rfl, q⟩
theorem op_neP {X : Cx} (hu : X.A.units + 64 < cLine) : OpR X (compareOp .NotEq) (rNeP X.K) := by
  intro pins s σ H x y v u Q I rx ry h
  obtain ⟨d, e, hd, he, pd, pe, h60, q⟩ := h
  obtain ⟨as, r1⟩ := Dp.reads I d x v hd rx
  obtain ⟨bs, r2⟩ := Dp.reads I e y u he ry
  exact SeqAt.ne_plain r1 r2 pd pe (by omega) ⟨.bl _, H, I, rfl, q⟩
theorem plain_strs : ∀ xs : List Str, PyData.plainAll (xs.map PyData.str) = true ∧ PyData.depthAll (xs.map PyData.str) = 0
  | [] => ⟨rfl, rfl⟩
  | z :: r => by
    have ih := plain_strs r
    refine ⟨?_, ?_⟩
    · show (PyData.plain (.str z) && PyData.plainAll (r.map PyData.str)) = true
      rw [ih.1]
      rfl
    · show max (PyData.depth (.str z)) (PyData.depthAll (r.map PyData.str)) = 0
      rw [ih.2]
      rfl
theorem plain_ints : ∀ xs : List Int, PyData.plainAll (xs.map PyData.int) = true ∧ PyData.depthAll (xs.map PyData.int) = 0
  | [] => ⟨rfl, rfl⟩
  | z :: r => by
    have ih := plain_ints r
    refine ⟨?_, ?_⟩
    · show (PyData.plain (.int z) && PyData.plainAll (r.map PyData.int)) = true
      rw [ih.1]
      rfl
    · show max (PyData.depth (.int z)) (PyData.depthAll (r.map PyData.int)) = 0
      rw [ih.2]
      rfl
theorem depth_ints (xs : List Int) : (PyData.list (xs.map PyData.int)).depth ≤ 60 := by
  show PyData.depthAll (xs.map PyData.int) + 1 ≤ 60
  rw [(plain_ints xs).2]
  decide
theorem depth_strs (xs : List Str) : (PyData.list (xs.map PyData.str)).depth ≤ 60 := by
  show PyData.depthAll (xs.map PyData.str) + 1 ≤ 60
  rw [(plain_strs xs).2]
  decide
theorem dp_strs {K : PySem.W.Frag} {H : Hp} : ∀ xs : List Str, DpAll K H (xs.map V.str) (xs.map PyData.str)
  | [] => .nil
  | _ :: r => .cons (.str _) (dp_strs r)
/-- two lists of the same texts are equal -/
theorem r_neS {K : PySem.W.Frag} {H : Hp} {Q : VK} {a b : Addr} (xs : List Str) (ha : SqL K H a (xs.map V.str)) (hb : SqL K H b (xs.map V.str)) (q : Q (.bl false) H) : rNeP K (.ref a) (.ref b) H Q :=
  ⟨_, _, .lst ha (dp_strs xs), .lst hb (dp_strs xs), (plain_strs xs).1, (plain_strs xs).1, depth_strs xs, by rw [SeqAt.eqv_refl_plain (.list (xs.map PyData.str)) (plain_strs xs).1]; exact q⟩
/-- two lists without items -/
theorem r_eqN {K : PySem.W.Frag} {H : Hp} {Q : VK} {a b : Addr} (ha : SqL K H a []) (hb : SqL K H b []) (q : Q (.bl true) H) : rEqP K (.ref a) (.ref b) H Q :=
  ⟨.list [], .list [], .lst ha .nil, .lst hb .nil, rfl, rfl, by decide, q⟩
theorem strs_all {f : Str → Bool} {xs : List Str} {y : V} (h : y ∈ xs.map V.str) (hf : xs.all f = true) : ∃ x, y = .str x ∧ f x = true := by
  obtain ⟨x, hx, rfl⟩ := List.mem_map.mp h
  exact ⟨x, rfl, List.all_eq_true.mp hf x hx⟩
theorem Pen.new {H : Hp} {p c q : Addr} {ns : List Int} {n : Nat} (h : Pen H p c ns n) (hq : H q = none) : q ≠ p := fun e => by
  obtain ⟨⟨i, g, a, _⟩, _, _⟩ := h
  rw [e, a] at hq
  cases hq
theorem Kp.free {p D : Addr} {H H' : Hp} (k : Kp p H H') (h : H' D = none) (n : D ≠ p) : H D = none := by
  cases e : H D with
  | none => rfl
  | some o => rw [k _ _ e n] at h; cases h
theorem Pen.upd {H : Hp} {p c D : Addr} {ns : List Int} {n : Nat} {o : HO} (h : Pen H p c ns n) (h1 : D ≠ p) (h2 : D ≠ c) : Pen (upd H D o) p c ns n := by
  obtain ⟨⟨i, g, a, b⟩, d, e⟩ := h
  exact ⟨⟨i, g, by rw [upd_ne (Ne.symm h1)]; exact a, b⟩, by rw [upd_ne (Ne.symm h2)]; exact d, e⟩
theorem sum_sgn : ∀ ls : List Nat, ((ls.map sgn).map (·.length)).sum = ls.length
  | [] => rfl
  | c :: r => by
    show 1 + ((r.map sgn).map (·.length)).sum = r.length + 1
    rw [sum_sgn r, Nat.add_comm]
end Nk

/-! G: defs that run where no repr is under way (their texts of containers are known), repr of data there. -/
namespace Nk
open PySem PySem.Spec PyProof.Rows L2

/-- a def's promise where no repr is under way -/
structure FnG (P : Program) (w : World) (K : PySem.W.Frag) (mg : Str → Option Value) (base : Heap) (CX : CXT) (k : Nat) (f : Addr) (fd : FuncData) (ps : List Str) (sp : Sp) : Prop where
  len : ∀ vs H Q E, sp vs H Q E → vs.length = ps.length
  run : ∀ (A : Around) (outer : List Env) (s : Shared) (H : Hp) (args : Args) (us : List Value) (vs : List V) (Q : VK) (E : XK), A.guards = some [] → Room k A → Env0 P w K mg base A outer s H → BindsTo s fd args (ps.zip us) → Vals vs us → sp vs H Q E →
    codeAny (model P w) A (.call (.ref f) args) (CR CX outer P w H s Q E) s

theorem fng_of {CX : CXT} {P : Program} {w : World} {K : PySem.W.Frag} {mg : Str → Option Value} {base : Heap} {k : Nat} {x qual : Str} {params : Arguments} {body : List Stmt} {scope : Scope} {f : Addr} {fd : FuncData} {N ps : List Str} {sp : Sp}
    (F : FunD K x qual params body scope [] [] f fd) (S : FnScope N ps scope) (len : ∀ vs H Q E, sp vs H Q E → vs.length = ps.length)
    (hbody : ∀ (cdv : Value) (A : Around) (outer : List Env) (s : Shared) (H : Hp) (vs : List V) (Q : VK) (E : XK), A.guards = some [] → Room k (A.deeper (envOfC qual scope s.heap.objs.size f cdv)) → sp vs H Q E →
      ∃ t, PSs (cxOf CX P w K mg base N qual scope f cdv A outer s H E) body t ∧ t { nx := fun _ H' => Q .non H', rt := Q } (L2.start N vs) H) : FnG P w K mg base CX (k + 1) f fd ps sp := by
  refine ⟨len, fun A outer s H args us vs Q E hg hr e0 hb r hsp => ?_⟩
  obtain ⟨oc, od, dV, kV, doc, pm, an, cdv, ct, osl, rfl, lk, hcd, _, _⟩ := F.ex
  exact LamX.run_ofS lk hcd S hr e0 hb r (len _ _ _ _ hsp) fun hr' => hbody cdv A outer s H vs Q E hg hr' hsp

/-- the same, the def's code object by its place -/
theorem fngC_of {CX : CXT} {P : Program} {w : World} {K : PySem.W.Frag} {mg : Str → Option Value} {base : Heap} {k : Nat} {x qual : Str} {params : Arguments} {body : List Stmt} {scope : Scope} {p : He.Defn} {fd : FuncData} {N ps : List Str} {sp : Sp}
    (F : FunD K x qual params body scope [] [] (He.fAd K p) fd) (S : FnScope N ps scope) (len : ∀ vs H Q E, sp vs H Q E → vs.length = ps.length)
    (hbody : ∀ (cdv : Value), cdv = .ref (He.codeOf K p) → ∀ (A : Around) (outer : List Env) (s : Shared) (H : Hp) (vs : List V) (Q : VK) (E : XK), A.guards = some [] → Room k (A.deeper (envOfC qual scope s.heap.objs.size (He.fAd K p) cdv)) → sp vs H Q E →
      ∃ t, PSs (cxOf CX P w K mg base N qual scope (He.fAd K p) cdv A outer s H E) body t ∧ t { nx := fun _ H' => Q .non H', rt := Q } (L2.start N vs) H) : FnG P w K mg base CX (k + 1) (He.fAd K p) fd ps sp := by
  refine ⟨len, fun A outer s H args us vs Q E hg hr e0 hb r hsp => ?_⟩
  obtain ⟨oc, od, dV, kV, doc, pm, an, cdv, ct, osl, rfl, lk, hcd, _, _⟩ := F.ex
  obtain ⟨c, rfl⟩ := He.codeIn_ref hcd
  have e := He.codeOf_eq lk rfl
  exact LamX.run_ofS lk hcd S hr e0 hb r (len _ _ _ _ hsp) fun hr' => hbody (.ref c) (by rw [e]) A outer s H vs Q E hg hr' hsp

/-- such a def's bundle -/
def Dg (P : Program) (w : World) (K : PySem.W.Frag) (mg : Str → Option Value) (base : Heap) (x : Str) (k : Nat) (ps : List Str) (sp : Sp) : Prop :=
  ∃ (f : Addr) (fd : FuncData), FnG P w K mg base (L2.CX P w) k f fd ps sp ∧ mg x = some (.ref f) ∧ PySem.W.keepIn K (.ref f) = true ∧ Binds K fd ps []
theorem dg_mk {P : Program} {w : World} {K : PySem.W.Frag} {mg : Str → Option Value} {base : Heap} {x qual : Str} {st : Stmt} {f : Addr} {N ps : List Str} {k : Nat} {sp : Sp} (F : ∃ fd, FunD K x qual (defArgs st) (defBody st) (defScope st) [] [] f fd) (hm : mg x = some (.ref f)) (S : FnScope N ps (defScope st))
    (hb : ∀ (kV doc pm : Value) (an : Option Addr) (cdv ct : Value) (us : List Value), us.length = ps.length → bindArgs (PySem.W.fnOf x qual (defArgs st) (defBody st) (defScope st) .none kV doc pm an cdv ct) ⟨us, []⟩ = pure (ps.zip us))
    (len : ∀ vs H Q E, sp vs H Q E → vs.length = ps.length)
    (hbody : ∀ (cdv : Value) (A : Around) (outer : List Env) (s : Shared) (H : Hp) (vs : List V) (Q : VK) (E : XK), A.guards = some [] → Room k (A.deeper (envOfC qual (defScope st) s.heap.objs.size f cdv)) → sp vs H Q E →
      ∃ t, PSs (cxOf (L2.CX P w) P w K mg base N qual (defScope st) f cdv A outer s H E) (defBody st) t ∧ t { nx := fun _ H' => Q .non H', rt := Q } (L2.start N vs) H) : Dg P w K mg base x (k + 1) ps sp := by
  obtain ⟨fd, F⟩ := F
  exact ⟨f, fd, fng_of F S len hbody, hm, F.kp, F.bindsN hb⟩
section
variable {X : Cx} {k j : Nat} {ps : List Str} {sp : Sp} {x : Str} {p pos : Pos} {e : Expr} {es : List Expr} {t : TA} {W : WX}
theorem pe_dg (c : Dg X.prog X.w X.K X.mg X.base x k ps sp) (hgd : X.A.guards = some []) (hr : Room j X.A) (hk : k ≤ j) (hg : Gl X x) (tk : Takes X W) (ha : PA X (e :: es) t)
    (hdb : (x == ("__debug__" : Str)) = false := by decide) (he : starEach (e :: es) X.env = (false, eval e X.env) :: starEach es X.env := by rfl) (hpl : (backTo pos (starEach es X.env)).any (·.1) = false := by rfl) :
    PE X (.Call (.Name x p) (e :: es) [] pos) (tDf sp W t) := by
  obtain ⟨f, fd, F, hm, hkp, hb⟩ := c
  refine ⟨fun pins s σ H Q I h => ?_⟩
  refine wpAny_Call_Name_kw (ld_glob I hg hm ?_ hdb)
  refine PySem.W.callWith_K (h₀ := X.base) I.ok.mod.kin hkp (thn (ha.run pos pins s σ H _ I h) fun us s1 ⟨vs, H1, I1, r, q⟩ => ⟨I1.kIn, ?_⟩) he hpl
  have hl : us.length = ps.length := by rw [← r.length]; exact F.len _ _ _ _ q
  have b := hb s1 us I1.kIn (by rw [List.append_nil]; exact hl)
  rw [List.append_nil] at b
  refine wpAny_call (codeAny_mono (F.run X.A X.stack s1 H1 ⟨us, []⟩ us vs Q (WE W σ) hgd (hr.mono hk) I1.env0 b r q) fun r s' hq => ?_)
  match r, hq with
  | .error e, hq => exact passAt tk σ pins H1 s1 e s' I1 hq
  | .ok (.ret u), hq => exact I1.after hq
  | .ok .next, hq => exact False.elim hq
  | .ok .brk, hq => exact False.elim hq
  | .ok .cont, hq => exact False.elim hq
end

/-! ### repr of data -/
inductive Dq (K : PySem.W.Frag) (H : Hp) : V → PyData → Prop
  | of {v : V} {d : PyData} (h : Dp K H v d) : Dq K H v d
  | dic {a : Addr} (h : H a = some (.dK [])) : Dq K H (.ref a) (.dict [])
mutual
theorem dp_nodict {K : PySem.W.Frag} {H : Hp} : ∀ (d : PyData) (v : V), Dp K H v d → d.hasDict = false
  | .none, _, _ => rfl
  | .bool _, _, _ => rfl
  | .int _, _, _ => rfl
  | .str _, _, _ => rfl
  | .list ds, _, h => by
    cases h with
    | lst _ ha => exact dp_nodicts ds _ ha
  | .tuple ds, _, h => by
    cases h with
    | tup _ ha => exact dp_nodicts ds _ ha
  | .dict _, _, h => by cases h
theorem dp_nodicts {K : PySem.W.Frag} {H : Hp} : ∀ (ds : List PyData) (vs : List V), DpAll K H vs ds → PyData.hasDictAll ds = false
  | [], _, _ => rfl
  | d :: ds, _, h => by
    cases h with
    | cons h1 h2 =>
      show (PyData.hasDict d || PyData.hasDictAll ds) = false
      rw [dp_nodict d _ h1, dp_nodicts ds _ h2]
      rfl
end
theorem Dq.reads {X : Cx} {pins : List (Addr × Obj)} {σ : L2.St} {H : Hp} {s : Shared} (I : Inv X pins σ H s) {v : V} {u : Value} {d : PyData} (h : Dq X.K H v d) (r : RelV v u) : ∃ as, Reads s.heap u d as ∧ (d.hasDict = true → sysModules ∉ as) := by
  cases h with
  | of h =>
    obtain ⟨as, q⟩ := Dp.reads I d v u h r
    exact ⟨as, q, fun z => by rw [dp_nodict d v h] at z; cases z⟩
  | dic h =>
    cases r
    obtain ⟨_, hne, vs, kv, dd⟩ := dk_of I.hok h
    cases kv
    obtain ⟨o, es, ep, ho, hx, hd, _, hes, _⟩ := dd
    have e0 : es.toList = [] := by cases hp : es.toList with | nil => rfl | cons e r => rw [hp] at hes; cases hes
    refine ⟨_, .dict (kvs := []) ho hx.1 hd (by rw [e0]; exact .nil) (by rw [e0]; exact .nil), fun _ hm => ?_⟩
    have hm := List.mem_singleton.mp hm
    rw [← hm] at hne
    simp at hne
def rRepr (K : PySem.W.Frag) : List V → Hp → VK → Prop := fun xs H Q => ∃ v d, xs = [v] ∧ Dq K H v d ∧ d.showable = true ∧ d.depth ≤ 60 ∧ d.shown.length ≤ sizeLine ∧ Q (.str d.shown) H
theorem call_reprG {X : Cx} (hgd : X.A.guards = some []) (hu : X.A.units + 64 < cLine) : CallR X (.builtin "repr") (rRepr X.K) := by
  intro pins s σ H xs us Q I r h
  obtain ⟨v, d, rfl, hd, hs, h60, hz, q⟩ := h
  obtain ⟨u, rfl, ru⟩ := vals1 r
  obtain ⟨as, rd, hm⟩ := hd.reads I ru
  have fin : ∀ h' t tk, (∀ b o, s.heap.get? b = some o → h'.get? b = some o) → EP X pins σ Q (.str d.shown t) { s with heap := h', toks := tk } := fun h' t tk k => ⟨.str _, H, I.kept k, ⟨_, rfl⟩, q⟩
  cases v with
  | ref a =>
    cases ru
    exact repr_of_reads' rd hs hm hgd (by omega) (fun _ _ e => e) fin hz
  | non =>
    cases ru
    cases rd
    exact PySem.P.repr_of_none (fin s.heap _ _ fun _ _ e => e)
  | bl b =>
    cases ru
    cases rd
    exact PySem.P.repr_of_bool (fin s.heap _ _ fun _ _ e => e)
  | int i =>
    obtain ⟨t, rfl⟩ := ru
    cases rd
    exact PySem.P.repr_of_int (of_decide_eq_true hs) (fin s.heap _ _ fun _ _ e => e)
  | str x =>
    obtain ⟨t, rfl⟩ := ru
    cases rd
    exact PySem.P.repr_of_str (fin s.heap _ _ fun _ _ e => e) hz
  | _ =>
    cases hd with
    | of h => cases h
end Nk

/-! Ops: == and != of instances with their own __eq__, str of instances with their own __str__, isinstance of a caught error. -/
namespace PySem.W
open PySem PySem.Spec PySem.Calls PyProof.Rows
section
variable {prog : Program} {w : World} {A : Around} {E : Value → Shared → Prop} {s : Shared} {K : Frag} {x C L f : Addr} {h₀ : Heap} {m : Str → Option Value} {ox : Obj} {od : Option Obj} {b tb : Value}
theorem nk_ifBound_B {M : Model} {T id : String} {name : Str} {args : List Value} {Q : Option Value → Shared → Prop} (X : K.In s.heap) (I : InstAt s.heap x ox C od) (hs : findIn K (.ref C) name = some (some (.builtin id))) (S : Slot T name id)
    (h : wpAny M A (call (.builtin id) (.ref x :: args)) (fun v => Q (some v)) E s) : wpAny M A (callSpecialIfBound? (.ref x) name args) Q E s := by
  simp only [callSpecialIfBound?, bindSpecialIfBound?]
  refine wpAny_holding (wpAny_bind (wpAny_bind (wpAny_bind (I.type.here ((looks_findIn X hs).here ?_)))))
  simp only [S.bind]
  refine wpAny_bind (wpAny_askSetting (wpAny_ite ?_))
  have fin : wpAny M A (call (.builtin id) ([.ref x] ++ args) >>= fun v => pure (some v)) Q E s := wpAny_bind (wpAny_mono h (fun v s' h' => wpAny_pure h') fun _ _ h' => h')
  split
  · exact wpAny_bind (wpAny_pure (wpAny_pure fin))
  · exact wpAny_tryCatch (wpAny_bind (wpAny_pure (wpAny_pure fin)))
/-- object.__ne__ by the own __eq__ -/
theorem nk_objNe (hu : A.units < cLine) {Q : Fin → Shared → Prop} (X : K.In s.heap) (I : InstAt s.heap x ox C od) (he : findIn K (.ref C) "__eq__" = some (some (.ref f))) (hf : isFn K (.ref f) = true)
    (h : wpAny (model prog w) A (call (.ref f) [.ref x, b]) (fun v s' => ∃ r, v = .bool r ∧ Q (.done (.ret (.bool (!r)))) s') E s) : wpAny (model prog w) A (Builtin.«object.__ne__» ⟨[.ref x, b], []⟩) Q E s := by
  obtain ⟨hp, g, d, t, os⟩ := s
  unfold Builtin.«object.__ne__»
  repeat (first
    | with_reducible refine wpAny_cRoomFor hu ?_
    | (refine wpAny_bind (m := callSpecialIfBound? (.ref x) (Str.ofString "__eq__") [b])
        (ifBound_K X I he hf (wpAny_mono h (fun r s' hr => by
          obtain ⟨b, rfl, hq⟩ := hr
          repeat (first | exact hq | exact wpAny_pure hq | exact wpAny_truthy_bool hq | (refine wpAny_bind (m := truthy (.bool _)) (wpAny_truthy_bool ?_)) | wp_step)) fun _ _ e => e)))
    | wp_step)
theorem nk_ne {Q : Value → Shared → Prop} (hu : A.units + 1 < cLine) (X : K.In s.heap) (I : InstAt s.heap x ox C od) (hb : Looks (model prog w) s.heap (typeOf b) tb) (hn : notFirst K C tb = true)
    (hs : findIn K (.ref C) "__ne__" = some (some (.builtin "object.__ne__"))) (ho : subIn K (.ref C) (.type "object") = some true) (he : findIn K (.ref C) "__eq__" = some (some (.ref f))) (hf : isFn K (.ref f) = true)
    (h : wpAny (model prog w) A.in1 (call (.ref f) [.ref x, b]) (fun v s' => ∃ r, v = .bool r ∧ Q (.bool (!r)) s') E s) : wpAny (model prog w) A (richCompare .NotEq (.ref x) b) Q E s := by
  have one : wpAny (model prog w) A (tryCompare (.ref x) (cmpInfo .NotEq).2.1 b) (fun r s' => ∃ v, r = some v ∧ Q v s') E s := by
    unfold tryCompare
    refine wpAny_bind (nk_ifBound_B X I hs F.cmp_object.ne (wpAny_call (codeAny_call_builtin F.cmp_object.ne.plain F.cmpEntry_ne
      (check_slot F.cmpKind_ne F.cmpSplit_ne (I.type.andThen (looks_subIn X ho)) (F.cmpArgs_ne _ _) (nk_objNe (A := A.in1) hu X I he hf (wpAny_mono h (fun v s' hv => ?_) fun _ _ e => e))))))
    obtain ⟨r, rfl, hq⟩ := hv
    exact ⟨r, rfl, wpAny_pure ⟨_, rfl, hq⟩⟩
  unfold richCompare
  simp only [oneThing_ref]
  refine wpAny_holding (wpAny_bind (wpAny_cRoomFor (by omega) ?_))
  refine wpAny_bind (I.type.here (wpAny_bind (hb.here ?_)))
  split
  · rename_i q
    have e : subIn K tb (.ref C) = some false := by
      rcases Bool.or_eq_true_iff.mp hn with e | e
      · rw [beq_iff_eq.mp e] at q; simp at q
      · exact beq_iff_eq.mp e
    refine wpAny_bind ((looks_subIn X e).here ?_)
    simp only [Bool.false_eq_true, if_false]
    refine wpAny_bind (wpAny_mono one (fun r s' z => ?_) fun _ _ e => e)
    obtain ⟨v, rfl, hq⟩ := z
    exact wpAny_pure hq
  · refine wpAny_bind (wpAny_pure ?_)
    simp only [Bool.false_eq_true, if_false]
    refine wpAny_bind (wpAny_mono one (fun r s' z => ?_) fun _ _ e => e)
    obtain ⟨v, rfl, hq⟩ := z
    exact wpAny_pure hq
end
section
variable {K : Frag} {x t : Value} {H : Heap → Prop}
/-- isinstance, the answer yes: the type alone is looked at -/
theorem nk_ansT {c : Value} (ty : ∀ (M : Model) (h : Heap), K.In h → H h → Looks M h (typeOf x) t) (e : kitOne K t c = some true) : Answers (fun s => K.In s.heap ∧ H s.heap) x c true := by
  intro dep tk prog w A R s hs
  obtain ⟨h0, g, d, tt, os⟩ := s
  obtain ⟨⟨X, p⟩, hq⟩ := hs
  have LT := ty (model prog w) h0 X p
  unfold kitOne at e
  unfold Builtin.«isinstance.nested»
  refine wpAny_bind (LT.at ?_)
  by_cases q : (t == c) = true
  · rw [if_pos q]
    first
      | ((repeat lk); exact hq tt)
      | exact wpAny_bind (wpAny_rule (hq tt))
      | exact wpAny_bind (wpAny_rule (wpAny_pure (hq tt)))
  · rw [if_neg q] at e
    rw [if_neg q]
    obtain ⟨hty, his, hsub⟩ := kit_cls (M := model prog w) X e
    have LI : Looks (model prog w) h0 (isInstance x c) true := LT.andThen hsub
    refine wpAny_bind (hty.at ?_)
    rw [if_pos (by decide)]
    k_delta "plainIsInstance"
    refine wpAny_bind (wpAny_bind (his.at ?_))
    simp only [Bool.not_true, Bool.false_eq_true, if_false]
    refine wpAny_bind (LI.at ?_)
    first
      | exact wpAny_pure (wpAny_pure (hq tt))
      | (simp only [if_true]; first | exact wpAny_pure (wpAny_pure (hq tt)) | exact wpAny_pure (hq tt) | exact wpAny_bind (wpAny_pure (wpAny_pure (hq tt))))
theorem nk_isT {prog : Program} {w : World} {A : Around} {E : Value → Shared → Prop} {s : Shared} {Q : Value → Shared → Prop} {c : Value} (ty : ∀ (M : Model) (h : Heap), K.In h → H h → Looks M h (typeOf x) t) (X : K.In s.heap) (p : H s.heap) (e : kitOne K t c = some true) (hx : x ≠ .builtin "__main__.__loader__#opaque") (h : ∀ tk, Q (.bool true) { s with toks := tk }) :
    wpAny (model prog w) A (call (.builtin "isinstance") [x, c]) Q E s :=
  call_isinstance (S := fun _ R s => (K.In s.heap ∧ H s.heap) ∧ ∀ tk, R (.ok (.ret (.bool true))) { s with toks := tk })
    (fun prog w A R s hs => isinstance_outer (nk_ansT ty e 0 _ prog w A R s hs) hx) ⟨⟨X, p⟩, h⟩
end
end PySem.W
namespace Nk
open PySem PySem.Spec PyProof.Rows L2
/-- a class whose instances are compared by their own __eq__ -/
structure EqC (K : PySem.W.Frag) (C f : Addr) : Prop where
  eq : PySem.W.findIn K (.ref C) "__eq__" = some (some (.ref f))
  ne : PySem.W.findIn K (.ref C) "__ne__" = some (some (.builtin "object.__ne__"))
  fn : PySem.W.isFn K (.ref f) = true
  obj : PySem.W.subIn K (.ref C) (.type "object") = some true
def noE : XK := fun _ _ _ => False
def rOwn (neg : Bool) (K : PySem.W.Frag) (C : Addr) (sp : Sp) : R2 := fun x y H Q => ∃ a dx fs tb, x = .ref a ∧ H a = some (.ins C dx fs) ∧ TyX K H y tb ∧ PySem.W.notFirst K C tb = true ∧ sp [x, y] H (fun v H' => ∃ b, v = .bl b ∧ Q (.bl (if neg then !b else b)) H') noE
section
variable {X : Cx} {k : Nat} {C f : Addr} {fd : FuncData} {ps : List Str} {sp : Sp}
theorem Env0.within {P : Program} {w : World} {K : PySem.W.Frag} {mg : Str → Option Value} {base : Heap} {A A' : Around} {outer : List Env} {s : Shared} {H : Hp} (e : Env0 P w K mg base A outer s H) (h : A'.frames = A.frames) : Env0 P w K mg base A' outer s H :=
  ⟨by rw [h]; exact e.frames, e.mod, e.bs, e.bsz, e.funs, e.frf, e.hok, e.bare⟩
theorem own_run {A : Around} {pins : List (Addr × Obj)} {σ : L2.St} {H : Hp} {s : Shared} {Q : VK} {vs : List V} {us : List Value} (F : FnOk X.prog X.w X.K X.mg X.base (L2.CX X.prog X.w) k f fd ps sp) (hb : Binds X.K fd ps []) (hr : Room k A) (hfr : A.frames = X.A.frames)
    (I : Inv X pins σ H s) (r : Vals vs us) (h : sp vs H Q noE) : wpAny (model X.prog X.w) A (call (.ref f) us) (EP X pins σ Q) X.xe s := by
  have hl : (us ++ []).length = ps.length := by rw [List.append_nil, ← r.length]; exact F.len _ _ _ _ h
  have b := hb s us I.kIn hl
  rw [List.append_nil] at b
  refine wpAny_call (codeAny_mono (F.run A X.stack s H ⟨us, []⟩ us vs Q noE hr (Env0.within I.env0 hfr) b r h) fun r s' hq => ?_)
  match r, hq with
  | .error e, hq => exact passes_call (W := fun _ _ _ _ => False) LamX.takes0 (fun _ _ _ _ z => z) pins σ H s e s' I hq
  | .ok (.ret u), hq => exact I.after hq
  | .ok .next, hq => exact False.elim hq
  | .ok .brk, hq => exact False.elim hq
  | .ok .cont, hq => exact False.elim hq
theorem op_eqO (T : EqC X.K C f) (F : FnOk X.prog X.w X.K X.mg X.base (L2.CX X.prog X.w) k f fd ps sp) (hb : Binds X.K fd ps []) (hr : Room k X.A) : OpR X (compareOp .Eq) (rOwn false X.K C sp) := by
  intro pins s σ H x y v u Q I rx ry h
  obtain ⟨a, dx, fs, tb, rfl, ea, ty, hn, hsp⟩ := h
  cases rx
  obtain ⟨mA, O, _⟩ := ins_get I.hok ea
  obtain ⟨od, J, _⟩ := O.look
  obtain ⟨φ, Z, p, _⟩ := kit_of I ry ty
  obtain ⟨m, hF⟩ := I.fr
  refine PySem.W.cmp_ofEq (PySem.W.cmp_K (op := .Eq) (tb := tb) hr.units0 hF I.ok.mod.kin J (Z.ty _ _ I.kIn p) hn T.eq T.fn ?_)
  refine wpAny_mono (own_run (vs := [.ref a, y]) F hb hr rfl I (.cons rfl (.cons ry .nil)) hsp) (fun v s' hv => ?_) fun _ _ z => z
  obtain ⟨z, H', I', rz, b, rfl, q⟩ := hv
  cases rz
  exact ⟨.bl b, H', I', rfl, q⟩
theorem op_neO (T : EqC X.K C f) (F : FnOk X.prog X.w X.K X.mg X.base (L2.CX X.prog X.w) k f fd ps sp) (hb : Binds X.K fd ps []) (hr : Room (k + 1) X.A) : OpR X (compareOp .NotEq) (rOwn true X.K C sp) := by
  intro pins s σ H x y v u Q I rx ry h
  obtain ⟨a, dx, fs, tb, rfl, ea, ty, hn, hsp⟩ := h
  cases rx
  obtain ⟨mA, O, _⟩ := ins_get I.hok ea
  obtain ⟨od, J, _⟩ := O.look
  obtain ⟨φ, Z, p, _⟩ := kit_of I ry ty
  refine PySem.W.cmp_ofNotEq (PySem.W.nk_ne (by have := hr.units; omega) I.kIn J (Z.ty _ _ I.kIn p) hn T.ne T.obj T.eq T.fn ?_)
  refine wpAny_mono (own_run (vs := [.ref a, y]) F hb hr.in1 rfl I (.cons rfl (.cons ry .nil)) hsp) (fun v s' hv => ?_) fun _ _ z => z
  obtain ⟨z, H', I', rz, b, rfl, q⟩ := hv
  cases rz
  exact ⟨b, rfl, .bl (!b), H', I', rfl, q⟩
/-- str(x) by the own __str__ -/
def rStrO (C : Addr) (sp : Sp) : List V → Hp → VK → Prop := fun xs H Q => ∃ a dx fs, xs = [.ref a] ∧ H a = some (.ins C dx fs) ∧ sp [.ref a] H (fun v H' => ∃ z, v = .str z ∧ Q (.str z) H') noE
theorem call_strO (hs : PySem.W.findIn X.K (.ref C) "__str__" = some (some (.ref f))) (hf : PySem.W.isFn X.K (.ref f) = true) (F : FnOk X.prog X.w X.K X.mg X.base (L2.CX X.prog X.w) k f fd ps sp) (hb : Binds X.K fd ps []) (hr : Room (k + 2) X.A) : CallR X (.type "str") (rStrO C sp) := by
  intro pins s σ H xs us Q I r h
  obtain ⟨a, dx, fs, rfl, ea, hsp⟩ := h
  obtain ⟨u, rfl, ru⟩ := vals1 r
  cases ru
  obtain ⟨mA, O, _⟩ := ins_get I.hok ea
  obtain ⟨od, J, _⟩ := O.look
  refine PySem.W.kso_call (by have := hr.units; show X.A.units + 1 + 1 < cLine; omega) I.kIn J hs hf ?_
  refine wpAny_mono (own_run (vs := [.ref a]) F hb hr.in1.in1 rfl I (.cons rfl .nil) hsp) (fun v s' hv => ?_) fun _ _ z => z
  obtain ⟨z, H', I', rz, x, rfl, q⟩ := hv
  obtain ⟨t, rfl⟩ := rz
  exact ⟨.str x, H', I', ⟨t, rfl⟩, q⟩
/-- isinstance(e, c), e the exception that the suite holds, of the class at D, an instance of c -/
def rIsT (K : PySem.W.Frag) (a : Addr) (cls : Value) : List V → Hp → VK → Prop := fun xs H Q => ∃ (D C : Addr), xs = [.ref a, .ref C] ∧ cls = .ref D ∧ PySem.W.kitOne K (.ref D) (.ref C) = some true ∧ Q (.bl true) H
theorem call_isT {X : Cx} {a : Addr} {cls : Value} {d : Option Addr} {oe : Obj} {pn : List (Addr × Obj)} (hz : Zc cls d oe) : CallR (X.suite a ((a, oe) :: pn)) (.builtin "isinstance") (rIsT X.K a cls) := by
  intro pins s σ H xs us Q I r h
  obtain ⟨D, C, rfl, rfl, e, q⟩ := h
  obtain ⟨u1, u2, rfl, r1, r2⟩ := vals2 r
  cases r1
  cases r2
  obtain ⟨hget, _⟩ := I.pin (a, oe) (List.mem_append.mpr (.inl List.mem_cons_self))
  refine PySem.W.nk_isT (H := fun h => h.get? a = some oe) (t := .ref D) (fun M h X p => ?_) I.kIn hget e (fun z => nomatch z) fun tk => ⟨.bl true, H, I.tok tk, rfl, q⟩
  have := PySem.W.Looks.ld (M := M) (part := none) p
  intro A' Q' E' s' k q'
  exact wpAny_typeOf_ref (k _ _ p) (by rw [hz.1]; exact q')
end
end Nk

/-! Cls: classes of the text by bundles: making (Dm), properties (Dp), methods that operators ask (Dop). -/
namespace Nk
open PySem PySem.Spec PyProof.Rows L2

/-- a function object's bundle, wherever it stands -/
def Fo (P : Program) (w : World) (K : PySem.W.Frag) (mg : Str → Option Value) (base : Heap) (f : Addr) (k : Nat) (ps : List Str) (sp : Sp) : Prop :=
  ∃ fd : FuncData, FnOk P w K mg base (L2.CX P w) k f fd ps sp ∧ Binds K fd ps []
theorem fo_mk {P : Program} {w : World} {K : PySem.W.Frag} {mg : Str → Option Value} {base : Heap} {x qual : Str} {st : Stmt} {f : Addr} {N ps : List Str} {k : Nat} {sp : Sp} (F : ∃ fd, FunD K x qual (defArgs st) (defBody st) (defScope st) [] [] f fd) (S : FnScope N ps (defScope st))
    (hb : ∀ (kV doc pm : Value) (an : Option Addr) (cdv ct : Value) (us : List Value), us.length = ps.length → bindArgs (PySem.W.fnOf x qual (defArgs st) (defBody st) (defScope st) .none kV doc pm an cdv ct) ⟨us, []⟩ = pure (ps.zip us))
    (len : ∀ vs H Q E, sp vs H Q E → vs.length = ps.length)
    (hbody : ∀ (cdv : Value) (A : Around) (outer : List Env) (s : Shared) (H : Hp) (vs : List V) (Q : VK) (E : XK), Room k (A.deeper (envOfC qual (defScope st) s.heap.objs.size f cdv)) → sp vs H Q E →
      ∃ t, PSs (cxOf (L2.CX P w) P w K mg base N qual (defScope st) f cdv A outer s H E) (defBody st) t ∧ t { nx := fun _ H' => Q .non H', rt := Q } (L2.start N vs) H) : Fo P w K mg base f (k + 1) ps sp := by
  obtain ⟨fd, F⟩ := F
  exact ⟨fd, F.ok S len hbody, F.bindsN hb⟩
/-- a call whose parameters are filled in by keywords, too -/
def FoK (P : Program) (w : World) (K : PySem.W.Frag) (mg : Str → Option Value) (base : Heap) (f : Addr) (k : Nat) (ps : List Str) (sp : Sp) (n : Nat) (ks : List Str) (gV : List V → List V → List V) : Prop :=
  ∃ (fd : FuncData) (g : List Value → List Value → List Value), FnOk P w K mg base (L2.CX P w) k f fd ps sp ∧ KBn K fd ps n ks g gV
theorem fok_mk {P : Program} {w : World} {K : PySem.W.Frag} {mg : Str → Option Value} {base : Heap} {x qual : Str} {st : Stmt} {f : Addr} {ps ks : List Str} {k n : Nat} {sp : Sp} (g : {α : Type} → List α → List α → List α) (F : ∃ fd, FunD K x qual (defArgs st) (defBody st) (defScope st) [] [] f fd)
    (hrel : ∀ {vs zs : List V} {us ws : List Value}, Vals vs us → Vals zs ws → Vals (g vs zs) (g us ws))
    (hb : ∀ (kV doc pm : Value) (an : Option Addr) (cdv ct : Value) (us ws : List Value), us.length = n → ws.length = ks.length → bindArgs (PySem.W.fnOf x qual (defArgs st) (defBody st) (defScope st) .none kV doc pm an cdv ct) ⟨us, ks.zip ws⟩ = pure (ps.zip (g us ws)))
    (hfd : ∀ fd, FunD K x qual (defArgs st) (defBody st) (defScope st) [] [] f fd → FnOk P w K mg base (L2.CX P w) k f fd ps sp) : FoK P w K mg base f k ps sp n ks (fun us ws => g us ws) := by
  obtain ⟨fd, F⟩ := F
  obtain ⟨oc, od, dV, kV, doc, pm, an, cdv, ct, osl, e, lk, hcd, hD, hK⟩ := id F.ex
  rcases hD with ⟨_, rfl⟩ | ⟨z, _⟩
  · refine ⟨fd, fun us ws => g us ws, hfd fd F, ⟨fun s us ws X l1 l2 => ?_, fun r1 r2 => hrel r1 r2⟩⟩
    rw [e]
    exact .of_eq (hb kV doc pm an cdv ct us ws l1 l2)
  · exact absurd rfl z

section
variable {X : Cx} {k j n : Nat} {C f p g : Addr} {ps ks : List Str} {sp : Sp} {x : Str} {E : XK} {W : WX} {e : Expr} {es : List Expr} {kws : List Keyword} {t tk ta : TA} {te : TE} {p1 pos : Pos} {gV : List V → List V → List V}
/-- C(e, ..) -/
theorem pe_mk (M : Mk X.K C f) (c : Fo X.prog X.w X.K X.mg X.base f k ps sp) (hr : Room j X.A) (hk : k + 1 ≤ j) (hg : Gl X x) (hm : X.mg x = some (.ref C)) (tk : Takes X W) (hW : ∀ cls d σ H, E cls d H → W cls d σ H) (ha : PA X (e :: es) t)
    (hdb : (x == ("__debug__" : Str)) = false := by decide) (he : starEach (e :: es) X.env = (false, eval e X.env) :: starEach es X.env := by rfl) (hpl : (backTo pos (starEach es X.env)).any (·.1) = false := by rfl) :
    PE X (.Call (.Name x p1) (e :: es) [] pos) (tMake C sp [] E t) := by
  obtain ⟨fd, F, hb⟩ := c
  exact pe_make M F (hr.mono hk) hg hm hb .nil (passes_call tk hW) ha hdb he hpl
/-- C(k = v, ..) -/
theorem pe_mkK {tz : TA} (M : Mk X.K C f) (c : FoK X.prog X.w X.K X.mg X.base f k ps sp 1 ks gV) (hr : Room j X.A) (hk : k + 1 ≤ j) (hg : Gl X x) (hm : X.mg x = some (.ref C)) (tk : Takes X W) (hW : ∀ cls d σ H, E cls d H → W cls d σ H) (hkw : PK X kws tz)
    (hall : (backToKw pos (keywordEach kws X.env)).all (·.1.isSome) = true := by rfl) (hks : (backToKw pos (keywordEach kws X.env)).filterMap (·.1) = ks := by rfl) (hdb : (x == ("__debug__" : Str)) = false := by decide)
    (hpl : ((backTo pos (starEach [] X.env)).any (·.1) || (backToKw pos (keywordEach kws X.env)).any (·.1.isNone)) = false := by rfl) :
    PE X (.Call (.Name x p1) [] kws pos) (tMakeK C 0 ks.length sp gV E tNil tz) := by
  obtain ⟨fd, g, F, hb⟩ := c
  exact pe_makeK0 M F (hr.mono hk) hg hm hb (passes_call tk hW) hkw hall hks hdb hpl
/-- e.f, a property that raises nothing -/
theorem pe_pr (he : PE X e te) (c : Cls X.K C) (hp : PropOf X.K C x p g) (F : Fo X.prog X.w X.K X.mg X.base g k ps sp) (hr : Room j X.A) (hk : k + 1 ≤ j) (hab : attributeBase e x X.env (eval e X.env) = eval e X.env := by rfl) :
    PE X (.Attribute e x pos) (tProp C sp [] noE te) := by
  obtain ⟨fd, F, hb⟩ := F
  exact pe_prop he c hp F (hr.mono hk) hb .nil (passes_call (X := X.nox) (W := fun _ _ _ _ => False) LamX.takes0 fun _ _ _ _ z => z) hab
theorem op_eqF {K : PySem.W.Frag} (T : EqC K C f) (F : Fo X.prog X.w X.K X.mg X.base f k ps sp) (hr : Room j X.A) (hk : k ≤ j) (hK : X.K = K := by rfl) : OpR X (compareOp .Eq) (rOwn false K C sp) := by
  subst hK
  obtain ⟨fd, F, hb⟩ := F
  exact op_eqO T F hb (hr.mono hk)
theorem op_neF {K : PySem.W.Frag} (T : EqC K C f) (F : Fo X.prog X.w X.K X.mg X.base f k ps sp) (hr : Room j X.A) (hk : k + 1 ≤ j) (hK : X.K = K := by rfl) : OpR X (compareOp .NotEq) (rOwn true K C sp) := by
  subst hK
  obtain ⟨fd, F, hb⟩ := F
  exact op_neO T F hb (hr.mono hk)
theorem call_strF (hs : PySem.W.findIn X.K (.ref C) "__str__" = some (some (.ref f))) (hf : PySem.W.isFn X.K (.ref f) = true) (F : Fo X.prog X.w X.K X.mg X.base f k ps sp) (hr : Room j X.A) (hk : k + 2 ≤ j) : CallR X (.type "str") (rStrO C sp) := by
  obtain ⟨fd, F, hb⟩ := F
  exact call_strO hs hf F hb (hr.mono hk)
end

/-! ### an own exception whose __init__ calls super().__init__ -/
/-- the def at f, that captures its class at D -/
structure SupD (K : PySem.W.Frag) (name qual : Str) (st : Stmt) (f D : Addr) (file : Str) : Prop where
  ex : ∃ (oc : Value) (od : Option Addr) (dV kV doc pm : Value) (an : Option Addr) (cdv ct : Value) (osl : Array (Option Value)) (cc : Addr),
    K.lookup f = some ⟨oc, od, .func (PySem.W.ksFn name qual (defArgs st) (defBody st) (defScope st) dV kV doc pm an cdv ct cc), osl⟩ ∧ PySem.W.codeIn K cdv qual = true ∧ ClsCell K cc D ∧ dV = .none ∧
    ∃ cda ccl cdd vs ccs tf, cdv = .ref cda ∧ K.lookup cda = some ⟨ccl, cdd, .fields vs, ccs⟩ ∧ vs[2]? = some (.str file tf)
theorem SupD.ok {P : Program} {w : World} {K : PySem.W.Frag} {mg : Str → Option Value} {base : Heap} {k : Nat} {name qual file : Str} {st : Stmt} {f D : Addr} {N ps : List Str} {sp : Sp} {sf : Str} {ar : Arg} (F : SupD K name qual st f D file) (S : FnSup N ps (defScope st))
    (len : ∀ vs H Q E, sp vs H Q E → vs.length = ps.length)
    (hb : ∀ (kV doc pm : Value) (an : Option Addr) (cdv ct : Value) (cc : Addr) (us : List Value), us.length = ps.length → bindArgs (PySem.W.ksFn name qual (defArgs st) (defBody st) (defScope st) .none kV doc pm an cdv ct cc) ⟨us, []⟩ = pure (ps.zip us))
    (har : ((defArgs st).posonlyargs ++ (defArgs st).args).head? = some ar) (hsf : ar.arg = sf) (hfile : ((P.main.file : Str) == file) = true) (htop : (P.main.scope.names.lookup ("super" : Str)).isSome = false) (hmg : mg "super" = none)
    (sS : (defScope st).names.lookup ("super" : Str) = some .globalImplicit) (sC : (defScope st).names.lookup ("__class__" : Str) = some .free) (sX : (defScope st).names.lookup sf = some .local) (n0 : N[0]? = some sf) (hD : ∃ cd, PySem.W.clsIn K D = some cd)
    (hbody : ∀ (cc : Addr) (cdv : Value) (A : Around) (outer : List Env) (s : Shared) (H : Hp) (vs : List V) (Q : VK) (E : XK), SupAt (supCx (L2.CX P w) P w K mg base N qual (defScope st) f cdv cc A outer s H E) f cc D sf → Room k (A.deeper (supEnv qual (defScope st) s.heap.objs.size f cdv cc)) → sp vs H Q E →
      ∃ t, PScs (supCx (L2.CX P w) P w K mg base N qual (defScope st) f cdv cc A outer s H E) (.func (defBody st) (supEnv qual (defScope st) s.heap.objs.size f cdv cc)) (defBody st) t ∧ t { nx := fun _ H' => Q .non H', rt := Q } (L2.start N vs) H) :
    Fo P w K mg base f (k + 1) ps sp := by
  obtain ⟨oc, od, dV, kV, doc, pm, an, cdv, ct, osl, cc, lk, hcd, C, rfl, cda, ccl, cdd, vs0, ccs, tf, rfl, h2, h3⟩ := F.ex
  refine ⟨_, fn_sup lk hcd C S len fun A outer s H vs Q E hr hsp => hbody cc (.ref cda) A outer s H vs Q E ⟨⟨oc, od, _, osl, ar, lk, har, hsf⟩, ⟨cda, ccl, cdd, vs0, ccs, file, tf, rfl, h2, h3, hfile⟩, htop, hmg, rfl, C, ?_, sS, sC, sX, n0, hD⟩ hr hsp, fun s us X hl => ?_⟩
  · show List.lookup _ [_] = _
    simp [List.lookup]
  · rw [List.append_nil] at hl ⊢
    exact .of_eq (hb kV doc pm an (.ref cda) ct cc us hl)
/-- raise C(v), C an own exception with one field -/
def spExc1 (C : Addr) (fld : Str) : Sp := fun vs H Q _ => ∃ (a : Addr) (v : V), vs = [.ref a, v] ∧ H a = some (exo a C none) ∧ ∀ dx, H dx = none → dx ≠ a → Q .non (upd (upd H dx (exd dx [(fld, v)])) a (exo a C (some dx)))
section
variable {X : Cx} {k j : Nat} {C fI : Addr} {ps : List Str} {sp : Sp} {x : Str} {W : WX} {e : Expr} {es : List Expr} {ta : TA} {p pos : Pos}
theorem pmk_ex (T : OexC X.K C) (iC : PySem.W.findIn X.K (.ref C) "__init__" = some (some (.ref fI))) (tI : PySem.W.typeIn X.K (.ref fI) = some (.type "function")) (c : Fo X.prog X.w X.K X.mg X.base fI k ps sp) (hr : Room j X.A) (hk : k + 1 ≤ j) (hg : Gl X x) (hm : X.mg x = some (.ref C)) (ha : PA X (e :: es) ta)
    (hdb : (x == ("__debug__" : Str)) = false := by decide) (he : starEach (e :: es) X.env = (false, eval e X.env) :: starEach es X.env := by rfl) (hpl : (backTo pos (starEach es X.env)).any (·.1) = false := by rfl) : PMk X (.Call (.Name x p) (e :: es) [] pos) (tMkO C sp [] ta) := by
  obtain ⟨fd, F, hb⟩ := c
  exact pmk_oex T iC tI F (hr.mono hk) hb .nil (passes_call (W := fun _ _ _ _ => False) LamX.takes0 fun _ _ _ _ z => z) hg hm ha hdb he hpl
end
/-- what such a raise leaves -/
theorem r_mkO1 {C : Addr} {fld : Str} {v : V} {H : Hp} {Q : XK} (h : ∀ d H', Same H H' → H' d = some (.xd [(fld, v)]) → Q (.ref C) (some d) H') : [v].length ≤ 1000 ∧ ∀ a, H a = none → spExc1 C fld (.ref a :: ([v] ++ [])) (upd H a (exo a C none))
    (fun u H2 => u = .non ∧ ∃ (d : Addr) (fs : List (Str × V)), H2 a = some (exo a C (some d)) ∧ H2 d = some (exd d fs) ∧ H d = none ∧ Q (.ref C) (some d) (upd (del H2 a) d (.xd fs))) (fun _ _ _ => False) := by
  refine ⟨by simp, fun a ha => ⟨a, v, rfl, upd_same, fun dx hd hne => ⟨rfl, dx, [(fld, v)], upd_same, by rw [upd_ne hne, upd_same], ?_, ?_⟩⟩⟩
  · rw [upd_ne hne] at hd
    exact hd
  · have hd' : H dx = none := by rw [upd_ne hne] at hd; exact hd
    refine h dx _ (fun b o hb => ?_) upd_same
    have h1 : b ≠ dx := ne_of_none hb hd'
    have h2 : b ≠ a := ne_of_none hb ha
    rw [upd_ne h1, del_ne h2, upd_ne h2, upd_ne h1, upd_ne h2]
    exact hb
/-- what the making of an instance leaves of what was -/
theorem mk_same {x dx C : Addr} {H H' : Hp} (hx : H x = none) (hd : H dx = none) (k : Kp x (upd (upd H dx (.own x)) x (.ins C dx [])) H') : Same H H' := fun b o hb => by
  have h1 : b ≠ x := ne_of_none hb hx
  have h2 : b ≠ dx := ne_of_none hb hd
  exact k b o (by rw [upd_ne h1, upd_ne h2]; exact hb) h1
end Nk

/-! End: a law's promise where no repr is under way, to the row; the head's facts of defs at any place. -/
namespace Nk
open PySem PySem.Spec PyProof.Rows L2

/-! ### the state at the law's call -/
/-- the script and the tables are tracked, nothing else -/
def H0 (K : PySem.W.Frag) (ts : List Addr) (a : Addr) (oa : Obj) (xs : List V) : Hp := fun b => if b ∈ ts then some (.tbl #[]) else if b = a ∧ K.lookup a = none then some (.frz oa (.lst xs)) else none
section
variable {K : PySem.W.Frag} {ts : List Addr} {a b : Addr} {oa : Obj} {xs : List V}
theorem h0_tab (h : b ∈ ts) : H0 K ts a oa xs b = some (.tbl #[]) := if_pos h
theorem h0_cases (b : Addr) : (b ∈ ts ∧ H0 K ts a oa xs b = some (.tbl #[])) ∨ (b ∉ ts ∧ b = a ∧ K.lookup a = none ∧ H0 K ts a oa xs b = some (.frz oa (.lst xs))) ∨ (b ∉ ts ∧ ¬ (b = a ∧ K.lookup a = none) ∧ H0 K ts a oa xs b = none) := by
  unfold H0
  by_cases h : b ∈ ts
  · exact .inl ⟨h, if_pos h⟩
  · rw [if_neg h]
    by_cases q : b = a ∧ K.lookup a = none
    · exact .inr (.inl ⟨h, q.1, q.2, if_pos q⟩)
    · exact .inr (.inr ⟨h, q, if_neg q⟩)
end
/-- what the end is told of the state -/
structure AtCall (K : PySem.W.Frag) (mg mb : Str → Option Value) (cs : List (Addr × Addr)) (s : Shared) (a : Addr) (vs : List Value) (ns : List Int) : Prop where
  KX : K.In s.heap
  glob : s.heap.Ns mainGlobals mg
  blt : s.heap.Ns builtinsNs mb
  boot : ∀ x : Str, x ≠ "__name__" → mb x = bootBuiltins x
  lim : s.heap.NoLimit
  gens : s.gens = #[]
  tab : ∀ p ∈ cs, s.heap.get? p.2 = some { cls := .none, data := .fields #[] }
  tabK : ∀ p ∈ cs, K.lookup p.2 = none
  code : ∀ p ∈ cs, PySem.W.CodeHd s.heap p.1 p.2
  bm : ∃ (bm : Addr) (ob : Obj), mg "__builtins__" = some (.ref bm) ∧ bm ≠ builtinsNs ∧ s.heap.get? bm = some ob ∧ ob.cls = .type "module" ∧ ob.dict = some builtinsNs ∧ ob.data = .plain
  at_ : s.heap.get? a = some { cls := .type "list", data := .seq vs.toArray }
  iz : IntsAre vs ns
  len : ns.length ≤ sizeLine
section
variable {P : Program} {w : World} {K : PySem.W.Frag} {mg mb : Str → Option Value} {cs : List (Addr × Addr)} {s : Shared} {a : Addr} {vs : List Value} {ns : List Int}
/-- the tables' addresses -/
abbrev tsOf (cs : List (Addr × Addr)) : List Addr := cs.map (·.2)
abbrev HC (K : PySem.W.Frag) (cs : List (Addr × Addr)) (a : Addr) (vs : List Value) (ns : List Int) : Hp := H0 K (tsOf cs) a { cls := .type "list", data := .seq vs.toArray } (ns.map V.int)
theorem AtCall.ts (h : AtCall K mg mb cs s a vs ns) {b : Addr} (hb : b ∈ tsOf cs) : s.heap.get? b = some { cls := .none, data := .fields #[] } := by
  obtain ⟨p, hp, rfl⟩ := List.mem_map.mp hb
  exact h.tab p hp
theorem AtCall.off (h : AtCall K mg mb cs s a vs ns) : a ∉ tsOf cs := fun z => by
  have q := h.ts z
  rw [h.at_] at q
  cases q
theorem AtCall.script (h : AtCall K mg mb cs s a vs ns) : SqL K (HC K cs a vs ns) a (ns.map V.int) := by
  have rv := vals_ints h.iz
  rcases h0_cases (K := K) (ts := tsOf cs) (a := a) (oa := { cls := .type "list", data := .seq vs.toArray }) (xs := ns.map V.int) a with ⟨z, _⟩ | ⟨_, _, _, e⟩ | ⟨_, n, _⟩
  · exact absurd z h.off
  · exact .inl (.inr ⟨_, e⟩)
  · cases hk : K.lookup a with
    | none => exact absurd ⟨rfl, hk⟩ n
    | some o =>
      have e := h.KX a o hk
      rw [h.at_] at e
      cases e
      exact .inr ⟨_, vs.toArray, _, hk, rfl, rfl, rfl, by rw [List.size_toArray, h.iz.length]; exact h.len, by simpa using rv⟩
theorem AtCall.hok (h : AtCall K mg mb cs s a vs ns) : HOk P w (HC K cs a vs ns) s.heap := fun b u e => by
  have rv := vals_ints h.iz
  rcases h0_cases (K := K) (ts := tsOf cs) (a := a) (oa := { cls := .type "list", data := .seq vs.toArray }) (xs := ns.map V.int) b with ⟨z, q⟩ | ⟨_, eb, _, q⟩ | ⟨_, _, q⟩
  · cases q.symm.trans e
    exact h.ts z
  · cases q.symm.trans e
    subst eb
    exact ⟨h.at_, by rw [List.length_map]; exact h.len, vs, _, rv, h.at_⟩
  · cases q.symm.trans e
/-- an object that is no list of the script and no table is not tracked -/
theorem AtCall.none_ (h : AtCall K mg mb cs s a vs ns) {b : Addr} {o : Obj} (e : s.heap.get? b = some o) (h1 : ∀ v n, o.data ≠ .seq v n) (h2 : o.data ≠ .fields #[]) : HC K cs a vs ns b = none := by
  rcases h0_cases (K := K) (ts := tsOf cs) (a := a) (oa := { cls := .type "list", data := .seq vs.toArray }) (xs := ns.map V.int) b with ⟨z, _⟩ | ⟨_, eb, _, _⟩ | ⟨_, _, q⟩
  · have q := h.ts z
    rw [e] at q
    cases q
    exact absurd rfl h2
  · subst eb
    have q := h.at_
    rw [e] at q
    cases q
    exact absurd rfl (h1 _ _)
  · exact q
abbrev baseOf (K : PySem.W.Frag) (cs : List (Addr × Addr)) (s : Shared) (a : Addr) (vs : List Value) (ns : List Int) : Heap := hidT s.heap (HC K cs a vs ns)
theorem AtCall.base (h : AtCall K mg mb cs s a vs ns) {b : Addr} {o : Obj} (e : s.heap.get? b = some o) (h1 : ∀ v n, o.data ≠ .seq v n) (h2 : o.data ≠ .fields #[]) : (baseOf K cs s a vs ns).get? b = some o := hidT_get e (h.none_ e h1 h2)
theorem AtCall.nsB (h : AtCall K mg mb cs s a vs ns) {b : Addr} {m : Str → Option Value} (n : s.heap.Ns b m) : (baseOf K cs s a vs ns).Ns b m := by
  obtain ⟨o, es, ep, e, d, r⟩ := n
  exact ⟨o, es, ep, h.base e (fun v n z => by rw [d] at z; cases z) (fun z => by rw [d] at z; cases z), d, r⟩
theorem AtCall.kin (h : AtCall K mg mb cs s a vs ns) : K.In (baseOf K cs s a vs ns) := fun b o e => by
  refine hidT_get (h.KX b o e) ?_
  rcases h0_cases (K := K) (ts := tsOf cs) (a := a) (oa := { cls := .type "list", data := .seq vs.toArray }) (xs := ns.map V.int) b with ⟨z, _⟩ | ⟨_, eb, hk, _⟩ | ⟨_, _, q⟩
  · obtain ⟨p, hp, rfl⟩ := List.mem_map.mp z
    rw [h.tabK p hp] at e
    cases e
  · rw [eb, hk] at e
    cases e
  · exact q
theorem AtCall.mod (h : AtCall K mg mb cs s a vs ns) : L2.Mod K mg (baseOf K cs s a vs ns) := by
  obtain ⟨mc, h1, h2⟩ := h.lim
  exact ⟨h.kin, h.nsB h.glob, ⟨mb, h.nsB h.blt, h.boot⟩, ⟨mc, h.nsB h1, h2⟩⟩
theorem AtCall.env0 (h : AtCall K mg mb cs s a vs ns) : Env0 P w K mg (baseOf K cs s a vs ns) callerA [] s (HC K cs a vs ns) :=
  ⟨rfl, h.mod, fun b o e => of_hidT e, Nat.le_of_eq (hidT_size _ _), trivial, (fun b hb => nomatch (show b ∈ ([] : List Addr) from hb)), h.hok, .of_eq h.gens⟩
theorem AtCall.tabB (h : AtCall K mg mb cs s a vs ns) : ∀ p ∈ cs, LamX.TabB (baseOf K cs s a vs ns) mg p.1 p.2 := fun p hp => by
  have hTp := h.tab p hp
  refine ⟨?_, ?_, fun z => ?_⟩
  · obtain ⟨o, us, file, tf, flags, tg, inF, text, tt, e1, r1, r2, r3, r⟩ := h.code p hp
    refine ⟨o, us, file, tf, flags, tg, inF, text, tt, h.base e1 (fun v n z => by rw [r2] at z; cases z) (fun z => ?_), r1, r2, r3, r⟩
    rw [r2] at z
    cases z
    cases r3
  · obtain ⟨bm, ob, b1, b2, b3, b4, b5, b6⟩ := h.bm
    refine ⟨bm, ob, b1, b2, fun q => ?_, fun q => ?_, h.base b3 (fun v n z => by rw [b6] at z; cases z) (fun z => by rw [b6] at z; cases z), b4, b5, b6⟩
    · obtain ⟨o, es, ep, e, hd, _⟩ := h.glob
      rw [q, e] at b3
      cases b3
      rw [hd] at b6
      cases b6
    · rw [q, hTp] at b3
      cases b3
      cases b6
  · obtain ⟨o, es, ep, e, hd, _⟩ := h.glob
    rw [z, hTp] at e
    cases e
    cases hd
/-- behind the call: what was there is there, the tables have grown -/
theorem AtCall.old (h : AtCall K mg mb cs s a vs ns) {H' : Hp} {s' : Shared} (un : Un (frs []) [] (HC K cs a vs ns) H' s.heap s'.heap) (hok : HOk P w H' s'.heap) : OldK s.heap s'.heap := by
  have keep : ∀ b o, b ∉ tsOf cs → s.heap.get? b = some o → s'.heap.get? b = some o := fun b o nb e => by
    rcases h0_cases (K := K) (ts := tsOf cs) (a := a) (oa := { cls := .type "list", data := .seq vs.toArray }) (xs := ns.map V.int) b with ⟨z, _⟩ | ⟨_, eb, _, q⟩ | ⟨_, _, q⟩
    · exact absurd z nb
    · obtain ⟨e2, _⟩ := hok b _ (un.frzs b _ _ q)
      subst eb
      rw [h.at_] at e
      cases e
      exact e2
    · exact un.keep b o e q (fun z => by cases (show b ∈ ([] : List Addr) from z)) (fun z => by cases z)
  have grown : ∀ p ∈ cs, ∃ more : Array Value, s'.heap.get? p.2 = some { cls := .none, data := .fields more } := fun p hp => by
    obtain ⟨more, z⟩ := un.tbls p.2 #[] (h0_tab (List.mem_map.mpr ⟨p, hp, rfl⟩))
    exact ⟨_, hok p.2 _ z⟩
  refine ⟨fun b o e => ?_, fun b o e => ?_⟩
  · by_cases hb : b ∈ tsOf cs
    · obtain ⟨p, hp, rfl⟩ := List.mem_map.mp hb
      obtain ⟨more, hm⟩ := grown p hp
      rw [h.tab p hp] at e
      cases e
      exact .inr (.inl ⟨((h.code p hp).tab (h.tab p hp)).isCodeTable, rfl, #[], more, rfl, by rw [Array.empty_append]; exact hm⟩)
    · exact .inl (keep b o hb e)
  · by_cases hb : b ∈ tsOf cs
    · obtain ⟨p, hp, rfl⟩ := List.mem_map.mp hb
      obtain ⟨more, hm⟩ := grown p hp
      exact ⟨_, hm⟩
    · exact ⟨o, keep b o hb e⟩
theorem law_callG {k : Nat} {fa : Addr} {fd : FuncData} {x : Str} {sp : Sp} (h : AtCall K mg mb cs s a vs ns) (hr : Room k callerA)
    (F : ∀ base : Heap, K.In base → base.Ns mainGlobals mg → (∀ p ∈ cs, LamX.TabB base mg p.1 p.2) → FnG P w K mg base (L2.CX P w) k fa fd [x] sp) (hbind : ∀ (s : Shared) (u : Value), BindsTo s fd ⟨[u], []⟩ [(x, u)])
    (hsp : ∀ H : Hp, (∀ p ∈ cs, H p.2 = some (.tbl #[])) → SqL K H a (ns.map V.int) → sp [.ref a] H (fun v _ => v = .bl true) fun _ _ _ => False) :
    codeAny (model P w) callerA (.call (.ref fa) ⟨[.ref a], []⟩) (fun r s' => r = .ok (.ret (.bool true)) ∧ OldK s.heap s'.heap ∧ s'.os = s.os ∧ AllBare s'.gens) s := by
  refine codeAny_mono ((F _ h.kin (h.nsB h.glob) h.tabB).run callerA [] s _ ⟨[.ref a], []⟩ [.ref a] [.ref a] _ _ rfl hr h.env0 (hbind s (.ref a)) (.cons rfl .nil) (hsp _ (fun p hp => h0_tab (List.mem_map.mpr ⟨p, hp, rfl⟩)) h.script)) fun r s' hq => ?_
  match r, hq with
  | .error e, hq =>
    obtain ⟨_, _, _, _, _, _, _, _, _, _, _, _, z⟩ := hq
    exact z.elim
  | .ok (.ret u), ⟨v, H', os, bare, un, hok', r', q⟩ =>
    have q : v = .bl true := q
    subst q
    cases r'
    exact ⟨rfl, h.old un hok', os, bare⟩
  | .ok .next, hq => exact False.elim hq
  | .ok .brk, hq => exact False.elim hq
  | .ok .cont, hq => exact False.elim hq
end
/-- what is known of the law at the head's heap -/
def LawG (P : Program) (w : World) (K : PySem.W.Frag) (k n : Nat) (x : Str) (mg : Str → Option Value) (fa : Addr) (h : Heap) : Prop :=
  ∃ (fd : FuncData) (cs : List (Addr × Addr)) (sp : Sp), (∀ p ∈ cs, h.get? p.2 = some { cls := .none, data := .fields #[] }) ∧ (∀ p ∈ cs, K.lookup p.2 = none) ∧ (∀ p ∈ cs, PySem.W.CodeHd h p.1 p.2) ∧ (∀ (s : Shared) (u : Value), BindsTo s fd ⟨[u], []⟩ [(x, u)]) ∧
    (∀ (H : Hp) (a : Addr) (ns : List Int), ns.length ≤ n → (∀ z ∈ ns, Builtin.Int.intBits z ≤ 1048576) → (∀ p ∈ cs, H p.2 = some (.tbl #[])) → SqL K H a (ns.map V.int) → sp [.ref a] H (fun v _ => v = .bl true) fun _ _ _ => False) ∧
    ∀ base : Heap, K.In base → base.Ns mainGlobals mg → (∀ p ∈ cs, LamX.TabB base mg p.1 p.2) → FnG P w K mg base (L2.CX P w) k fa fd [x] sp
theorem walk_ofG {l : PySem.W.OpenLaw} {n k : Nat} {q : Program} {loose : List Str} {XP : (Str → Option Value) → Heap → Prop} {YP : World → Heap → Prop} {d : DefRec} {x : Str} (hn : l.most = some n) (hn2 : n ≤ sizeLine) (hdf : d.params.defaults = []) (hr : Room k callerA)
    (F : ∀ (w : World) (mg : Str → Option Value) (fa : Addr) (h : Heap), YP w h → h.Ns mainGlobals mg → mg d.name = some (.ref fa) → ∃ K : PySem.W.Frag, K.In h ∧ LawG l.prog w K k n x mg fa h) :
    PySem.W.WalkO q loose XP YP l.row.toRowW d [] (fun f vs => PySem.call f vs) := by
  refine Att.attach_callB hn hdf fun w s₀ s₁ mg mb fa o pm cd doc a vs ns G Y ho hd hcd hmg hobj hints hlen hbits hg => ?_
  obtain ⟨K, KX, fd, cs, sp, hT, nT, C, hb, hsp, hF⟩ := F w mg fa _ Y G.T.g hmg
  exact law_callG ⟨KX, G.T.g, G.T.b, G.T.builtins, G.T.nolimit, hg, hT, nT, C, G.T.bmain, hobj, hints, Nat.le_trans hlen hn2⟩ hr hF hb fun H hH hS => hsp H a ns hlen hbits hH hS

/-! ### the head's facts of defs at any place -/
/-- a def: where it stands (a path), its text, the class that it captures (super), if any -/
structure DefA where
  at_ : PySem.W.Frag → Addr
  name : Str
  qual : Str
  st : Stmt
  cap : Option (PySem.W.Frag → Addr) := none
abbrev FnS : Type := Option (Str × Str × Arguments × FuncBody × Scope × Addr × List Str × Addr)
def fnS (K : PySem.W.Frag) (f : Addr) : FnS := match K.lookup f with
  | some ⟨_, _, .func fd, _⟩ => some (fd.name, fd.qualname, fd.params, fd.body, fd.scope, fd.globals, fd.closure.map (·.1), fd.builtins)
  | _ => none
def DefA.val (d : DefA) : FnS := some (d.name, d.qual, defArgs d.st, .stmts (defBody d.st), defScope d.st, mainGlobals, (if d.cap.isSome then [("__class__" : Str)] else []), builtinsNs)
def capB (K : PySem.W.Frag) (file : Str) (fd : FuncData) (D : Addr) : Bool := (match fd.closure with
  | [(_, cc)] => (match K.lookup cc with
    | some ⟨_, _, .cell (some (.ref E)), _⟩ => decide (E = D)
    | _ => false)
  | _ => false) && (match fd.code with
  | .ref c => (match K.lookup c with
    | some ⟨_, _, .fields vs, _⟩ => (match (vs[2]? : Option Value) with
      | some (.str f _) => decide (f = file)
      | _ => false)
    | _ => false)
  | _ => false)
def DefA.ok (K : PySem.W.Frag) (file : Str) (d : DefA) : Bool := PySem.W.keepIn K (.ref (d.at_ K)) && (match K.lookup (d.at_ K) with
  | some ⟨_, _, .func fd, _⟩ => PySem.W.codeIn K fd.code d.qual && (He.dflB K fd.defaults [] && (He.kwdB K fd.kwdefaults [] && (match d.cap with
    | none => true
    | some D => capB K file fd (D K))))
  | _ => false)
theorem DefA.funD {K : PySem.W.Frag} {file : Str} {d : DefA} (e : fnS K (d.at_ K) = d.val) (c : d.ok K file = true) (hn : d.cap = none) : ∃ fd, FunD K d.name d.qual (defArgs d.st) (defBody d.st) (defScope d.st) [] [] (d.at_ K) fd := by
  obtain ⟨kp, c2⟩ := He.ba c
  unfold fnS at e
  cases q : K.lookup (d.at_ K) with
  | none => rw [q] at c2; cases c2
  | some o =>
    obtain ⟨oc, od, dt, osl⟩ := o
    rw [q] at c2 e
    cases dt with
    | func fd =>
      obtain ⟨n1, n2, n3, n4, n5, n6, n7, n8, n9, n10, n11, n12, n13, n14, n15⟩ := fd
      unfold DefA.val at e
      rw [hn] at e
      have e2 : (some (n1, n2, n3, n4, n5, n6, n7.map (·.1), n15) : FnS) = some (d.name, d.qual, defArgs d.st, .stmts (defBody d.st), defScope d.st, mainGlobals, [], builtinsNs) := e
      simp only [Option.some.injEq, Prod.mk.injEq, List.map_eq_nil_iff] at e2
      obtain ⟨h1, h2, h3, h4, h5, h6, h7, h8⟩ := e2
      subst h1 h2 h3 h4 h5 h6 h7 h8
      obtain ⟨k1, k2⟩ := He.ba c2
      obtain ⟨k3, k4⟩ := He.ba k2
      obtain ⟨k5, _⟩ := He.ba k4
      exact ⟨_, ⟨oc, od, n8, n9, n10, n11, n12, n13, n14, osl, rfl, q, k1, He.dflB_ok k3, He.kwdB_ok k5⟩, kp⟩
    | _ => cases c2
theorem DefA.supD {K : PySem.W.Frag} {file : Str} {d : DefA} {D : PySem.W.Frag → Addr} (e : fnS K (d.at_ K) = d.val) (c : d.ok K file = true) (hn : d.cap = some D) : SupD K d.name d.qual d.st (d.at_ K) (D K) file := by
  obtain ⟨kp, c2⟩ := He.ba c
  unfold fnS at e
  cases q : K.lookup (d.at_ K) with
  | none => rw [q] at c2; cases c2
  | some o =>
    obtain ⟨oc, od, dt, osl⟩ := o
    rw [q] at c2 e
    cases dt with
    | func fd =>
      obtain ⟨n1, n2, n3, n4, n5, n6, n7, n8, n9, n10, n11, n12, n13, n14, n15⟩ := fd
      unfold DefA.val at e
      rw [hn] at e
      have e2 : (some (n1, n2, n3, n4, n5, n6, n7.map (·.1), n15) : FnS) = some (d.name, d.qual, defArgs d.st, .stmts (defBody d.st), defScope d.st, mainGlobals, [("__class__" : Str)], builtinsNs) := e
      simp only [Option.some.injEq, Prod.mk.injEq] at e2
      obtain ⟨h1, h2, h3, h4, h5, h6, h7, h8⟩ := e2
      subst h1 h2 h3 h4 h5 h6 h8
      obtain ⟨k1, k2⟩ := He.ba c2
      obtain ⟨k3, k4⟩ := He.ba k2
      obtain ⟨k5, k6⟩ := He.ba k4
      rw [hn] at k6
      obtain ⟨k7, k8⟩ := He.ba k6
      match n7, h7, k7 with
      | [(cn, cc)], h7, k7 =>
        have ec : cn = "__class__" := by simpa using h7
        subst ec
        have C : ClsCell K cc (D K) := by
          have k7' : (match K.lookup cc with
            | some ⟨_, _, .cell (some (.ref E)), _⟩ => decide (E = D K)
            | _ => false) = true := k7
          split at k7'
          · rename_i c' d' E sl z
            rw [of_decide_eq_true k7'] at z
            exact ⟨_, _, _, z⟩
          · cases k7'
        have eD : n8 = .none := by
          rcases He.dflB_ok k3 with ⟨_, z⟩ | ⟨z, _⟩
          · exact z
          · exact absurd rfl z
        obtain ⟨cda, rfl⟩ := He.codeIn_ref k1
        have k9 : (match K.lookup cda with
            | some ⟨_, _, .fields vs, _⟩ => (match (vs[2]? : Option Value) with
              | some (.str f _) => decide (f = file)
              | _ => false)
            | _ => false) = true := k8
        refine ⟨oc, od, n8, n9, n10, n11, n12, .ref cda, n14, osl, cc, q, k1, C, eD, cda, ?_⟩
        split at k9
        · rename_i c' d' vs sl z
          split at k9
          · rename_i f tf z2
            rw [of_decide_eq_true k9] at z2
            exact ⟨_, _, _, _, _, rfl, z, z2⟩
          · cases k9
        · cases k9
    | _ => cases c2
/-! ### the Hook -/
/-- what is looked at: what the module's names reach, and the library's own statics -/
abbrev frN (g : Addr → Option Obj) (n : Nat) : PySem.W.Frag := He.frT g (cStatics :: He.asD g n)
abbrev AlN : Type := List FnS × Bool
structure SaysN (ds : List DefA) (file : Str) (tf : List He.Defn) (ex : PySem.W.Frag → Bool) (h : Heap) (K : PySem.W.Frag) : Prop where
  fn : ∀ d ∈ ds, fnS K (d.at_ K) = d.val
  ok : ∀ d ∈ ds, d.ok K file = true
  more : ex K = true
  hd : ∀ p ∈ tf, PySem.W.codeHdIn K (He.cT K p).1 (He.cT K p).2 = true
  out : ∀ p ∈ tf, K.lookup (He.cT K p).2 = none
  empty : ∀ p ∈ tf, h.get? (He.cT K p).2 = some { cls := .none, data := .fields #[] }
def obsN (n : Nat) (ds : List DefA) (file : Str) (tf : List He.Defn) (ex : PySem.W.Frag → Bool) (g : Addr → Option Obj) : AlN :=
  (ds.map (fun d => fnS (frN g n) (d.at_ (frN g n))), (ds.all fun d => d.ok (frN g n) file) && (ex (frN g n) && He.tabsB g tf (frN g n)))
def valN (ds : List DefA) : AlN := (ds.map DefA.val, true)
theorem saysN_of {n : Nat} {ds : List DefA} {file : Str} {tf : List He.Defn} {ex : PySem.W.Frag → Bool} {h : Heap} (e : obsN n ds file tf ex h.get? = valN ds) : SaysN ds file tf ex h (frN h.get? n) := by
  have e1 : ds.map (fun d => fnS (frN h.get? n) (d.at_ (frN h.get? n))) = ds.map DefA.val := congrArg (fun z : AlN => z.1) e
  have e2 : ((ds.all fun d => d.ok (frN h.get? n) file) && (ex (frN h.get? n) && He.tabsB h.get? tf (frN h.get? n))) = true := congrArg (fun z : AlN => z.2) e
  obtain ⟨h0, e3⟩ := He.ba e2
  obtain ⟨h1, h2⟩ := He.ba e3
  have key : ∀ p ∈ tf, PySem.W.codeHdIn (frN h.get? n) (He.cT (frN h.get? n) p).1 (He.cT (frN h.get? n) p).2 = true ∧ ∃ o, h.get? (He.cT (frN h.get? n) p).2 = some o ∧ He.emptyTab o = true := fun p hp => by
    obtain ⟨h3, h4⟩ := He.ba (List.all_eq_true.mp h2 p hp)
    refine ⟨h3, ?_⟩
    cases q : h.get? (He.cT (frN h.get? n) p).2 with
    | none => rw [q] at h4; cases h4
    | some o => rw [q] at h4; exact ⟨o, rfl, h4⟩
  exact ⟨fun d hd => List.map_inj_left.mp e1 d hd, fun d hd => List.all_eq_true.mp h0 d hd, h1, fun p hp => (key p hp).1, fun p hp => by
    obtain ⟨_, o, q, z⟩ := key p hp
    exact He.frT_none q z, fun p hp => by
    obtain ⟨_, o, q, z⟩ := key p hp
    rw [q, He.emptyTab_eq z]⟩
def hookN (n : Nat) (ds : List DefA) (file : Str) (tf : List He.Defn) (ex : PySem.W.Frag → Bool) : PySem.W.Hook where
  α := AlN
  obs := fun s => obsN n ds file tf ex s.heap.get?
  val := fun _ => valN ds
  says := fun _ h => ∃ K : PySem.W.Frag, K.In h ∧ SaysN ds file tf ex h K
  of := fun _ _ e => ⟨_, He.frT_in, saysN_of e⟩
  keeps := fun _ _ _ ⟨K, hK, c⟩ k => ⟨K, PySem.W.Frag.In.keeps hK k, ⟨c.fn, c.ok, c.more, c.hd, c.out, fun p hp => k _ _ (c.empty p hp)⟩⟩
theorem obsN_eq {n : Nat} {ds : List DefA} {file : Str} {tf : List He.Defn} {ex : PySem.W.Frag → Bool} {g : Addr → Option Obj} {s : Shared} (h : ∀ a, g a = s.heap.get? a) : obsN n ds file tf ex g = (hookN n ds file tf ex).obs s := by
  have e : g = s.heap.get? := funext h
  rw [e] <;> rfl
theorem SaysN.fun_ {ds : List DefA} {file : Str} {tf : List He.Defn} {ex : PySem.W.Frag → Bool} {h : Heap} {K : PySem.W.Frag} (c : SaysN ds file tf ex h K) {d : DefA} (hd : d ∈ ds) (hn : d.cap = none) : ∃ fd, FunD K d.name d.qual (defArgs d.st) (defBody d.st) (defScope d.st) [] [] (d.at_ K) fd := DefA.funD (c.fn d hd) (c.ok d hd) hn
theorem SaysN.sup {ds : List DefA} {file : Str} {tf : List He.Defn} {ex : PySem.W.Frag → Bool} {h : Heap} {K : PySem.W.Frag} (c : SaysN ds file tf ex h K) {d : DefA} {D : PySem.W.Frag → Addr} (hd : d ∈ ds) (hn : d.cap = some D) : SupD K d.name d.qual d.st (d.at_ K) (D K) file := DefA.supD (c.fn d hd) (c.ok d hd) hn
/-! ### Bools for what is told of classes -/
def eqL (a b : Option (Option Value)) : Bool := He.eqO a b
def oexB (K : PySem.W.Frag) (C : Addr) : Bool := (match K.lookup C with
  | some ⟨.type "type", _, .cls cd, sl⟩ => (match cd.mro, sl.toList with
    | .ref C' :: bm, [_, _, _, _, some (.builtin n), _] => C' == C && (n == "ValueError.__new__" && (!cd.hasDel && (cd.hasDict && PySem.HandSPX.refsVE bm)))
    | _, _ => false)
  | _ => false) && (He.eqO (PySem.W.findIn K (.ref C) "__setattr__") (some (some (.builtin "object.__setattr__"))) && (decide (PySem.W.subIn K (.ref C) (.type "BaseException") = some true) && (decide (PySem.W.typeIn K (.ref C) = some (.type "type")) && PySem.W.keepIn K (.ref C))))
theorem oexB_ok {K : PySem.W.Frag} {C : Addr} (h : oexB K C = true) : OexC K C := by
  obtain ⟨h1, h⟩ := He.ba h
  obtain ⟨h2, h⟩ := He.ba h
  obtain ⟨h3, h⟩ := He.ba h
  obtain ⟨h4, h5⟩ := He.ba h
  refine ⟨?_, He.eqO_ok h2, of_decide_eq_true h3, of_decide_eq_true h4, h5⟩
  split at h1
  · rename_i dd cd sl ho
    split at h1
    · rename_i C' bm k0 k1 k2 k3 n k5 hm hs
      simp only [Bool.and_eq_true, beq_iff_eq, Bool.not_eq_true'] at h1
      obtain ⟨rfl, rfl, hdel, hdict, ht⟩ := h1
      obtain ⟨nm, bs, mro, ns, qn, hd, sn, sub, ab, col, del⟩ := cd
      dsimp only at hm hdel hdict
      subst hm hdel hdict
      have hsl : sl = #[k0, k1, k2, k3, some (.builtin "ValueError.__new__"), k5] := by
        obtain ⟨l⟩ := sl
        simp only at hs
        rw [hs]
      subst hsl
      exact ⟨nm, qn, ns, bs, bm, sn, sub, ab, col, dd, k0, k1, k2, k3, k5, ho, ht⟩
    · cases h1
  · cases h1
def supB (K : PySem.W.Frag) (C : Addr) : Bool := oexB K C && (He.eqO (PySem.W.ks_superIn K C C "__init__") (some (some (.builtin "ValueError.__init__"))) && (decide (PySem.W.mroIn K C (.ref C) = some true) && (decide (PySem.W.subIn K (.ref C) (.type "ValueError") = some true) && He.eqO (PySem.W.nsIn K cStatics "thirdparty.any") (some none))))
theorem supB_ok {K : PySem.W.Frag} {C : Addr} (h : supB K C = true) : SupX K C := by
  obtain ⟨h1, h⟩ := He.ba h
  obtain ⟨h2, h⟩ := He.ba h
  obtain ⟨h3, h⟩ := He.ba h
  obtain ⟨h4, h5⟩ := He.ba h
  exact ⟨oexB_ok h1, He.eqO_ok h2, of_decide_eq_true h3, of_decide_eq_true h4, He.eqO_ok h5⟩
def clsInB (K : PySem.W.Frag) (C : Addr) : Bool := (PySem.W.clsIn K C).isSome
theorem clsInB_ok {K : PySem.W.Frag} {C : Addr} (h : clsInB K C = true) : ∃ cd, PySem.W.clsIn K C = some cd := Option.isSome_iff_exists.mp h
/-- the property m of C: the getter -/
def getOf (K : PySem.W.Frag) (C : Addr) (m : Str) : Addr := match PySem.W.recIn K (He.ma K C m) "property" with
  | some (.ref g :: _) => g
  | _ => 0
def propB (K : PySem.W.Frag) (C : Addr) (m : Str) : Bool := He.eqO (PySem.W.findIn K (.ref C) m) (some (some (.ref (He.ma K C m)))) && (He.eqO (PySem.W.specialIn K (.ref (He.ma K C m)) "__get__") (some (some (.builtin "property.__get__"))) && (decide (PySem.W.takesIn K (.ref (He.ma K C m)) = some true) && (match PySem.W.recIn K (He.ma K C m) "property" with
  | some (.ref _ :: _) => true
  | _ => false)))
theorem propB_ok {K : PySem.W.Frag} {C : Addr} {m : Str} (h : propB K C m = true) : PropOf K C m (He.ma K C m) (getOf K C m) := by
  obtain ⟨h1, h⟩ := He.ba h
  obtain ⟨h2, h⟩ := He.ba h
  obtain ⟨h3, h4⟩ := He.ba h
  refine ⟨He.eqO_ok h1, He.eqO_ok h2, of_decide_eq_true h3, ?_⟩
  unfold getOf
  split at h4
  · rename_i g r e
    rw [e]
    exact ⟨r, rfl⟩
  · cases h4
def eqCB (K : PySem.W.Frag) (C : Addr) : Bool := He.eqO (PySem.W.findIn K (.ref C) "__eq__") (some (some (.ref (He.ma K C "__eq__")))) && (He.eqO (PySem.W.findIn K (.ref C) "__ne__") (some (some (.builtin "object.__ne__"))) && (PySem.W.isFn K (.ref (He.ma K C "__eq__")) && decide (PySem.W.subIn K (.ref C) (.type "object") = some true)))
theorem eqCB_ok {K : PySem.W.Frag} {C : Addr} (h : eqCB K C = true) : EqC K C (He.ma K C "__eq__") := by
  obtain ⟨h1, h⟩ := He.ba h
  obtain ⟨h2, h⟩ := He.ba h
  obtain ⟨h3, h4⟩ := He.ba h
  exact ⟨He.eqO_ok h1, He.eqO_ok h2, h3, of_decide_eq_true h4⟩
end Nk

namespace Nk
open PySem PySem.Spec PyProof.Rows L2
local macro_rules | `(tactic| walk_at "r1") => `(tactic| with_reducible first
  | refine r_var rfl ?_ | refine r_c ?_ | refine r_seq ?_ | refine r_asgN ?_ | refine r_op ?_ | refine r_cb ?_ | refine r_cons ?_ | refine r_nil ?_
  | refine r_ret ?_ | refine r_ifS ?_ | refine r_I0 ?_ | refine r_test ?_ | refine r_B ?_ | refine r_k ?_ | refine r_not ?_ | refine r_and ?_ | refine r_or ?_
  | refine r_andV ?_ | refine r_orV ?_ | refine r_notV ?_ | refine r_if ?_ | refine r_chain ?_ | refine r_df ?_ | refine r_lst ?_ | refine r_tup ?_ | refine r_asg ?_ | refine r_gsub ?_ | refine r_drop ?_ | refine r_retN ?_ | refine r_next ?_ | refine r_bm ?_ | refine r_un ?_
  | refine r_gN ?_ | refine r_yes ?_ | refine r_lc ?_ | refine r_for ?_ | refine r_iStr ?_ | refine r_iList ?_ | refine r_iTup ?_ | refine r_iRng1 ?_ | refine r_xstr ?_ | refine r_xref ?_ | refine r_xint ?_ | refine r_xints ?_
  | refine r_m1 ?_ | refine r_isS ?_ | refine r_sl ?_ | refine r_nop ?_ | refine r_part ?_ | refine r_int1 ?_ | refine r_intb ?_ | refine r_iteT ?_ | refine r_iteF ?_ | refine r_iteNF ?_ | refine r_iteNT ?_)
local macro_rules | `(tactic| walk_at "r") => `(tactic| repeat (first | walk_at "r1" | walk_at "r2" | (dsimp only; first | walk_at "r1" | walk_at "r2")))

local macro_rules | `(tactic| walk_at "side") => `(tactic| first | assumption | (show (0 : Int) < _; omega) | exact c_mulL ⟨by omega, by omega⟩ | exact c_mulR ⟨by omega, by omega⟩ | exact c_pow ⟨by omega, by omega⟩ ⟨by omega, by omega⟩ | exact c_divW (by omega) (by omega))
local macro_rules | `(tactic| walk_at "r2") => `(tactic| first
  | ((with_reducible refine' r_I ?c1 ?_); (case c1 => walk_at "side"))
  | ((with_reducible refine' r_eq ?c1 ?_); (case c1 => rfl))
  | ((with_reducible refine' r_ne ?c1 ?_); (case c1 => rfl))
  | ((with_reducible refine' r_ixL ?c1 ?c2 ?_); (case c1 => first | exact SqL.of (by assumption) | assumption); (case c2 => rfl))
  | ((with_reducible refine' r_lenL ?c1 ?_); (case c1 => first | exact SqL.of (by assumption) | assumption))
  | ((with_reducible refine' r_slL ?c1 ?_); (case c1 => first | assumption | exact SqL.of (by assumption))))

local macro_rules | `(tactic| tbr_iter ($p:ident, $hp:ident, $H:ident, $s:ident, $e:ident, $o:ident)) => `(tactic| (intro $p:ident $hp:ident; generalize e0 : upd _ $p _ = $H:ident; have ⟨$s, $e, $o⟩ := Nk.new_facts $hp e0; clear e0))

def topS (i : Nat) : Stmt := PySem.Challenge.pw_nextkind_k31_deeds_made.main.body.getD i (.Pass ⟨0, 0, 0, 0⟩)
def LET : Str := "abcdefghijklmnopqrstuvwxyz"
def nameB (x : Str) : Bool := (decide (1 ≤ (x.length : Int)) && decide ((x.length : Int) ≤ 8)) && x.cps.toList.all fun c => decide (c ∈ LET.cps.toList)
abbrev s_is_name : Stmt := topS 6
theorem sc_is_name : FnScope ["value", "letter"] ["value"] (defScope s_is_name) := ⟨rfl, rfl, rfl, by decide +kernel, rfl, by decide +kernel, by decide +kernel⟩
abbrev s__law_pen : Stmt := topS 13
theorem sc__law_pen : FnScope ["_law_script"] ["_law_script"] (defScope s__law_pen) := ⟨rfl, rfl, rfl, by decide +kernel, rfl, by decide +kernel, by decide +kernel⟩
abbrev s__law_draw : Stmt := topS 14
theorem sc__law_draw : FnScope ["_law_pen_here", "_law_many", "_law_digit", "_law_at", "_law_cell", "_law_great", "_law_mixed"] ["_law_pen_here", "_law_many"] (defScope s__law_draw) := ⟨rfl, rfl, rfl, by decide +kernel, rfl, by decide +kernel, by decide +kernel⟩
abbrev s__law_pick : Stmt := topS 15
theorem sc__law_pick : FnScope ["_law_pen_here", "_law_some"] ["_law_pen_here", "_law_some"] (defScope s__law_pick) := ⟨rfl, rfl, rfl, by decide +kernel, rfl, by decide +kernel, by decide +kernel⟩
abbrev s__law_name : Stmt := topS 16
theorem sc__law_name : FnScope ["_law_pen_here", "_law_letters", "_law_k"] ["_law_pen_here"] (defScope s__law_name) := ⟨rfl, rfl, rfl, by decide +kernel, rfl, by decide +kernel, by decide +kernel⟩
abbrev FnP (K : PySem.W.Frag) (x : Str) (st : Stmt) (f : Addr) : Prop := ∃ fd, FunD K x x (defArgs st) (defBody st) (defScope st) [] [] f fd
structure Txt (K : PySem.W.Frag) (mg : Str → Option Value) : Prop where
  n_isinstance : mg "isinstance" = none
  n_str : mg "str" = none
  n_len : mg "len" = none
  n_all : mg "all" = none
  n_int : mg "int" = none
  n_abs : mg "abs" = none
  n_list : mg "list" = none
  c_LETTERS : ∃ u, mg "LETTERS" = some u ∧ RelV (.str LET) u
  c_MOST_LETTERS : ∃ u, mg "MOST_LETTERS" = some u ∧ RelV (.int 8) u
  d_is_name : ∃ f, FnP K "is_name" s_is_name f ∧ mg "is_name" = some (.ref f)
  d__law_pen : ∃ f, FnP K "_law_pen" s__law_pen f ∧ mg "_law_pen" = some (.ref f)
  d__law_pick : ∃ f, FnP K "_law_pick" s__law_pick f ∧ mg "_law_pick" = some (.ref f)
  d__law_name : ∃ f, FnP K "_law_name" s__law_name f ∧ mg "_law_name" = some (.ref f)
  n_range : mg "range" = none
  d__law_draw : ∃ f, FnP K "_law_draw" s__law_draw f ∧ mg "_law_draw" = some (.ref f)
theorem name_join {ls : List Nat} (hc : ∀ c ∈ ls, c ∈ LET.cps.toList) (h1 : 1 ≤ ls.length) (h8 : ls.length ≤ 8) : nameB (Txt.join "" (ls.map sgn)) = true := by
  have e := join_signs (e := "") rfl ls
  have el : (Txt.join "" (ls.map sgn)).length = ls.length := by
    have := congrArg List.length e
    unfold TL.tl at this
    unfold Str.length
    simpa using this
  have e' : (Txt.join "" (ls.map sgn)).cps.toList = ls := e
  unfold nameB
  rw [el, e', decide_eq_true (by omega), decide_eq_true (by omega), Bool.true_and, Bool.true_and, List.all_eq_true]
  exact fun c h => decide_eq_true (hc c h)
section
variable {P : Program} {w : World} {K : PySem.W.Frag} {mg : Str → Option Value} {base : Heap}
def spIsName (K : PySem.W.Frag) : Sp := fun vs H Q _ => ∃ v, vs = [v] ∧ ((∃ x : Str, v = .str x ∧ x.length ≤ 90000 ∧ ∀ H', Same H H' → Q (.bl (nameB x)) H') ∨ (∃ T, TyX K H v (.type T) ∧ kitB T "str" = some false ∧ Q (.bl false) H))
theorem df_is_name (T : Txt K mg) : Df P w K mg base "is_name" 1 ["value"] (spIsName K) := by
  obtain ⟨f, F, hm⟩ := T.d_is_name
  refine df_mk F hm sc_is_name (fun _ _ _ _ _ _ us hl => match us, hl with | [_], _ => rfl) (fun vs H Q E h => ?_) (fun cdv A outer s H vs Q E hr h => ?_)
  · obtain ⟨v, rfl, _⟩ := h
    rfl
  · obtain ⟨v, rfl, h⟩ := h
    refine ⟨_, (pss_cons (ps_if (PW.pt (pw_or (pt_not (pt_val (pe_callB call_isi (by rfl) T.n_isinstance (by decide +kernel) (pa_cons (pv 0) (pa_cons (pe_bltn (v := .ty "str") (u := .type "str") (by rfl) T.n_str (by decide +kernel) rfl) pa_nil))))) (pw_or1 (pt_not (pt_chain op_le op_le pe_int (pe_callB call_len (by rfl) T.n_len (by decide +kernel) (pa_cons (pv 0) pa_nil)) (pe_gc rfl T.c_MOST_LETTERS)))))) (pss_one (ps_ret pe_bl)) pss_nil)
    (pss_one (ps_ret (pe_callB (cr_all rfl) (by rfl) T.n_all (by decide +kernel) (pa_cons (pe_lc (own := [("letter", 1)]) (by rfl) sc_is_name.nd (pi_str (pv 0)) (blkOk_by (N := ["value", "letter"]) (sc := defScope s_is_name) (by decide +kernel)) (fun _ _ _ _ _ => pg_name (i := 1) sc_is_name.nd rfl (Or.inl rfl)) (fun _ _ _ _ _ => pts_nil) (fun _ _ _ _ _ => (pe_cmpR op_in_sign (pv 1) (pe_gc rfl T.c_LETTERS) rfl))) pa_nil))))), ?_⟩
    dsimp only [cxOf]
    walk_at "r"
    rcases h with ⟨x, rfl, hl, k⟩ | ⟨T, ty, kt, k⟩
    · refine r_isi (b := true) (.base (.str x)) (by decide +kernel) ?_
      walk_at "r"
      refine r_lenS hl ?_
      walk_at "r"
      refine r_iteD (fun h1 => ?_) (fun h1 => ?_)
      · walk_at "r"
        refine r_iteN (fun h2 => ?_) (fun h2 => ?_)
        · walk_at "r"
          have e : nameB x = false := by unfold nameB; rw [decide_eq_false h2, Bool.and_false, Bool.false_and]
          rw [← e]
          exact k H (Same.refl H)
        · walk_at "r"
          intro D hD
          refine lc_acc walk_str (fun i acc H' => Same H H' ∧ acc = (x.cps.toList.take i).map fun c => V.bl (decide (c ∈ LET.cps.toList))) ⟨same_mut (Same.refl H) hD, rfl⟩ (fun _ _ _ _ _ => trivial) (fun i v H1 H2 acc hi hDa hl r y => ?_) (fun H1 acc hDa hl r => ?_)
          · obtain ⟨s1, rfl⟩ := r
            obtain ⟨rfl, c, hc, rfl⟩ := y
            walk_at "r"
            refine ⟨rfl, ?_⟩
            walk_at "r"
            refine ⟨c, LET, rfl, rfl, ?_⟩
            have hs : i < 90000 := by have := hi; unfold Str.length at *; omega
            refine lc_put hDa hl hs ⟨same_mut s1 hD, ?_⟩
            rw [List.take_add_one, List.map_append]
            have e : x.cps.toList[i]? = some c := by simpa using hc
            rw [e]
            rfl
          · obtain ⟨s1, rfl⟩ := r
            walk_at "r"
            have e : x.cps.toList.take x.cps.size = x.cps.toList := List.take_of_length_le (by simp)
            rw [e] at hDa
            refine r_bool (bs := x.cps.toList.map fun c => decide (c ∈ LET.cps.toList)) (by rw [List.map_map]; exact SqL.of hDa) ?_
            have e : nameB x = (x.cps.toList.map fun c => decide (c ∈ LET.cps.toList)).all id := by
              unfold nameB
              rw [decide_eq_true h1, decide_eq_true h2, List.all_map]
              rfl
            rw [← e]
            exact k _ s1
      · walk_at "r"
        have e : nameB x = false := by unfold nameB; rw [decide_eq_false h1, Bool.false_and, Bool.false_and]
        rw [← e]
        exact k H (Same.refl H)
    · refine r_isi ty kt ?_
      walk_at "r"
      exact k

def spPen (K : PySem.W.Frag) : Sp := fun vs H Q _ => ∃ (a : Addr) (ns : List Int), vs = [.ref a] ∧ SqL K H a (ns.map V.int) ∧ ns.length ≤ 63 ∧ ∀ p c H', H p = none → H c = none → Same H H' → Pen H' p c ns 0 → Q (.ref p) H'
theorem df__law_pen (T : Txt K mg) : Df P w K mg base "_law_pen" 1 ["_law_script"] (spPen K) := by
  obtain ⟨f, F, hm⟩ := T.d__law_pen
  refine df_mk F hm sc__law_pen (fun _ _ _ _ _ _ us hl => match us, hl with | [_], _ => rfl) (fun vs H Q E h => ?_) (fun cdv A outer s H vs Q E hr h => ?_)
  · obtain ⟨a, ns, rfl, _⟩ := h
    rfl
  · obtain ⟨a, ns, rfl, hS, hl, k⟩ := h
    refine ⟨_, (pss_one (ps_ret (pe_lst (pa_cons (pe_callTy call_list_of (by rfl) T.n_list (by decide +kernel) (pa_cons (pe_slice sl_list (pv 0) po_none (po_some pe_int)) pa_nil)) (pa_cons pe_int (pa_cons pe_int pa_nil)))))), ?_⟩
    dsimp only [cxOf]
    walk_at "r"
    rw [cut63 (by simpa using hl)]
    tbr_iter (q, hq, H1, s1, eq, o1)
    walk_at "r"
    refine r_listL (SqL.of eq) ?_
    tbr_iter (c, hc, H2, s2, ec, o2)
    walk_at "r"
    refine ⟨r_size (by simp), ?_⟩
    tbr_iter (p, hp, H3, s3, ep, o3)
    have s : Same H H3 := (s1.trans s2).trans s3
    exact k p c H3 (s1.free (s2.free hp)) (s1.free hc) s ⟨⟨0, 0, ep, Nat.le_refl _⟩, s3 _ _ ec, hl⟩
def spDraw : Sp := fun vs H Q _ => ∃ (p c : Addr) (ns : List Int) (n : Nat) (m : Int), vs = [.ref p, .int m] ∧ Pen H p c ns n ∧ n ≤ 100000 ∧ 0 < m ∧ m < 2 ^ 1000 ∧ ∀ (r : Int) (H' : Hp), 0 ≤ r → r < m → Kp p H H' → Pen H' p c ns (n + 1) → Q (.int r) H'
theorem df__law_draw (T : Txt K mg) : Df P w K mg base "_law_draw" 1 ["_law_pen_here", "_law_many"] spDraw := by
  obtain ⟨f, F, hm⟩ := T.d__law_draw
  refine df_mk F hm sc__law_draw (fun _ _ _ _ _ _ us hl => match us, hl with | [_, _], _ => rfl) (fun vs H Q E h => ?_) (fun cdv A outer s H vs Q E hr h => ?_)
  · obtain ⟨p, c, ns, n, m, rfl, _⟩ := h
    rfl
  · obtain ⟨p, c, ns, n, m, rfl, hP, hn, hm0, hm1, k⟩ := h
    obtain ⟨⟨i, g, hp, hi⟩, hc, hl⟩ := id hP
    have hu64 := hr.units
    refine ⟨_, (pss_cons (ps_if (pt_cmpR op_gt (pe_ix ix_list (pv 0) pe_int (fun _ _ => rfl)) pe_int (nomark _)) (pss_cons (ps_set (i := 2) sc__law_draw.nd rfl (Or.inl rfl) (pe_op op_mod (pe_callTy call_int1 (by rfl) T.n_int (by decide +kernel) (pa_cons (pe_ix ix_list (pv 0) pe_int (fun _ _ => rfl)) pa_nil)) (pv 1)))
    (pss_cons (ps_asg (pe_op op_fdivW (pe_callTy call_int1 (by rfl) T.n_int (by decide +kernel) (pa_cons (pe_ix ix_list (pv 0) pe_int (fun _ _ => rfl)) pa_nil)) (pv 1)) (pg_sub (pv 0) pe_int set_list))
    (pss_one (ps_ret (pv 2))))) pss_nil)
    (pss_cons (ps_set (i := 3) sc__law_draw.nd rfl (Or.inl rfl) (pe_ix ix_list (pv 0) pe_int (fun _ _ => rfl)))
    (pss_cons (ps_asg (pe_op op_add (pv 3) pe_int) (pg_sub (pv 0) pe_int set_list))
    (pss_cons (ps_set (i := 4) sc__law_draw.nd rfl (Or.inl rfl) (pe_op op_add (pe_op op_mul pe_int (pv 3)) pe_int))
    (C8.pss_cut (ps_if (pt_cmpR (op_neP hu64) (pe_ix ix_list (pv 0) pe_int (fun _ _ => rfl)) (pe_lst pa_nil) (nomark _)) (pss_one (ps_set (i := 4) sc__law_draw.nd rfl (Or.inl rfl) (pe_ix ix_list (pe_ix ix_list (pv 0) pe_int (fun _ _ => rfl)) (pe_op op_mod (pe_callTy call_int1 (by rfl) T.n_int (by decide +kernel) (pa_cons (pv 3) pa_nil)) (pe_callB call_len (by rfl) T.n_len (by decide +kernel) (pa_cons (pe_ix ix_list (pv 0) pe_int (fun _ _ => rfl)) pa_nil))) (fun _ _ => rfl)))) pss_nil)
    (C8.pss_cut (ps_if (PW.pt (pw_and (pt_cmpR op_lt (pv 3) (pe_callB call_len (by rfl) T.n_len (by decide +kernel) (pa_cons (pe_ix ix_list (pv 0) pe_int (fun _ _ => rfl)) pa_nil)) (nomark _)) (pw_and1 (pt_cmpR op_ge (pe_callB call_abs (by rfl) T.n_abs (by decide +kernel) (pa_cons (pv 4) pa_nil)) (pe_op op_pow pe_int pe_int) (nomark _))))) (pss_cons (ps_set (i := 5) sc__law_draw.nd rfl (Or.inl rfl) (pe_op op_add (pe_op op_mul pe_int (pe_op op_sub (pe_callB call_abs (by rfl) T.n_abs (by decide +kernel) (pa_cons (pv 4) pa_nil)) (pe_op op_pow pe_int pe_int))) (pe_callTy call_int1 (by rfl) T.n_int (by decide +kernel) (pa_cons (pe_cmpR op_lt (pv 4) pe_int (nomark _)) pa_nil))))
    (pss_cons (ps_asg (pe_op op_fdivW (pe_callTy call_int1 (by rfl) T.n_int (by decide +kernel) (pa_cons (pv 5) pa_nil)) (pv 1)) (pg_sub (pv 0) pe_int set_list))
    (pss_one (ps_ret (pe_op op_mod (pe_callTy call_int1 (by rfl) T.n_int (by decide +kernel) (pa_cons (pv 5) pa_nil)) (pv 1)))))) pss_nil)
    (pss_cons (ps_set (i := 6) sc__law_draw.nd rfl (Or.inl rfl) (pe_op op_mod (pe_callTy call_int1 (by rfl) T.n_int (by decide +kernel) (pa_cons (pe_op op_pow (pe_op op_add (pe_op op_add (pe_op op_mod (pe_callTy call_int1 (by rfl) T.n_int (by decide +kernel) (pa_cons (pv 4) pa_nil)) pe_int) (pe_op op_mul pe_int (pv 3))) pe_int) pe_int) pa_nil)) pe_int))
    (pss_cons (ps_set (i := 6) sc__law_draw.nd rfl (Or.inl rfl) (pe_op op_mod (pe_callTy call_int1 (by rfl) T.n_int (by decide +kernel) (pa_cons (pe_op op_pow (pe_op op_add (pe_op op_add (pe_op op_mul (pv 6) (pe_op op_add (pe_op op_mul pe_int (pv 3)) pe_int)) (pe_op op_mul (pe_op op_mul pe_int (pv 3)) (pv 3))) pe_int) pe_int) pa_nil)) pe_int))
    (pss_one (ps_ret (pe_op op_mod (pe_callTy call_int1 (by rfl) T.n_int (by decide +kernel) (pa_cons (pe_op op_fdivW (pv 6) pe_int) pa_nil)) (pv 1)))))))))))), ?_⟩
    dsimp only [cxOf]
    walk_at "r"
    refine r_iteD (fun h1 => ?_) (fun h1 => ?_)
    · walk_at "r"
      refine r_setN (K := K) hp rfl fun H1 hp1 kp1 _ => ?_
      walk_at "r"
      exact k (g % m) _ (Int.emod_nonneg _ (by omega)) (Int.emod_lt_of_pos _ hm0) kp1 ⟨⟨i, g / m, hp1, by omega⟩, kp1 _ _ hc hP.ne, hl⟩
    · walk_at "r"
      refine r_setN (K := K) hp rfl fun H1 hp1 kp1 _ => ?_
      have hc1 := kp1 _ _ hc hP.ne
      have hp1 : H1 p = some (.lst [.ref c, .int ((i : Int) + 1), .int g]) := hp1
      walk_at "r"
      -- the cell
      refine r_cut (fun σ' H' => ∃ cell : Int, σ' = [some (.ref p), some (.int m), none, some (.int i), some (.int cell), none, none] ∧ Same H1 H') ?_ ?_
      · walk_at "r"
        refine ⟨Nat.zero_le _, ?_⟩
        tbr_iter (e, he, H2, s2, ee, o2)
        refine ⟨_, _, .lst (SqL.of (s2 _ _ hc1)) (dp_ints ns), .lst (SqL.of ee) .nil, (plain_ints ns).1, rfl, depth_ints ns, ?_⟩
        have hp2 := s2 _ _ hp1
        have hc2 := s2 _ _ hc1
        rw [eqv_nil]
        walk_at "r"
        refine r_iteN (fun h2 => ?_) (fun h2 => ?_)
        · walk_at "r"
          dsimp only
          have hl0 : 0 < ns.length := by
            cases ns with
            | nil => exact absurd rfl h2
            | cons z r => simp
          refine r_I (C := fun _ j => (0 : Int) < j) (show (0 : Int) < ((ns.map V.int).length : Int) by rw [List.length_map]; omega) ?_
          rw [List.length_map]
          have q0 := Int.emod_nonneg (i : Int) (show (ns.length : Int) ≠ 0 by omega)
          have q1 := Int.emod_lt_of_pos (i : Int) (show (0 : Int) < (ns.length : Int) by omega)
          obtain ⟨j, hj⟩ := Int.eq_ofNat_of_zero_le q0
          have hjl : j < ns.length := by omega
          refine r_ixL (SqL.of hc2) (v := .int (ns[j])) ?_ ?_
          · rw [hj]
            exact atI_nat (by rw [List.getElem?_map, List.getElem?_eq_getElem hjl]; rfl)
          · exact ⟨_, rfl, s2⟩
        · walk_at "r"
          exact ⟨_, rfl, s2⟩
      · rintro σ' H2 ⟨cell, rfl, s2⟩
        have hp2 := s2 _ _ hp1
        have hc2 := s2 _ _ hc1
        refine r_cut (fun σ' H' => σ' = [some (.ref p), some (.int m), none, some (.int i), some (.int cell), none, none] ∧ Same H1 H') ?_ ?_
        · walk_at "r"
          refine r_iteD (fun h2 => ?_) (fun h2 => ?_)
          · walk_at "r"
            refine r_iteD (fun h3 => ?_) (fun h3 => ?_)
            · walk_at "r"
              refine r_setN (K := K) hp2 rfl fun H3 hp3 kp3 _ => ?_
              walk_at "r"
              exact k _ _ (Int.emod_nonneg _ (by omega)) (Int.emod_lt_of_pos _ hm0) (kp1.trans ((Kp.same s2).trans kp3)) ⟨⟨i + 1, _, hp3, by omega⟩, kp3 _ _ hc2 hP.ne, hl⟩
            · walk_at "r"
              exact ⟨rfl, s2⟩
          · walk_at "r"
            exact ⟨rfl, s2⟩
        · rintro σ' H3 ⟨rfl, s3⟩
          walk_at "r"
          refine r_I (draw_pow (Int.emod_nonneg _ (by omega)) (Int.emod_lt_of_pos _ (by omega)) (by omega) (by omega) (by omega) (by omega) (by omega) (by omega) (by omega) (by omega)) ?_
          walk_at "r"
          exact k _ _ (Int.emod_nonneg _ (by omega)) (Int.emod_lt_of_pos _ hm0) (kp1.trans (Kp.same s3)) ⟨⟨i + 1, g, s3 _ _ hp1, by omega⟩, s3 _ _ hc1, hl⟩

def spPick (K : PySem.W.Frag) : Sp := fun vs H Q _ => ∃ (p c : Addr) (ns : List Int) (n : Nat) (v : V) (xs : List V), vs = [.ref p, v] ∧ Pen H p c ns n ∧ n ≤ 100000 ∧ Row K H p v xs ∧ 0 < xs.length ∧ xs.length ≤ 90000 ∧ ∀ y H', y ∈ xs → Kp p H H' → Pen H' p c ns (n + 1) → Q y H'
theorem df__law_pick (T : Txt K mg) : Df P w K mg base "_law_pick" 2 ["_law_pen_here", "_law_some"] (spPick K) := by
  obtain ⟨f, F, hm⟩ := T.d__law_pick
  have G__law_draw : Df P w K mg base "_law_draw" 1 _ _ := df__law_draw T
  refine df_mk F hm sc__law_pick (fun _ _ _ _ _ _ us hl => match us, hl with | [_, _], _ => rfl) (fun vs H Q E h => ?_) (fun cdv A outer s H vs Q E hr h => ?_)
  · obtain ⟨p, c, ns, n, v, xs, rfl, _⟩ := h
    rfl
  · obtain ⟨p, c, ns, n, v, xs, rfl, hP, hn, hR, hx0, hx1, k⟩ := h
    refine ⟨_, (pss_one (ps_ret (pe_ix ix_seq (pv 1) (pe_df G__law_draw hr (by decide) (by rfl) (takes_of rfl rfl rfl rfl) (pa_cons (pv 0) (pa_cons (pe_callB call_len (by rfl) T.n_len (by decide +kernel) (pa_cons (pv 1) pa_nil)) pa_nil))) (fun _ _ => rfl)))), ?_⟩
    dsimp only [cxOf]
    walk_at "r"
    refine ⟨v, _, rfl, hR.len hx1, ?_⟩
    walk_at "r"
    refine ⟨p, c, ns, n, _, rfl, hP, hn, by omega, by omega, fun r H' h0 h1 kp hP' => ?_⟩
    exact (hR.kp kp).ix hx1 h0 h1 fun y hy => k y H' hy kp hP'

def spName : Sp := fun vs H Q _ => ∃ (p c : Addr) (ns : List Int) (n : Nat), vs = [.ref p] ∧ Pen H p c ns n ∧ n ≤ 90000 ∧ ∀ (x : Str) H', nameB x = true → Kp p H H' → Pen H' p c ns (n + 10) → Q (.str x) H'
theorem df__law_name (T : Txt K mg) : Df P w K mg base "_law_name" 3 ["_law_pen_here"] spName := by
  obtain ⟨f, F, hm⟩ := T.d__law_name
  have G__law_draw : Df P w K mg base "_law_draw" 1 _ _ := df__law_draw T
  have G__law_pick : Df P w K mg base "_law_pick" 2 _ _ := df__law_pick T
  refine df_mk F hm sc__law_name (fun _ _ _ _ _ _ us hl => match us, hl with | [_], _ => rfl) (fun vs H Q E h => ?_) (fun cdv A outer s H vs Q E hr h => ?_)
  · obtain ⟨p, c, ns, n, rfl, _⟩ := h
    rfl
  · obtain ⟨p, c, ns, n, rfl, hP, hn, k⟩ := h
    refine ⟨_, (pss_cons (ps_set (i := 1) sc__law_name.nd rfl (Or.inr rfl) pe_str)
    (pss_cons (ps_if (pt_cmpR op_gt (pe_df G__law_draw hr (by decide) (by rfl) (takes_of rfl rfl rfl rfl) (pa_cons (pv 0) (pa_cons pe_int pa_nil))) pe_int (nomark _)) (pss_one (ps_ret (pe_df G__law_pick hr (by decide) (by rfl) (takes_of rfl rfl rfl rfl) (pa_cons (pv 0) (pa_cons (pe_lst (pa_cons pe_str (pa_cons pe_str (pa_cons pe_str (pa_cons pe_str (pa_cons pe_str (pa_cons pe_str (pa_cons pe_str pa_nil)))))))) pa_nil))))) pss_nil)
    (pss_one (ps_ret (pe_join pe_str (pe_lc (own := [("_law_k", 2)]) (by rfl) sc__law_name.nd (pi_range1 rfl T.n_range (pa_cons (pe_op op_add pe_int (pe_df G__law_draw hr (by decide) (by rfl) (takes_of rfl rfl rfl rfl) (pa_cons (pv 0) (pa_cons pe_int pa_nil)))) pa_nil)) (blkOk_by (N := ["_law_pen_here", "_law_letters", "_law_k"]) (sc := defScope s__law_name) (by decide +kernel)) (fun _ _ _ _ _ => pg_name (i := 2) sc__law_name.nd rfl (Or.inl rfl)) (fun _ _ _ _ _ => pts_nil) (fun _ _ _ _ _ => (pe_df G__law_pick hr (by decide) (by rfl) L2.takes0 (pa_cons (pv 0) (pa_cons (pv 1) pa_nil)))))))))), ?_⟩
    dsimp only [cxOf]
    walk_at "r"
    refine ⟨p, c, ns, n, _, rfl, hP, by omega, by omega, by omega, fun r H1 h0 h1 kp1 P1 => ?_⟩
    walk_at "r"
    refine r_iteD (fun h2 => ?_) (fun h2 => ?_)
    · walk_at "r"
      refine ⟨r_size (by decide), ?_⟩
      tbr_iter (q, hq, H2, s2, eq, o2)
      walk_at "r"
      refine ⟨p, c, ns, n + 1, _, _, rfl, P1.same s2, by omega, .lst (SqL.of eq) (P1.new hq), by simp, by simp, fun y H' hy kp P2 => ?_⟩
      obtain ⟨x, rfl, hx⟩ := strs_all (f := nameB) (xs := ["a", "b", "come", "go", "none", "or", "zzzzzzzz"]) hy (by decide +kernel)
      exact k x H' hx (kp1.trans ((Kp.same s2).trans kp)) (P2.mono (by omega))
    · walk_at "r"
      refine ⟨p, c, ns, n + 1, _, rfl, P1, by omega, by omega, by omega, fun r2 H2 h20 h21 kp2 P2 => ?_⟩
      walk_at "r"
      refine ⟨by omega, by omega, ?_⟩
      intro D hD
      have hDp := P2.new hD
      have hDc : D ≠ c := fun e => by have := P2.cells; rw [← e, hD] at this; cases this
      have hD0 : H D = none := (kp1.trans kp2).free hD hDp
      refine lc_acc walk_range (fun i acc H' => ∃ ls : List Nat, acc = ls.map (fun c => .str (sgn c)) ∧ ls.length = i ∧ (∀ c ∈ ls, c ∈ LET.cps.toList) ∧ Kp p H H' ∧ Pen H' p c ns (n + 2 + i)) ⟨[], rfl, rfl, by simp, kp_mut (kp1.trans kp2) hD0, P2.upd hDp hDc⟩ (fun _ _ _ _ _ => trivial) (fun i v H3 H4 acc hi hDa hl r y => ?_) (fun H3 acc hDa hl r => ?_)
      · obtain ⟨ls, rfl, hls, hc, kp3, P3⟩ := r
        obtain ⟨rfl, y⟩ := y
        refine ⟨rfl, ?_⟩
        walk_at "r"
        refine ⟨p, c, ns, _, _, _, rfl, P3, by omega, .str LET, by decide +kernel, by decide +kernel, fun y H' hy kp P4 => ?_⟩
        obtain ⟨d, hd, rfl⟩ := List.mem_map.mp hy
        refine lc_put (kp _ _ hDa hDp) hl (by omega) ⟨ls ++ [d], by rw [List.map_append]; rfl, by simp [hls], fun e he => ?_, kp_mut (kp3.trans kp) hD0, P4.upd hDp hDc⟩
        rcases List.mem_append.mp he with he | he
        · exact hc e he
        · rw [List.mem_singleton.mp he]; exact hd
      · obtain ⟨ls, rfl, hls, hc, kp3, P3⟩ := r
        walk_at "r"
        refine ⟨_, D, ls.map sgn, rfl, rfl, .inl (SqL.of (by rw [List.map_map]; exact hDa)), ?_, ?_⟩
        · rw [sum_sgn, List.length_map, hls]; show _ + _ * 0 ≤ _; omega
        · exact k _ H3 (name_join hc (by omega) (by omega)) kp3 (P3.mono (by omega))
end
end Nk

namespace Nk
open PySem PySem.Spec PyProof.Rows L2
local macro_rules | `(tactic| walk_at "r1") => `(tactic| with_reducible first
  | refine r_var rfl ?_ | refine r_c ?_ | refine r_seq ?_ | refine r_asgN ?_ | refine r_op ?_ | refine r_cb ?_ | refine r_cons ?_ | refine r_nil ?_
  | refine r_ret ?_ | refine r_ifS ?_ | refine r_I0 ?_ | refine r_test ?_ | refine r_B ?_ | refine r_k ?_ | refine r_not ?_ | refine r_and ?_ | refine r_or ?_
  | refine r_andV ?_ | refine r_orV ?_ | refine r_notV ?_ | refine r_if ?_ | refine r_chain ?_ | refine r_df ?_ | refine r_lst ?_ | refine r_tup ?_ | refine r_asg ?_ | refine r_gsub ?_ | refine r_drop ?_ | refine r_retN ?_ | refine r_next ?_ | refine r_bm ?_ | refine r_un ?_
  | refine r_gN ?_ | refine r_yes ?_ | refine r_lc ?_ | refine r_for ?_ | refine r_iStr ?_ | refine r_iList ?_ | refine r_iTup ?_ | refine r_iRng1 ?_ | refine r_xstr ?_ | refine r_xref ?_ | refine r_xint ?_ | refine r_xints ?_
  | refine r_m1 ?_ | refine r_isS ?_ | refine r_sl ?_ | refine r_nop ?_ | refine r_part ?_ | refine r_int1 ?_ | refine r_intb ?_ | refine r_iteT ?_ | refine r_iteF ?_ | refine r_iteNF ?_ | refine r_iteNT ?_)
local macro_rules | `(tactic| walk_at "r") => `(tactic| repeat (first | walk_at "r1" | walk_at "r2" | (dsimp only; first | walk_at "r1" | walk_at "r2")))

local macro_rules | `(tactic| walk_at "side") => `(tactic| first | assumption | (show (0 : Int) < _; omega) | exact c_mulL ⟨by omega, by omega⟩ | exact c_mulR ⟨by omega, by omega⟩ | exact c_pow ⟨by omega, by omega⟩ ⟨by omega, by omega⟩ | exact c_divW (by omega) (by omega))
local macro_rules | `(tactic| walk_at "r2") => `(tactic| first
  | ((with_reducible refine' r_I ?c1 ?_); (case c1 => walk_at "side"))
  | ((with_reducible refine' r_eq ?c1 ?_); (case c1 => rfl))
  | ((with_reducible refine' r_ne ?c1 ?_); (case c1 => rfl))
  | ((with_reducible refine' r_ixL ?c1 ?c2 ?_); (case c1 => first | exact SqL.of (by assumption) | assumption); (case c2 => rfl))
  | ((with_reducible refine' r_lenL ?c1 ?_); (case c1 => first | exact SqL.of (by assumption) | assumption))
  | ((with_reducible refine' r_slL ?c1 ?_); (case c1 => first | assumption | exact SqL.of (by assumption))))

local macro_rules | `(tactic| tbr_iter ($p:ident, $hp:ident, $H:ident, $s:ident, $e:ident, $o:ident)) => `(tactic| (intro $p:ident $hp:ident; generalize e0 : upd _ $p _ = $H:ident; have ⟨$s, $e, $o⟩ := Nk.new_facts $hp e0; clear e0))

abbrev s_need_name : Stmt := topS 7
theorem sc_need_name : FnScope ["value"] ["value"] (defScope s_need_name) := ⟨rfl, rfl, rfl, by decide +kernel, rfl, by decide +kernel, by decide +kernel⟩
abbrev s_Come_init : Stmt := inClass (topS 10) 0
theorem sc_Come_init : FnScope ["self", "kind"] ["self", "kind"] (defScope s_Come_init) := ⟨rfl, rfl, rfl, by decide +kernel, rfl, by decide +kernel, by decide +kernel⟩
abbrev s_Come_parts : Stmt := inClass (topS 10) 1
theorem sc_Come_parts : FnScope ["self"] ["self"] (defScope s_Come_parts) := ⟨rfl, rfl, rfl, by decide +kernel, rfl, by decide +kernel, by decide +kernel⟩
abbrev s_Come_eq : Stmt := inClass (topS 10) 2
theorem sc_Come_eq : FnScope ["self", "other"] ["self", "other"] (defScope s_Come_eq) := ⟨rfl, rfl, rfl, by decide +kernel, rfl, by decide +kernel, by decide +kernel⟩
abbrev s_Come_str : Stmt := inClass (topS 10) 3
theorem sc_Come_str : FnScope ["self"] ["self"] (defScope s_Come_str) := ⟨rfl, rfl, rfl, by decide +kernel, rfl, by decide +kernel, by decide +kernel⟩
abbrev s_Go_init : Stmt := inClass (topS 11) 0
theorem sc_Go_init : FnScope ["self", "kind", "bay"] ["self", "kind", "bay"] (defScope s_Go_init) := ⟨rfl, rfl, rfl, by decide +kernel, rfl, by decide +kernel, by decide +kernel⟩
abbrev s_Go_parts : Stmt := inClass (topS 11) 1
theorem sc_Go_parts : FnScope ["self"] ["self"] (defScope s_Go_parts) := ⟨rfl, rfl, rfl, by decide +kernel, rfl, by decide +kernel, by decide +kernel⟩
abbrev s_Go_eq : Stmt := inClass (topS 11) 2
theorem sc_Go_eq : FnScope ["self", "other"] ["self", "other"] (defScope s_Go_eq) := ⟨rfl, rfl, rfl, by decide +kernel, rfl, by decide +kernel, by decide +kernel⟩
abbrev s_Go_str : Stmt := inClass (topS 11) 3
theorem sc_Go_str : FnScope ["self"] ["self"] (defScope s_Go_str) := ⟨rfl, rfl, rfl, by decide +kernel, rfl, by decide +kernel, by decide +kernel⟩
abbrev s_BadName_init : Stmt := inClass (topS 2) 0
theorem sc_BadName_init : FnSup ["self", "value"] ["self", "value"] (defScope s_BadName_init) := fnSup_by (by decide +kernel)
section
variable (K : PySem.W.Frag)
abbrev cB : Addr := He.ga K "BadName"
abbrev cN : Addr := He.ga K "NextError"
abbrev cC : Addr := He.ga K "Come"
abbrev cG : Addr := He.ga K "Go"
abbrev cD : Addr := He.ga K "Deed"
abbrev fB : Addr := He.ma K (cB K) "__init__"
abbrev iC : Addr := He.ma K (cC K) "__init__"
abbrev iG : Addr := He.ma K (cG K) "__init__"
abbrev eC : Addr := He.ma K (cC K) "__eq__"
abbrev eG : Addr := He.ma K (cG K) "__eq__"
abbrev zC : Addr := He.ma K (cC K) "__str__"
abbrev zG : Addr := He.ma K (cG K) "__str__"
abbrev pC : Addr := He.ma K (cC K) "parts"
abbrev pG : Addr := He.ma K (cG K) "parts"
end
/-- what isinstance asks of a class -/
structure InsC (K : PySem.W.Frag) (C : Addr) : Prop where
  ha : PySem.W.findIn K (.ref C) "__class__" = some (some (.builtin "object.__class__"))
  hn : PySem.W.specialIn K (.builtin "object.__class__") "__get__" = some (some (.builtin "getset_descriptor.__get__"))
  ht : PySem.W.takesIn K (.builtin "object.__class__") = some true
  hm : PySem.W.mroIn K C (.type "object") = some true
def tys : List String := ["NoneType", "str", "tuple", "int", "list"]
/-- what the written part says of the classes -/
structure Tx2 (K : PySem.W.Frag) (gC gG : Addr) : Prop where
  exc : SupX K (cB K)
  xf : XfC K (cB K)
  naB : PySem.W.findIn K (.ref (cB K)) "value" = some none
  iB : PySem.W.findIn K (.ref (cB K)) "__init__" = some (some (.ref (fB K)))
  tB : PySem.W.typeIn K (.ref (fB K)) = some (.type "function")
  dB : ∃ cd, PySem.W.clsIn K (cB K) = some cd
  exm : PySem.W.exmOne K (.ref (cB K)) (.ref (cB K)) = some true
  isN : PySem.W.kitOne K (.ref (cB K)) (.ref (cN K)) = some true
  mkC : Mk K (cC K) (iC K)
  mkG : Mk K (cG K) (iG K)
  clC : Cls K (cC K)
  clG : Cls K (cG K)
  naC : NoAttr K (cC K) "kind"
  naG : NoAttr K (cG K) "kind"
  naG2 : NoAttr K (cG K) "bay"
  prC : PropOf K (cC K) "parts" (pC K) gC
  prG : PropOf K (cG K) "parts" (pG K) gG
  eqC : EqC K (cC K) (eC K)
  eqG : EqC K (cG K) (eG K)
  stC : PySem.W.findIn K (.ref (cC K)) "__str__" = some (some (.ref (zC K)))
  stG : PySem.W.findIn K (.ref (cG K)) "__str__" = some (some (.ref (zG K)))
  sfC : PySem.W.isFn K (.ref (zC K)) = true
  sfG : PySem.W.isFn K (.ref (zG K)) = true
  inC : InsC K (cC K)
  inG : InsC K (cG K)
  kitC : ∀ t ∈ tys, PySem.W.kitOne K (.type t) (.ref (cC K)) = some false
  kitG : ∀ t ∈ tys, PySem.W.kitOne K (.type t) (.ref (cG K)) = some false
  kCC : PySem.W.kitOne K (.ref (cC K)) (.ref (cC K)) = some true
  kGG : PySem.W.kitOne K (.ref (cG K)) (.ref (cG K)) = some true
  kCG : PySem.W.kitOne K (.ref (cC K)) (.ref (cG K)) = some false
  kGC : PySem.W.kitOne K (.ref (cG K)) (.ref (cC K)) = some false
  kCD : PySem.W.kitOne K (.ref (cC K)) (.ref (cD K)) = some true
  kGD : PySem.W.kitOne K (.ref (cG K)) (.ref (cD K)) = some true
  nfC : ∀ t ∈ tys, PySem.W.notFirst K (cC K) (.type t) = true
  nfG : ∀ t ∈ tys, PySem.W.notFirst K (cG K) (.type t) = true
  nCC : PySem.W.notFirst K (cC K) (.ref (cC K)) = true
  nGG : PySem.W.notFirst K (cG K) (.ref (cG K)) = true
  nCG : PySem.W.notFirst K (cC K) (.ref (cG K)) = true
  nGC : PySem.W.notFirst K (cG K) (.ref (cC K)) = true
/-- the module's names and defs, of the classes -/
structure Tx3 (K : PySem.W.Frag) (gC gG : Addr) (mg : Str → Option Value) : Prop where
  n_super : mg "super" = none
  n_repr : mg "repr" = none
  g_BadName : mg "BadName" = some (.ref (cB K))
  g_NextError : mg "NextError" = some (.ref (cN K))
  g_Come : mg "Come" = some (.ref (cC K))
  g_Go : mg "Go" = some (.ref (cG K))
  g_Deed : mg "Deed" = some (.ref (cD K))
  d_need_name : ∃ f, FnP K "need_name" s_need_name f ∧ mg "need_name" = some (.ref f)
  d_BadName_init : SupD K "__init__" "BadName.__init__" s_BadName_init (fB K) (cB K) "/claim/cut.py"
  d_Come_init : ∃ fd, FunD K "__init__" "Come.__init__" (defArgs s_Come_init) (defBody s_Come_init) (defScope s_Come_init) [] [] (iC K) fd
  d_Come_parts : ∃ fd, FunD K "parts" "Come.parts" (defArgs s_Come_parts) (defBody s_Come_parts) (defScope s_Come_parts) [] [] gC fd
  d_Come_eq : ∃ fd, FunD K "__eq__" "Come.__eq__" (defArgs s_Come_eq) (defBody s_Come_eq) (defScope s_Come_eq) [] [] (eC K) fd
  d_Come_str : ∃ fd, FunD K "__str__" "Come.__str__" (defArgs s_Come_str) (defBody s_Come_str) (defScope s_Come_str) [] [] (zC K) fd
  d_Go_init : ∃ fd, FunD K "__init__" "Go.__init__" (defArgs s_Go_init) (defBody s_Go_init) (defScope s_Go_init) [] [] (iG K) fd
  d_Go_parts : ∃ fd, FunD K "parts" "Go.parts" (defArgs s_Go_parts) (defBody s_Go_parts) (defScope s_Go_parts) [] [] gG fd
  d_Go_eq : ∃ fd, FunD K "__eq__" "Go.__eq__" (defArgs s_Go_eq) (defBody s_Go_eq) (defScope s_Go_eq) [] [] (eG K) fd
  d_Go_str : ∃ fd, FunD K "__str__" "Go.__str__" (defArgs s_Go_str) (defBody s_Go_str) (defScope s_Go_str) [] [] (zG K) fd
abbrev PP : Program := PySem.Challenge.pw_nextkind_k31_deeds_made
/-! ### names -/
def nameV : V → Bool
  | .str x => nameB x
  | _ => false
def Nv (K : PySem.W.Frag) (H : Hp) (v : V) : Prop := (∃ x : Str, v = .str x ∧ x.length ≤ 90000) ∨ (∃ T, TyX K H v (.type T) ∧ kitB T "str" = some false)
theorem nv_false {K : PySem.W.Frag} {H : Hp} {v : V} {T : String} (t : TyX K H v (.type T)) (k : kitB T "str" = some false) : nameV v = false := by
  cases v with
  | str x =>
    cases t with
    | base b =>
      cases b
      exact absurd k (by decide +kernel)
  | _ => rfl
section
variable {w : World} {K : PySem.W.Frag} {mg : Str → Option Value} {base : Heap} {gC gG : Addr}
def spIs (K : PySem.W.Frag) : Sp := fun vs H Q _ => ∃ v, vs = [v] ∧ Nv K H v ∧ ∀ H', Same H H' → Q (.bl (nameV v)) H'
theorem df_is (T : Txt K mg) : Df PP w K mg base "is_name" 1 ["value"] (spIs K) := (df_is_name T).imp fun vs H Q E h => by
  obtain ⟨v, rfl, (⟨x, rfl, hx⟩ | ⟨T, t, k⟩), q⟩ := h
  · exact ⟨_, rfl, .inl ⟨x, rfl, hx, q⟩⟩
  · refine ⟨_, rfl, .inr ⟨T, t, k, ?_⟩⟩
    rw [← nv_false t k]
    exact q H (Same.refl H)
theorem fo_BadName (U : Tx2 K gC gG) (T2 : Tx3 K gC gG mg) : Fo PP w K mg base (fB K) 1 ["self", "value"] (spExc1 (cB K) "value") := by
  refine T2.d_BadName_init.ok sc_BadName_init (fun vs H Q E h => ?_) (fun _ _ _ _ _ _ _ us hl => match us, hl with | [_, _], _ => rfl) (sf := "self") rfl rfl (by decide +kernel) (by decide +kernel) T2.n_super (by decide +kernel) (by decide +kernel) (by decide +kernel) rfl U.dB (fun cc cdv A outer s H vs Q E S hr h => ?_)
  · obtain ⟨a, v, rfl, _⟩ := h
    rfl
  · obtain ⟨a, v, rfl, ha, k⟩ := h
    refine ⟨_, pscs_cons (psc_superX S U.exc (pa_cons (pv 1) pa_nil)) (pscs_of (pss_one (ps_ost (pv 0) (pv 1)))), ?_⟩
    refine ⟨a, rfl, ha, ?_⟩
    walk_at "r"
    refine ⟨by simp, ha, ?_⟩
    walk_at "r"
    exact ⟨v, rfl, .ref a, rfl, a, cB K, rfl, U.exc.T, U.naB, .inl ⟨ha, fun dx h1 h2 => k dx h1 h2⟩⟩
/-- need_name: what it lets, and what not -/
def spNeed (K : PySem.W.Frag) : Sp := fun vs H Q E => ∃ v, vs = [v] ∧ Nv K H v ∧ (nameV v = true → ∀ H', Same H H' → Q .non H') ∧ (nameV v = false → ∀ d H', Same H H' → H' d = some (.xd [("value", v)]) → E (.ref (cB K)) (some d) H')
theorem df_need_name (T : Txt K mg) (U : Tx2 K gC gG) (T2 : Tx3 K gC gG mg) : Df PP w K mg base "need_name" 3 ["value"] (spNeed K) := by
  obtain ⟨f, F, hm⟩ := T2.d_need_name
  have G_is_name : Df PP w K mg base "is_name" 1 _ _ := df_is T
  have GB : Fo PP w K mg base (fB K) 1 _ _ := fo_BadName U T2
  refine df_mk F hm sc_need_name (fun _ _ _ _ _ _ us hl => match us, hl with | [_], _ => rfl) (fun vs H Q E h => ?_) (fun cdv A outer s H vs Q E hr h => ?_)
  · obtain ⟨v, rfl, _⟩ := h
    rfl
  · obtain ⟨v, rfl, hv, k1, k2⟩ := h
    refine ⟨_, (pss_one (ps_if (pt_not (pt_val (pe_df G_is_name hr (by decide) (by rfl) (takes_of rfl rfl rfl rfl) (pa_cons (pv 0) pa_nil)))) (pss_one (ps_raise rfl (takes_of rfl rfl rfl rfl) (pmk_ex U.exc.T U.iB U.tB GB hr (by decide) rfl T2.g_BadName (pa_cons (pv 0) pa_nil)))) pss_nil)), ?_⟩
    try dsimp only [cxOf]
    walk_at "r"
    refine ⟨v, rfl, hv, fun H1 s1 => ?_⟩
    walk_at "r"
    cases e : nameV v with
    | true =>
      walk_at "r"
      exact k1 e H1 s1
    | false =>
      walk_at "r"
      exact ⟨v, rfl, r_mkO1 fun d H' s2 hd => k2 e d H' (s1.trans s2) hd⟩
end
end Nk

namespace Nk
open PySem PySem.Spec PyProof.Rows L2
local macro_rules | `(tactic| walk_at "r1") => `(tactic| with_reducible first
  | refine r_var rfl ?_ | refine r_c ?_ | refine r_seq ?_ | refine r_asgN ?_ | refine r_op ?_ | refine r_cb ?_ | refine r_cons ?_ | refine r_nil ?_
  | refine r_ret ?_ | refine r_ifS ?_ | refine r_I0 ?_ | refine r_test ?_ | refine r_B ?_ | refine r_k ?_ | refine r_not ?_ | refine r_and ?_ | refine r_or ?_
  | refine r_andV ?_ | refine r_orV ?_ | refine r_notV ?_ | refine r_if ?_ | refine r_chain ?_ | refine r_df ?_ | refine r_lst ?_ | refine r_tup ?_ | refine r_asg ?_ | refine r_gsub ?_ | refine r_drop ?_ | refine r_retN ?_ | refine r_next ?_ | refine r_bm ?_ | refine r_un ?_
  | refine r_gN ?_ | refine r_yes ?_ | refine r_lc ?_ | refine r_for ?_ | refine r_iStr ?_ | refine r_iList ?_ | refine r_iTup ?_ | refine r_iRng1 ?_ | refine r_xstr ?_ | refine r_xref ?_ | refine r_xint ?_ | refine r_xints ?_
  | refine r_m1 ?_ | refine r_isS ?_ | refine r_sl ?_ | refine r_nop ?_ | refine r_part ?_ | refine r_int1 ?_ | refine r_intb ?_ | refine r_iteT ?_ | refine r_iteF ?_ | refine r_iteNF ?_ | refine r_iteNT ?_)
local macro_rules | `(tactic| walk_at "r") => `(tactic| repeat (first | walk_at "r1" | walk_at "r2" | (dsimp only; first | walk_at "r1" | walk_at "r2")))

local macro_rules | `(tactic| walk_at "side") => `(tactic| first | assumption | (show (0 : Int) < _; omega) | exact c_mulL ⟨by omega, by omega⟩ | exact c_mulR ⟨by omega, by omega⟩ | exact c_pow ⟨by omega, by omega⟩ ⟨by omega, by omega⟩ | exact c_divW (by omega) (by omega))
local macro_rules | `(tactic| walk_at "r2") => `(tactic| first
  | ((with_reducible refine' r_I ?c1 ?_); (case c1 => walk_at "side"))
  | ((with_reducible refine' r_eq ?c1 ?_); (case c1 => rfl))
  | ((with_reducible refine' r_ne ?c1 ?_); (case c1 => rfl))
  | ((with_reducible refine' r_ixL ?c1 ?c2 ?_); (case c1 => first | exact SqL.of (by assumption) | assumption); (case c2 => rfl))
  | ((with_reducible refine' r_lenL ?c1 ?_); (case c1 => first | exact SqL.of (by assumption) | assumption))
  | ((with_reducible refine' r_slL ?c1 ?_); (case c1 => first | assumption | exact SqL.of (by assumption))))

local macro_rules | `(tactic| tbr_iter ($p:ident, $hp:ident, $H:ident, $s:ident, $e:ident, $o:ident)) => `(tactic| (intro $p:ident $hp:ident; generalize e0 : upd _ $p _ = $H:ident; have ⟨$s, $e, $o⟩ := Nk.new_facts $hp e0; clear e0))

theorem TyOf.same {K : PySem.W.Frag} {H H' : Hp} {v : V} {t : Value} (h : TyOf K H v t) (s : Same H H') : TyOf K H' v t := by
  cases h with
  | non => exact .non
  | bl x => exact .bl x
  | int i => exact .int i
  | str x => exact .str x
  | flt x => exact .flt x
  | lst e => exact .lst (s _ _ e)
  | frz e => exact .frz (s _ _ e)
  | tup e => exact .tup (s _ _ e)
  | dK e => exact .dK (s _ _ e)
  | dT e => exact .dT (s _ _ e)
  | ins e cl ha hn ht hm => exact .ins (s _ _ e) cl ha hn ht hm
theorem TyX.same {K : PySem.W.Frag} {H H' : Hp} {v : V} {t : Value} (h : TyX K H v t) (s : Same H H') : TyX K H' v t := by
  cases h with
  | base h => exact .base (TyOf.same h s)
  | byt b => exact .byt b
  | set e => exact .set (s _ _ e)
  | kList e c => exact .kList e c
  | kTuple e c => exact .kTuple e c
  | kDict e c => exact .kDict e c
  | fTuple e => exact .fTuple (s _ _ e)
  | fDict e => exact .fDict (s _ _ e)
theorem Nv.same {K : PySem.W.Frag} {H H' : Hp} {v : V} (h : Nv K H v) (s : Same H H') : Nv K H' v := by
  rcases h with h | ⟨T, t, k⟩
  · exact .inl h
  · exact .inr ⟨T, TyX.same t s, k⟩
section
variable {w : World} {K : PySem.W.Frag} {mg : Str → Option Value} {base : Heap} {gC gG : Addr}
/-- the error of need_name -/
def BadN (K : PySem.W.Frag) (v : V) (E : XK) (H : Hp) (S : Hp → Prop) : Prop := ∀ d H', S H' → H' d = some (.xd [("value", v)]) → E (.ref (cB K)) (some d) H'
def spComeI (K : PySem.W.Frag) : Sp := fun vs H Q E => ∃ (a dx : Addr) (v : V), vs = [.ref a, v] ∧ H a = some (.ins (cC K) dx []) ∧ Nv K H v ∧ (nameV v = true → ∀ H', Kp a H H' → H' a = some (.ins (cC K) dx [("kind", v)]) → Q .non H') ∧ (nameV v = false → BadN K v E H (Kp a H))
def spGoI (K : PySem.W.Frag) : Sp := fun vs H Q E => ∃ (a dx : Addr) (v u : V), vs = [.ref a, v, u] ∧ H a = some (.ins (cG K) dx []) ∧ Nv K H v ∧ Nv K H u ∧ (nameV v = true → nameV u = true → ∀ H', Kp a H H' → H' a = some (.ins (cG K) dx [("kind", v), ("bay", u)]) → Q .non H') ∧
  (nameV v = false → BadN K v E H (Kp a H)) ∧ (nameV v = true → nameV u = false → BadN K u E H (Kp a H))
theorem ok_Come_init (T : Txt K mg) (U : Tx2 K gC gG) (T2 : Tx3 K gC gG mg) {f : Addr} (fd : FuncData) (F : FunD K "__init__" "Come.__init__" (defArgs s_Come_init) (defBody s_Come_init) (defScope s_Come_init) [] [] f fd) : FnOk PP w K mg base (L2.CX PP w) 4 f fd ["self", "kind"] (spComeI K) := by
  have G_need_name : Df PP w K mg base "need_name" 3 _ _ := df_need_name T U T2
  refine F.ok sc_Come_init (fun vs H Q E h => ?_) (fun cdv A outer s H vs Q E hr h => ?_)
  · obtain ⟨a, dx, v, rfl, _⟩ := h
    rfl
  · obtain ⟨a, dx, v, rfl, ha, hv, k1, k2⟩ := h
    refine ⟨_, (pss_cons (ps_expr (pe_df G_need_name hr (by decide) (by rfl) (takes_of rfl rfl rfl rfl) (pa_cons (pv 1) pa_nil)))
    (pss_one (ps_fld (pv 0) (pv 1) rfl))), ?_⟩
    dsimp only [cxOf]
    walk_at "r"
    refine ⟨v, rfl, hv, fun e H1 s1 => ?_, fun e d H1 s1 hd => k2 e d H1 (Kp.same s1) hd⟩
    walk_at "r"
    exact ⟨v, rfl, .ref a, rfl, a, cC K, dx, [], rfl, s1 _ _ ha, U.clC, U.naC, by decide, k1 e _ ((Kp.same s1).upd) upd_same⟩
theorem fo_Come_init (T : Txt K mg) (U : Tx2 K gC gG) (T2 : Tx3 K gC gG mg) : Fo PP w K mg base (iC K) 4 ["self", "kind"] (spComeI K) := by
  obtain ⟨fd, F⟩ := T2.d_Come_init
  exact ⟨fd, ok_Come_init T U T2 fd F, F.bindsN (fun _ _ _ _ _ _ us hl => match us, hl with | [_, _], _ => rfl)⟩
theorem ok_Go_init (T : Txt K mg) (U : Tx2 K gC gG) (T2 : Tx3 K gC gG mg) {f : Addr} (fd : FuncData) (F : FunD K "__init__" "Go.__init__" (defArgs s_Go_init) (defBody s_Go_init) (defScope s_Go_init) [] [] f fd) : FnOk PP w K mg base (L2.CX PP w) 4 f fd ["self", "kind", "bay"] (spGoI K) := by
  have G_need_name : Df PP w K mg base "need_name" 3 _ _ := df_need_name T U T2
  refine F.ok sc_Go_init (fun vs H Q E h => ?_) (fun cdv A outer s H vs Q E hr h => ?_)
  · obtain ⟨a, dx, v, u, rfl, _⟩ := h
    rfl
  · obtain ⟨a, dx, v, u, rfl, ha, hv, hu, k1, k2, k3⟩ := h
    refine ⟨_, (pss_cons (ps_expr (pe_df G_need_name hr (by decide) (by rfl) (takes_of rfl rfl rfl rfl) (pa_cons (pv 1) pa_nil)))
    (pss_cons (ps_expr (pe_df G_need_name hr (by decide) (by rfl) (takes_of rfl rfl rfl rfl) (pa_cons (pv 2) pa_nil)))
    (pss_cons (ps_fld (pv 0) (pv 1) rfl)
    (pss_one (ps_fld (pv 0) (pv 2) rfl))))), ?_⟩
    dsimp only [cxOf]
    walk_at "r"
    refine ⟨v, rfl, hv, fun e H1 s1 => ?_, fun e d H1 s1 hd => k2 e d H1 (Kp.same s1) hd⟩
    walk_at "r"
    refine ⟨u, rfl, hu.same s1, fun e2 H2 s2 => ?_, fun e2 d H2 s2 hd => k3 e e2 d H2 (Kp.same (s1.trans s2)) hd⟩
    walk_at "r"
    refine ⟨v, rfl, .ref a, rfl, a, cG K, dx, [], rfl, s2 _ _ (s1 _ _ ha), U.clG, U.naG, by decide, ?_⟩
    walk_at "r"
    exact ⟨u, rfl, .ref a, rfl, a, cG K, dx, [("kind", v)], rfl, upd_same, U.clG, U.naG2, by simp, k1 e e2 _ ((Kp.same (s1.trans s2)).upd.upd) upd_same⟩
theorem fo_Go_init (T : Txt K mg) (U : Tx2 K gC gG) (T2 : Tx3 K gC gG mg) : Fo PP w K mg base (iG K) 4 ["self", "kind", "bay"] (spGoI K) := by
  obtain ⟨fd, F⟩ := T2.d_Go_init
  exact ⟨fd, ok_Go_init T U T2 fd F, F.bindsN (fun _ _ _ _ _ _ us hl => match us, hl with | [_, _, _], _ => rfl)⟩
theorem fok_Come (T : Txt K mg) (U : Tx2 K gC gG) (T2 : Tx3 K gC gG mg) : FoK PP w K mg base (iC K) 4 ["self", "kind"] (spComeI K) 1 ["kind"] (fun us ws => us ++ ws) :=
  fok_mk (fun us ws => us ++ ws) T2.d_Come_init (fun r s => r.append s) (fun _ _ _ _ _ _ us ws h1 h2 => match us, h1, ws, h2 with | [_], _, [_], _ => rfl) (fun fd F => ok_Come_init T U T2 fd F)
def gGo {α : Type} (us ws : List α) : List α := match us, ws with
  | [a], [b, k] => [a, k, b]
  | _, _ => []
theorem gGo_rel {vs zs : List V} {us ws : List Value} (r : Vals vs us) (s : Vals zs ws) : Vals (gGo vs zs) (gGo us ws) := by
  cases r with
  | nil => exact .nil
  | cons r1 r2 =>
    cases r2 with
    | cons _ _ => cases s <;> exact .nil
    | nil =>
      cases s with
      | nil => exact .nil
      | cons s1 s2 =>
        cases s2 with
        | nil => exact .nil
        | cons s2 s3 =>
          cases s3 with
          | nil => exact .cons r1 (.cons s2 (.cons s1 .nil))
          | cons _ _ => exact .nil
theorem fok_Go (T : Txt K mg) (U : Tx2 K gC gG) (T2 : Tx3 K gC gG mg) : FoK PP w K mg base (iG K) 4 ["self", "kind", "bay"] (spGoI K) 1 ["bay", "kind"] (fun us ws => gGo us ws) :=
  fok_mk gGo T2.d_Go_init gGo_rel (fun _ _ _ _ _ _ us ws h1 h2 => match us, h1, ws, h2 with | [_], _, [_, _], _ => rfl) (fun fd F => ok_Go_init T U T2 fd F)
/-! ### parts, ==, str -/
def isC (K : PySem.W.Frag) (H : Hp) (a : Addr) (x : Str) : Prop := ∃ dx, H a = some (.ins (cC K) dx [("kind", .str x)])
def isG (K : PySem.W.Frag) (H : Hp) (a : Addr) (x y : Str) : Prop := ∃ dx, H a = some (.ins (cG K) dx [("kind", .str x), ("bay", .str y)])
def spPartsC (K : PySem.W.Frag) : Sp := fun vs H Q _ => ∃ (a : Addr) (x : Str), vs = [.ref a] ∧ isC K H a x ∧ ∀ p, H p = none → Q (.ref p) (upd H p (.tup [.str "come", .str x]))
def spPartsG (K : PySem.W.Frag) : Sp := fun vs H Q _ => ∃ (a : Addr) (x y : Str), vs = [.ref a] ∧ isG K H a x y ∧ ∀ p, H p = none → Q (.ref p) (upd H p (.tup [.str "go", .str x, .str y]))
theorem fo_Come_parts (U : Tx2 K gC gG) (T2 : Tx3 K gC gG mg) : Fo PP w K mg base gC 1 ["self"] (spPartsC K) := by
  refine fo_mk T2.d_Come_parts sc_Come_parts (fun _ _ _ _ _ _ us hl => match us, hl with | [_], _ => rfl) (fun vs H Q E h => ?_) (fun cdv A outer s H vs Q E hr h => ?_)
  · obtain ⟨a, x, rfl, _⟩ := h
    rfl
  · obtain ⟨a, x, rfl, ⟨dx, ha⟩, k⟩ := h
    refine ⟨_, (pss_one (ps_ret (pe_tup (pa_cons pe_str (pa_cons (pe_fld (pv 0) rfl) pa_nil))))), ?_⟩
    dsimp only [cxOf]
    walk_at "r"
    refine ⟨.ref a, rfl, a, cC K, dx, _, _, rfl, ha, U.clC, U.naC, rfl, ?_⟩
    walk_at "r"
    exact ⟨r_size (by simp), k⟩
theorem fo_Go_parts (U : Tx2 K gC gG) (T2 : Tx3 K gC gG mg) : Fo PP w K mg base gG 1 ["self"] (spPartsG K) := by
  refine fo_mk T2.d_Go_parts sc_Go_parts (fun _ _ _ _ _ _ us hl => match us, hl with | [_], _ => rfl) (fun vs H Q E h => ?_) (fun cdv A outer s H vs Q E hr h => ?_)
  · obtain ⟨a, x, y, rfl, _⟩ := h
    rfl
  · obtain ⟨a, x, y, rfl, ⟨dx, ha⟩, k⟩ := h
    refine ⟨_, (pss_one (ps_ret (pe_tup (pa_cons pe_str (pa_cons (pe_fld (pv 0) rfl) (pa_cons (pe_fld (pv 0) rfl) pa_nil)))))), ?_⟩
    dsimp only [cxOf]
    walk_at "r"
    refine ⟨.ref a, rfl, a, cG K, dx, _, _, rfl, ha, U.clG, U.naG, rfl, ?_⟩
    walk_at "r"
    refine ⟨.ref a, rfl, a, cG K, dx, _, _, rfl, ha, U.clG, U.naG2, rfl, ?_⟩
    walk_at "r"
    exact ⟨r_size (by simp), k⟩
theorem isC.ty {H : Hp} {a : Addr} {x : Str} (U : Tx2 K gC gG) (h : isC K H a x) : TyX K H (.ref a) (.ref (cC K)) := by
  obtain ⟨dx, h⟩ := h
  exact .base (.ins h U.clC U.inC.ha U.inC.hn U.inC.ht U.inC.hm)
theorem isG.ty {H : Hp} {a : Addr} {x y : Str} (U : Tx2 K gC gG) (h : isG K H a x y) : TyX K H (.ref a) (.ref (cG K)) := by
  obtain ⟨dx, h⟩ := h
  exact .base (.ins h U.clG U.inG.ha U.inG.hn U.inG.ht U.inG.hm)
def spEqC (K : PySem.W.Frag) : Sp := fun vs H Q _ => ∃ (a : Addr) (x : Str) (y : V), vs = [.ref a, y] ∧ isC K H a x ∧ ((∃ b z, y = .ref b ∧ isC K H b z ∧ Q (.bl (decide (V.str x = V.str z))) H) ∨ ∃ tb, TyX K H y tb ∧ PySem.W.kitOne K tb (.ref (cC K)) = some false ∧ Q (.bl false) H)
def spEqG (K : PySem.W.Frag) : Sp := fun vs H Q _ => ∃ (a : Addr) (x x2 : Str) (y : V), vs = [.ref a, y] ∧ isG K H a x x2 ∧ ((∃ b z z2, y = .ref b ∧ isG K H b z z2 ∧ Q (.bl (decide (V.str x = V.str z) && decide (V.str x2 = V.str z2))) H) ∨ ∃ tb, TyX K H y tb ∧ PySem.W.kitOne K tb (.ref (cG K)) = some false ∧ Q (.bl false) H)
theorem fo_Come_eq (T : Txt K mg) (U : Tx2 K gC gG) (T2 : Tx3 K gC gG mg) : Fo PP w K mg base (eC K) 1 ["self", "other"] (spEqC K) := by
  refine fo_mk T2.d_Come_eq sc_Come_eq (fun _ _ _ _ _ _ us hl => match us, hl with | [_, _], _ => rfl) (fun vs H Q E h => ?_) (fun cdv A outer s H vs Q E hr h => ?_)
  · obtain ⟨a, x, y, rfl, _⟩ := h
    rfl
  · obtain ⟨a, x, y, rfl, ha, h⟩ := h
    refine ⟨_, (pss_one (ps_ret (pe_and (pe_callB call_isi (by rfl) T.n_isinstance (by decide +kernel) (pa_cons (pv 1) (pa_cons (pe_glob (v := .ref _) rfl T2.g_Come rfl) pa_nil))) (pe_one (pe_cmpR op_eq (pe_fld (pv 0) rfl) (pe_fld (pv 1) rfl) (nomark _)))))), ?_⟩
    dsimp only [cxOf]
    walk_at "r"
    rcases h with ⟨b, z, rfl, hb, k⟩ | ⟨tb, ty, kt, k⟩
    · refine ⟨_, _, _, _, _, rfl, .own (cC K), isC.ty U hb, U.kCC, ?_⟩
      walk_at "r"
      obtain ⟨dx, ha⟩ := ha
      obtain ⟨dy, hb⟩ := hb
      refine ⟨_, rfl, a, _, dx, _, _, rfl, ha, U.clC, U.naC, rfl, ?_⟩
      walk_at "r"
      refine ⟨_, rfl, b, _, dy, _, _, rfl, hb, U.clC, U.naC, rfl, ?_⟩
      walk_at "r"
      exact k
    · refine ⟨_, _, _, _, _, rfl, .own (cC K), ty, kt, ?_⟩
      walk_at "r"
      exact k
theorem fo_Go_eq (T : Txt K mg) (U : Tx2 K gC gG) (T2 : Tx3 K gC gG mg) : Fo PP w K mg base (eG K) 1 ["self", "other"] (spEqG K) := by
  refine fo_mk T2.d_Go_eq sc_Go_eq (fun _ _ _ _ _ _ us hl => match us, hl with | [_, _], _ => rfl) (fun vs H Q E h => ?_) (fun cdv A outer s H vs Q E hr h => ?_)
  · obtain ⟨a, x, x2, y, rfl, _⟩ := h
    rfl
  · obtain ⟨a, x, x2, y, rfl, ha, h⟩ := h
    refine ⟨_, (pss_one (ps_ret (pe_and (pe_callB call_isi (by rfl) T.n_isinstance (by decide +kernel) (pa_cons (pv 1) (pa_cons (pe_glob (v := .ref _) rfl T2.g_Go rfl) pa_nil))) (pe_and (pe_cmpR op_eq (pe_fld (pv 0) rfl) (pe_fld (pv 1) rfl) (nomark _)) (pe_one (pe_cmpR op_eq (pe_fld (pv 0) rfl) (pe_fld (pv 1) rfl) (nomark _))))))), ?_⟩
    dsimp only [cxOf]
    walk_at "r"
    rcases h with ⟨b, z, z2, rfl, hb, k⟩ | ⟨tb, ty, kt, k⟩
    · refine ⟨_, _, _, _, _, rfl, .own (cG K), isG.ty U hb, U.kGG, ?_⟩
      walk_at "r"
      obtain ⟨dx, ha⟩ := ha
      obtain ⟨dy, hb⟩ := hb
      refine ⟨_, rfl, a, _, dx, _, _, rfl, ha, U.clG, U.naG, rfl, ?_⟩
      walk_at "r"
      refine ⟨_, rfl, b, _, dy, _, _, rfl, hb, U.clG, U.naG, rfl, ?_⟩
      walk_at "r"
      cases e1 : decide (V.str x = V.str z) with
      | true =>
        rw [e1, Bool.true_and] at k
        walk_at "r"
        refine ⟨_, rfl, a, _, dx, _, _, rfl, ha, U.clG, U.naG2, rfl, ?_⟩
        walk_at "r"
        refine ⟨_, rfl, b, _, dy, _, _, rfl, hb, U.clG, U.naG2, rfl, ?_⟩
        walk_at "r"
        exact k
      | false =>
        rw [e1, Bool.false_and] at k
        walk_at "r"
        exact k
    · refine ⟨_, _, _, _, _, rfl, .own (cG K), ty, kt, ?_⟩
      walk_at "r"
      exact k
def spStrC (K : PySem.W.Frag) : Sp := fun vs H Q _ => ∃ (a : Addr) (x : Str), vs = [.ref a] ∧ isC K H a x ∧ x.length ≤ 1000 ∧ Q (.str ("come " ++ x)) H
def spStrG (K : PySem.W.Frag) : Sp := fun vs H Q _ => ∃ (a : Addr) (x y : Str), vs = [.ref a] ∧ isG K H a x y ∧ x.length ≤ 1000 ∧ y.length ≤ 1000 ∧ Q (.str ("go " ++ x ++ " " ++ y)) H
theorem fo_Come_str (U : Tx2 K gC gG) (T2 : Tx3 K gC gG mg) : Fo PP w K mg base (zC K) 1 ["self"] (spStrC K) := by
  refine fo_mk T2.d_Come_str sc_Come_str (fun _ _ _ _ _ _ us hl => match us, hl with | [_], _ => rfl) (fun vs H Q E h => ?_) (fun cdv A outer s H vs Q E hr h => ?_)
  · obtain ⟨a, x, rfl, _⟩ := h
    rfl
  · obtain ⟨a, x, rfl, ⟨dx, ha⟩, hx, k⟩ := h
    refine ⟨_, (pss_one (ps_ret (pe_joined (.cons pe_str (.cons (pe_fmt (pe_fld (pv 0) rfl)) .nil))))), ?_⟩
    dsimp only [cxOf]
    walk_at "r"
    refine ⟨"come ", rfl, by decide +kernel, .ref a, rfl, a, cC K, dx, _, _, rfl, ha, U.clC, U.naC, rfl, .inl ⟨x, rfl, r_size (by omega), x, rfl, ?_, ?_⟩⟩
    · refine r_size ?_
      rw [str_nil, str_len]
      have : (Str.ofString "come ").length = 5 := by decide +kernel
      omega
    · rw [str_nil]
      exact k
theorem fo_Go_str (U : Tx2 K gC gG) (T2 : Tx3 K gC gG mg) : Fo PP w K mg base (zG K) 1 ["self"] (spStrG K) := by
  refine fo_mk T2.d_Go_str sc_Go_str (fun _ _ _ _ _ _ us hl => match us, hl with | [_], _ => rfl) (fun vs H Q E h => ?_) (fun cdv A outer s H vs Q E hr h => ?_)
  · obtain ⟨a, x, y, rfl, _⟩ := h
    rfl
  · obtain ⟨a, x, y, rfl, ⟨dx, ha⟩, hx, hy, k⟩ := h
    have l1 : (Str.ofString "go ").length = 3 := by decide +kernel
    have l2 : (Str.ofString " ").length = 1 := by decide +kernel
    refine ⟨_, (pss_one (ps_ret (pe_joined (.cons pe_str (.cons (pe_fmt (pe_fld (pv 0) rfl)) (.cons pe_str (.cons (pe_fmt (pe_fld (pv 0) rfl)) .nil))))))), ?_⟩
    dsimp only [cxOf]
    walk_at "r"
    refine ⟨"go ", rfl, by decide +kernel, .ref a, rfl, a, cG K, dx, _, _, rfl, ha, U.clG, U.naG, rfl, .inl ⟨x, rfl, r_size (by omega), x, rfl, ?_, ?_⟩⟩
    · refine r_size ?_
      rw [str_nil, str_len]
      omega
    · rw [str_nil]
      refine ⟨" ", rfl, ?_, .ref a, rfl, a, cG K, dx, _, _, rfl, ha, U.clG, U.naG2, rfl, .inl ⟨y, rfl, r_size (by omega), y, rfl, ?_, k⟩⟩
      · refine r_size ?_
        rw [str_len, str_len]
        omega
      · refine r_size ?_
        rw [str_len, str_len, str_len]
        omega
end
end Nk

namespace Nk
open PySem PySem.Spec PyProof.Rows L2
local macro_rules | `(tactic| walk_at "r1") => `(tactic| with_reducible first
  | refine r_var rfl ?_ | refine r_c ?_ | refine r_seq ?_ | refine r_asgN ?_ | refine r_op ?_ | refine r_cb ?_ | refine r_cons ?_ | refine r_nil ?_
  | refine r_ret ?_ | refine r_ifS ?_ | refine r_I0 ?_ | refine r_test ?_ | refine r_B ?_ | refine r_k ?_ | refine r_not ?_ | refine r_and ?_ | refine r_or ?_
  | refine r_andV ?_ | refine r_orV ?_ | refine r_notV ?_ | refine r_if ?_ | refine r_chain ?_ | refine r_df ?_ | refine r_lst ?_ | refine r_tup ?_ | refine r_asg ?_ | refine r_gsub ?_ | refine r_drop ?_ | refine r_retN ?_ | refine r_next ?_ | refine r_bm ?_ | refine r_un ?_
  | refine r_gN ?_ | refine r_yes ?_ | refine r_lc ?_ | refine r_for ?_ | refine r_iStr ?_ | refine r_iList ?_ | refine r_iTup ?_ | refine r_iRng1 ?_ | refine r_xstr ?_ | refine r_xref ?_ | refine r_xint ?_ | refine r_xints ?_
  | refine r_m1 ?_ | refine r_isS ?_ | refine r_sl ?_ | refine r_nop ?_ | refine r_part ?_ | refine r_int1 ?_ | refine r_intb ?_ | refine r_iteT ?_ | refine r_iteF ?_ | refine r_iteNF ?_ | refine r_iteNT ?_)
local macro_rules | `(tactic| walk_at "r") => `(tactic| repeat (first | walk_at "r1" | walk_at "r2" | (dsimp only; first | walk_at "r1" | walk_at "r2")))

local macro_rules | `(tactic| walk_at "side") => `(tactic| first | assumption | (show (0 : Int) < _; omega) | exact c_mulL ⟨by omega, by omega⟩ | exact c_mulR ⟨by omega, by omega⟩ | exact c_pow ⟨by omega, by omega⟩ ⟨by omega, by omega⟩ | exact c_divW (by omega) (by omega))
local macro_rules | `(tactic| walk_at "r2") => `(tactic| first
  | ((with_reducible refine' r_I ?c1 ?_); (case c1 => walk_at "side"))
  | ((with_reducible refine' r_eq ?c1 ?_); (case c1 => rfl))
  | ((with_reducible refine' r_ne ?c1 ?_); (case c1 => rfl))
  | ((with_reducible refine' r_ixL ?c1 ?c2 ?_); (case c1 => first | exact SqL.of (by assumption) | assumption); (case c2 => rfl))
  | ((with_reducible refine' r_lenL ?c1 ?_); (case c1 => first | exact SqL.of (by assumption) | assumption))
  | ((with_reducible refine' r_slL ?c1 ?_); (case c1 => first | assumption | exact SqL.of (by assumption))))

local macro_rules | `(tactic| tbr_iter ($p:ident, $hp:ident, $H:ident, $s:ident, $e:ident, $o:ident)) => `(tactic| (intro $p:ident $hp:ident; generalize e0 : upd _ $p _ = $H:ident; have ⟨$s, $e, $o⟩ := Nk.new_facts $hp e0; clear e0))

abbrev s__law_heard : Stmt := topS 17
theorem sc__law_heard : FnScope ["_law_ask", "error"] ["_law_ask"] (defScope s__law_heard) := ⟨rfl, rfl, rfl, by decide +kernel, rfl, by decide +kernel, by decide +kernel⟩
theorem takes_len {X : Cx} {W : WX} (tk : Takes X W) : Takes X (fun c d σ H => σ.length = X.N.length → W c d σ H) := fun u s' x => by
  obtain ⟨a, B, sI, pins, σ, H, cls, d, e, I, nb, up, sky, na, os, ag, w⟩ := x
  exact tk u s' ⟨a, B, sI, pins, σ, H, cls, d, e, I, nb, up, sky, na, os, ag, w I.len⟩
/-- what repr of it is known to be -/
def Shown (K : PySem.W.Frag) (H : Hp) (v : V) (z : Str) : Prop := ∃ d, Dq K H v d ∧ d.showable = true ∧ d.depth ≤ 60 ∧ d.shown.length ≤ sizeLine ∧ z = d.shown
theorem r_repr {K : PySem.W.Frag} {H : Hp} {v : V} {z : Str} {Q : VK} (h : Shown K H v z) (q : Q (.str z) H) : rRepr K [v] H Q := by
  obtain ⟨d, h1, h2, h3, h4, rfl⟩ := h
  exact ⟨v, d, rfl, h1, h2, h3, h4, q⟩
/-- told: the text of the value that the error bears, or None -/
def TTheard (K : PySem.W.Frag) : (XK → Hp → VK → Prop) → Hp → VK → Prop := fun tl H Q =>
  tl (fun cls d H' => cls = .ref (cB K) ∧ ∃ (dd : Addr) (v : V) (z : Str), d = some dd ∧ H' dd = some (.xd [("value", v)]) ∧ Shown K H' v z ∧ Q (.str z) H') H fun _ H' => Q .non H'
theorem heard_gives {X : Cx} {gC gG g : Addr} {cdg : Value} {q : Str} (T : Txt X.K X.mg) (U : Tx2 X.K gC gG) (T2 : Tx3 X.K gC gG X.mg) (hgd : X.A.guards = some []) (hr : Room 6 X.A) :
    LamX.GivesTo X ["_law_ask", "error"] "_law_heard" (defScope s__law_heard) g cdg (defBody s__law_heard) "_law_ask" q (TTheard X.K) := by
  intro f c' s H Q tl act hc h
  have rule : ∀ (a : Addr) (oe : Obj) (pn : List (Addr × Obj)), CallR ((cxOf C8.CX0 X.prog X.w X.K X.mg X.base ["_law_ask", "error"] "_law_heard" (defScope s__law_heard) g cdg X.A X.stack s H C8.E0).nox.suite a ((a, oe) :: pn)) (.builtin "repr") (rRepr X.K) := fun a oe pn => call_reprG hgd (by have := hr.un; show X.A.units + 3 + 64 < cLine; omega)
  refine ⟨_, pss_cons (ps_try_as (X := (cxOf C8.CX0 X.prog X.w X.K X.mg X.base ["_law_ask", "error"] "_law_heard" (defScope s__law_heard) g cdg X.A X.stack s H C8.E0).nox) (i := 1) (n := "error") (c := .ref (cB X.K))
      (tb := fun W D σ H => ∃ Ech : XK, (∀ cls d (σ' : L2.St) H', σ'.length = 2 → Ech cls d H' → W cls d σ' H') ∧ σ[0]? = some (some (.ref f)) ∧ H c' = some (LamX.CodeO c' q) ∧ tl Ech H fun _ H' => D.nx σ H')
      rfl rfl sc__law_heard.nd rfl rfl ⟨rfl, by decide, .inl T2.g_BadName⟩ LamX.takes0 (fun W pn xe tk _ => ?_)
      (fun a oe cls d pn hz hf => pss_one (ps_ret (pe_ifExp (pt_val (pe_callB (call_isT hz) (by rfl) T.n_isinstance (by decide +kernel) (pa_cons (pv 1) (pa_cons (pe_glob (v := .ref (cN X.K)) rfl T2.g_NextError rfl) pa_nil))))
        (pe_callB (rule a oe pn) (by rfl) T2.n_repr (by decide +kernel) (pa_cons (pe_xf U.xf U.naB hz hf (pv 1)) pa_nil)) pe_str)))) (pss_one (ps_ret pe_non)), ?_⟩
  · refine ⟨fun pins s' σ H' D I h' => ?_⟩
    obtain ⟨Ech, hW, h1, h2, h3⟩ := h'
    have hp := fun p1 p2 => act (fun c d σ H => σ.length = 2 → W c d σ H) pn xe Ech p1 p2 (takes_len tk) (fun cls d σ' H' hE hl => hW cls d σ' H' hl hE)
    exact (pss_one (ps_expr (hp _ _))).run pins s' σ H' D I ⟨h1, h2, h3⟩
  · refine ⟨_, fun cls d σ' H' hl hE => ?_, rfl, hc, h⟩
    obtain ⟨rfl, dd, v, z, rfl, hd, hz, hq⟩ := hE
    refine ⟨true, U.exm, fun _ a ha => ?_, fun z => nomatch z⟩
    obtain ⟨x0, x1, rfl⟩ : ∃ x0 x1, σ' = [x0, x1] := match σ', hl with | [x0, x1], _ => ⟨x0, x1, rfl⟩
    dsimp only
    walk_at "r"
    refine ⟨_, _, rfl, rfl, U.isN, ?_⟩
    walk_at "r"
    refine ⟨_, rfl, rfl, rfl, dd, _, v, rfl, hd, rfl, ?_⟩
    walk_at "r"
    exact r_repr hz hq
end Nk

namespace Nk
open PySem PySem.Spec PyProof.Rows L2
local macro_rules | `(tactic| walk_at "r1") => `(tactic| with_reducible first
  | refine r_var rfl ?_ | refine r_c ?_ | refine r_seq ?_ | refine r_asgN ?_ | refine r_op ?_ | refine r_cb ?_ | refine r_cons ?_ | refine r_nil ?_
  | refine r_ret ?_ | refine r_ifS ?_ | refine r_I0 ?_ | refine r_test ?_ | refine r_B ?_ | refine r_k ?_ | refine r_not ?_ | refine r_and ?_ | refine r_or ?_
  | refine r_andV ?_ | refine r_orV ?_ | refine r_notV ?_ | refine r_if ?_ | refine r_chain ?_ | refine r_df ?_ | refine r_lst ?_ | refine r_tup ?_ | refine r_asg ?_ | refine r_gsub ?_ | refine r_drop ?_ | refine r_retN ?_ | refine r_next ?_ | refine r_bm ?_ | refine r_un ?_
  | refine r_gN ?_ | refine r_yes ?_ | refine r_lc ?_ | refine r_for ?_ | refine r_iStr ?_ | refine r_iList ?_ | refine r_iTup ?_ | refine r_iRng1 ?_ | refine r_xstr ?_ | refine r_xref ?_ | refine r_xint ?_ | refine r_xints ?_
  | refine r_m1 ?_ | refine r_isS ?_ | refine r_sl ?_ | refine r_nop ?_ | refine r_part ?_ | refine r_int1 ?_ | refine r_intb ?_ | refine r_iteT ?_ | refine r_iteF ?_ | refine r_iteNF ?_ | refine r_iteNT ?_)
local macro_rules | `(tactic| walk_at "r") => `(tactic| repeat (first | walk_at "r1" | walk_at "r2" | (dsimp only; first | walk_at "r1" | walk_at "r2")))

local macro_rules | `(tactic| walk_at "side") => `(tactic| first | assumption | (show (0 : Int) < _; omega) | exact c_mulL ⟨by omega, by omega⟩ | exact c_mulR ⟨by omega, by omega⟩ | exact c_pow ⟨by omega, by omega⟩ ⟨by omega, by omega⟩ | exact c_divW (by omega) (by omega))
local macro_rules | `(tactic| walk_at "r2") => `(tactic| first
  | ((with_reducible refine' r_I ?c1 ?_); (case c1 => walk_at "side"))
  | ((with_reducible refine' r_eq ?c1 ?_); (case c1 => rfl))
  | ((with_reducible refine' r_ne ?c1 ?_); (case c1 => rfl))
  | ((with_reducible refine' r_ixL ?c1 ?c2 ?_); (case c1 => first | exact SqL.of (by assumption) | assumption); (case c2 => rfl))
  | ((with_reducible refine' r_lenL ?c1 ?_); (case c1 => first | exact SqL.of (by assumption) | assumption))
  | ((with_reducible refine' r_slL ?c1 ?_); (case c1 => first | assumption | exact SqL.of (by assumption))))

local macro_rules | `(tactic| tbr_iter ($p:ident, $hp:ident, $H:ident, $s:ident, $e:ident, $o:ident)) => `(tactic| (intro $p:ident $hp:ident; generalize e0 : upd _ $p _ = $H:ident; have ⟨$s, $e, $o⟩ := Nk.new_facts $hp e0; clear e0))

abbrev s__law_right : Stmt := topS 18
theorem sc__law_right : FnScope ["_law_thing", "_law_place", "_law_come", "_law_go", "_law_told", "_law_odd", "_law_one"] ["_law_thing", "_law_place"] (defScope s__law_right) := ⟨rfl, rfl, rfl, by decide +kernel, rfl, by decide +kernel, by decide +kernel⟩
theorem nameB_len {x : Str} (h : nameB x = true) : x.length ≤ 8 := by
  unfold nameB at h
  simp only [Bool.and_eq_true, decide_eq_true_eq] at h
  omega
section
variable {K : PySem.W.Frag} {σ : L2.St} {H : Hp} {Q : VK} {x y : Str}
theorem r_mk {C : Addr} {sp : Sp} {dvs : List V} {E : XK} {t : TA} (h : t σ H fun vs H1 => ∀ x dx, H1 x = none → H1 dx = none → dx ≠ x → sp (.ref x :: (vs ++ dvs)) (upd (upd H1 dx (.own x)) x (.ins C dx [])) (fun v H2 => v = .non ∧ Q (.ref x) H2) E) : tMake C sp dvs E t σ H Q := h
theorem r_mkK {C : Addr} {sp : Sp} {n m : Nat} {gV : List V → List V → List V} {E : XK} {t tk : TA} (h : t σ H fun vs H1 => tk σ H1 fun zs H2 => vs.length = n ∧ zs.length = m ∧ ∀ x dx, H2 x = none → H2 dx = none → dx ≠ x → sp (gV (.ref x :: vs) zs) (upd (upd H2 dx (.own x)) x (.ins C dx [])) (fun v H3 => v = .non ∧ Q (.ref x) H3) E) : tMakeK C n m sp gV E t tk σ H Q := h
theorem r_prop {C : Addr} {sp : Sp} {dvs : List V} {E : XK} {ta : TE} (h : ta σ H fun x H1 => ∃ a dx fs, x = .ref a ∧ H1 a = some (.ins C dx fs) ∧ sp (.ref a :: dvs) H1 Q E) : tProp C sp dvs E ta σ H Q := h
theorem m_Come {R : Addr → Hp → Prop} (hx : nameB x = true) (q : ∀ a H', Same H H' → H a = none → isC K H' a x → R a H') : ∀ a dx, H a = none → H dx = none → dx ≠ a → spComeI K [.ref a, .str x] (upd (upd H dx (.own a)) a (.ins (cC K) dx [])) (fun v H2 => v = .non ∧ R a H2) noE := by
  intro a dx ha hd hne
  have hl := nameB_len hx
  refine ⟨a, dx, .str x, rfl, upd_same, .inl ⟨x, rfl, by omega⟩, fun _ H' k e => ⟨rfl, q a H' (mk_same ha hd k) ha ⟨dx, e⟩⟩, fun z => ?_⟩
  rw [show nameV (.str x) = nameB x from rfl, hx] at z
  cases z
theorem m_Go {R : Addr → Hp → Prop} (hx : nameB x = true) (hy : nameB y = true) (q : ∀ a H', Same H H' → H a = none → isG K H' a x y → R a H') : ∀ a dx, H a = none → H dx = none → dx ≠ a → spGoI K [.ref a, .str x, .str y] (upd (upd H dx (.own a)) a (.ins (cG K) dx [])) (fun v H2 => v = .non ∧ R a H2) noE := by
  intro a dx ha hd hne
  have hl := nameB_len hx
  have hl2 := nameB_len hy
  refine ⟨a, dx, .str x, .str y, rfl, upd_same, .inl ⟨x, rfl, by omega⟩, .inl ⟨y, rfl, by omega⟩, fun _ _ H' k e => ⟨rfl, q a H' (mk_same ha hd k) ha ⟨dx, e⟩⟩, fun z => ?_, fun _ z => ?_⟩
  · rw [show nameV (.str x) = nameB x from rfl, hx] at z
    cases z
  · rw [show nameV (.str y) = nameB y from rfl, hy] at z
    cases z
theorem o_CC {gC gG : Addr} {neg r : Bool} {a b : Addr} {z : Str} (U : Tx2 K gC gG) (i : isC K H a x) (j : isC K H b z) (hr : (if neg then !decide (V.str x = V.str z) else decide (V.str x = V.str z)) = r) (q : Q (.bl r) H) : rOwn neg K (cC K) (spEqC K) (.ref a) (.ref b) H Q := by
  obtain ⟨dx, e⟩ := id i
  subst hr
  exact ⟨a, dx, _, _, rfl, e, isC.ty U j, U.nCC, a, x, .ref b, rfl, i, .inl ⟨b, z, rfl, j, _, rfl, q⟩⟩
theorem o_C {gC gG : Addr} {neg : Bool} {a : Addr} {v : V} {tb : Value} (U : Tx2 K gC gG) (i : isC K H a x) (ty : TyX K H v tb) (k : PySem.W.kitOne K tb (.ref (cC K)) = some false) (nf : PySem.W.notFirst K (cC K) tb = true) (q : Q (.bl neg) H) : rOwn neg K (cC K) (spEqC K) (.ref a) v H Q := by
  obtain ⟨dx, e⟩ := id i
  exact ⟨a, dx, _, _, rfl, e, ty, nf, a, x, v, rfl, i, .inr ⟨tb, ty, k, _, rfl, by cases neg <;> exact q⟩⟩
theorem o_GG {gC gG : Addr} {neg r : Bool} {a b : Addr} {z z2 : Str} (U : Tx2 K gC gG) (i : isG K H a x y) (j : isG K H b z z2) (hr : (if neg then !(decide (V.str x = V.str z) && decide (V.str y = V.str z2)) else (decide (V.str x = V.str z) && decide (V.str y = V.str z2))) = r) (q : Q (.bl r) H) : rOwn neg K (cG K) (spEqG K) (.ref a) (.ref b) H Q := by
  obtain ⟨dx, e⟩ := id i
  subst hr
  exact ⟨a, dx, _, _, rfl, e, isG.ty U j, U.nGG, a, x, y, .ref b, rfl, i, .inl ⟨b, z, z2, rfl, j, _, rfl, q⟩⟩
theorem o_G {gC gG : Addr} {neg : Bool} {a : Addr} {v : V} {tb : Value} (U : Tx2 K gC gG) (i : isG K H a x y) (ty : TyX K H v tb) (k : PySem.W.kitOne K tb (.ref (cG K)) = some false) (nf : PySem.W.notFirst K (cG K) tb = true) (q : Q (.bl neg) H) : rOwn neg K (cG K) (spEqG K) (.ref a) v H Q := by
  obtain ⟨dx, e⟩ := id i
  exact ⟨a, dx, _, _, rfl, e, ty, nf, a, x, y, v, rfl, i, .inr ⟨tb, ty, k, _, rfl, by cases neg <;> exact q⟩⟩
/-- what the parts' texts are -/
def partsD (x y : Str) : PyData := .list [.tuple [.str "come", .str x], .tuple [.str "go", .str x, .str y]]
theorem name_signs {x : Str} (h : nameB x = true) : ∀ c ∈ x.cps.toList, c < 16 ^ 8 := by
  unfold nameB at h
  intro c hc
  have h2 := List.all_eq_true.mp (Bool.and_eq_true_iff.mp h).2 c hc
  have h3 : ∀ c ∈ LET.cps.toList, c < 16 ^ 8 := by decide +kernel
  exact h3 c (of_decide_eq_true h2)
theorem parts_len (hx : nameB x = true) (hy : nameB y = true) : (partsD x y).shown.length ≤ sizeLine := by
  have l1 := PySem.StrLaws.reprText_len x (name_signs hx)
  have l2 := PySem.StrLaws.reprText_len y (name_signs hy)
  have b1 := nameB_len hx
  have b2 := nameB_len hy
  have c1 : (reprText "come").length ≤ 50 := by decide +kernel
  have c2 : (reprText "go").length ≤ 50 := by decide +kernel
  have c3 : (Str.ofString ", ").length = 2 := by decide +kernel
  have c4 : (Str.ofString "(").length = 1 := by decide +kernel
  have c5 : (Str.ofString ")").length = 1 := by decide +kernel
  have c6 : (Str.ofString "[").length = 1 := by decide +kernel
  have c7 : (Str.ofString "]").length = 1 := by decide +kernel
  refine r_size ?_
  simp only [partsD, PyData.shown, PyData.shownAll, listText, textFrom, tupleText, Str.join, Str.length_append, List.length_cons, List.length_nil, Nat.zero_add, Nat.reduceAdd, Nat.reduceBEq, Bool.false_eq_true, if_false]
  have d1 : (Str.ofString (if 0 > 0 then ", " else "")).length ≤ 50 := by decide +kernel
  have d2 : (Str.ofString (if 1 > 0 then ", " else "")).length ≤ 50 := by decide +kernel
  omega
theorem shown_parts {l p q : Addr} (hx : nameB x = true) (hy : nameB y = true) (hl : SqL K H l [.ref p, .ref q]) (hp : SqT K H p [.str "come", .str x]) (hq : SqT K H q [.str "go", .str x, .str y]) : Shown K H (.ref l) (partsD x y).shown :=
  ⟨partsD x y, .of (.lst hl (.cons (.tup hp (.cons (.str _) (.cons (.str _) .nil))) (.cons (.tup hq (.cons (.str _) (.cons (.str _) (.cons (.str _) .nil)))) .nil))), rfl, (show 2 ≤ 60 by decide), parts_len hx hy, rfl⟩
theorem isC.same {H' : Hp} {a : Addr} (h : isC K H a x) (s : Same H H') : isC K H' a x := let ⟨dx, e⟩ := h; ⟨dx, s _ _ e⟩
theorem isG.same {H' : Hp} {a : Addr} (h : isG K H a x y) (s : Same H H') : isG K H' a x y := let ⟨dx, e⟩ := h; ⟨dx, s _ _ e⟩
end
section
variable {w : World} {K : PySem.W.Frag} {mg : Str → Option Value} {base : Heap} {gC gG : Addr}
def spRight : Sp := fun vs H Q _ => ∃ x y : Str, vs = [.str x, .str y] ∧ nameB x = true ∧ nameB y = true ∧ ∀ H', Same H H' → Q (.bl true) H'
theorem dg__law_right (T : Txt K mg) (U : Tx2 K gC gG) (T2 : Tx3 K gC gG mg) (hR : ∃ f, FnP K "_law_right" s__law_right f ∧ mg "_law_right" = some (.ref f)) : Dg PP w K mg base "_law_right" 7 ["_law_thing", "_law_place"] spRight := by
  obtain ⟨f, F, hm⟩ := hR
  have FIC : Fo PP w K mg base (iC K) 4 _ _ := fo_Come_init T U T2
  have FIG : Fo PP w K mg base (iG K) 4 _ _ := fo_Go_init T U T2
  have FKC : FoK PP w K mg base (iC K) 4 _ _ _ _ _ := fok_Come T U T2
  have FKG : FoK PP w K mg base (iG K) 4 _ _ _ _ _ := fok_Go T U T2
  have FPC : Fo PP w K mg base gC 1 _ _ := fo_Come_parts U T2
  have FPG : Fo PP w K mg base gG 1 _ _ := fo_Go_parts U T2
  have FEC : Fo PP w K mg base (eC K) 1 _ _ := fo_Come_eq T U T2
  have FEG : Fo PP w K mg base (eG K) 1 _ _ := fo_Go_eq T U T2
  have FSC : Fo PP w K mg base (zC K) 1 _ _ := fo_Come_str U T2
  have FSG : Fo PP w K mg base (zG K) 1 _ _ := fo_Go_str U T2
  refine dg_mk F hm sc__law_right (fun _ _ _ _ _ _ us hl => match us, hl with | [_, _], _ => rfl) (fun vs H Q E h => ?_) (fun cdv A outer s H vs Q E hgd hr h => ?_)
  · obtain ⟨x, y, rfl, _⟩ := h
    rfl
  · obtain ⟨x, y, rfl, hx, hy, k⟩ := h
    have hu64 := hr.units
    have hgd' : (A.deeper (envOfC "_law_right" (defScope s__law_right) s.heap.objs.size f cdv)).guards = some [] := hgd
    refine ⟨_, (C8.pss_cut (ps_asg (pe_tup (pa_cons (pe_mk (E := noE) U.mkC FIC hr (by decide) rfl T2.g_Come LamX.takes0 (fun _ _ _ _ z => z) (pa_cons (pv 0) pa_nil)) (pa_cons (pe_mk (E := noE) U.mkG FIG hr (by decide) rfl T2.g_Go LamX.takes0 (fun _ _ _ _ z => z) (pa_cons (pv 0) (pa_cons (pv 1) pa_nil))) pa_nil))) (pg_tup rfl (pgs_cons (pg_name (i := 2) sc__law_right.nd rfl (Or.inr rfl)) (pgs_cons (pg_name (i := 3) sc__law_right.nd rfl (Or.inr rfl)) pgs_nil))))
    (C8.pss_cut (ps_if (pt_cmpR op_ne (pe_callB (call_reprG hgd hu64) (by rfl) T2.n_repr (by decide +kernel) (pa_cons (pe_lst (pa_cons (pe_pr (pv 2) U.clC U.prC FPC hr (by decide)) (pa_cons (pe_pr (pv 3) U.clG U.prG FPG hr (by decide)) pa_nil))) pa_nil)) (pe_callB (call_reprG hgd hu64) (by rfl) T2.n_repr (by decide +kernel) (pa_cons (pe_lst (pa_cons (pe_tup (pa_cons pe_str (pa_cons (pv 0) pa_nil))) (pa_cons (pe_tup (pa_cons pe_str (pa_cons (pv 0) (pa_cons (pv 1) pa_nil)))) pa_nil))) pa_nil)) (nomark _)) (pss_one (ps_ret pe_bl)) pss_nil)
    (pss_cons (ps_set (i := 4) sc__law_right.nd rfl (Or.inl rfl) (pe_lst (pa_cons (pe_fld (pv 2) rfl) (pa_cons (pe_fld (pv 3) rfl) (pa_cons (pe_fld (pv 3) rfl) (pa_cons (pe_callTy (call_strF U.stC U.sfC FSC hr (by decide)) (by rfl) T.n_str (by decide +kernel) (pa_cons (pv 2) pa_nil)) (pa_cons (pe_callTy (call_strF U.stG U.sfG FSG hr (by decide)) (by rfl) T.n_str (by decide +kernel) (pa_cons (pv 3) pa_nil)) pa_nil)))))))
    (C8.pss_cut (ps_if (pt_cmpR (op_neP hu64) (pv 4) (pe_lst (pa_cons (pv 0) (pa_cons (pv 0) (pa_cons (pv 1) (pa_cons (pe_op op_add_str pe_str (pv 0)) (pa_cons (pe_op op_add_str (pe_op op_add_str (pe_op op_add_str pe_str (pv 0)) pe_str) (pv 1)) pa_nil)))))) (nomark _)) (pss_one (ps_ret pe_bl)) pss_nil)
    (C8.pss_cut (ps_if (PW.pt (pw_or (pt_not (pt_val (pe_callB call_isi (by rfl) T.n_isinstance (by decide +kernel) (pa_cons (pv 2) (pa_cons (pe_glob (v := .ref _) rfl T2.g_Deed rfl) pa_nil))))) (pw_or (pt_not (pt_val (pe_callB call_isi (by rfl) T.n_isinstance (by decide +kernel) (pa_cons (pv 3) (pa_cons (pe_glob (v := .ref _) rfl T2.g_Deed rfl) pa_nil))))) (pw_or (pt_val (pe_callB call_isi (by rfl) T.n_isinstance (by decide +kernel) (pa_cons (pv 2) (pa_cons (pe_glob (v := .ref _) rfl T2.g_Go rfl) pa_nil)))) (pw_or1 (pt_val (pe_callB call_isi (by rfl) T.n_isinstance (by decide +kernel) (pa_cons (pv 3) (pa_cons (pe_glob (v := .ref _) rfl T2.g_Come rfl) pa_nil))))))))) (pss_one (ps_ret pe_bl)) pss_nil)
    (C8.pss_cut (ps_if (PW.pt (pw_or (pt_cmpR (op_neF (k := 1) (j := 6) U.eqC FEC hr (by decide)) (pv 2) (pe_mkK (E := noE) U.mkC FKC hr (by decide) rfl T2.g_Come LamX.takes0 (fun _ _ _ _ z => z) (pk_cons (pv 0) pk_nil)) (nomark _)) (pw_or (pt_cmpR (op_neF (k := 1) (j := 6) U.eqG FEG hr (by decide)) (pv 3) (pe_mkK (E := noE) U.mkG FKG hr (by decide) rfl T2.g_Go LamX.takes0 (fun _ _ _ _ z => z) (pk_cons (pv 1) (pk_cons (pv 0) pk_nil))) (nomark _)) (pw_or (pt_cmpR (op_eqF (k := 1) (j := 6) U.eqC FEC hr (by decide)) (pv 2) (pv 3) (nomark _)) (pw_or1 (pt_cmpR (op_eqF (k := 1) (j := 6) U.eqG FEG hr (by decide)) (pv 3) (pv 2) (nomark _))))))) (pss_one (ps_ret pe_bl)) pss_nil)
    (pss_cons (ps_set (i := 5) sc__law_right.nd rfl (Or.inl rfl) (pe_lst (pa_cons pe_non (pa_cons (pe_op op_add_str pe_str (pv 0)) (pa_cons (pe_callTy (call_strF U.stG U.sfG FSG hr (by decide)) (by rfl) T.n_str (by decide +kernel) (pa_cons (pv 3) pa_nil)) (pa_cons (pe_pr (pv 2) U.clC U.prC FPC hr (by decide)) (pa_cons (pe_pr (pv 3) U.clG U.prG FPG hr (by decide)) (pa_cons (pv 0) (pa_cons pe_int (pa_cons (pe_lst (pa_cons (pv 2) pa_nil)) (pa_cons (pe_tup (pa_cons (pv 3) pa_nil)) pa_nil)))))))))))
    (pss_one (ps_ret (pe_cmpR (op_eqP hu64) (pe_lc (own := [("_law_one", 6)]) (by rfl) sc__law_right.nd (pi_list (pv 5)) (blkOk_by (N := ["_law_thing", "_law_place", "_law_come", "_law_go", "_law_told", "_law_odd", "_law_one"]) (sc := defScope s__law_right) (by decide +kernel)) (fun _ _ _ _ _ => pg_name (i := 6) sc__law_right.nd rfl (Or.inl rfl)) (fun _ _ _ _ _ => pts_one (PW.pt (pw_or (pt_cmpR (op_eqF (k := 1) (j := 6) U.eqC FEC hr (by decide)) (pv 2) (pv 6) (nomark _)) (pw_or1 (pt_cmpR (op_eqF (k := 1) (j := 6) U.eqG FEG hr (by decide)) (pv 3) (pv 6) (nomark _)))))) (fun _ _ _ _ _ => (pv 6))) (pe_lst pa_nil) (nomark _))))))))))), ?_⟩
    clear FIC FIG FKC FKG FPC FPG FEC FEG FSC FSG
    dsimp only [cxOf]
    walk_at "r"
    let M : Option V → L2.St → Hp → Prop := fun v σ' H' => ∃ a b : Addr, σ' = [some (.str x), some (.str y), some (.ref a), some (.ref b), v, none, none] ∧ isC K H' a x ∧ isG K H' b x y ∧ Same H H'
    have lx := nameB_len hx
    have ly := nameB_len hy
    refine r_cut (M none) ?_ ?_
    · walk_at "r"
      refine r_mk ?_
      walk_at "r"
      refine m_Come hx fun a H1 s1 n1 i1 => ?_
      walk_at "r"
      refine r_mk ?_
      walk_at "r"
      refine m_Go hx hy fun b H2 s2 n2 i2 => ?_
      walk_at "r"
      refine ⟨r_size (by simp), ?_⟩
      tbr_iter (t1, ht1, H3, s3, et1, o3)
      refine ⟨t1, _, rfl, SqT.of et1, rfl, ?_⟩
      walk_at "r"
      refine ⟨_, _, rfl, ?_⟩
      walk_at "r"
      refine ⟨_, _, rfl, ?_⟩
      walk_at "r"
      exact ⟨rfl, a, b, rfl, (i1.same s2).same s3, i2.same s3, (s1.trans s2).trans s3⟩
    rintro σ1 H3 ⟨a, b, rfl, i1, i2, S3⟩
    refine r_cut (M none) ?_ ?_
    · walk_at "r"
      refine r_prop ?_
      walk_at "r"
      obtain ⟨dx1, e1⟩ := id i1
      refine ⟨a, dx1, _, rfl, e1, a, x, rfl, i1, ?_⟩
      tbr_iter (p1, hp1, H4, s4, ep1, o4)
      walk_at "r"
      refine r_prop ?_
      walk_at "r"
      obtain ⟨dx2, e2⟩ := id i2
      refine ⟨b, dx2, _, rfl, s4 _ _ e2, b, x, y, rfl, i2.same s4, ?_⟩
      tbr_iter (p2, hp2, H5, s5, ep2, o5)
      walk_at "r"
      refine ⟨r_size (by simp), ?_⟩
      tbr_iter (l1, hl1, H6, s6, el1, o6)
      walk_at "r"
      refine r_repr (shown_parts hx hy (SqL.of el1) (SqT.of (s6 _ _ (s5 _ _ ep1))) (SqT.of (s6 _ _ ep2))) ?_
      walk_at "r"
      refine ⟨r_size (by simp), ?_⟩
      tbr_iter (p3, hp3, H7, s7, ep3, o7)
      walk_at "r"
      refine ⟨r_size (by simp), ?_⟩
      tbr_iter (p4, hp4, H8, s8, ep4, o8)
      walk_at "r"
      refine ⟨r_size (by simp), ?_⟩
      tbr_iter (l2, hl2, H9, s9, el2, o9)
      walk_at "r"
      refine r_repr (shown_parts hx hy (SqL.of el2) (SqT.of (s9 _ _ (s8 _ _ ep3))) (SqT.of (s9 _ _ ep4))) ?_
      walk_at "r"
      refine r_iteN (fun h => absurd rfl h) (fun _ => ?_)
      have S9 : Same H3 H9 := ((s4.trans s5).trans s6).trans ((s7.trans s8).trans s9)
      exact ⟨a, b, rfl, i1.same S9, i2.same S9, S3.trans S9⟩
    clear S3 i1 i2
    rintro σ1 H9 ⟨a, b, rfl, i1, i2, T9⟩
    obtain ⟨dx1, e1⟩ := id i1
    obtain ⟨dx2, e2⟩ := id i2
    -- told
    walk_at "r"
    refine ⟨.ref a, rfl, a, cC K, dx1, _, _, rfl, e1, U.clC, U.naC, rfl, ?_⟩
    walk_at "r"
    refine ⟨.ref b, rfl, b, cG K, dx2, _, _, rfl, e2, U.clG, U.naG, rfl, ?_⟩
    walk_at "r"
    refine ⟨.ref b, rfl, b, cG K, dx2, _, _, rfl, e2, U.clG, U.naG2, rfl, ?_⟩
    walk_at "r"
    refine ⟨a, dx1, _, rfl, e1, a, x, rfl, i1, by omega, _, rfl, ?_⟩
    walk_at "r"
    refine ⟨b, dx2, _, rfl, e2, b, x, y, rfl, i2, by omega, by omega, _, rfl, ?_⟩
    walk_at "r"
    refine ⟨r_size (by simp), ?_⟩
    tbr_iter (l3, hl3, H10, s10, el3, o10)
    walk_at "r"
    refine r_cut (M (some (.ref l3))) ?_ ?_
    · walk_at "r"
      have c1 : (Str.ofString "come ").length = 5 := by decide +kernel
      have c2 : (Str.ofString "go ").length = 3 := by decide +kernel
      have c3 : (Str.ofString " ").length = 1 := by decide +kernel
      refine ⟨_, _, rfl, rfl, r_size (by omega), ?_⟩
      walk_at "r"
      refine ⟨_, _, rfl, rfl, r_size (by omega), ?_⟩
      walk_at "r"
      refine ⟨_, _, rfl, rfl, r_size (by rw [Str.length_append]; omega), ?_⟩
      walk_at "r"
      refine ⟨_, _, rfl, rfl, r_size (by rw [Str.length_append, Str.length_append]; omega), ?_⟩
      walk_at "r"
      refine ⟨r_size (by simp), ?_⟩
      tbr_iter (l4, hl4, H11, s11, el4, o11)
      walk_at "r"
      refine r_neS [x, x, y, "come " ++ x, "go " ++ x ++ " " ++ y] (SqL.of (s11 _ _ el3)) (SqL.of el4) ?_
      walk_at "r"
      have T11 : Same H9 H11 := s10.trans s11
      exact ⟨a, b, rfl, i1.same T11, i2.same T11, T9.trans T11⟩
    clear T9 i1 i2 e1 e2 s10 el3 o10 hl3
    rintro σ1 H12 ⟨a, b, rfl, i1, i2, T12⟩
    refine r_cut (M (some (.ref l3))) ?_ ?_
    · walk_at "r"
      refine ⟨_, _, _, _, _, rfl, .own _, isC.ty U i1, U.kCD, ?_⟩
      walk_at "r"
      refine ⟨_, _, _, _, _, rfl, .own _, isG.ty U i2, U.kGD, ?_⟩
      walk_at "r"
      refine ⟨_, _, _, _, _, rfl, .own _, isC.ty U i1, U.kCG, ?_⟩
      walk_at "r"
      refine ⟨_, _, _, _, _, rfl, .own _, isG.ty U i2, U.kGC, ?_⟩
      walk_at "r"
      exact ⟨a, b, rfl, i1, i2, T12⟩
    clear T12 i1 i2
    rintro σ1 H13 ⟨a, b, rfl, i1, i2, T13⟩
    refine r_cut (M (some (.ref l3))) ?_ ?_
    · walk_at "r"
      refine r_mkK ?_
      walk_at "r"
      refine ⟨rfl, rfl, ?_⟩
      refine m_Come hx fun c H14 s14 n14 i3 => ?_
      walk_at "r"
      refine o_CC U (i1.same s14) i3 (r := false) (by simp) ?_
      walk_at "r"
      refine r_mkK ?_
      walk_at "r"
      refine ⟨rfl, rfl, ?_⟩
      refine m_Go hx hy fun d H15 s15 n15 i4 => ?_
      walk_at "r"
      have s15 := s14.trans s15
      refine o_GG U (i2.same s15) i4 (r := false) (by simp) ?_
      walk_at "r"
      refine o_C U (i1.same s15) (isG.ty U (i2.same s15)) U.kGC U.nCG ?_
      walk_at "r"
      refine o_G U (i2.same s15) (isC.ty U (i1.same s15)) U.kCG U.nGC ?_
      walk_at "r"
      exact ⟨a, b, rfl, i1.same s15, i2.same s15, T13.trans s15⟩
    clear T13 i1 i2
    rintro σ1 H9 ⟨a, b, rfl, i1, i2, T9⟩
    have c1 : (Str.ofString "come ").length = 5 := by decide +kernel
    obtain ⟨dx1, e1⟩ := id i1
    obtain ⟨dx2, e2⟩ := id i2
    walk_at "r"
    refine ⟨_, _, rfl, rfl, r_size (by omega), ?_⟩
    walk_at "r"
    refine ⟨b, dx2, _, rfl, e2, b, x, y, rfl, i2, by omega, by omega, _, rfl, ?_⟩
    walk_at "r"
    refine r_prop ?_
    walk_at "r"
    refine ⟨a, dx1, _, rfl, e1, a, x, rfl, i1, ?_⟩
    tbr_iter (p1, hp1, H4, s4, ep1, o4)
    walk_at "r"
    refine r_prop ?_
    walk_at "r"
    refine ⟨b, dx2, _, rfl, s4 _ _ e2, b, x, y, rfl, i2.same s4, ?_⟩
    tbr_iter (p2, hp2, H5, s5, ep2, o5)
    walk_at "r"
    refine ⟨r_size (by simp), ?_⟩
    tbr_iter (p3, hp3, H6, s6, ep3, o6)
    walk_at "r"
    refine ⟨r_size (by simp), ?_⟩
    tbr_iter (p4, hp4, H7, s7, ep4, o7)
    walk_at "r"
    refine ⟨r_size (by simp), ?_⟩
    tbr_iter (lo, hlo, H8, s8, elo, o8)
    have hty : ∀ v ∈ [.non, .str ("come " ++ x), .str ("go " ++ x ++ " " ++ y), .ref p1, .ref p2, .str x, .int 0, .ref p3, V.ref p4], ∃ t ∈ tys, TyX K H8 v (.type t) := by
      intro v hv
      simp only [List.mem_cons, List.not_mem_nil, or_false] at hv
      rcases hv with rfl | rfl | rfl | rfl | rfl | rfl | rfl | rfl | rfl
      · exact ⟨_, by decide, .base .non⟩
      · exact ⟨_, by decide, .base (.str _)⟩
      · exact ⟨_, by decide, .base (.str _)⟩
      · exact ⟨_, by decide, .base (.tup (s8 _ _ (s7 _ _ (s6 _ _ (s5 _ _ ep1)))))⟩
      · exact ⟨_, by decide, .base (.tup (s8 _ _ (s7 _ _ (s6 _ _ ep2))))⟩
      · exact ⟨_, by decide, .base (.str _)⟩
      · exact ⟨_, by decide, .base (.int _)⟩
      · exact ⟨_, by decide, .base (.lst (s8 _ _ (s7 _ _ ep3)))⟩
      · exact ⟨_, by decide, .base (.tup (s8 _ _ ep4))⟩
    have S8 : Same H9 H8 := (((s4.trans s5).trans s6).trans s7).trans s8
    have i1 := i1.same S8
    have i2 := i2.same S8
    have T8 := T9.trans S8
    clear s4 s5 s6 s7 s8 o4 o5 o6 o7 o8 ep1 ep2 ep3 ep4 hp1 hp2 hp3 hp4 hlo S8 T9 e1 e2
    generalize hxs : [.non, .str ("come " ++ x), .str ("go " ++ x ++ " " ++ y), .ref p1, .ref p2, .str x, .int 0, .ref p3, V.ref p4] = xs at hty elo
    walk_at "r"
    refine ⟨⟨xs, SqL.of elo⟩, ?_⟩
    intro D hD
    refine lc_acc walk_list (fun i acc H' => Same H8 H' ∧ acc = []) ⟨same_mut (Same.refl _) hD, rfl⟩ (fun i acc H' _ h => SqL.of (h.1 _ _ elo)) (fun i v H1 H2 acc hi hDa hl r y => ?_) (fun H1 acc hDa hl r => ?_)
    · obtain ⟨s1, rfl⟩ := r
      obtain ⟨rfl, hv⟩ := y
      walk_at "r"
      refine ⟨rfl, ?_⟩
      obtain ⟨t, ht, ty⟩ := hty v (List.mem_of_getElem? hv)
      walk_at "r"
      refine o_C U (i1.same s1) (TyX.same ty s1) (U.kitC t ht) (U.nfC t ht) ?_
      walk_at "r"
      refine o_G U (i2.same s1) (TyX.same ty s1) (U.kitG t ht) (U.nfG t ht) ?_
      walk_at "r"
      exact lc_skip hDa hl ⟨s1, rfl⟩
    · obtain ⟨s1, rfl⟩ := r
      walk_at "r"
      refine ⟨Nat.zero_le _, ?_⟩
      tbr_iter (le, hle, H3, s3, ele, o3)
      exact r_eqN (SqL.of (s3 _ _ hDa)) (SqL.of ele) (k _ ((T8.trans s1).trans s3))
end
end Nk

namespace Nk
open PySem PySem.Spec PyProof.Rows L2
local macro_rules | `(tactic| walk_at "r1") => `(tactic| with_reducible first
  | refine r_var rfl ?_ | refine r_c ?_ | refine r_seq ?_ | refine r_asgN ?_ | refine r_op ?_ | refine r_cb ?_ | refine r_cons ?_ | refine r_nil ?_
  | refine r_ret ?_ | refine r_ifS ?_ | refine r_I0 ?_ | refine r_test ?_ | refine r_B ?_ | refine r_k ?_ | refine r_not ?_ | refine r_and ?_ | refine r_or ?_
  | refine r_andV ?_ | refine r_orV ?_ | refine r_notV ?_ | refine r_if ?_ | refine r_chain ?_ | refine r_df ?_ | refine r_lst ?_ | refine r_tup ?_ | refine r_asg ?_ | refine r_gsub ?_ | refine r_drop ?_ | refine r_retN ?_ | refine r_next ?_ | refine r_bm ?_ | refine r_un ?_
  | refine r_gN ?_ | refine r_yes ?_ | refine r_lc ?_ | refine r_for ?_ | refine r_iStr ?_ | refine r_iList ?_ | refine r_iTup ?_ | refine r_iRng1 ?_ | refine r_xstr ?_ | refine r_xref ?_ | refine r_xint ?_ | refine r_xints ?_
  | refine r_m1 ?_ | refine r_isS ?_ | refine r_sl ?_ | refine r_nop ?_ | refine r_part ?_ | refine r_int1 ?_ | refine r_intb ?_ | refine r_iteT ?_ | refine r_iteF ?_ | refine r_iteNF ?_ | refine r_iteNT ?_)
local macro_rules | `(tactic| walk_at "r") => `(tactic| repeat (first | walk_at "r1" | walk_at "r2" | (dsimp only; first | walk_at "r1" | walk_at "r2")))

local macro_rules | `(tactic| walk_at "side") => `(tactic| first | assumption | (show (0 : Int) < _; omega) | exact c_mulL ⟨by omega, by omega⟩ | exact c_mulR ⟨by omega, by omega⟩ | exact c_pow ⟨by omega, by omega⟩ ⟨by omega, by omega⟩ | exact c_divW (by omega) (by omega))
local macro_rules | `(tactic| walk_at "r2") => `(tactic| first
  | ((with_reducible refine' r_I ?c1 ?_); (case c1 => walk_at "side"))
  | ((with_reducible refine' r_eq ?c1 ?_); (case c1 => rfl))
  | ((with_reducible refine' r_ne ?c1 ?_); (case c1 => rfl))
  | ((with_reducible refine' r_ixL ?c1 ?c2 ?_); (case c1 => first | exact SqL.of (by assumption) | assumption); (case c2 => rfl))
  | ((with_reducible refine' r_lenL ?c1 ?_); (case c1 => first | exact SqL.of (by assumption) | assumption))
  | ((with_reducible refine' r_slL ?c1 ?_); (case c1 => first | assumption | exact SqL.of (by assumption))))

local macro_rules | `(tactic| tbr_iter ($p:ident, $hp:ident, $H:ident, $s:ident, $e:ident, $o:ident)) => `(tactic| (intro $p:ident $hp:ident; generalize e0 : upd _ $p _ = $H:ident; have ⟨$s, $e, $o⟩ := Nk.new_facts $hp e0; clear e0))

abbrev s_law : Stmt := topS 19
theorem sc_law : FnScope ["_law_script", "_law_pen_here", "_law_turn", "_law_other", "_law_some", "_law_heard_here", "_law_bad", "_law_odd", "_law_place", "_law_thing"] ["_law_script"] (defScope s_law) := ⟨rfl, rfl, rfl, by decide +kernel, rfl, by decide +kernel, by decide +kernel⟩
/-! ### tables stay -/
theorem tabs_lst {TS : List (Addr × Str)} {H H' : Hp} (t : LamX.Tabs TS H) (k : ∀ b o, H b = some o → (∀ xs, o ≠ .lst xs) → H' b = some o) : LamX.Tabs TS H' := fun p hp => by
  obtain ⟨ps, h1, h2, h3⟩ := t p hp
  refine ⟨ps, k _ _ h1 (fun xs z => by cases z), h2, fun pos cv hc => ?_⟩
  obtain ⟨c, e1, e2⟩ := h3 pos cv hc
  exact ⟨c, e1, k _ _ e2 (fun xs z => by unfold LamX.CodeO at z; cases z)⟩
theorem tabs_kp {TS : List (Addr × Str)} {H H' : Hp} {p c : Addr} {ns : List Int} {n : Nat} (t : LamX.Tabs TS H) (P : Pen H p c ns n) (k : Kp p H H') : LamX.Tabs TS H' := tabs_lst t fun b o hb ho => k b o hb (P.off hb ho)
theorem tabs_upd {TS : List (Addr × Str)} {H : Hp} {l : Addr} {xs : List V} {o : HO} (t : LamX.Tabs TS H) (h : H l = some (.lst xs)) : LamX.Tabs TS (upd H l o) := tabs_lst t fun b u hb hu => by
  rw [upd_ne (fun e => by rw [e, h] at hb; exact hu xs (Option.some.inj hb).symm)]
  exact hb
theorem Pen.ext {H H' : Hp} {p c : Addr} {ns : List Int} {n : Nat} (P : Pen H p c ns n) (e : LamX.ExtN H H') : Pen H' p c ns n := by
  obtain ⟨⟨i, g, a, b⟩, d, l⟩ := P
  exact ⟨⟨i, g, e _ _ a (fun ps z => by cases z), b⟩, e _ _ d (fun ps z => by cases z), l⟩
theorem ext_same {H H' : Hp} (s : Same H H') : LamX.ExtN H H' := fun b o h _ => s b o h
/-! ### what is no name -/
inductive BadV (H : Hp) : V → PyData → Prop
  | non : BadV H .non .none
  | bl (b : Bool) : BadV H (.bl b) (.bool b)
  | int (i : Int) (h : i.natAbs.log2 < 1920) : BadV H (.int i) (.int i)
  | str (s : Str) (h : nameB s = false) (l : s.length ≤ 1000) (r : (reprText s).length ≤ 1000) : BadV H (.str s) (.str s)
  | tup {a : Addr} (s : Str) (r : (reprText s).length ≤ 1000) (h : H a = some (.tup [.str s])) : BadV H (.ref a) (.tuple [.str s])
  | lst {a : Addr} (s : Str) (r : (reprText s).length ≤ 1000) (h : H a = some (.lst [.str s])) : BadV H (.ref a) (.list [.str s])
  | dic {a : Addr} (h : H a = some (.dK [])) : BadV H (.ref a) (.dict [])
theorem BadV.move {H H' : Hp} {v : V} {d : PyData} (h : BadV H v d) (k : ∀ a o, v = .ref a → H a = some o → (∀ ps, o ≠ .tbl ps) → (∀ x y z, o ≠ .lst [x, y, z]) → H' a = some o) : BadV H' v d := by
  cases h with
  | non => exact .non
  | bl b => exact .bl b
  | int i h => exact .int i h
  | str s h l r => exact .str s h l r
  | tup s r h => exact .tup s r (k _ _ rfl h (fun ps z => by cases z) (fun x y z' z => by cases z))
  | lst s r h => exact .lst s r (k _ _ rfl h (fun ps z => by cases z) (fun x y z' z => by cases z))
  | dic h => exact .dic (k _ _ rfl h (fun ps z => by cases z) (fun x y z' z => by cases z))
theorem BadV.same {H H' : Hp} {v : V} {d : PyData} (h : BadV H v d) (s : Same H H') : BadV H' v d := h.move fun a o _ e _ _ => s a o e
theorem BadV.ext {H H' : Hp} {v : V} {d : PyData} (h : BadV H v d) (s : LamX.ExtN H H') : BadV H' v d := h.move fun a o _ e n _ => s a o e n
theorem BadV.kp {H H' : Hp} {p c : Addr} {ns : List Int} {n : Nat} {v : V} {d : PyData} (h : BadV H v d) (P : Pen H p c ns n) (k : Kp p H H') : BadV H' v d := h.move fun a o _ e _ n3 => k a o e fun z => by
  obtain ⟨⟨i, g, e2, _⟩, _, _⟩ := P
  rw [z, e2] at e
  exact n3 _ _ _ (Option.some.inj e).symm
theorem BadV.upd {H : Hp} {l : Addr} {o : HO} {v : V} {d : PyData} (h : BadV H v d) (n : v ≠ .ref l) : BadV (upd H l o) v d := h.move fun a u ev e _ _ => by
  rw [upd_ne (fun z => n (by rw [ev, z]))]
  exact e
theorem BadV.fresh {H : Hp} {l : Addr} {v : V} {d : PyData} (h : BadV H v d) (n : H l = none) : v ≠ .ref l := fun e => by
  cases h with
  | tup s r h => cases e; rw [n] at h; cases h
  | lst s r h => cases e; rw [n] at h; cases h
  | dic h => cases e; rw [n] at h; cases h
  | _ => cases e
theorem BadV.not {H : Hp} {v : V} {d : PyData} (h : BadV H v d) : nameV v = false := by
  cases h with
  | str s h l r => exact h
  | _ => rfl
theorem BadV.nv {K : PySem.W.Frag} {H : Hp} {v : V} {d : PyData} (h : BadV H v d) : Nv K H v := by
  cases h with
  | non => exact .inr ⟨_, .base .non, by decide +kernel⟩
  | bl b => exact .inr ⟨_, .base (.bl b), by decide +kernel⟩
  | int i h => exact .inr ⟨_, .base (.int i), by decide +kernel⟩
  | str s h l r => exact .inl ⟨s, rfl, by omega⟩
  | tup s r h => exact .inr ⟨_, .base (.tup h), by decide +kernel⟩
  | lst s r h => exact .inr ⟨_, .base (.lst h), by decide +kernel⟩
  | dic h => exact .inr ⟨_, .base (.dK h), by decide +kernel⟩
theorem BadV.shown {K : PySem.W.Frag} {H : Hp} {v : V} {d : PyData} (h : BadV H v d) : Shown K H v d.shown := by
  have c3 : (Str.ofString ", ").length = 2 := by decide +kernel
  have c4 : (Str.ofString "(").length = 1 := by decide +kernel
  have c6 : (Str.ofString "[").length = 1 := by decide +kernel
  have c7 : (Str.ofString "]").length = 1 := by decide +kernel
  have c8 : (Str.ofString ",)").length = 2 := by decide +kernel
  have d1 : (Str.ofString (if 0 > 0 then ", " else "")).length ≤ 50 := by decide +kernel
  cases h with
  | non => exact ⟨_, .of .non, rfl, by decide, by decide +kernel, rfl⟩
  | bl b => exact ⟨_, .of (.bl b), rfl, (show 0 ≤ 60 by decide), by cases b <;> decide +kernel, rfl⟩
  | int i h => exact ⟨_, .of (.int i), decide_eq_true h, (show 0 ≤ 60 by decide), int_text_fits h, rfl⟩
  | str s h l r => exact ⟨_, .of (.str s), rfl, (show 0 ≤ 60 by decide), r_size (show (reprText s).length ≤ 100000 by omega), rfl⟩
  | tup s r h =>
    refine ⟨_, .of (.tup (SqT.of h) (.cons (.str s) .nil)), rfl, (show 1 ≤ 60 by decide), r_size ?_, rfl⟩
    simp only [PyData.shown, PyData.shownAll, tupleText, Str.join, Str.length_append, List.length_cons, List.length_nil, Nat.zero_add, Nat.reduceAdd, Nat.reduceBEq, if_true]
    omega
  | lst s r h =>
    refine ⟨_, .of (.lst (SqL.of h) (.cons (.str s) .nil)), rfl, (show 1 ≤ 60 by decide), r_size ?_, rfl⟩
    simp only [PyData.shown, PyData.shownAll, listText, textFrom, Str.length_append]
    omega
  | dic h => exact ⟨_, .dic h, rfl, by decide, by decide +kernel, rfl⟩
section
variable {K : PySem.W.Frag} {σ : L2.St} {H : Hp} {Q : VK} {x y : Str}
theorem m_ComeE {v : V} {Q : VK} {E : XK} (hv : Nv K H v) (hn : nameV v = false) (q : ∀ d H', Same H H' → H' d = some (.xd [("value", v)]) → E (.ref (cB K)) (some d) H') : ∀ a dx, H a = none → H dx = none → dx ≠ a → spComeI K [.ref a, v] (upd (upd H dx (.own a)) a (.ins (cC K) dx [])) Q E := by
  intro a dx ha hd hne
  refine ⟨a, dx, v, rfl, upd_same, hv.same (fun b o hb => ?_), fun z => ?_, fun _ d H' k e => q d H' (mk_same ha hd k) e⟩
  · rw [upd_ne (ne_of_none hb ha), upd_ne (ne_of_none hb hd)]
    exact hb
  · rw [hn] at z
    cases z
theorem m_GoE {v u w : V} {Q : VK} {E : XK} (hv : Nv K H v) (hu : Nv K H u) (hn : (nameV v = false ∧ w = v) ∨ (nameV v = true ∧ nameV u = false ∧ w = u)) (q : ∀ d H', Same H H' → H' d = some (.xd [("value", w)]) → E (.ref (cB K)) (some d) H') : ∀ a dx, H a = none → H dx = none → dx ≠ a → spGoI K [.ref a, v, u] (upd (upd H dx (.own a)) a (.ins (cG K) dx [])) Q E := by
  intro a dx ha hd hne
  have s : Same H (upd (upd H dx (.own a)) a (.ins (cG K) dx [])) := fun b o hb => by
    rw [upd_ne (ne_of_none hb ha), upd_ne (ne_of_none hb hd)]
    exact hb
  refine ⟨a, dx, v, u, rfl, upd_same, hv.same s, hu.same s, fun z1 z2 => ?_, fun z d H' k e => ?_, fun z1 z2 d H' k e => ?_⟩
  · rcases hn with ⟨h, _⟩ | ⟨_, h, _⟩
    · rw [h] at z1; cases z1
    · rw [h] at z2; cases z2
  · rcases hn with ⟨_, rfl⟩ | ⟨h, _, _⟩
    · exact q d H' (mk_same ha hd k) e
    · rw [h] at z; cases z
  · rcases hn with ⟨h, _⟩ | ⟨_, _, rfl⟩
    · rw [h] at z1; cases z1
    · exact q d H' (mk_same ha hd k) e
theorem h_Come {TS : List (Addr × Str)} {i : Nat} {v : V} {d : PyData} (hT : LamX.Tabs TS H) (hi : σ[i]? = some (some v)) (B : BadV H v d) (q : ∀ H', LamX.ExtN H H' → LamX.Tabs TS H' → Q (.str d.shown) H') :
    LamX.tLam TS (TTheard K) (fun E => tMake (cC K) (spComeI K) [] E (tCons (tVar i) tNil)) σ H Q := by
  refine ⟨hT, fun H1 e1 T1 => ⟨v, hi, ?_⟩⟩
  refine m_ComeE (B.ext e1).nv B.not fun dd H' s hd => ⟨rfl, dd, v, _, rfl, hd, ((B.ext e1).same s).shown, q H' (e1.trans (ext_same s)) (T1.ext s)⟩
theorem h_Go {TS : List (Addr × Str)} {i j : Nat} {v u w : V} {d : PyData} (hT : LamX.Tabs TS H) (hi : σ[i]? = some (some v)) (hj : σ[j]? = some (some u)) (hv : ∀ H', LamX.ExtN H H' → Nv K H' v) (hu : ∀ H', LamX.ExtN H H' → Nv K H' u) (hn : (nameV v = false ∧ w = v) ∨ (nameV v = true ∧ nameV u = false ∧ w = u)) (B : BadV H w d)
    (q : ∀ H', LamX.ExtN H H' → LamX.Tabs TS H' → Q (.str d.shown) H') : LamX.tLam TS (TTheard K) (fun E => tMake (cG K) (spGoI K) [] E (tCons (tVar i) (tCons (tVar j) tNil))) σ H Q := by
  refine ⟨hT, fun H1 e1 T1 => ⟨v, hi, u, hj, ?_⟩⟩
  refine m_GoE (hv _ e1) (hu _ e1) hn fun dd H' s hd => ⟨rfl, dd, w, _, rfl, hd, ((B.ext e1).same s).shown, q H' (e1.trans (ext_same s)) (T1.ext s)⟩
end
section
variable {w : World} {K : PySem.W.Frag} {mg : Str → Option Value} {base : Heap} {gC gG : Addr}
def spLaw (K : PySem.W.Frag) (tb : Addr) : Sp := fun vs H Q _ => ∃ (a : Addr) (ns : List Int), vs = [.ref a] ∧ SqL K H a (ns.map V.int) ∧ ns.length ≤ 63 ∧ H tb = some (.tbl #[]) ∧ ∀ H', Q (.bl true) H'
theorem fg_law (T : Txt K mg) (U : Tx2 K gC gG) (T2 : Tx3 K gC gG mg) (hR : ∃ f, FnP K "_law_right" s__law_right f ∧ mg "_law_right" = some (.ref f)) (hH : ∃ f, FnP K "_law_heard" s__law_heard f ∧ mg "_law_heard" = some (.ref f))
    {fd : FuncData} {c tb : Addr} (F : FunD K "law" "law" (defArgs s_law) (defBody s_law) (defScope s_law) [] [] (He.fAd K ("law", none)) fd) (hc : He.codeOf K ("law", none) = c) (TB : LamX.TabB base mg c tb) : FnG PP w K mg base (L2.CX PP w) 9 (He.fAd K ("law", none)) fd ["_law_script"] (spLaw K tb) := by
  have G__law_pen : Df PP w K mg base "_law_pen" 1 _ _ := df__law_pen T
  have G__law_name : Df PP w K mg base "_law_name" 3 _ _ := df__law_name T
  have G__law_pick : Df PP w K mg base "_law_pick" 2 _ _ := df__law_pick T
  have G__law_right : Dg PP w K mg base "_law_right" 7 _ _ := dg__law_right T U T2 hR
  have FIC : Fo PP w K mg base (iC K) 4 _ _ := fo_Come_init T U T2
  have FIG : Fo PP w K mg base (iG K) 4 _ _ := fo_Go_init T U T2
  have FEC : Fo PP w K mg base (eC K) 1 _ _ := fo_Come_eq T U T2
  have FEG : Fo PP w K mg base (eG K) 1 _ _ := fo_Go_eq T U T2
  obtain ⟨g, ⟨fdH, FH⟩, hHm⟩ := hH
  have bH := FunD.bindsN (ps := ["_law_ask"]) FH (fun _ _ _ _ _ _ us hl => match us, hl with | [_], _ => rfl)
  have hHk := FH.kp
  obtain ⟨oc, od, dV, kV, doc, pm, an, cdv, ct, osl, rfl, lkH, hcH, _, _⟩ := FH.ex
  refine fngC_of (p := ("law", none)) F sc_law (fun vs H Q E h => ?_) (fun cdv hcd A outer s H vs Q E hgd hr h => ?_)
  · obtain ⟨a, ns, rfl, _⟩ := h
    rfl
  · obtain ⟨a, ns, rfl, hS, hl, ht, k⟩ := h
    have hu64 := hr.units
    have hcode : (cxOf (L2.CX PP w) PP w K mg base ["_law_script", "_law_pen_here", "_law_turn", "_law_other", "_law_some", "_law_heard_here", "_law_bad", "_law_odd", "_law_place", "_law_thing"] "law" (defScope s_law) (He.fAd K ("law", none)) cdv A outer s H E).env.code = .ref c := by rw [← hc]; exact hcd
    obtain ⟨TS, hTS⟩ : ∃ TS : List (Addr × Str), TS = [(tb, (envOfC "law" (defScope s_law) s.heap.objs.size (He.fAd K ("law", none)) cdv).qual ++ "<lambda>")] := ⟨_, rfl⟩
    refine ⟨_, (pss_cons (ps_set (i := 1) sc_law.nd rfl (Or.inl rfl) (pe_df G__law_pen hr (by decide) (by rfl) (takes_of rfl rfl rfl rfl) (pa_cons (pv 0) pa_nil)))
    (pss_cons (ps_for (passes_of rfl) rfl (pi_range1 rfl T.n_range (pa_cons pe_int pa_nil)) (pg_name (i := 2) sc_law.nd rfl (Or.inl rfl)) (C8.pss_cut (ps_asg (pe_tup (pa_cons (pe_df G__law_name hr (by decide) (by rfl) (takes_of rfl rfl rfl rfl) (pa_cons (pv 1) pa_nil)) (pa_cons (pe_df G__law_name hr (by decide) (by rfl) (takes_of rfl rfl rfl rfl) (pa_cons (pv 1) pa_nil)) pa_nil))) (pg_tup rfl (pgs_cons (pg_name (i := 9) sc_law.nd rfl (Or.inr rfl)) (pgs_cons (pg_name (i := 8) sc_law.nd rfl (Or.inr rfl)) pgs_nil))))
    (C8.pss_cut (ps_set (i := 3) sc_law.nd rfl (Or.inl rfl) (pe_df G__law_pick hr (by decide) (by rfl) (takes_of rfl rfl rfl rfl) (pa_cons (pv 1) (pa_cons (pe_lst (pa_cons (pv 9) (pa_cons (pv 8) (pa_cons (pe_df G__law_name hr (by decide) (by rfl) (takes_of rfl rfl rfl rfl) (pa_cons (pv 1) pa_nil)) pa_nil)))) pa_nil))))
    (C8.pss_cut (ps_if (pt_not (pt_val (pe_dg G__law_right hgd hr (by decide) (by rfl) (takes_of rfl rfl rfl rfl) (pa_cons (pv 9) (pa_cons (pv 8) pa_nil))))) (pss_one (ps_ret pe_bl)) pss_nil)
    (C8.pss_cut (ps_if (pt_cmpR op_ne (pe_cmpR (op_eqF (k := 1) (j := 8) U.eqC FEC hr (by decide)) (pe_mk (E := noE) U.mkC FIC hr (by decide) rfl T2.g_Come LamX.takes0 (fun _ _ _ _ z => z) (pa_cons (pv 9) pa_nil)) (pe_mk (E := noE) U.mkC FIC hr (by decide) rfl T2.g_Come LamX.takes0 (fun _ _ _ _ z => z) (pa_cons (pv 3) pa_nil)) (nomark _)) (pe_cmpR op_eq (pv 9) (pv 3) (nomark _)) (nomark _)) (pss_one (ps_ret pe_bl)) pss_nil)
    (C8.pss_cut (ps_if (pt_cmpR op_ne (pe_cmpR (op_eqF (k := 1) (j := 8) U.eqG FEG hr (by decide)) (pe_mk (E := noE) U.mkG FIG hr (by decide) rfl T2.g_Go LamX.takes0 (fun _ _ _ _ z => z) (pa_cons (pv 9) (pa_cons pe_str pa_nil))) (pe_mk (E := noE) U.mkG FIG hr (by decide) rfl T2.g_Go LamX.takes0 (fun _ _ _ _ z => z) (pa_cons (pv 3) (pa_cons pe_str pa_nil))) (nomark _)) (pe_cmpR op_eq (pv 9) (pv 3) (nomark _)) (nomark _)) (pss_one (ps_ret pe_bl)) pss_nil)
    (C8.pss_cut (ps_if (pt_cmpR op_ne (pe_cmpR (op_eqF (k := 1) (j := 8) U.eqG FEG hr (by decide)) (pe_mk (E := noE) U.mkG FIG hr (by decide) rfl T2.g_Go LamX.takes0 (fun _ _ _ _ z => z) (pa_cons pe_str (pa_cons (pv 8) pa_nil))) (pe_mk (E := noE) U.mkG FIG hr (by decide) rfl T2.g_Go LamX.takes0 (fun _ _ _ _ z => z) (pa_cons pe_str (pa_cons (pv 3) pa_nil))) (nomark _)) (pe_cmpR op_eq (pv 8) (pv 3) (nomark _)) (nomark _)) (pss_one (ps_ret pe_bl)) pss_nil)
    (C8.pss_cut (ps_set (i := 4) sc_law.nd rfl (Or.inl rfl) (pe_lst (pa_cons pe_non (pa_cons pe_int (pa_cons pe_bl (pa_cons pe_str (pa_cons pe_str (pa_cons pe_str (pa_cons pe_str (pa_cons pe_str (pa_cons (pe_tup (pa_cons pe_str pa_nil)) (pa_cons (pe_lst (pa_cons pe_str pa_nil)) (pa_cons pe_dnewK (pa_cons (pe_op op_pow pe_int pe_int) (pa_cons pe_str pa_nil)))))))))))))))
    (C8.pss_cut (ps_set (i := 7) sc_law.nd rfl (Or.inr rfl) (pe_df G__law_pick hr (by decide) (by rfl) (takes_of rfl rfl rfl rfl) (pa_cons (pv 1) (pa_cons (pv 4) pa_nil))))
    (C8.pss_cut (ps_set (i := 6) sc_law.nd rfl (Or.inr rfl) (pe_df G__law_pick hr (by decide) (by rfl) (takes_of rfl rfl rfl rfl) (pa_cons (pv 1) (pa_cons (pe_lst (pa_cons pe_non (pa_cons pe_str (pa_cons pe_int (pa_cons (pe_lst (pa_cons pe_str pa_nil)) (pa_cons pe_str (pa_cons (pe_tup (pa_cons pe_str pa_nil)) pa_nil))))))) pa_nil))))
    (C8.pss_cut (ps_set (i := 5) sc_law.nd rfl (Or.inl rfl) (pe_lst (pa_cons (LamX.pe_lamcall (T := TS) (TT := TTheard K) (k := 5) rfl hHm hHk lkH hcH bH sc__law_heard rfl (.inl rfl) (heard_gives T U T2 hgd (hr.mono (by decide))) TB hcode (by rw [hTS]; exact List.mem_singleton.mpr rfl) (fun p hp _ => by rw [hTS] at hp; rw [List.mem_singleton.mp hp]; rfl) (hr.mono (by decide)) (LamX.lamS_by (sc := defScope s_law) (by decide +kernel)) rfl (fun _ _ _ _ _ => rfl) (fun A outer s H E f c2 hr2 => (pe_mk (E := E) U.mkC FIC hr2 (by decide) rfl T2.g_Come (takes_of rfl rfl rfl rfl) (fun _ _ _ _ z => z) (pa_cons (pv 7) pa_nil)))) pa_nil)))
    (C8.pss_cut (ps_expr (pe_bm PySem.F.plainAttrs_list PySem.F.slot_list_append PySem.F.type_list_append mt_append (pv 5) (pa_cons (LamX.pe_lamcall (T := TS) (TT := TTheard K) (k := 5) rfl hHm hHk lkH hcH bH sc__law_heard rfl (.inl rfl) (heard_gives T U T2 hgd (hr.mono (by decide))) TB hcode (by rw [hTS]; exact List.mem_singleton.mpr rfl) (fun p hp _ => by rw [hTS] at hp; rw [List.mem_singleton.mp hp]; rfl) (hr.mono (by decide)) (LamX.lamS_by (sc := defScope s_law) (by decide +kernel)) rfl (fun _ _ _ _ _ => rfl) (fun A outer s H E f c2 hr2 => (pe_mk (E := E) U.mkG FIG hr2 (by decide) rfl T2.g_Go (takes_of rfl rfl rfl rfl) (fun _ _ _ _ z => z) (pa_cons (pv 7) (pa_cons (pv 6) pa_nil))))) pa_nil)))
    (C8.pss_cut (ps_expr (pe_bm PySem.F.plainAttrs_list PySem.F.slot_list_append PySem.F.type_list_append mt_append (pv 5) (pa_cons (LamX.pe_lamcall (T := TS) (TT := TTheard K) (k := 5) rfl hHm hHk lkH hcH bH sc__law_heard rfl (.inl rfl) (heard_gives T U T2 hgd (hr.mono (by decide))) TB hcode (by rw [hTS]; exact List.mem_singleton.mpr rfl) (fun p hp _ => by rw [hTS] at hp; rw [List.mem_singleton.mp hp]; rfl) (hr.mono (by decide)) (LamX.lamS_by (sc := defScope s_law) (by decide +kernel)) rfl (fun _ _ _ _ _ => rfl) (fun A outer s H E f c2 hr2 => (pe_mk (E := E) U.mkG FIG hr2 (by decide) rfl T2.g_Go (takes_of rfl rfl rfl rfl) (fun _ _ _ _ z => z) (pa_cons (pv 7) (pa_cons (pv 8) pa_nil))))) pa_nil)))
    (C8.pss_cut (ps_expr (pe_bm PySem.F.plainAttrs_list PySem.F.slot_list_append PySem.F.type_list_append mt_append (pv 5) (pa_cons (LamX.pe_lamcall (T := TS) (TT := TTheard K) (k := 5) rfl hHm hHk lkH hcH bH sc__law_heard rfl (.inl rfl) (heard_gives T U T2 hgd (hr.mono (by decide))) TB hcode (by rw [hTS]; exact List.mem_singleton.mpr rfl) (fun p hp _ => by rw [hTS] at hp; rw [List.mem_singleton.mp hp]; rfl) (hr.mono (by decide)) (LamX.lamS_by (sc := defScope s_law) (by decide +kernel)) rfl (fun _ _ _ _ _ => rfl) (fun A outer s H E f c2 hr2 => (pe_mk (E := E) U.mkG FIG hr2 (by decide) rfl T2.g_Go (takes_of rfl rfl rfl rfl) (fun _ _ _ _ z => z) (pa_cons (pv 9) (pa_cons (pv 6) pa_nil))))) pa_nil)))
    (pss_one (ps_if (pt_cmpR (op_neP hu64) (pv 5) (pe_op op_cat (pe_op op_rep (pe_lst (pa_cons (pe_callB (call_reprG hgd hu64) (by rfl) T2.n_repr (by decide +kernel) (pa_cons (pv 7) pa_nil)) pa_nil)) pe_int) (pe_lst (pa_cons (pe_callB (call_reprG hgd hu64) (by rfl) T2.n_repr (by decide +kernel) (pa_cons (pv 6) pa_nil)) pa_nil))) (nomark _)) (pss_one (ps_ret pe_bl)) pss_nil))))))))))))))))
    (pss_one (ps_ret pe_bl)))), ?_⟩
    have hT0 : LamX.Tabs TS H := fun p hp => by
      rw [hTS] at hp
      rw [List.mem_singleton.mp hp]
      exact LamX.TabS.nil ht
    clear hTS hcode G__law_pen G__law_name G__law_pick G__law_right FIC FIG FEC FEG bH hHk lkH hcH hHm hcd hgd hu64 hR FH TB hc F
    dsimp only [cxOf]
    walk_at "r"
    refine ⟨a, ns, rfl, hS, hl, fun p c H1 hp hc s1 P1 => ?_⟩
    walk_at "r"
    refine ⟨by decide, by decide, ?_⟩
    have T1 := hT0.ext s1
    refine for_it walk_range (fun i σ' H' => (∃ v2 v3 v4 v5 v6 v7 v8 v9, σ' = [some (.ref a), some (.ref p), v2, v3, v4, v5, v6, v7, v8, v9]) ∧ Pen H' p c ns (40 * i) ∧ LamX.Tabs TS H') ⟨⟨_, _, _, _, _, _, _, _, rfl⟩, P1, T1⟩ (fun _ _ _ _ _ => trivial) (fun i v σ1 H2 H3 hi hPv hY => ?_) (fun σ1 H2 hPv => ?_)
    · clear T1 P1 s1
      obtain ⟨⟨v2, v3, v4, v5, v6, v7, v8, v9, rfl⟩, P2, T2'⟩ := hPv
      obtain ⟨rfl, rfl⟩ := hY
      have hi : i < 10 := by simpa using hi
      walk_at "r"
      refine r_cut (fun σ' H' => ∃ (x y : Str) (v2 v3 v4 v5 v6 v7 : Option V), σ' = [some (.ref a), some (.ref p), v2, v3, v4, v5, v6, v7, some (.str y), some (.str x)] ∧ nameB x = true ∧ nameB y = true ∧ Pen H' p c ns (40 * i + 20) ∧ LamX.Tabs TS H') ?_ ?_
      · walk_at "r"
        refine ⟨p, c, ns, _, rfl, P2, by omega, fun x H3 hx k3 P3 => ?_⟩
        walk_at "r"
        refine ⟨p, c, ns, _, rfl, P3, by omega, fun y H4 hy k4 P4 => ?_⟩
        walk_at "r"
        refine ⟨r_size (by simp), ?_⟩
        tbr_iter (t1, ht1, H5, s5, et1, o5)
        refine ⟨t1, _, rfl, SqT.of et1, rfl, ?_⟩
        refine ⟨_, _, rfl, ?_⟩
        walk_at "r"
        refine ⟨_, _, rfl, ?_⟩
        walk_at "r"
        exact ⟨rfl, x, y, _, _, _, _, _, _, rfl, hx, hy, (P4.same s5).mono (by omega), ((tabs_kp (tabs_kp T2' P2 k3) P3 k4).ext s5)⟩
      clear P2 T2'
      rintro σ1 H3 ⟨x, y, v2, v3, v4, v5, v6, v7, rfl, hx, hy, P3, T3⟩
      have lx := nameB_len hx
      have ly := nameB_len hy
      refine r_cut (fun σ' H' => ∃ (o : Str) (v2 v4 v5 v6 v7 : Option V), σ' = [some (.ref a), some (.ref p), v2, some (.str o), v4, v5, v6, v7, some (.str y), some (.str x)] ∧ nameB o = true ∧ Pen H' p c ns (40 * i + 31) ∧ LamX.Tabs TS H') ?_ ?_
      · walk_at "r"
        refine ⟨p, c, ns, _, rfl, P3, by omega, fun z H4 hz k4 P4 => ?_⟩
        walk_at "r"
        refine ⟨r_size (by simp), ?_⟩
        tbr_iter (l, hl', H5, s5, el, o5)
        walk_at "r"
        refine ⟨p, c, ns, _, _, _, rfl, P4.same s5, by omega, .lst (SqL.of el) (P4.new hl'), by simp, by simp, fun v H6 hv k6 P6 => ?_⟩
        obtain ⟨o, rfl, ho⟩ := strs_all (f := nameB) (xs := [x, y, z]) hv (by simp [hx, hy, hz])
        walk_at "r"
        exact ⟨o, _, _, _, _, _, rfl, ho, P6.mono (by omega), tabs_kp ((tabs_kp T3 P3 k4).ext s5) (P4.same s5) k6⟩
      clear P3 T3
      rintro σ1 H4 ⟨o, v2, v4, v5, v6, v7, rfl, ho, P4, T4⟩
      let M : L2.St → Hp → Prop := fun σ' H' => ∃ v2 v4 v5 v6 v7 : Option V, σ' = [some (.ref a), some (.ref p), v2, some (.str o), v4, v5, v6, v7, some (.str y), some (.str x)] ∧ Pen H' p c ns (40 * i + 31) ∧ LamX.Tabs TS H'
      refine r_cut M ?_ ?_
      · walk_at "r"
        refine ⟨x, y, rfl, hx, hy, fun H' s => ?_⟩
        walk_at "r"
        exact ⟨_, _, _, _, _, rfl, P4.same s, T4.ext s⟩
      clear P4 T4
      rintro σ1 H4 ⟨v2, v4, v5, v6, v7, rfl, P4, T4⟩
      refine r_cut M ?_ ?_
      · walk_at "r"
        refine r_mk ?_
        walk_at "r"
        refine m_Come hx fun a1 H5 s5 n5 i5 => ?_
        walk_at "r"
        refine r_mk ?_
        walk_at "r"
        refine m_Come ho fun a2 H6 s6 n6 i6 => ?_
        walk_at "r"
        refine o_CC U (i5.same s6) i6 (r := decide (V.str x = V.str o)) rfl ?_
        walk_at "r"
        refine r_iteN (fun h => absurd rfl h) (fun _ => ?_)
        exact ⟨_, _, _, _, _, rfl, P4.same (s5.trans s6), T4.ext (s5.trans s6)⟩
      clear P4 T4
      rintro σ1 H4 ⟨v2, v4, v5, v6, v7, rfl, P4, T4⟩
      refine r_cut M ?_ ?_
      · walk_at "r"
        refine r_mk ?_
        walk_at "r"
        refine m_Go hx (by decide +kernel) fun a1 H5 s5 n5 i5 => ?_
        walk_at "r"
        refine r_mk ?_
        walk_at "r"
        refine m_Go ho (by decide +kernel) fun a2 H6 s6 n6 i6 => ?_
        walk_at "r"
        refine o_GG U (i5.same s6) i6 (r := decide (V.str x = V.str o)) (by simp) ?_
        walk_at "r"
        refine r_iteN (fun h => absurd rfl h) (fun _ => ?_)
        exact ⟨_, _, _, _, _, rfl, P4.same (s5.trans s6), T4.ext (s5.trans s6)⟩
      clear P4 T4
      rintro σ1 H4 ⟨v2, v4, v5, v6, v7, rfl, P4, T4⟩
      refine r_cut M ?_ ?_
      · walk_at "r"
        refine r_mk ?_
        walk_at "r"
        refine m_Go (by decide +kernel) hy fun a1 H5 s5 n5 i5 => ?_
        walk_at "r"
        refine r_mk ?_
        walk_at "r"
        refine m_Go (by decide +kernel) ho fun a2 H6 s6 n6 i6 => ?_
        walk_at "r"
        refine o_GG U (i5.same s6) i6 (r := decide (V.str y = V.str o)) (by simp) ?_
        walk_at "r"
        refine r_iteN (fun h => absurd rfl h) (fun _ => ?_)
        exact ⟨_, _, _, _, _, rfl, P4.same (s5.trans s6), T4.ext (s5.trans s6)⟩
      clear P4 T4
      rintro σ1 H4 ⟨v2, v4, v5, v6, v7, rfl, P4, T4⟩
      refine r_cut (fun σ' H' => ∃ (v2 v5 v6 v7 : Option V) (ls : Addr) (xs : List V), σ' = [some (.ref a), some (.ref p), v2, some (.str o), some (.ref ls), v5, v6, v7, some (.str y), some (.str x)] ∧ H' ls = some (.lst xs) ∧ ls ≠ p ∧ xs.length = 13 ∧ (∀ v ∈ xs, ∃ d, BadV H' v d) ∧ Pen H' p c ns (40 * i + 31) ∧ LamX.Tabs TS H') ?_ ?_
      · walk_at "r"
        refine ⟨r_size (by simp), ?_⟩
        tbr_iter (t1, ht1, H5, s5, et1, o5)
        walk_at "r"
        refine ⟨r_size (by simp), ?_⟩
        tbr_iter (l1, hl1, H6, s6, el1, o6)
        walk_at "r"
        tbr_iter (d1, hd1, H7, s7, ed1, o7)
        walk_at "r"
        refine ⟨r_size (by simp), ?_⟩
        tbr_iter (ls, hls, H8, s8, els, o8)
        walk_at "r"
        have S8 : Same H4 H8 := ((s5.trans s6).trans s7).trans s8
        refine ⟨_, _, _, _, ls, _, rfl, els, ((P4.same s5).same (s6.trans s7)).new hls, rfl, fun v hv => ?_, P4.same S8, T4.ext S8⟩
        simp only [List.mem_cons, List.not_mem_nil, or_false] at hv
        rcases hv with rfl | rfl | rfl | rfl | rfl | rfl | rfl | rfl | rfl | rfl | rfl | rfl | rfl
        · exact ⟨_, .non⟩
        · exact ⟨_, .int _ (by decide +kernel)⟩
        · exact ⟨_, .bl _⟩
        · exact ⟨_, .str _ (by decide +kernel) (by decide +kernel) (by decide +kernel)⟩
        · exact ⟨_, .str _ (by decide +kernel) (by decide +kernel) (by decide +kernel)⟩
        · exact ⟨_, .str _ (by decide +kernel) (by decide +kernel) (by decide +kernel)⟩
        · exact ⟨_, .str _ (by decide +kernel) (by decide +kernel) (by decide +kernel)⟩
        · exact ⟨_, .str _ (by decide +kernel) (by decide +kernel) (by decide +kernel)⟩
        · exact ⟨_, .tup _ (by decide +kernel) (s8 _ _ (s7 _ _ (s6 _ _ et1)))⟩
        · exact ⟨_, .lst _ (by decide +kernel) (s8 _ _ (s7 _ _ el1))⟩
        · exact ⟨_, .dic (s8 _ _ ed1)⟩
        · exact ⟨_, .int _ (by decide +kernel)⟩
        · exact ⟨_, .str _ (by decide +kernel) (by decide +kernel) (by decide +kernel)⟩
      clear P4 T4
      rintro σ1 H4 ⟨v2, v5, v6, v7, ls, xs, rfl, hls, nls, h13, hB, P4, T4⟩
      refine r_cut (fun σ' H' => ∃ (v2 v4 v5 v6 : Option V) (u1 : V) (d1 : PyData), σ' = [some (.ref a), some (.ref p), v2, some (.str o), v4, v5, v6, some u1, some (.str y), some (.str x)] ∧ BadV H' u1 d1 ∧ Pen H' p c ns (40 * i + 32) ∧ LamX.Tabs TS H') ?_ ?_
      · walk_at "r"
        refine ⟨p, c, ns, _, _, xs, rfl, P4, by omega, .lst (SqL.of hls) nls, by omega, by omega, fun u H5 hu k5 P5 => ?_⟩
        walk_at "r"
        obtain ⟨d, hd⟩ := hB u hu
        exact ⟨_, _, _, _, u, d, rfl, hd.kp P4 k5, P5, tabs_kp T4 P4 k5⟩
      clear P4 T4 hls nls h13 hB
      rintro σ1 H4 ⟨v2, v4, v5, v6, u1, d1, rfl, B1, P4, T4⟩
      refine r_cut (fun σ' H' => ∃ (v2 v4 v5 : Option V) (u2 : V) (d2 : PyData), σ' = [some (.ref a), some (.ref p), v2, some (.str o), v4, v5, some u2, some u1, some (.str y), some (.str x)] ∧ BadV H' u1 d1 ∧ BadV H' u2 d2 ∧ Pen H' p c ns (40 * i + 33) ∧ LamX.Tabs TS H') ?_ ?_
      · walk_at "r"
        refine ⟨r_size (by simp), ?_⟩
        tbr_iter (l1, hl1, H6, s6, el1, o6)
        walk_at "r"
        refine ⟨r_size (by simp), ?_⟩
        tbr_iter (t1, ht1, H7, s7, et1, o7)
        walk_at "r"
        refine ⟨r_size (by simp), ?_⟩
        tbr_iter (ls, hls, H8, s8, els, o8)
        walk_at "r"
        have S8 : Same H4 H8 := (s6.trans s7).trans s8
        have P8 := P4.same S8
        refine ⟨p, c, ns, _, _, _, rfl, P8, by omega, .lst (SqL.of els) ((P4.same (s6.trans s7)).new hls), by simp, by simp, fun u H5 hu k5 P5 => ?_⟩
        walk_at "r"
        have hd : ∃ d, BadV H8 u d := by
          simp only [List.mem_cons, List.not_mem_nil, or_false] at hu
          rcases hu with rfl | rfl | rfl | rfl | rfl | rfl
          · exact ⟨_, .non⟩
          · exact ⟨_, .str _ (by decide +kernel) (by decide +kernel) (by decide +kernel)⟩
          · exact ⟨_, .int _ (by decide +kernel)⟩
          · exact ⟨_, .lst _ (by decide +kernel) (s8 _ _ (s7 _ _ el1))⟩
          · exact ⟨_, .str _ (by decide +kernel) (by decide +kernel) (by decide +kernel)⟩
          · exact ⟨_, .tup _ (by decide +kernel) (s8 _ _ et1)⟩
        obtain ⟨d, hd⟩ := hd
        exact ⟨_, _, _, u, d, rfl, (B1.same S8).kp P8 k5, hd.kp P8 k5, P5, tabs_kp (T4.ext S8) P8 k5⟩
      clear P4 T4 B1
      rintro σ1 H4 ⟨v2, v4, v5, u2, d2, rfl, B1, B2, P4, T4⟩
      refine r_cut (fun σ' H' => ∃ (v2 v4 : Option V) (l : Addr), σ' = [some (.ref a), some (.ref p), v2, some (.str o), v4, some (.ref l), some u2, some u1, some (.str y), some (.str x)] ∧ H' l = some (.lst [.str d1.shown]) ∧ l ≠ p ∧ l ≠ c ∧ u1 ≠ .ref l ∧ u2 ≠ .ref l ∧ BadV H' u1 d1 ∧ BadV H' u2 d2 ∧ Pen H' p c ns (40 * i + 33) ∧ LamX.Tabs TS H') ?_ ?_
      · walk_at "r"
        refine h_Come T4 rfl B1 fun H5 e5 T5 => ?_
        walk_at "r"
        refine ⟨r_size (by simp), ?_⟩
        tbr_iter (l, hl', H6, s6, el, o6)
        walk_at "r"
        have P5 := P4.ext e5
        have hlc : l ≠ c := fun z => by have := P5.cells; rw [← z, hl'] at this; cases this
        exact ⟨_, _, l, rfl, el, P5.new hl', hlc, (B1.ext e5).fresh hl', (B2.ext e5).fresh hl', (B1.ext e5).same s6, (B2.ext e5).same s6, P5.same s6, T5.ext s6⟩
      clear P4 T4 B1 B2
      rintro σ1 H4 ⟨v2, v4, l, rfl, el, nlp, nlc, nl1, nl2, B1, B2, P4, T4⟩
      let M2 : List V → L2.St → Hp → Prop := fun zs σ' H' => ∃ (v2 v4 : Option V), σ' = [some (.ref a), some (.ref p), v2, some (.str o), v4, some (.ref l), some u2, some u1, some (.str y), some (.str x)] ∧ H' l = some (.lst zs) ∧ BadV H' u1 d1 ∧ BadV H' u2 d2 ∧ Pen H' p c ns (40 * i + 33) ∧ LamX.Tabs TS H'
      refine r_cut (M2 [.str d1.shown, .str d1.shown]) ?_ ?_
      · walk_at "r"
        refine ⟨.inl ⟨rfl, _, SqL.of el⟩, ?_⟩
        walk_at "r"
        refine h_Go T4 rfl rfl (fun H e => (B1.ext e).nv) (fun H e => (B2.ext e).nv) (.inl ⟨B1.not, rfl⟩) B1 ?_
        rintro H5 e5 T5
        walk_at "r"
        have el5 := e5 _ _ el (fun ps z => by cases z)
        refine r_app el5 (by simp) ?_
        exact ⟨_, _, rfl, upd_same, (B1.ext e5).upd nl1, (B2.ext e5).upd nl2, (P4.ext e5).upd nlp nlc, tabs_upd T5 el5⟩
      clear P4 T4 B1 B2 el
      rintro σ1 H4 ⟨v2, v4, rfl, el, B1, B2, P4, T4⟩
      refine r_cut (M2 [.str d1.shown, .str d1.shown, .str d1.shown]) ?_ ?_
      · walk_at "r"
        refine ⟨.inl ⟨rfl, _, SqL.of el⟩, ?_⟩
        walk_at "r"
        refine h_Go T4 rfl rfl (fun H e => (B1.ext e).nv) (fun H e => .inl ⟨y, rfl, by omega⟩) (.inl ⟨B1.not, rfl⟩) B1 ?_
        rintro H5 e5 T5
        walk_at "r"
        have el5 := e5 _ _ el (fun ps z => by cases z)
        refine r_app el5 (by simp) ?_
        exact ⟨_, _, rfl, upd_same, (B1.ext e5).upd nl1, (B2.ext e5).upd nl2, (P4.ext e5).upd nlp nlc, tabs_upd T5 el5⟩
      clear P4 T4 B1 B2 el
      rintro σ1 H4 ⟨v2, v4, rfl, el, B1, B2, P4, T4⟩
      refine r_cut (M2 [.str d1.shown, .str d1.shown, .str d1.shown, .str d2.shown]) ?_ ?_
      · walk_at "r"
        refine ⟨.inl ⟨rfl, _, SqL.of el⟩, ?_⟩
        walk_at "r"
        refine h_Go T4 rfl rfl (fun H e => .inl ⟨x, rfl, by omega⟩) (fun H e => (B2.ext e).nv) (.inr ⟨hx, B2.not, rfl⟩) B2 ?_
        rintro H5 e5 T5
        walk_at "r"
        have el5 := e5 _ _ el (fun ps z => by cases z)
        refine r_app el5 (by simp) ?_
        exact ⟨_, _, rfl, upd_same, (B1.ext e5).upd nl1, (B2.ext e5).upd nl2, (P4.ext e5).upd nlp nlc, tabs_upd T5 el5⟩
      clear P4 T4 B1 B2 el
      rintro σ1 H4 ⟨v2, v4, rfl, el, B1, B2, P4, T4⟩
      walk_at "r"
      refine r_repr B1.shown ?_
      walk_at "r"
      refine ⟨r_size (by simp), ?_⟩
      tbr_iter (r1, hr1, H5, s5, er1, o5)
      walk_at "r"
      refine ⟨r1, 3, _, rfl, rfl, er1, by decide, by decide, r_size (by simp), ?_⟩
      tbr_iter (r2, hr2, H6, s6, er2, o6)
      walk_at "r"
      refine r_repr (B2.same (s5.trans s6)).shown ?_
      walk_at "r"
      refine ⟨r_size (by simp), ?_⟩
      tbr_iter (r3, hr3, H7, s7, er3, o7)
      walk_at "r"
      refine ⟨r2, r3, _, _, rfl, rfl, s7 _ _ er2, er3, r_size (by simp), ?_⟩
      tbr_iter (r4, hr4, H8, s8, er4, o8)
      walk_at "r"
      have S8 : Same H4 H8 := ((s5.trans s6).trans s7).trans s8
      refine r_neS [d1.shown, d1.shown, d1.shown, d2.shown] (SqL.of (S8 _ _ el)) (SqL.of er4) ?_
      walk_at "r"
      exact ⟨⟨_, _, _, _, _, _, _, _, rfl⟩, (P4.same S8).mono (by omega), T4.ext S8⟩
    · obtain ⟨⟨v2, v3, v4, v5, v6, v7, v8, v9, rfl⟩, _, _⟩ := hPv
      walk_at "r"
      exact k _
end
end Nk

namespace Nk
open PySem PySem.Spec PyProof.Rows L2
def insB (K : PySem.W.Frag) (C : Addr) : Bool := He.eqO (PySem.W.findIn K (.ref C) "__class__") (some (some (.builtin "object.__class__"))) && (He.eqO (PySem.W.specialIn K (.builtin "object.__class__") "__get__") (some (some (.builtin "getset_descriptor.__get__"))) && (decide (PySem.W.takesIn K (.builtin "object.__class__") = some true) && decide (PySem.W.mroIn K C (.type "object") = some true)))
theorem insB_ok {K : PySem.W.Frag} {C : Addr} (h : insB K C = true) : InsC K C := by
  obtain ⟨h1, h⟩ := He.ba h
  obtain ⟨h2, h⟩ := He.ba h
  obtain ⟨h3, h4⟩ := He.ba h
  exact ⟨He.eqO_ok h1, He.eqO_ok h2, of_decide_eq_true h3, of_decide_eq_true h4⟩
def kit (K : PySem.W.Frag) (t c : Value) (b : Bool) : Bool := decide (PySem.W.kitOne K t c = some b)
/-- the classes' facts -/
def t2L (K : PySem.W.Frag) : List Bool := [
  supB K (cB K), xfB K (cB K), He.eqO (PySem.W.findIn K (.ref (cB K)) "value") (some none), He.eqO (PySem.W.findIn K (.ref (cB K)) "__init__") (some (some (.ref (fB K)))), decide (PySem.W.typeIn K (.ref (fB K)) = some (.type "function")), clsInB K (cB K),
  decide (PySem.W.exmOne K (.ref (cB K)) (.ref (cB K)) = some true), kit K (.ref (cB K)) (.ref (cN K)) true,
  (He.Fa.mkr "Come").ok K, (He.Fa.mkr "Go").ok K, (He.Fa.cls "Come").ok K, (He.Fa.cls "Go").ok K, (He.Fa.noat "Come" "kind").ok K, (He.Fa.noat "Go" "kind").ok K, (He.Fa.noat "Go" "bay").ok K,
  propB K (cC K) "parts", propB K (cG K) "parts", eqCB K (cC K), eqCB K (cG K),
  He.eqO (PySem.W.findIn K (.ref (cC K)) "__str__") (some (some (.ref (zC K)))), He.eqO (PySem.W.findIn K (.ref (cG K)) "__str__") (some (some (.ref (zG K)))), PySem.W.isFn K (.ref (zC K)), PySem.W.isFn K (.ref (zG K)), insB K (cC K), insB K (cG K),
  (tys.all fun t => kit K (.type t) (.ref (cC K)) false), (tys.all fun t => kit K (.type t) (.ref (cG K)) false),
  kit K (.ref (cC K)) (.ref (cC K)) true, kit K (.ref (cG K)) (.ref (cG K)) true, kit K (.ref (cC K)) (.ref (cG K)) false, kit K (.ref (cG K)) (.ref (cC K)) false, kit K (.ref (cC K)) (.ref (cD K)) true, kit K (.ref (cG K)) (.ref (cD K)) true,
  (tys.all fun t => PySem.W.notFirst K (cC K) (.type t)), (tys.all fun t => PySem.W.notFirst K (cG K) (.type t)), PySem.W.notFirst K (cC K) (.ref (cC K)), PySem.W.notFirst K (cG K) (.ref (cG K)), PySem.W.notFirst K (cC K) (.ref (cG K)), PySem.W.notFirst K (cG K) (.ref (cC K))]
theorem t2_ok {K : PySem.W.Frag} (h : (t2L K).all id = true) : Tx2 K (getOf K (cC K) "parts") (getOf K (cG K) "parts") := by
  have a : ∀ i (b : Bool), (t2L K)[i]? = some b → b = true := fun i b e => List.all_eq_true.mp h b (List.mem_of_getElem? e)
  have k : ∀ {t c : Value} {b : Bool}, kit K t c b = true → PySem.W.kitOne K t c = some b := fun h => of_decide_eq_true h
  exact ⟨supB_ok (a 0 _ rfl), xfB_ok (a 1 _ rfl), He.eqO_ok (a 2 _ rfl), He.eqO_ok (a 3 _ rfl), of_decide_eq_true (a 4 _ rfl), clsInB_ok (a 5 _ rfl), of_decide_eq_true (a 6 _ rfl), k (a 7 _ rfl), He.mkr_ok (a 8 _ rfl), He.mkr_ok (a 9 _ rfl), He.cls_ok (a 10 _ rfl), He.cls_ok (a 11 _ rfl),
    He.noat_ok (a 12 _ rfl), He.noat_ok (a 13 _ rfl), He.noat_ok (a 14 _ rfl), propB_ok (a 15 _ rfl), propB_ok (a 16 _ rfl), eqCB_ok (a 17 _ rfl), eqCB_ok (a 18 _ rfl), He.eqO_ok (a 19 _ rfl), He.eqO_ok (a 20 _ rfl), a 21 _ rfl, a 22 _ rfl, insB_ok (a 23 _ rfl), insB_ok (a 24 _ rfl),
    fun t ht => k (List.all_eq_true.mp (a 25 _ rfl) t ht), fun t ht => k (List.all_eq_true.mp (a 26 _ rfl) t ht), k (a 27 _ rfl), k (a 28 _ rfl), k (a 29 _ rfl), k (a 30 _ rfl), k (a 31 _ rfl), k (a 32 _ rfl), fun t ht => List.all_eq_true.mp (a 33 _ rfl) t ht, fun t ht => List.all_eq_true.mp (a 34 _ rfl) t ht, a 35 _ rfl, a 36 _ rfl, a 37 _ rfl, a 38 _ rfl⟩
/-! ### the head -/
def gl (x : Str) : PySem.W.Frag → Addr := fun K => He.ga K x
def me (c m : Str) : PySem.W.Frag → Addr := fun K => He.ma K (He.ga K c) m
def fns : List DefA := [
  ⟨(me "BadName" "__init__"), "__init__", "BadName.__init__", s_BadName_init, some (gl "BadName")⟩,
  ⟨gl "is_name", "is_name", "is_name", s_is_name, none⟩,
  ⟨gl "need_name", "need_name", "need_name", s_need_name, none⟩,
  ⟨(me "Come" "__init__"), "__init__", "Come.__init__", s_Come_init, none⟩,
  ⟨(fun K => getOf K (He.ga K "Come") "parts"), "parts", "Come.parts", s_Come_parts, none⟩,
  ⟨(me "Come" "__eq__"), "__eq__", "Come.__eq__", s_Come_eq, none⟩,
  ⟨(me "Come" "__str__"), "__str__", "Come.__str__", s_Come_str, none⟩,
  ⟨(me "Go" "__init__"), "__init__", "Go.__init__", s_Go_init, none⟩,
  ⟨(fun K => getOf K (He.ga K "Go") "parts"), "parts", "Go.parts", s_Go_parts, none⟩,
  ⟨(me "Go" "__eq__"), "__eq__", "Go.__eq__", s_Go_eq, none⟩,
  ⟨(me "Go" "__str__"), "__str__", "Go.__str__", s_Go_str, none⟩,
  ⟨gl "_law_pen", "_law_pen", "_law_pen", s__law_pen, none⟩,
  ⟨gl "_law_draw", "_law_draw", "_law_draw", s__law_draw, none⟩,
  ⟨gl "_law_pick", "_law_pick", "_law_pick", s__law_pick, none⟩,
  ⟨gl "_law_name", "_law_name", "_law_name", s__law_name, none⟩,
  ⟨gl "_law_heard", "_law_heard", "_law_heard", s__law_heard, none⟩,
  ⟨gl "_law_right", "_law_right", "_law_right", s__law_right, none⟩,
  ⟨gl "law", "law", "law", s_law, none⟩]
def lits : List He.Fa := [.free "isinstance", .free "str", .free "len", .free "all", .free "int", .free "abs", .free "list", .free "range", .free "super", .free "repr", .str "LETTERS" LET, .int "MOST_LETTERS" 8, .glo "is_name", .glo "need_name", .glo "_law_pen", .glo "_law_draw", .glo "_law_pick", .glo "_law_name", .glo "_law_heard", .glo "_law_right", .glo "law", .glo "NextError", .glo "BadName", .glo "Deed", .glo "Come", .glo "Go"]
def exK (K : PySem.W.Frag) : Bool := (lits.all fun f => f.ok K) && (t2L K).all id
def tfs : List He.Defn := [("law", none)]
abbrev Rw : PySem.W.OpenRow := PySem.W.OpenLaw.row PySem.Challenge.rw_nextkind_k31_deeds_made
abbrev FL : Str := "/claim/cut.py"
abbrev hk : PySem.W.Hook := hookN 5 fns FL tfs exK
def ob (s : PySem.W.SharedT) : AlN := obsN 5 fns FL tfs exK (HandSHeadRun.getT s)
theorem ob_eq (s : PySem.W.SharedT) : ob s = hk.obs s.abs := obsN_eq (HandSHeadRun.getT_eq s)
def loose : List Str := ["NextError", "BadName", "LETTERS", "MOST_LETTERS", "is_name", "need_name", "Deed", "Come", "Go", "_law_pen", "_law_draw", "_law_pick", "_law_name", "_law_heard", "_law_right"]
theorem run (w : World) : HandSHeadRun.RunEq Rw (PySem.W.view Rw.prog [19]) hk ob 1900 loose w := by
  intro os
  kernel_rfl
end Nk

namespace Nk
open PySem PySem.Spec PyProof.Rows L2
theorem facts {w : World} {K : PySem.W.Frag} {h : Heap} {mg : Str → Option Value} {fa : Addr} (X : K.In h) (G : h.Ns mainGlobals mg) (hfa : mg ("law" : Str) = some (.ref fa)) (c : SaysN fns FL tfs exK h K) : LawG PP w K 9 63 "_law_script" mg fa h := by
  obtain ⟨m1, m2⟩ := He.ba (show ((lits.all fun f => f.ok K) && (t2L K).all id) = true from c.more)
  have lf : ∀ i (f : He.Fa), lits[i]? = some f → f.ok K = true := fun i f e => List.all_eq_true.mp m1 f (List.mem_of_getElem? e)
  have U := t2_ok m2
  have T : Txt K mg := {
    n_isinstance := (He.free_ok X G (x := "isinstance") (lf 0 _ rfl)),
    n_str := (He.free_ok X G (x := "str") (lf 1 _ rfl)),
    n_len := (He.free_ok X G (x := "len") (lf 2 _ rfl)),
    n_all := (He.free_ok X G (x := "all") (lf 3 _ rfl)),
    n_int := (He.free_ok X G (x := "int") (lf 4 _ rfl)),
    n_abs := (He.free_ok X G (x := "abs") (lf 5 _ rfl)),
    n_list := (He.free_ok X G (x := "list") (lf 6 _ rfl)),
    n_range := (He.free_ok X G (x := "range") (lf 7 _ rfl)),
    c_LETTERS := (let ⟨t, e⟩ := He.str_ok X G (x := "LETTERS") (z := LET) (lf 10 _ rfl); ⟨_, e, t, rfl⟩),
    c_MOST_LETTERS := (let ⟨t, e⟩ := He.int_ok X G (x := "MOST_LETTERS") (i := 8) (lf 11 _ rfl); ⟨_, e, t, rfl⟩),
    d_is_name := ⟨_, (c.fun_ (List.mem_of_getElem? (i := 1) rfl) rfl), (He.glo_ok X G (x := "is_name") (lf 12 _ rfl))⟩,
    d__law_pen := ⟨_, (c.fun_ (List.mem_of_getElem? (i := 11) rfl) rfl), (He.glo_ok X G (x := "_law_pen") (lf 14 _ rfl))⟩,
    d__law_pick := ⟨_, (c.fun_ (List.mem_of_getElem? (i := 13) rfl) rfl), (He.glo_ok X G (x := "_law_pick") (lf 16 _ rfl))⟩,
    d__law_name := ⟨_, (c.fun_ (List.mem_of_getElem? (i := 14) rfl) rfl), (He.glo_ok X G (x := "_law_name") (lf 17 _ rfl))⟩,
    d__law_draw := ⟨_, (c.fun_ (List.mem_of_getElem? (i := 12) rfl) rfl), (He.glo_ok X G (x := "_law_draw") (lf 15 _ rfl))⟩ }
  have T2 : Tx3 K (getOf K (cC K) "parts") (getOf K (cG K) "parts") mg := {
    n_super := (He.free_ok X G (x := "super") (lf 8 _ rfl)),
    n_repr := (He.free_ok X G (x := "repr") (lf 9 _ rfl)),
    g_BadName := (He.glo_ok X G (x := "BadName") (lf 22 _ rfl)),
    g_NextError := (He.glo_ok X G (x := "NextError") (lf 21 _ rfl)),
    g_Come := (He.glo_ok X G (x := "Come") (lf 24 _ rfl)),
    g_Go := (He.glo_ok X G (x := "Go") (lf 25 _ rfl)),
    g_Deed := (He.glo_ok X G (x := "Deed") (lf 23 _ rfl)),
    d_need_name := ⟨_, (c.fun_ (List.mem_of_getElem? (i := 2) rfl) rfl), (He.glo_ok X G (x := "need_name") (lf 13 _ rfl))⟩,
    d_BadName_init := (c.sup (List.mem_of_getElem? (i := 0) rfl) rfl),
    d_Come_init := (c.fun_ (List.mem_of_getElem? (i := 3) rfl) rfl),
    d_Come_parts := (c.fun_ (List.mem_of_getElem? (i := 4) rfl) rfl),
    d_Come_eq := (c.fun_ (List.mem_of_getElem? (i := 5) rfl) rfl),
    d_Come_str := (c.fun_ (List.mem_of_getElem? (i := 6) rfl) rfl),
    d_Go_init := (c.fun_ (List.mem_of_getElem? (i := 7) rfl) rfl),
    d_Go_parts := (c.fun_ (List.mem_of_getElem? (i := 8) rfl) rfl),
    d_Go_eq := (c.fun_ (List.mem_of_getElem? (i := 9) rfl) rfl),
    d_Go_str := (c.fun_ (List.mem_of_getElem? (i := 10) rfl) rfl) }
  have hR : ∃ f, FnP K "_law_right" s__law_right f ∧ mg "_law_right" = some (.ref f) := ⟨_, (c.fun_ (List.mem_of_getElem? (i := 16) rfl) rfl), (He.glo_ok X G (x := "_law_right") (lf 19 _ rfl))⟩
  have hH : ∃ f, FnP K "_law_heard" s__law_heard f ∧ mg "_law_heard" = some (.ref f) := ⟨_, (c.fun_ (List.mem_of_getElem? (i := 15) rfl) rfl), (He.glo_ok X G (x := "_law_heard") (lf 18 _ rfl))⟩
  obtain ⟨fd, F⟩ := (c.fun_ (List.mem_of_getElem? (i := 17) rfl) rfl)
  have e := hfa.symm.trans (He.glo_ok X G (x := "law") (lf 20 _ rfl))
  cases e
  have hm : (("law", none) : He.Defn) ∈ tfs := List.mem_singleton.mpr rfl
  have b := FunD.bindsA (ps := ["_law_script"]) F fun _ _ _ _ _ _ us hl => match us, hl with | [_], _ => rfl
  have one : ∀ {Q : Addr × Addr → Prop}, Q (He.cT K ("law", none)) → ∀ p ∈ [He.cT K ("law", none)], Q p := fun q p hp => by rw [List.mem_singleton.mp hp]; exact q
  exact ⟨fd, [He.cT K ("law", none)], spLaw K (He.cT K ("law", none)).2, one (c.empty _ hm), one (c.out _ hm), one (PySem.W.codeHd_of_K X (c.hd _ hm)), fun s v => b s [v] rfl,
    fun H a ns hl _ hT hS => ⟨a, ns, rfl, hS, hl, hT _ (List.mem_singleton.mpr rfl), fun _ => rfl⟩, fun base _ _ hTB => fg_law T U T2 hR hH F rfl (hTB _ (List.mem_singleton.mpr rfl))⟩
end Nk
open PySem PySem.W PySem.Calls PyProof.Rows
theorem PySem.Challenge.cw_nextkind_k31_deeds_made_holds : PySem.Challenge.rw_nextkind_k31_deeds_made.Holds := by
  w_on; o_law
  refine HandSHeadRun.head_any (r := OpenLaw.row PySem.Challenge.rw_nextkind_k31_deeds_made) (q := view (OpenLaw.row PySem.Challenge.rw_nextkind_k31_deeds_made).prog [19]) (H := Nk.hk) (ob := Nk.ob) (M := 1900) (loose := Nk.loose) (d := HandSHeadRun.topDef (OpenLaw.row PySem.Challenge.rw_nextkind_k31_deeds_made).prog 19) (kwd := []) Nk.ob_eq
    (by kernel_rfl) (fun s => by kernel_rfl) Nk.run (by kernel_rfl) (by kernel_rfl) (by kernel_rfl) (by rfl) (by first | assumption | decide +kernel) (by decide +kernel) ⟨rfl, rfl, rfl, rfl, rfl, by decide +kernel⟩ ?hw ?hc
  case hw => w_witness2
  case hc =>
    refine Nk.walk_ofG (l := PySem.Challenge.rw_nextkind_k31_deeds_made) (n := 63) (k := 9) (x := "_law_script") rfl (by decide) (by kernel_rfl) ⟨rfl, by decide, by decide⟩ ?F
    intro w mg fa h Y G hmg0
    obtain ⟨K, KX, c⟩ := Y
    have hmg : mg ("law" : PySem.Str) = some (.ref fa) := by
      have e : (HandSHeadRun.topDef (OpenLaw.row PySem.Challenge.rw_nextkind_k31_deeds_made).prog 19).name = ("law" : PySem.Str) := by kernel_rfl
      rw [← e]
      exact hmg0
    exact ⟨K, KX, Nk.facts KX G hmg c⟩
