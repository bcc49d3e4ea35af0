import PyProof.Rows.All
import Wide.All
import OpenK.AllK
import Wide.FinOn
import HandS.ForMost
import HandS.ForExc
import HandS.ExcInit
import HandS.ExcField
import HandS.ExcIs
import KE.KExcSuper
import HandS.Wide
import HandS.Codes
import HandS.IsInst
import HandS.Defaults
import HandS.TupAny
import HandS.Walk
import KE.KTreeR
import KE.DataEq
import HandS.Lambda
import HandS.HeadHook4
import PyProof.ReprRoads
import HandS.Property
import HandS.MakeKw
import HandS.MakeKwOnly
import HandS.OwnEq
import KE.KCallOwn
import HandS.HeadWalk
import HandS.HeadEnd
import HandS.Head0
import HandS.Head1
import HandS.Head2
import HandS.FStr
import HandS.More
import HandS.Star
import HandS.ClsMeth
import HandS.ExcValue
import HandS.EndTab
import KE.GoesEnum
import HandS.Deep
import HandS.Text
import HandS.RaiseMore
import PyProof.Rows.StrSplitAre
import PySem.Challenge.RW_nextkind_k33_rows_of_many_deeds
set_option Elab.async false
set_option linter.all false
set_option maxRecDepth 100000
set_option maxHeartbeats 4000000
/-! Sup: a def whose only captured name is its class (super() in it), its body with super().__init__(..) at a place; super().__init__ of an exception over ValueError. -/
namespace Nk
open PySem PySem.Spec PyProof.Rows L2

/-- the names of such a def -/
structure FnSup (N P : List Str) (sc : Scope) : Prop where
  kind : sc.kind = .function
  co : sc.isCoroutine = false
  gen : sc.isGenerator = false
  nd : N.Nodup
  pre : N.take P.length = P
  par : ∀ x ∈ P, sc.names.lookup x = some .local
  nocell : ∀ y ∈ sc.names, y.2 ≠ .cell
  free : ∀ y ∈ sc.names, y.2 = .free → y.1 = ("__class__" : Str)
def fnSupB (N P : List Str) (sc : Scope) : Bool :=
  decide (sc.kind = .function) && !sc.isCoroutine && !sc.isGenerator && decide (N.Nodup) && decide (N.take P.length = P) && P.all (fun x => decide (sc.names.lookup x = some .local)) &&
    sc.names.all fun y => !decide (y.2 = .cell) && (!decide (y.2 = .free) || decide (y.1 = ("__class__" : Str)))
theorem fnSup_by {N P : List Str} {sc : Scope} (h : fnSupB N P sc = true) : FnSup N P sc := by
  unfold fnSupB at h
  simp only [Bool.and_eq_true, Bool.or_eq_true, Bool.not_eq_true', decide_eq_true_eq, decide_eq_false_iff_not, List.all_eq_true] at h
  obtain ⟨⟨⟨⟨⟨⟨h1, h2⟩, h3⟩, h4⟩, h5⟩, h6⟩, h7⟩ := h
  exact ⟨h1, h2, h3, h4, h5, h6, fun y hy => (h7 y hy).1, fun y hy e => ((h7 y hy).2).elim (fun z => absurd e z) id⟩

abbrev supEnv (qual : Str) (scope : Scope) (L f : Addr) (cd : Value) (cc : Addr) : Env := PySem.W.ksEnv qual scope L f cd cc
def supCx (CX : CXT) (P : Program) (w : World) (K : PySem.W.Frag) (mg : Str → Option Value) (base : Heap) (N : List Str) (qual : Str) (scope : Scope) (f : Addr) (cd : Value) (cc : Addr) (A : Around) (outer : List Env) (s : Shared) (H : Hp) (E : XK) : Cx where
  prog := P
  w := w
  K := K
  mg := mg
  base := base
  A := A.deeper (supEnv qual scope s.heap.objs.size f cd cc)
  N := N
  s_0 := s
  H_0 := H
  env := supEnv qual scope s.heap.objs.size f cd cc
  outer := outer
  stack := supEnv qual scope s.heap.objs.size f cd cc :: outer
  ex := []
  calm := true
  fn := fun _ => false
  pn := []
  xe := fun e s' => wpAny (model P w) (A.deeper (supEnv qual scope s.heap.objs.size f cd cc)) (leaving (supEnv qual scope s.heap.objs.size f cd cc) e) (fun _ s'' => CX outer H s E e s'') (fun e' s'' => CX outer H s E e' s'') s'

/-- a statement, a block, at a known code -/
structure PSc (X : Cx) (c : Code) (st : Stmt) (t : TS) : Prop where
  run : ∀ (pins : List (Addr × Obj)) (s : Shared) (σ : L2.St) (H : Hp) (D : Ends), Inv X pins σ H s → t D σ H → _root_.PySem.wpAt (model X.prog X.w) X.A c (exec st X.env) (SP X pins D) X.xe s
structure PScs (X : Cx) (c : Code) (st : List Stmt) (t : TS) : Prop where
  run : ∀ (pins : List (Addr × Obj)) (s : Shared) (σ : L2.St) (H : Hp) (D : Ends), Inv X pins σ H s → t D σ H → _root_.PySem.wpAt (model X.prog X.w) X.A c (execs st X.env) (SP X pins D) X.xe s
section
variable {X : Cx} {c : Code} {st : Stmt} {rest : List Stmt} {t u : TS}
theorem psc_of (h : PS X st t) : PSc X c st t := ⟨fun pins s σ H D I q => fun Γ p _ hΓ => h.run pins s σ H D I q Γ p hΓ⟩
theorem pscs_of (h : PSs X rest t) : PScs X c rest t := ⟨fun pins s σ H D I q => fun Γ p _ hΓ => h.run pins s σ H D I q Γ p hΓ⟩
theorem pscs_cons (h1 : PSc X c st t) (h2 : PScs X c rest u) : PScs X c (st :: rest) (tSeq t u) := by
  refine ⟨fun pins s σ H D I h => ?_⟩
  refine ks_wpAt_execs_cons (ks_wpAt_mono (h1.run pins s σ H { D with nx := u D } I h) (fun f s1 q => ?_) fun _ _ z => z)
  cases f with
  | next =>
    obtain ⟨σ', H', I', q⟩ := q
    exact h2.run pins s1 σ' H' D I' q
  | ret v => exact q
  | brk => exact q
  | cont => exact q
theorem pscs_one (h1 : PSc X c st t) : PScs X c [st] t := by
  refine ⟨fun pins s σ H D I h => ?_⟩
  refine ks_wpAt_execs_cons (ks_wpAt_mono (h1.run pins s σ H D I h) (fun f s1 q => ?_) fun _ _ z => z)
  cases f with
  | next => exact fun Γ p _ hΓ => (wpAny_execs_nil q) Γ p hΓ
  | ret v => exact q
  | brk => exact q
  | cont => exact q
end

/-- what the written part says of the def's cell -/
def ClsCell (K : PySem.W.Frag) (cc D : Addr) : Prop := ∃ cl cld csl, K.lookup cc = some ⟨cl, cld, .cell (some (.ref D)), csl⟩

theorem sup_inv {CX : CXT} {P : Program} {w : World} {K : PySem.W.Frag} {mg : Str → Option Value} {base : Heap} {N ps : List Str} {qual : Str} {scope : Scope} {f cc D : Addr} {cd : Value} {A : Around} {outer : List Env} {s : Shared} {H : Hp} {E : XK} {us : List Value} {vs : List V} {h₁ : Heap} {tk : Nat}
    (S : FnSup N ps scope) (hd : A.handled = none) (e0 : Env0 P w K mg base A outer s H) (hl : vs.length = ps.length) (r : Vals vs us) (C : ClsCell K cc D)
    (hns : h₁.Ns s.heap.objs.size fun y => (ps.zip us).reverse.lookup y) (kp : ∀ b o, s.heap.get? b = some o → h₁.get? b = some o) :
    Inv (supCx CX P w K mg base N qual scope f cd cc A outer s H E) [] (L2.start N vs) H { s with heap := h₁, toks := tk } := by
  have hpl : ps.length ≤ N.length := by have := congrArg List.length S.pre; rw [List.length_take] at this; omega
  obtain ⟨cl, cld, csl, hc⟩ := C
  have hb : base.get? cc = some ⟨cl, cld, .cell (some (.ref D)), csl⟩ := e0.mod.kin _ _ hc
  have hs := (e0.bs _ _ hb).1
  have hcl : ∀ x c, (supCx CX P w K mg base N qual scope f cd cc A outer s H E).env.cells.lookup x = some c → x = ("__class__" : Str) ∧ c = cc := fun x c h => by
    have h' : List.lookup x [(("__class__" : Str), cc)] = some c := h
    by_cases e : x = ("__class__" : Str)
    · subst e
      simp [List.lookup] at h'
      exact ⟨rfl, h'.symm⟩
    · have q : (x == ("__class__" : Str)) = false := by simpa using e
      simp [List.lookup, q] at h'
  have noA : ∀ b : Addr, b ∉ (supCx CX P w K mg base N qual scope f cd cc A outer s H E).ex := fun b z => absurd (show b ∈ ([] : List Addr) from z) (by simp)
  refine ⟨⟨e0.mod, S.kind, rfl, rfl, Nat.le_refl _, fun y z c h1 h2 => ?_, fun y hy => ?_, fun y c h _ => ?_, fun _ => hd, Around.frames_deeper e0.frames, .inr ⟨rfl, rfl⟩, fun b z => absurd z (noA b), e0.bs, e0.bsz, fun b _ _ => noA b, fun b z => absurd z (noA b), e0.funs, e0.frf⟩,
    rfl, e0.bare, Un.kept kp, ⟨_, hns, fun i y v h1 h2 h3 => ?_⟩, fun y c h => ?_, e0.hok.fresh (Nat.le_refl _), fun y c h => ?_, fun p hp => absurd (show p ∈ ([] : List (Addr × Obj)) from hp) (by simp), e0.hok.kept kp, ?_⟩
  · exact (hcl _ _ h1).1.trans (hcl _ _ h2).1.symm
  · have hy : scope.names.lookup y = some .cell ∨ scope.names.lookup y = some .free := hy
    rcases hy with hy | hy
    · exact absurd rfl (S.nocell _ (PySem.mem_of_lookup hy))
    · have e := S.free _ (PySem.mem_of_lookup hy) rfl
      have e : y = ("__class__" : Str) := e
      subst e
      exact ⟨cc, by show List.lookup _ [_] = _; simp [List.lookup]⟩
  · exact Bool.noConfusion (show false = true from h)
  · have hi : i < vs.length := by
      unfold L2.start at h2
      by_cases hi : i < vs.length
      · exact hi
      · rw [List.getElem?_append_right (by simpa using hi)] at h2
        rw [List.getElem?_replicate] at h2
        split at h2 <;> cases h2
    have ha : vs[i]? = some v := by
      unfold L2.start at h2
      rw [List.getElem?_append_left (by simpa using hi), List.getElem?_map] at h2
      cases e : vs[i]? with
      | none => rw [e] at h2; cases h2
      | some a => rw [e] at h2; cases h2; rfl
    obtain ⟨u, hu, rv⟩ := r.get ha
    have hp : ps[i]? = some y := by
      rw [← S.pre, List.getElem?_take_of_lt (by omega)]; exact h1
    have ndP : ps.Nodup := by rw [← S.pre]; exact S.nd.sublist (List.take_sublist _ _)
    refine ⟨u, rv, .inl ⟨S.par y (List.mem_of_getElem? hp), ?_⟩⟩
    show (ps.zip us).reverse.lookup y = some u
    have hz : (ps.zip us)[i]? = some (y, u) := by rw [List.getElem?_zip_eq_some]; exact ⟨hp, hu⟩
    have hm : (y, u) ∈ ps.zip us := List.mem_of_getElem? hz
    clear hz
    have key : ∀ (ps : List Str) (us : List Value), ps.Nodup → (y, u) ∈ ps.zip us → (ps.zip us).reverse.lookup y = some u := by
      intro ps
      induction ps with
      | nil => intro us _ h; simp at h
      | cons p ps ih =>
        intro us nd h
        cases us with
        | nil => simp at h
        | cons w us =>
          rw [List.zip_cons_cons] at h ⊢
          rw [List.reverse_cons, List.lookup_append]
          rcases List.mem_cons.mp h with e | h
          · cases e
            have hn : (ps.zip us).reverse.lookup y = none := by
              rw [List.lookup_eq_none_iff]
              intro q hq
              have hq' : q ∈ ps.zip us := by simpa using hq
              have : q.1 ∈ ps := (List.of_mem_zip hq').1
              have ne : y ≠ q.1 := fun e => (List.nodup_cons.mp nd).1 (by rw [e]; exact this)
              simpa using ne
            rw [hn]
            simp [List.lookup]
          · rw [ih us (List.nodup_cons.mp nd).2 h]
            rfl
    exact key ps us ndP hm
  · obtain ⟨_, e⟩ := hcl y c h
    subst e
    exact ⟨_, _, kp _ _ hs, rfl⟩
  · obtain ⟨_, e⟩ := hcl y c h
    subst e
    exact (e0.bs _ _ hb).2
  · unfold L2.start
    show _ = N.length
    rw [List.length_append, List.length_map, List.length_replicate]
    omega

theorem fn_sup {CX : CXT} {P : Program} {w : World} {K : PySem.W.Frag} {mg : Str → Option Value} {base : Heap} {k : Nat} {f cc D : Addr} {name qual : Str} {params : Arguments} {body : List Stmt} {scope : Scope} {dV kV doc pm cdv ct oc : Value} {an od : Option Addr}
    {osl : Array (Option Value)} {N ps : List Str} {sp : Sp} (lk : K.lookup f = some ⟨oc, od, .func (PySem.W.ksFn name qual params body scope dV kV doc pm an cdv ct cc), osl⟩) (hcd : PySem.W.codeIn K cdv qual = true) (C : ClsCell K cc D) (S : FnSup N ps scope)
    (len : ∀ vs H Q E, sp vs H Q E → vs.length = ps.length)
    (hbody : ∀ (A : Around) (outer : List Env) (s : Shared) (H : Hp) (vs : List V) (Q : VK) (E : XK), Room k (A.deeper (supEnv qual scope s.heap.objs.size f cdv cc)) → sp vs H Q E →
      ∃ t, PScs (supCx CX P w K mg base N qual scope f cdv cc A outer s H E) (.func body (supEnv qual scope s.heap.objs.size f cdv cc)) body t ∧ t { nx := fun _ H' => Q .non H', rt := Q } (L2.start N vs) H) :
    FnOk P w K mg base CX (k + 1) f (PySem.W.ksFn name qual params body scope dV kV doc pm an cdv ct cc) ps sp := by
  refine ⟨len, fun A outer s H args us vs Q E hr e0 hb r hsp => ?_⟩
  have hl := len _ _ _ _ hsp
  have KX : K.In s.heap := e0.mod.kin.keeps fun b o e => (e0.bs b o e).1
  have lim : s.heap.NoLimit := e0.mod.nolimit.keeps fun b o e => (e0.bs b o e).1
  refine ks_codeAny_call_defAt (binds := ps.zip us) hr.depth (KX _ _ lk) rfl lim (PySem.W.codeRec_of KX hcd) rfl hb S.nocell (fun x hx => S.par _ (List.of_mem_zip (show (x.1, x.2) ∈ ps.zip us from hx)).1) (fun h₁ hns kp => ?_) S.co S.gen S.kind
  obtain ⟨t, ht, hq⟩ := hbody A outer s H vs Q E (hr.deeper _) hsp
  have I : Inv (supCx CX P w K mg base N qual scope f cdv cc A outer s H E) [] (L2.start N vs) H { s with heap := h₁, toks := s.toks + (ps.zip us).length } := sup_inv S hr.hd e0 hl r C hns kp
  refine ks_wpAt_mono (ht.run [] _ (L2.start N vs) H _ I hq) (fun fl s' hs => ?_) fun e s' hs => hs
  have fin : ∀ {σ' : L2.St} {H' : Hp} {v : V} {u : Value}, Inv (supCx CX P w K mg base N qual scope f cdv cc A outer s H E) [] σ' H' s' → RelV v u → Q v H' → CE outer P w H s Q u s' :=
    fun {σ' H' v u} J rv q => ⟨v, H', J.os, J.bare, J.base, J.hok, rv, q⟩
  cases fl with
  | ret u =>
    obtain ⟨v, σ', H', J, rv, q⟩ := hs
    exact fin J rv q
  | next =>
    obtain ⟨σ', H', J, q⟩ := hs
    exact fin (v := V.non) (u := Value.none) J rfl q
  | brk =>
    obtain ⟨_, _, _, q⟩ := hs
    exact False.elim q
  | cont =>
    obtain ⟨_, _, _, q⟩ := hs
    exact False.elim q

/-- what is known where super() stands in a def: the def at f, its cell cc (class D), its code object -/
structure SupAt (X : Cx) (f cc D : Addr) (sf : Str) : Prop where
  fn : ∃ oc od fd osl ar, X.K.lookup f = some ⟨oc, od, .func fd, osl⟩ ∧ (fd.params.posonlyargs ++ fd.params.args).head? = some ar ∧ ar.arg = sf
  code : ∃ cda ccl cdd vs ccs file tf, X.env.code = .ref cda ∧ X.K.lookup cda = some ⟨ccl, cdd, .fields vs, ccs⟩ ∧ vs[2]? = some (.str file tf) ∧ ((X.prog.main.file : Str) == file) = true
  top : (X.prog.main.scope.names.lookup ("super" : Str)).isSome = false
  mgs : X.mg "super" = none
  func : X.env.func = some f
  cell : ClsCell X.K cc D
  cells : X.env.cells.lookup ("__class__" : Str) = some cc
  sS : X.env.scope.names.lookup ("super" : Str) = some .globalImplicit
  sC : X.env.scope.names.lookup ("__class__" : Str) = some .free
  sX : X.env.scope.names.lookup sf = some .local
  n0 : X.N[0]? = some sf
  D : ∃ cd, PySem.W.clsIn X.K D = some cd
theorem cls_at {K : PySem.W.Frag} {h : Heap} {D : Addr} {cdD : ClassData} (X : K.In h) (hD : PySem.W.clsIn K D = some cdD) : ∃ oD, h.get? D = some oD ∧ oD.data = .cls cdD := by
  unfold PySem.W.clsIn at hD
  split at hD
  · rename_i c d cd' sl ho
    cases hD
    exact ⟨_, X _ _ ho, rfl⟩
  · cases hD
/-- super() is reckoned: a super object at so, new and untracked -/
theorem super_base {X : Cx} {f cc D x C : Addr} {sf : Str} {pins : List (Addr × Obj)} {σ : L2.St} {H : Hp} {s : Shared} {Q : Value → Shared → Prop} {body : List Stmt} {p0 p1 : Pos} {attr : Str} {whole : Sem Value} {ox : Obj}
    (S : SupAt X f cc D sf) (I : Inv X pins σ H s) (h0 : σ[0]? = some (some (.ref x))) (hx : s.heap.get? x = some ox) (hcls : ox.cls = .ref C) (hno : ∀ c, ox.data ≠ .cls c) (hsub : PySem.W.mroIn X.K C (.ref D) = some true) (hat : (attr == ("__class__" : Str)) = false)
    (h : ∀ so s', Inv X pins σ H s' → s'.heap.get? so = some (PySem.W.ks_superObj D x C) → (∀ b o, s.heap.get? b = some o → s'.heap.get? b = some o) → H so = none → Q (.ref so) s') :
    _root_.PySem.wpAt (model X.prog X.w) X.A (.func body X.env) (attributeBase (.Call (.Name "super" p0) [] [] p1) attr X.env whole) Q X.xe s := by
  obtain ⟨oc, od, fd, osl, ar, hf, hp, ea⟩ := S.fn
  obtain ⟨cda, ccl, cdd, vs, ccs, file, tf, hco, hcc, hvs, hfile⟩ := S.code
  obtain ⟨cl, cld, csl, hcell⟩ := S.cell
  obtain ⟨cdD, hD⟩ := S.D
  obtain ⟨oD, hD1, hD2⟩ := cls_at I.kIn hD
  have KX := I.kIn
  refine ks_wpAt_super_base (env := X.env) S.sS S.sC hat S.func (KX _ _ hf) rfl hp hco (KX _ _ hcc) rfl hvs hfile S.top ?_
  obtain ⟨mb, b1, b2⟩ := I.mod.blt
  refine PySem.W.ks_loadName_global I.ok.kind S.sS (Calls.loadGlobal_builtin (by rw [I.ok.glob]; exact I.mod.glob.keeps I.bk) S.mgs (by rw [I.ok.blt]; exact b1.keeps I.bk) ((b2 "super" (by decide)).trans PyProof.Rows.Boot.«super») ⟨rfl, ?_⟩)
  refine wpAny_loadName_free I.ok.kind S.sC S.cells ⟨_, KX _ _ hcell, rfl⟩ ?_
  obtain ⟨m, hn, hl⟩ := I.loc
  obtain ⟨u, ru, lk⟩ := hl 0 sf (.ref x) S.n0 h0 (.inl S.sX)
  have hu : m sf = some (.ref x) := by
    have e : u = .ref x := ru
    rcases lk with ⟨_, e2⟩ | ⟨k, _⟩
    · rw [e2, e]
    · have k1 : X.env.scope.names.lookup sf = some .cell ∨ X.env.scope.names.lookup sf = some .free := k
      rw [S.sX] at k1
      rcases k1 with k1 | k1 <;> cases k1
  subst ea
  refine wpAny_loadName_local I.ok.kind S.sX hn hu ?_
  refine ks_wpAny_isType_cls hD1 hD2 ⟨rfl, ?_⟩
  obtain ⟨hh, g, d, t, os⟩ := s
  refine ks_wpAny_call_super hD1 hD2 hx hcls hno (PySem.W.looks_mroIn KX hsub) fun h' e k => ?_
  exact h _ _ (I.kept (h' := h') (t' := t) k) e k (I.hok.fresh (Nat.le_refl _))

/-- super().__init__(e, ..) in the __init__ of an exception over ValueError -/
def tSupX (C : Addr) (K : PySem.W.Frag) (ta : TA) : TS := fun D σ H => ∃ a, σ[0]? = some (some (.ref a)) ∧ H a = some (exo a C none) ∧ ta σ H fun vs H1 => vs.length ≤ 1000 ∧ H1 a = some (exo a C none) ∧ D.nx σ H1
/-- what the written part says of such a class -/
structure SupX (K : PySem.W.Frag) (C : Addr) : Prop where
  T : OexC K C
  sup : PySem.W.ks_superIn K C C "__init__" = some (some (.builtin "ValueError.__init__"))
  sub : PySem.W.mroIn K C (.ref C) = some true
  ve : PySem.W.subIn K (.ref C) (.type "ValueError") = some true
  op : PySem.W.nsIn K cStatics "thirdparty.any" = some none
theorem psc_superX {X : Cx} {f cc C : Addr} {sf : Str} {body : List Stmt} {e : Expr} {es : List Expr} {p0 p1 p2 p3 p4 : Pos} {ta : TA} {pl : Sem Bool} (S : SupAt X f cc C sf) (T : SupX X.K C) (ha : PA X (e :: es) ta)
    (hev : eval (.Call (.Attribute (.Call (.Name "super" p0) [] [] p1) "__init__" p2) (e :: es) [] p3) X.env = (do
      let ov ← attributeBase (.Call (.Name "super" p0) [] [] p1) "__init__" X.env (eval (.Call (.Name "super" p0) [] [] p1) X.env)
      standAt p2.atName
      let (f, first) ← holding [ov] (getMethod ov "__init__" pl)
      callWith p3 f first (backTo p3 (starEach (e :: es) X.env)) []) := by rfl)
    (hsw : swapsWith (.Call (.Attribute (.Call (.Name "super" p0) [] [] p1) "__init__" p2) (e :: es) [] p3) none p4.line X.env = pure false := by rfl)
    (hst : starEach (e :: es) X.env = (false, eval e X.env) :: starEach es X.env := by rfl) (hpl : (backTo p3 (starEach es X.env)).any (·.1) = false := by rfl) :
    PSc X (.func body X.env) (.Expr (.Call (.Attribute (.Call (.Name "super" p0) [] [] p1) "__init__" p2) (e :: es) [] p3) p4) (tSupX C X.K ta) := by
  refine ⟨fun pins s σ H D I h => ?_⟩
  obtain ⟨a, h0, ea, h⟩ := h
  obtain ⟨nm, q, N, bs, bm, sn, sub, ab, col, dd, k0, k1, k2, k3, k5, hC, hbm⟩ := T.T.cls
  have hcl : PySem.W.clsIn X.K C = some { name := nm, bases := bs, mro := .ref C :: bm, ns := N, qualname := q, hasDict := true, slotNames := sn, subclasses := sub, abstract := ab, collection := col, hasDel := false } := by unfold PySem.W.clsIn; rw [hC] <;> rfl
  obtain ⟨t1, ho⟩ := exo_at I.hok ea
  refine ks_wpAt_Expr_any (ks_wpAt_MethodCall ?_ hev) I.quiet hsw
  refine super_base S I h0 ho rfl (fun c z => by cases z) T.sub (by decide) fun so s1 I1 hso kp _ => ?_
  have hoa := kp _ _ ho
  -- the method
  have hm := T.sup
  unfold PySem.W.ks_superIn at hm
  rw [hcl] at hm
  have hin : PySem.W.InstAt s1.heap a { cls := .ref C, dict := none, data := .fields #[.ref t1, .none, .none, .none, .bool false, .none] } C none := ⟨hoa, rfl, rfl, trivial⟩
  have hI : PySem.W.Looks (model X.prog X.w) s1.heap (isInstance (.ref a) (.type "ValueError")) true := hin.type.andThen (PySem.W.looks_subIn I1.kIn T.ve)
  obtain ⟨hh, g, d, t, os⟩ := s1
  refine PySem.W.kxs_getMethod PySem.W.kxs_ValueError hso (PySem.W.looks_opaque I1.kIn T.op) (l₀ := .ref C :: bm) (fun A Q E s k q => wpAny_bind ((PySem.W.looks_clsIn I1.kIn hcl) A _ E s k (wpAny_pure q))) rfl I1.kIn hm hI (PySem.W.ks_ne I1.kIn hin hcl) (by decide) ?_
  have hkp : ∀ b u, hh.get? b = some u → (hh.push (PySem.W.kxs_mw "ValueError.__init__" a)).get? b = some u := fun b u e => Heap.get?_push_of_some _ e
  have I2 : Inv X pins σ H ⟨hh.push (PySem.W.kxs_mw "ValueError.__init__" a), g, d, t + 1, os⟩ := I1.kept hkp
  have hu : (hh.push (PySem.W.kxs_mw "ValueError.__init__" a)).get? hh.objs.size = some (PySem.W.kxs_mw "ValueError.__init__" a) := Heap.get?_push_size _ rfl
  -- the wrapper is pinned
  have ne_loc : hh.objs.size ≠ X.env.locals := Nat.ne_of_gt I1.lt
  have ne_fs : hh.objs.size ∉ X.fs := I1.nofs (Nat.le_refl _)
  have fresh : H hh.objs.size = none := I1.hok.fresh (Nat.le_refl _)
  have I3 : Inv X ((hh.objs.size, PySem.W.kxs_mw "ValueError.__init__" a) :: pins) σ H ⟨hh.push (PySem.W.kxs_mw "ValueError.__init__" a), g, d, t + 1, os⟩ := I2.pins_of fun p hp => by
    rcases List.mem_cons.mp hp with e | hp
    · subst e
      exact ⟨hu, fresh, ne_loc, ne_fs, fun v z => by cases z⟩
    · exact I2.pin p (List.mem_append_right _ hp)
  refine PySem.W.kxs_callWith (i := "ValueError.__init__") (x := a) (by rw [hst]; exact (show (false || (backTo p3 (starEach es X.env)).any (·.1)) = false by rw [hpl]; rfl)) ?_
  rw [hst]
  refine Calls.evalArgs_plain ?_
  have hrun := ha.run p3 _ _ σ H _ I3 h
  rw [hst] at hrun
  refine thn hrun fun us s2 ⟨vs, H2, I4, r, hl, ea2, q⟩ => ?_
  obtain ⟨hpin, hpn, _, _, _⟩ := I4.pin (hh.objs.size, PySem.W.kxs_mw "ValueError.__init__" a) (List.mem_append_right _ List.mem_cons_self)
  refine ⟨hpin, ?_⟩
  show wpAny _ _ (call (.ref hh.objs.size) us) _ _ _
  have I5 : Inv X pins σ H2 s2 := I4.pins_of fun p hp => I4.pin p (List.mem_append_right _ (List.mem_cons_of_mem _ hp))
  obtain ⟨t2, ho2⟩ := exo_at I5.hok ea2
  obtain ⟨hp2, g2, d2, tk2, os2⟩ := s2
  refine wpAny_call (codeAny_of_tree ?_)
  show wpAny _ X.A.in1 (callAny (.ref hh.objs.size) ⟨us, []⟩) _ _ _
  simp only [callAny]
  refine wpAny_bind (wpAny_load hpin ?_)
  simp only [PySem.W.kxs_mw, show (Value.type "method-wrapper" == Value.type "method" || Value.type "method-wrapper" == Value.type "builtin_function_or_method" || Value.type "method-wrapper" == Value.type "method-wrapper") = true by decide, if_true]
  refine PySem.W.KFB.if_so (by decide) ?_
  refine wpAny_bind (PySem.W.check_bound_init F.excBase_ValueError.toExcCallFacts (I5.kIn _ _ hC) ho2 rfl ?_)
  refine wpAny_bind (wpAny_pure (wpAny_pure ?_))
  refine ⟨plainId_quiet F.excBase_ValueError.init.plain _, codeAny_builtin F.excBase_ValueError.initEntry ?_⟩
  refine PySem.W.exc_init_tree (cls := .ref C) (t0 := t2) (dv := none) (c2 := .none) (c3 := .none) (b4 := .bool false) ho2 (by rw [← Paired.length r, sizeLine_eq]; omega) fun h' k hx _ => ?_
  have J := I5.write (t' := tk2) (x := a) (e := a) (o := exo a C none) (by rw [ea2]; exact True.intro) (.inl rfl) k ⟨_, hx⟩ (exo_ok hx)
  have eu : upd H2 a (exo a C none) = H2 := by
    funext b
    by_cases hb : b = a
    · rw [hb, upd_same, ea2]
    · rw [upd_ne hb]
  rw [eu] at J
  exact ⟨σ, H2, J, q⟩
end Nk

/-! Pre: a def's bundle (Df), readings step by step (r_*), what a call keeps (Kp), the pen of the laws. -/
namespace Nk
open PySem PySem.Spec PyProof.Rows L2

/-! ### defs by their promises -/
def Df (P : Program) (w : World) (K : PySem.W.Frag) (mg : Str → Option Value) (base : Heap) (x : Str) (k : Nat) (ps : List Str) (sp : Sp) : Prop :=
  ∃ (f : Addr) (fd : FuncData), FnOk P w K mg base (L2.CX P w) k f fd ps sp ∧ mg x = some (.ref f) ∧ PySem.W.keepIn K (.ref f) = true ∧ Binds K fd ps []
def tDf (sp : Sp) (W : WX) (t : TA) : TE := fun σ H Q => t σ H fun vs H1 => sp vs H1 Q (fun cls d H' => W cls d σ H')
section
variable {X : Cx} {k j : Nat} {ps : List Str} {sp : Sp} {x : Str} {p pos : Pos} {e : Expr} {es : List Expr} {t : TA} {W : WX}
theorem pe_df (c : Df X.prog X.w X.K X.mg X.base x k ps sp) (hr : Room j X.A) (hk : k ≤ j) (hg : Gl X x) (tk : Takes X W) (ha : PA X (e :: es) t)
    (hdb : (x == ("__debug__" : Str)) = false := by decide) (he : starEach (e :: es) X.env = (false, eval e X.env) :: starEach es X.env := by rfl) (hpl : (backTo pos (starEach es X.env)).any (·.1) = false := by rfl) :
    PE X (.Call (.Name x p) (e :: es) [] pos) (tDf sp W t) := by
  obtain ⟨f, fd, F, hm, hkp, hb⟩ := c
  exact pe_callS (E := WE W) F (hr.mono hk) hg hm hkp hb (fun σ => passAt tk σ) ha hdb he hpl
end

theorem pe_gc {X : Cx} {x : Str} {v : V} {pos : Pos} (hg : Gl X x) (h : ∃ u, X.mg x = some u ∧ RelV v u) (hd : (x == ("__debug__" : Str)) = false := by decide) : PE X (.Name x pos) (tC v) := by
  obtain ⟨u, hm, r⟩ := h
  exact pe_glob hg hm r hd

/-! ### readings, a step at a time -/
section
variable {σ : L2.St} {H : Hp} {Q : VK} {D : Ends} {i : Nat} {v x y : V} {ta tb tc te : TE} {tt tu : TT} {K : PySem.W.Frag} {ts tv : TS} {tA tB' : TA}
theorem r_seq (h : ts { D with nx := tv D } σ H) : tSeq ts tv D σ H := h
theorem r_next (h : D.nx σ H) : tNext D σ H := h
theorem r_asgN (h : te σ H fun v H' => D.nx (σ.set i (some v)) H') : tAsg te (gName i) D σ H := h
theorem r_asg {g : TG} (h : te σ H fun v H' => g v σ H' D.nx) : tAsg te g D σ H := h
theorem r_ret (h : te σ H D.rt) : tRet te D σ H := h
theorem r_retN (h : D.rt .non H) : tRetN D σ H := h
theorem r_drop (h : te σ H fun _ H1 => D.nx σ H1) : tDrop te D σ H := h
theorem r_ifS (h : tt σ H fun b H1 => if b = true then ts D σ H1 else tv D σ H1) : tIfS tt ts tv D σ H := h
theorem r_var (h : σ[i]? = some (some v)) (q : Q v H) : tVar i σ H Q := ⟨v, h, q⟩
theorem r_c (q : Q v H) : tC v σ H Q := q
theorem r_op {r : R2} (h : ta σ H fun x H1 => tb σ H1 fun y H2 => r x y H2 Q) : tOp r ta tb σ H Q := h
theorem r_un {r : V → Hp → VK → Prop} (h : ta σ H fun x H1 => r x H1 Q) : tUn r ta σ H Q := h
theorem r_I0 {g : Int → Int → V} {a b : Int} (q : Q (g a b) H) : rI0 g (.int a) (.int b) H Q := ⟨a, b, rfl, rfl, q⟩
theorem r_I {C : Int → Int → Prop} {g : Int → Int → V} {a b : Int} (hc : C a b) (q : Q (g a b) H) : rI C g (.int a) (.int b) H Q := ⟨a, b, rfl, rfl, hc, q⟩
theorem r_eq (h : scal x y = true) (q : Q (.bl (decide (x = y))) H) : rEq x y H Q := ⟨h, q⟩
theorem r_ne (h : scal x y = true) (q : Q (.bl (!decide (x = y))) H) : rNe x y H Q := ⟨h, q⟩
theorem r_test {Q : Bool → Hp → Prop} (h : te σ H fun x H' => ∃ k, x = .bl k ∧ Q k H') : tTest te σ H Q := h
theorem r_B {Q : Bool → Hp → Prop} (h : te σ H fun x H' => ∃ k, x = .bl k ∧ Q k H') : L2.tB te σ H Q := h
theorem r_k {b : Bool} {R : Bool → Prop} (h : R b) : ∃ k, V.bl b = .bl k ∧ R k := ⟨b, rfl, h⟩
theorem r_not {Q : Bool → Hp → Prop} (h : tt σ H fun c H1 => Q (!c) H1) : tNot tt σ H Q := h
theorem r_and {Q : Bool → Hp → Prop} (h : tt σ H fun c H1 => if c = true then tu σ H1 Q else Q false H1) : tAnd tt tu σ H Q := h
theorem r_or {Q : Bool → Hp → Prop} (h : tt σ H fun c H1 => if c = true then Q true H1 else tu σ H1 Q) : tOr tt tu σ H Q := h
theorem r_andV (h : ta σ H fun x H1 => ∃ c, x = .bl c ∧ if c = true then tb σ H1 Q else Q (.bl false) H1) : tAndV ta tb σ H Q := h
theorem r_orV (h : ta σ H fun x H1 => ∃ c, x = .bl c ∧ if c = true then Q (.bl true) H1 else tb σ H1 Q) : tOrV ta tb σ H Q := h
theorem r_notV (h : ta σ H fun x H1 => ∃ c, x = .bl c ∧ Q (.bl (!c)) H1) : tNotV ta σ H Q := h
theorem r_if (h : tt σ H fun c H1 => if c = true then ta σ H1 Q else tb σ H1 Q) : tIf tt ta tb σ H Q := h
theorem r_nil {Q : List V → Hp → Prop} (q : Q [] H) : tNil σ H Q := q
theorem r_cons {Q : List V → Hp → Prop} (h : te σ H fun x H1 => tA σ H1 fun xs H2 => Q (x :: xs) H2) : tCons te tA σ H Q := h
theorem r_cb {r : List V → Hp → VK → Prop} (h : tA σ H fun vs H1 => r vs H1 Q) : tCB r tA σ H Q := h
theorem r_df {sp : Sp} {W : WX} (h : tA σ H fun vs H1 => sp vs H1 Q (fun cls d H' => W cls d σ H')) : tDf sp W tA σ H Q := h
theorem r_lst (h : tA σ H fun xs H1 => xs.length ≤ sizeLine ∧ ∀ p, H1 p = none → Q (.ref p) (upd H1 p (.lst xs))) : tLst tA σ H Q := h
theorem r_tup (h : tA σ H fun xs H1 => xs.length ≤ sizeLine ∧ ∀ p, H1 p = none → Q (.ref p) (upd H1 p (.tup xs))) : tTup tA σ H Q := h
theorem r_gsub {to ti : TE} {t : TSet} {Qs : L2.St → Hp → Prop} (h : to σ H fun o H1 => ti σ H1 fun i H2 => t o i v H2 fun H3 => Qs σ H3) : gSub to ti t v σ H Qs := h
theorem r_chain {r r' : R2} (h : ta σ H fun x H1 => tb σ H1 fun y H2 => r x y H2 fun z H3 => ∃ k, z = .bl k ∧ (if k = true then tc σ H3 fun w' H4 => r' y w' H4 Q else Q (.bl false) H3)) : tChain r r' ta tb tc σ H Q := h
/-- a list, a tuple that stands -/
theorem r_ixL {p : Addr} {xs : List V} {k : Int} (h : SqL K H p xs) (ha : atI xs k = some v) (q : Q v H) : rIxL K (.ref p) (.int k) H Q := ⟨p, xs, k, v, rfl, rfl, h, ha, q⟩
theorem r_ixT {p : Addr} {xs : List V} {k : Int} (h : SqT K H p xs) (ha : atI xs k = some v) (q : Q v H) : rIxT K (.ref p) (.int k) H Q := ⟨p, xs, k, v, rfl, rfl, h, ha, q⟩
theorem r_setL {p : Addr} {xs : List V} {k : Int} {j : Nat} {R : Hp → Prop} (h : H p = some (.lst xs)) (hj : ixN xs.length k = some j) (q : R (upd H p (.lst (xs.set j v)))) : rSetL (.ref p) (.int k) v H R := ⟨p, xs, k, j, rfl, rfl, h, hj, q⟩
theorem r_ite {c A B : Prop} [Decidable c] (h1 : c → A) (h2 : ¬ c → B) : if c then A else B := ite2 h1 h2
theorem r_iteT {A B : Prop} (h : A) : if true = true then A else B := iteT h
theorem r_iteF {A B : Prop} (h : B) : if false = true then A else B := iteF h
theorem r_iteNF {A B : Prop} (h : A) : if (!false) = true then A else B := iteT h
theorem r_iteNT {A B : Prop} (h : B) : if (!true) = true then A else B := iteF h
theorem r_isi {n T : String} {b : Bool} (ty : TyX K H x (.type T)) (h : kitB T n = some b) (q : Q (.bl b) H) : rIsi K [x, .ty n] H Q := ⟨x, .ty n, _, _, b, rfl, .ty n, ty, kit_ty h, q⟩
theorem r_lenS {z : Str} {R : Nat → Prop} (h : z.length ≤ 90000) (q : R z.length) : ∃ (x : V) (n : Nat), [V.str z] = [x] ∧ LenV K x H n ∧ R n := ⟨_, _, rfl, (by simp [LenV]; exact Nat.le_trans h (by decide)), q⟩
theorem r_lenL {a : Addr} {xs : List V} {R : Nat → Prop} (h : SqL K H a xs) (q : R xs.length) : ∃ (x : V) (n : Nat), [V.ref a] = [x] ∧ LenV K x H n ∧ R n := ⟨_, _, rfl, .inl ⟨xs, h, rfl⟩, q⟩
theorem r_lenT {a : Addr} {xs : List V} {R : Nat → Prop} (h : SqT K H a xs) (q : R xs.length) : ∃ (x : V) (n : Nat), [V.ref a] = [x] ∧ LenV K x H n ∧ R n := ⟨_, _, rfl, .inr ⟨xs, h, rfl⟩, q⟩
theorem r_bool {bs : List Bool} {a : Addr} (h : SqL K H a (bs.map V.bl)) (q : Q (.bl (bs.all id)) H) : rAll K [.ref a] H Q := ⟨a, bs, rfl, h, q⟩
theorem r_iteD {c : Prop} [Decidable c] {A B : Prop} (h1 : c → A) (h2 : ¬ c → B) : if decide c = true then A else B := by
  by_cases h : c
  · rw [decide_eq_true h]; exact iteT (h1 h)
  · rw [decide_eq_false h]; exact iteF (h2 h)
theorem r_iteN {c : Prop} [Decidable c] {A B : Prop} (h1 : ¬ c → A) (h2 : c → B) : if (!decide c) = true then A else B := by
  by_cases h : c
  · rw [decide_eq_true h]; exact iteF (h2 h)
  · rw [decide_eq_false h]; exact iteT (h1 h)
theorem r_iteB {b : Bool} {A B : Prop} (h1 : b = true → A) (h2 : b = false → B) : if b = true then A else B := by
  cases b with
  | true => exact iteT (h1 rfl)
  | false => exact iteF (h2 rfl)
theorem r_gN {R : L2.St → Hp → Prop} (h : R (σ.set i (some v)) H) : gName i v σ H R := h
theorem r_yes {R : Bool → Hp → Prop} (h : R true H) : tYes σ H R := h
theorem r_lc {wi : TI} {g : TG} {vs : List Nat} (h : wi σ H fun J H1 => ∀ D, H1 D = none → ∃ W : Nat → Nat → Hp → Prop, (∃ m, W 0 m (upd H1 D (.lst []))) ∧ ∀ i m H, W i m H →
      (J.stop i H ∧ Q (.ref D) H) ∨ (J.go i H ∧ ∃ Nx : Hp → Prop, (∀ H', Nx H' → ∃ m', m' < m ∧ W (i + 1) m' H') ∧ ∀ x H', J.yld i H x H' → g x (wipe σ vs) H' fun σ2 H2 => wipe σ2 vs = wipe σ vs ∧ tt σ2 H2 fun b H3 =>
        if b = true then te σ2 H3 fun y H4 => ∃ acc, H4 D = some (.lst acc) ∧ acc.length < sizeLine ∧ Nx (upd H4 D (.lst (acc ++ [y]))) else Nx H3)) : tLc wi g tt te vs σ H Q := h
theorem r_for {wi : TI} {g : TG} (h : wi σ H fun J H1 => ∃ W : Nat → Nat → L2.St → Hp → Prop, (∃ m, W 0 m σ H1) ∧ ∀ i m σ H, W i m σ H →
      (J.stop i H ∧ D.nx σ H) ∨ (J.go i H ∧ ∃ N : L2.St → Hp → Prop, (∀ σ' H', N σ' H' → ∃ m', m' < m ∧ W (i + 1) m' σ' H') ∧ ∀ x H', J.yld i H x H' → g x σ H' fun σ2 H2 => ts { D with nx := N, ct := N, bk := D.nx } σ2 H2)) : tFor wi g ts D σ H := h
theorem r_iStr {R : It → Hp → Prop} (h : te σ H fun v H1 => ∃ x, v = .str x ∧ R (Its x) H1) : iStr te σ H R := h
theorem r_iList {R : It → Hp → Prop} (h : te σ H fun x H1 => ∃ a, x = .ref a ∧ (∃ xs, SqL K H1 a xs) ∧ R (Itl K a) H1) : iList K te σ H R := h
theorem r_iTup {R : It → Hp → Prop} (h : te σ H fun x H1 => ∃ a, x = .ref a ∧ (∃ xs, SqT K H1 a xs) ∧ R (Itt K a) H1) : iTup K te σ H R := h
theorem r_iRng1 {R : It → Hp → Prop} (h : tA σ H fun vs H1 => ∃ j : Int, vs = [.int j] ∧ -(2 ^ 62) ≤ j ∧ j < 2 ^ 62 ∧ R (Itr 0 j.toNat) H1) : iRng1 tA σ H R := h
theorem r_xstr {z : Str} {R : Str → Prop} (h : R z) : ∃ x, V.str z = .str x ∧ R x := ⟨z, rfl, h⟩
theorem r_xref {a : Addr} {R : Addr → Prop} (h : R a) : ∃ x, V.ref a = .ref x ∧ R x := ⟨a, rfl, h⟩
theorem r_xint {k : Int} {R : Int → Prop} (h : R k) : ∃ x, V.int k = .int x ∧ R x := ⟨k, rfl, h⟩
theorem r_xints {k : Int} {R : Int → Prop} (h : R k) : ∃ x, [V.int k] = [.int x] ∧ R x := ⟨k, rfl, h⟩
theorem r_int1 {k : Int} {R : Int → Prop} {S : Prop} (h : R k) : (∃ x, [V.int k] = [.int x] ∧ R x) ∨ S := .inl ⟨k, rfl, h⟩
theorem r_intb {b : Bool} {R : Bool → Prop} {S : Prop} (h : R b) : S ∨ ∃ x, [V.bl b] = [.bl x] ∧ R x := .inr ⟨b, rfl, h⟩
theorem r_cut {ts tv : TS} (Mid : L2.St → Hp → Prop) (h : ts { D with nx := Mid } σ H) (hu : ∀ σ' H', Mid σ' H' → tv D σ' H') : C8.tCut ts tv D σ H := ⟨Mid, h, hu⟩
theorem c_mulL {a b : Int} (h : -(2 ^ 64) < a ∧ a < 2 ^ 64) : CMul a b := .inl h
theorem c_mulR {a b : Int} (h : -(2 ^ 64) < b ∧ b < 2 ^ 64) : CMul a b := .inr h
theorem c_pow {a b : Int} (h : 0 ≤ b ∧ b ≤ 1000000) (ha : -(2 ^ 63) ≤ a ∧ a < 2 ^ 63) : CPow a b := ⟨h.1, h.2, by omega⟩
theorem c_divW {a b : Int} (h : 0 < b) (hb : b < 2 ^ 1000) : CDivW a b := wide_div (b := 1000) h (by omega) (by decide) (by decide)
theorem r_sl {r : V → Option Int → Option Int → Hp → VK → Prop} {tl th : TO} (h : te σ H fun x H1 => tl σ H1 fun l H2 => th σ H2 fun u H3 => r x l u H3 Q) : tSl r te tl th σ H Q := h
theorem r_nop {R : Option Int → Hp → Prop} (h : R none H) : tNoPart σ H R := h
theorem r_part {R : Option Int → Hp → Prop} (h : te σ H fun x H1 => ∃ i, x = .int i ∧ R (some i) H1) : tPart te σ H R := h
theorem r_slL {a : Addr} {xs : List V} {lo hi : Option Int} (h : SqL K H a xs) (q : ∀ p, H p = none → Q (.ref p) (upd H p (.lst (cutV xs lo hi)))) : rSlL K (.ref a) lo hi H Q := ⟨a, xs, rfl, h, q⟩
theorem r_listL {a : Addr} {xs : List V} {R : Addr → List V → Prop} (h : SqL K H a xs) (q : ∀ l, H l = none → R l xs) : ∃ p ys, [V.ref a] = [.ref p] ∧ (SqL K H p ys ∨ SqT K H p ys) ∧ ∀ l, H l = none → R l ys := ⟨a, xs, rfl, .inl h, q⟩
theorem r_abs {k : Int} {R : Int → Prop} (h : R k) : ∃ x, [V.int k] = [.int x] ∧ R x := ⟨k, rfl, h⟩
theorem r_m1 {r : V → List V → Hp → VK → Prop} (h : ta σ H fun x H1 => (∃ a, x = .str a) ∧ te σ H1 fun y H2 => r x [y] H2 Q) : tM1 r ta te σ H Q := h
theorem r_isS {a : Str} {R : Prop} (h : R) : (∃ b, V.str a = .str b) ∧ R := ⟨⟨a, rfl⟩, h⟩
/-- made anew: the heap is a letter from here on -/
theorem r_new {o : HO} {R : Addr → Hp → Prop} (h : ∀ p H', H p = none → Same H H' → H' p = some o → (∀ b, b ≠ p → H' b = H b) → R p H') : ∀ p, H p = none → R p (upd H p o) := fun p hp =>
  h p _ hp (fun b u e => by rw [upd_ne (ne_of_none e hp)]; exact e) upd_same fun b hb => upd_ne hb
theorem r_size {n : Nat} (h : n ≤ 100000) : n ≤ sizeLine := Nat.le_trans h (by decide)
theorem r_sizeL {n : Nat} (h : n < 100000) : n < sizeLine := Nat.lt_of_lt_of_le h (by decide)
/-- an item appended -/
theorem r_app {l : Addr} {xs : List V} (hl : H l = some (.lst xs)) (hz : xs.length < 100000) (q : Q .non (upd H l (.lst (xs ++ [y])))) : rAppend (.ref l) [y] H Q := ⟨l, xs, y, rfl, rfl, hl, r_sizeL hz, q⟩
theorem r_bm {T : String} {r : V → List V → Hp → VK → Prop} (h : te σ H fun x H1 => tyV K T x H1 ∧ tA σ H1 fun xs H2 => r x xs H2 Q) : tBM K T r te tA σ H Q := h
end

theorem cut_all {n : Nat} {xs : List V} (h : xs.length ≤ n) : cutV xs none (some (n : Int)) = xs := by
  unfold cutV
  rw [HT.sIx_nat, HT.sIx_none, List.drop_zero, Nat.sub_zero, Nat.min_eq_right h, List.take_length]
theorem cut63 {xs : List V} (h : xs.length ≤ 63) : cutV xs none (some 63) = xs := cut_all (n := 63) h
theorem lay_ints : ∀ ns : List Int, PyData.canLayAll0 (ns.map PyData.int) = true ∧ PyData.depthAll (ns.map PyData.int) = 0
  | [] => ⟨rfl, rfl⟩
  | z :: r => by
    have ih := lay_ints r
    refine ⟨?_, ?_⟩
    · show (PyData.canLay0 (.int z) && PyData.canLayAll0 (r.map PyData.int)) = true
      rw [ih.1]
      rfl
    · show max (PyData.depth (.int z)) (PyData.depthAll (r.map PyData.int)) = 0
      rw [ih.2]
      rfl
theorem shaped_ints (ns : List Int) : SeqAt.shaped (.list (ns.map PyData.int)) = true := by
  have h := lay_ints ns
  unfold SeqAt.shaped
  show (PyData.canLayAll0 (ns.map PyData.int) && decide (PyData.depthAll (ns.map PyData.int) + 1 ≤ 64)) = true
  rw [h.1, h.2]
  rfl
theorem eqv_nil (ns : List Int) : PyData.eqv (.list (ns.map PyData.int)) (.list []) = decide (ns = []) := by
  cases ns with
  | nil => rfl
  | cons z r => rw [decide_eq_false (by simp)]; rfl
theorem new_facts {H H' : Hp} {p : Addr} {o : HO} (hp : H p = none) (e : upd H p o = H') : Same H H' ∧ H' p = some o ∧ ∀ b, b ≠ p → H' b = H b := by
  subst e
  exact ⟨fun b u e => by rw [upd_ne (ne_of_none e hp)]; exact e, upd_same, fun b hb => upd_ne hb⟩
/-- two lists of data -/
theorem dp_ints {K : PySem.W.Frag} {H : Hp} : ∀ ns : List Int, DpAll K H (ns.map V.int) (ns.map PyData.int)
  | [] => .nil
  | _ :: r => .cons (.int _) (dp_ints r)
/-! ### what stays -/
/-- all but p stays -/
def Kp (p : Addr) (H H' : Hp) : Prop := ∀ b o, H b = some o → b ≠ p → H' b = some o
theorem Kp.refl (p : Addr) (H : Hp) : Kp p H H := fun _ _ h _ => h
theorem Kp.trans {p : Addr} {H H1 H2 : Hp} (a : Kp p H H1) (b : Kp p H1 H2) : Kp p H H2 := fun c o h n => b c o (a c o h n) n
theorem Kp.same {p : Addr} {H H' : Hp} (s : Same H H') : Kp p H H' := fun b o h _ => s b o h
theorem Kp.upd {p : Addr} {H H' : Hp} {o : HO} (s : Kp p H H') : Kp p H (upd H' p o) := fun b u h n => by rw [upd_ne n]; exact s b u h n
theorem Kp.seq {p a : Addr} {H H' : Hp} {K : PySem.W.Frag} {xs : List V} (k : Kp p H H') (h : SqL K H a xs) (n : a ≠ p) : SqL K H' a xs := by
  rcases h with (h | ⟨o, h⟩) | h
  · exact .inl (.inl (k _ _ h n))
  · exact .inl (.inr ⟨o, k _ _ h n⟩)
  · exact .inr h

/-- a store into a list, the heap a letter from here on -/
theorem r_setN {K : PySem.W.Frag} {H : Hp} {v : V} {p : Addr} {xs : List V} {k : Int} {j : Nat} {R : Hp → Prop} (h : H p = some (.lst xs)) (hj : ixN xs.length k = some j) (q : ∀ H', H' p = some (.lst (xs.set j v)) → Kp p H H' → (∀ b, b ≠ p → H' b = H b) → R H') : rSetL (.ref p) (.int k) v H R :=
  r_setL h hj (q _ upd_same ((Kp.refl p H).upd) fun _ hb => upd_ne hb)

theorem draw_pow {q i a b c : Int} (h0 : 0 ≤ q) (h1 : q < 2147483629) (h2 : 0 ≤ i) (h3 : i ≤ 100000) (a0 : 0 ≤ a) (a1 : a ≤ 10000) (b0 : 0 ≤ b) (b1 : b ≤ 1000000) (c0 : 0 ≤ c) (c1 : c ≤ 1000000) : CPow (q * (2 * i + a) + b * i * i + c) 3 := by
  have e1 : q * (2 * i + a) ≤ 2147483629 * 210000 := Int.mul_le_mul (by omega) (by omega) (by omega) (by omega)
  have e2 : 0 ≤ q * (2 * i + a) := Int.mul_nonneg h0 (by omega)
  have e3 : b * i ≤ 1000000 * 100000 := Int.mul_le_mul b1 h3 h2 (by omega)
  have e4 : 0 ≤ b * i := Int.mul_nonneg b0 h2
  have e5 : b * i * i ≤ (1000000 * 100000) * 100000 := Int.mul_le_mul e3 h3 h2 (by omega)
  have e6 : 0 ≤ b * i * i := Int.mul_nonneg e4 h2
  exact c_pow ⟨by omega, by omega⟩ ⟨by omega, by omega⟩
theorem draw_mul {b i : Int} (h2 : 0 ≤ i) (h3 : i ≤ 100000) (b0 : 0 ≤ b) (b1 : b ≤ 1000000) : CMul (b * i) i := c_mulR ⟨by omega, by omega⟩

/-! ### the pen -/
structure Pen (H : Hp) (p c : Addr) (ns : List Int) (n : Nat) : Prop where
  at_ : ∃ (i : Nat) (g : Int), H p = some (.lst [.ref c, .int i, .int g]) ∧ i ≤ n
  cells : H c = some (.lst (ns.map V.int))
  len : ns.length ≤ 63
theorem Pen.mono {H : Hp} {p c : Addr} {ns : List Int} {n m : Nat} (h : Pen H p c ns n) (l : n ≤ m) : Pen H p c ns m := by
  obtain ⟨⟨i, g, a, b⟩, d, e⟩ := h
  exact ⟨⟨i, g, a, Nat.le_trans b l⟩, d, e⟩
theorem Pen.same {H H' : Hp} {p c : Addr} {ns : List Int} {n : Nat} (h : Pen H p c ns n) (s : Same H H') : Pen H' p c ns n := by
  obtain ⟨⟨i, g, a, b⟩, d, e⟩ := h
  exact ⟨⟨i, g, s _ _ a, b⟩, s _ _ d, e⟩
theorem Pen.ne {H : Hp} {p c : Addr} {ns : List Int} {n : Nat} (h : Pen H p c ns n) : c ≠ p := fun e => by
  obtain ⟨⟨i, g, a, b⟩, d, _⟩ := h
  rw [e, a] at d
  cases ns with
  | nil => cases d
  | cons z r => cases d
/-- p, c stand for the pen: something else than a list is not it -/
theorem Pen.off {H : Hp} {p c b : Addr} {ns : List Int} {n : Nat} {o : HO} (h : Pen H p c ns n) (hb : H b = some o) (ho : ∀ xs, o ≠ .lst xs) : b ≠ p := fun e => by
  obtain ⟨⟨i, g, a, _⟩, _, _⟩ := h
  rw [e, a] at hb
  exact ho _ (Option.some.inj hb).symm

theorem same_mut {H H' : Hp} {p : Addr} {o : HO} (e : Same H H') (h : H p = none) : Same H (upd H' p o) := fun a u ha => by
  rw [upd_ne (ne_of_none ha h)]
  exact e a u ha
theorem kp_mut {q : Addr} {H H' : Hp} {p : Addr} {o : HO} (e : Kp q H H') (h : H p = none) : Kp q H (upd H' p o) := fun a u ha n => by
  rw [upd_ne (ne_of_none ha h)]
  exact e a u ha n

/-! ### comprehensions: what is made so far is a letter -/
def LcP (D : Addr) (R : Nat → List V → Hp → Prop) : Nat → Hp → Prop := fun i H => ∃ acc, H D = some (.lst acc) ∧ acc.length ≤ i ∧ R i acc H
theorem lc_put {D : Addr} {R : Nat → List V → Hp → Prop} {i : Nat} {H : Hp} {acc : List V} {y : V} (h : H D = some (.lst acc)) (hl : acc.length ≤ i) (hi : i < 90000) (r : R (i + 1) (acc ++ [y]) (upd H D (.lst (acc ++ [y])))) :
    ∃ acc, H D = some (.lst acc) ∧ acc.length < sizeLine ∧ LcP D R (i + 1) (upd H D (.lst (acc ++ [y]))) :=
  ⟨acc, h, r_sizeL (by omega), acc ++ [y], upd_same, by rw [List.length_append]; exact Nat.add_le_add_right hl 1, r⟩
theorem lc_skip {D : Addr} {R : Nat → List V → Hp → Prop} {i : Nat} {H : Hp} {acc : List V} (h : H D = some (.lst acc)) (hl : acc.length ≤ i) (r : R (i + 1) acc H) : LcP D R (i + 1) H := ⟨acc, h, Nat.le_succ_of_le hl, r⟩
theorem lc_acc {J : It} {n : Nat} {G : Hp → Prop} {Y : Nat → Hp → V → Hp → Prop} (w : Walk J n G Y) {g : TG} {tt : TT} {te : TE} {vs : List Nat} {σ : L2.St} {H1 : Hp} {D : Addr} {Qd : Hp → Prop} (R : Nat → List V → Hp → Prop)
    (h0 : R 0 [] (upd H1 D (.lst []))) (hG : ∀ i acc H, i ≤ n → R i acc H → G H)
    (hs : ∀ i x H H' acc, i < n → H D = some (.lst acc) → acc.length ≤ i → R i acc H → Y i H x H' → g x (wipe σ vs) H' fun σ2 H2 => wipe σ2 vs = wipe σ vs ∧ tt σ2 H2 fun b H3 =>
      if b = true then te σ2 H3 fun y H4 => ∃ acc, H4 D = some (.lst acc) ∧ acc.length < sizeLine ∧ LcP D R (i + 1) (upd H4 D (.lst (acc ++ [y]))) else LcP D R (i + 1) H3)
    (hd : ∀ H acc, H D = some (.lst acc) → acc.length ≤ n → R n acc H → Qd H) :
    ∃ W : Nat → Nat → Hp → Prop, (∃ m, W 0 m (upd H1 D (.lst []))) ∧ ∀ i m H, W i m H →
      (J.stop i H ∧ Qd H) ∨ (J.go i H ∧ ∃ Nx : Hp → Prop, (∀ H', Nx H' → ∃ m', m' < m ∧ W (i + 1) m' H') ∧ ∀ x H', J.yld i H x H' → g x (wipe σ vs) H' fun σ2 H2 => wipe σ2 vs = wipe σ vs ∧ tt σ2 H2 fun b H3 =>
        if b = true then te σ2 H3 fun y H4 => ∃ acc, H4 D = some (.lst acc) ∧ acc.length < sizeLine ∧ Nx (upd H4 D (.lst (acc ++ [y]))) else Nx H3) :=
  lc_it w (LcP D R) ⟨[], upd_same, Nat.le_refl _, h0⟩ (fun i H hi ⟨acc, _, _, r⟩ => hG i acc H hi r) (fun i x H H' hi ⟨acc, h, hl, r⟩ y => hs i x H H' acc hi h hl r y) (fun H ⟨acc, h, hl, r⟩ => hd H acc h hl r)

/-! ### a def of the text to its bundle -/
theorem df_mk {P : Program} {w : World} {K : PySem.W.Frag} {mg : Str → Option Value} {base : Heap} {x qual : Str} {st : Stmt} {f : Addr} {N ps : List Str} {k : Nat} {sp : Sp} (F : ∃ fd, FunD K x qual (defArgs st) (defBody st) (defScope st) [] [] f fd) (hm : mg x = some (.ref f)) (S : FnScope N ps (defScope st))
    (hb : ∀ (kV doc pm : Value) (an : Option Addr) (cdv ct : Value) (us : List Value), us.length = ps.length → bindArgs (PySem.W.fnOf x qual (defArgs st) (defBody st) (defScope st) .none kV doc pm an cdv ct) ⟨us, []⟩ = pure (ps.zip us))
    (len : ∀ vs H Q E, sp vs H Q E → vs.length = ps.length)
    (hbody : ∀ (cdv : Value) (A : Around) (outer : List Env) (s : Shared) (H : Hp) (vs : List V) (Q : VK) (E : XK), Room k (A.deeper (envOfC qual (defScope st) s.heap.objs.size f cdv)) → sp vs H Q E →
      ∃ t, PSs (cxOf (L2.CX P w) P w K mg base N qual (defScope st) f cdv A outer s H E) (defBody st) t ∧ t { nx := fun _ H' => Q .non H', rt := Q } (L2.start N vs) H) : Df P w K mg base x (k + 1) ps sp := by
  obtain ⟨fd, F⟩ := F
  exact ⟨f, fd, F.ok S len hbody, hm, F.kp, F.bindsN hb⟩

/-! ### one of some: what a draw out of a list, a tuple, a text hands on -/
theorem at_nat {α : Type} {xs : List α} {r : Int} (h0 : 0 ≤ r) (h1 : r < (xs.length : Int)) : ∃ v, atI xs r = some v ∧ v ∈ xs := by
  obtain ⟨j, rfl⟩ := Int.eq_ofNat_of_zero_le h0
  have hj : j < xs.length := by omega
  exact ⟨xs[j], atI_nat (List.getElem?_eq_getElem hj), List.getElem_mem hj⟩
/-- a value out of which is drawn: its items as values -/
inductive Row (K : PySem.W.Frag) (H : Hp) (p : Addr) : V → List V → Prop
  | lst {a : Addr} {xs : List V} (h : SqL K H a xs) (n : a ≠ p) : Row K H p (.ref a) xs
  | tup {a : Addr} {xs : List V} (h : SqT K H a xs) (n : a ≠ p) : Row K H p (.ref a) xs
  | str (z : Str) : Row K H p (.str z) (z.cps.toList.map fun c => .str ⟨#[c]⟩)
theorem Kp.seqT {p a : Addr} {H H' : Hp} {K : PySem.W.Frag} {xs : List V} (k : Kp p H H') (h : SqT K H a xs) (n : a ≠ p) : SqT K H' a xs := by
  rcases h with (h | ⟨o, h⟩) | h
  · exact .inl (.inl (k _ _ h n))
  · exact .inl (.inr ⟨o, k _ _ h n⟩)
  · exact .inr h
theorem Row.kp {K : PySem.W.Frag} {H H' : Hp} {p : Addr} {v : V} {xs : List V} (r : Row K H p v xs) (k : Kp p H H') : Row K H' p v xs := by
  cases r with
  | lst h n => exact .lst (k.seq h n) n
  | tup h n => exact .tup (k.seqT h n) n
  | str z => exact .str z
theorem Row.len {K : PySem.W.Frag} {H : Hp} {p : Addr} {v : V} {xs : List V} (r : Row K H p v xs) (h : xs.length ≤ 90000) : LenV K v H xs.length := by
  cases r with
  | lst h n => exact .inl ⟨xs, h, rfl⟩
  | tup h n => exact .inr ⟨xs, h, rfl⟩
  | str z =>
    rw [List.length_map] at h
    refine ⟨?_, by rw [List.length_map]; simp [Str.length]⟩
    unfold Str.length
    exact r_size (by simpa using Nat.le_trans h (by decide))
theorem Row.ix {K : PySem.W.Frag} {H : Hp} {p : Addr} {v : V} {xs : List V} (r : Row K H p v xs) {k : Int} {Q : VK} (h : xs.length ≤ 90000) (h0 : 0 ≤ k) (h1 : k < (xs.length : Int)) (q : ∀ y, y ∈ xs → Q y H) : rIx K v (.int k) H Q := by
  cases r with
  | lst hs n =>
    obtain ⟨y, ey, hm⟩ := at_nat h0 h1
    exact .inl ⟨_, xs, k, y, rfl, rfl, hs, ey, q y hm⟩
  | tup hs n =>
    obtain ⟨y, ey, hm⟩ := at_nat h0 h1
    exact .inr (.inl ⟨_, xs, k, y, rfl, rfl, hs, ey, q y hm⟩)
  | str z =>
    rw [List.length_map] at h h1
    obtain ⟨c, ey, hm⟩ := at_nat (xs := z.cps.toList) h0 h1
    exact .inr (.inr ⟨z, k, c, rfl, rfl, by unfold Str.length; exact r_size (by simpa using Nat.le_trans h (by decide)), ey, q _ (List.mem_map.mpr ⟨c, hm, rfl⟩)⟩)

/-! ### signs and texts -/
def sgn (c : Nat) : Str := ⟨#[c]⟩
theorem joinL_nil : ∀ ps : List (List Nat), TL.joinL [] ps = ps.flatten
  | [] => rfl
  | [p] => by simp [TL.joinL]
  | p :: q :: r => by
    show p ++ ([] ++ TL.joinL [] (q :: r)) = p ++ (q :: r).flatten
    rw [List.nil_append, joinL_nil (q :: r)]
theorem tl_sgn (c : Nat) : TL.tl (sgn c) = [c] := rfl
theorem flat_one : ∀ ls : List Nat, (ls.map fun c => [c]).flatten = ls
  | [] => rfl
  | c :: r => by
    show [c] ++ (r.map fun c => [c]).flatten = c :: r
    rw [flat_one r]
    rfl
theorem join_signs {e : Str} (he : TL.tl e = []) (ls : List Nat) : TL.tl (Txt.join e (ls.map sgn)) = ls := by
  rw [TL.join_eq, TL.tl_join, he, List.map_map, joinL_nil]
  show (ls.map fun c => [c]).flatten = ls
  exact flat_one ls
def inClass (st : Stmt) (j : Nat) : Stmt := match st with
  | .ClassDef _ _ _ b _ _ _ _ _ _ _ => b.getD j (.Pass ⟨0, 0, 0, 0⟩)
  | _ => .Pass ⟨0, 0, 0, 0⟩
theorem Df.imp {P : Program} {w : World} {K : PySem.W.Frag} {mg : Str → Option Value} {base : Heap} {x : Str} {k : Nat} {ps : List Str} {sp sp' : Sp} (c : Df P w K mg base x k ps sp) (h : ∀ vs H Q E, sp' vs H Q E → sp vs H Q E) : Df P w K mg base x k ps sp' := by
  obtain ⟨f, fd, F, r⟩ := c
  exact ⟨f, fd, F.imp h, r⟩
theorem str_nil (x : Str) : Str.empty ++ x = x := TL.ext_tl (by rw [TL.tl_append]; rfl)
theorem str_len (x y : Str) : (x ++ y).length = x.length + y.length := by
  have h := congrArg List.length (TL.tl_append x y)
  rw [List.length_append] at h
  unfold TL.tl at h
  unfold Str.length
  simpa using h
/-- == and != of data of any size of texts -/
def rEqP (K : PySem.W.Frag) : R2 := fun x y H Q => ∃ d e, Dp K H x d ∧ Dp K H y e ∧ d.plain = true ∧ e.plain = true ∧ d.depth ≤ 60 ∧ Q (.bl (PyData.eqv d e)) H
def rNeP (K : PySem.W.Frag) : R2 := fun x y H Q => ∃ d e, Dp K H x d ∧ Dp K H y e ∧ d.plain = true ∧ e.plain = true ∧ d.depth ≤ 60 ∧ Q (.bl (!PyData.eqv d e)) H
theorem op_eqP {X : Cx} (hu : X.A.units + 64 < cLine) : OpR X (compareOp .Eq) (rEqP X.K) := by
  intro pins s σ H x y v u Q I rx ry h
  obtain ⟨d, e, hd, he, pd, pe, h60, q⟩ := h
  obtain ⟨as, r1⟩ := Dp.reads I d x v hd rx
  obtain ⟨bs, r2⟩ := Dp.reads I e y u he ry
  exact SeqAt.eq_plain r1 r2 pd pe (by omega) ⟨.bl _, H, I, rfl, q⟩
theorem op_neP {X : Cx} (hu : X.A.units + 64 < cLine) : OpR X (compareOp .NotEq) (rNeP X.K) := by
  intro pins s σ H x y v u Q I rx ry h
  obtain ⟨d, e, hd, he, pd, pe, h60, q⟩ := h
  obtain ⟨as, r1⟩ := Dp.reads I d x v hd rx
  obtain ⟨bs, r2⟩ := Dp.reads I e y u he ry
  exact SeqAt.ne_plain r1 r2 pd pe (by omega) ⟨.bl _, H, I, rfl, q⟩
theorem plain_strs : ∀ xs : List Str, PyData.plainAll (xs.map PyData.str) = true ∧ PyData.depthAll (xs.map PyData.str) = 0
  | [] => ⟨rfl, rfl⟩
  | z :: r => by
    have ih := plain_strs r
    refine ⟨?_, ?_⟩
    · show (PyData.plain (.str z) && PyData.plainAll (r.map PyData.str)) = true
      rw [ih.1]
      rfl
    · show max (PyData.depth (.str z)) (PyData.depthAll (r.map PyData.str)) = 0
      rw [ih.2]
      rfl
theorem plain_ints : ∀ xs : List Int, PyData.plainAll (xs.map PyData.int) = true ∧ PyData.depthAll (xs.map PyData.int) = 0
  | [] => ⟨rfl, rfl⟩
  | z :: r => by
    have ih := plain_ints r
    refine ⟨?_, ?_⟩
    · show (PyData.plain (.int z) && PyData.plainAll (r.map PyData.int)) = true
      rw [ih.1]
      rfl
    · show max (PyData.depth (.int z)) (PyData.depthAll (r.map PyData.int)) = 0
      rw [ih.2]
      rfl
theorem depth_ints (xs : List Int) : (PyData.list (xs.map PyData.int)).depth ≤ 60 := by
  show PyData.depthAll (xs.map PyData.int) + 1 ≤ 60
  rw [(plain_ints xs).2]
  decide
theorem depth_strs (xs : List Str) : (PyData.list (xs.map PyData.str)).depth ≤ 60 := by
  show PyData.depthAll (xs.map PyData.str) + 1 ≤ 60
  rw [(plain_strs xs).2]
  decide
theorem dp_strs {K : PySem.W.Frag} {H : Hp} : ∀ xs : List Str, DpAll K H (xs.map V.str) (xs.map PyData.str)
  | [] => .nil
  | _ :: r => .cons (.str _) (dp_strs r)
/-- two lists of the same texts are equal -/
theorem r_neS {K : PySem.W.Frag} {H : Hp} {Q : VK} {a b : Addr} (xs : List Str) (ha : SqL K H a (xs.map V.str)) (hb : SqL K H b (xs.map V.str)) (q : Q (.bl false) H) : rNeP K (.ref a) (.ref b) H Q :=
  ⟨_, _, .lst ha (dp_strs xs), .lst hb (dp_strs xs), (plain_strs xs).1, (plain_strs xs).1, depth_strs xs, by rw [SeqAt.eqv_refl_plain (.list (xs.map PyData.str)) (plain_strs xs).1]; exact q⟩
/-- two lists without items -/
theorem r_eqN {K : PySem.W.Frag} {H : Hp} {Q : VK} {a b : Addr} (ha : SqL K H a []) (hb : SqL K H b []) (q : Q (.bl true) H) : rEqP K (.ref a) (.ref b) H Q :=
  ⟨.list [], .list [], .lst ha .nil, .lst hb .nil, rfl, rfl, by decide, q⟩
theorem strs_all {f : Str → Bool} {xs : List Str} {y : V} (h : y ∈ xs.map V.str) (hf : xs.all f = true) : ∃ x, y = .str x ∧ f x = true := by
  obtain ⟨x, hx, rfl⟩ := List.mem_map.mp h
  exact ⟨x, rfl, List.all_eq_true.mp hf x hx⟩
theorem Pen.new {H : Hp} {p c q : Addr} {ns : List Int} {n : Nat} (h : Pen H p c ns n) (hq : H q = none) : q ≠ p := fun e => by
  obtain ⟨⟨i, g, a, _⟩, _, _⟩ := h
  rw [e, a] at hq
  cases hq
theorem Kp.free {p D : Addr} {H H' : Hp} (k : Kp p H H') (h : H' D = none) (n : D ≠ p) : H D = none := by
  cases e : H D with
  | none => rfl
  | some o => rw [k _ _ e n] at h; cases h
theorem Pen.upd {H : Hp} {p c D : Addr} {ns : List Int} {n : Nat} {o : HO} (h : Pen H p c ns n) (h1 : D ≠ p) (h2 : D ≠ c) : Pen (upd H D o) p c ns n := by
  obtain ⟨⟨i, g, a, b⟩, d, e⟩ := h
  exact ⟨⟨i, g, by rw [upd_ne (Ne.symm h1)]; exact a, b⟩, by rw [upd_ne (Ne.symm h2)]; exact d, e⟩
theorem sum_sgn : ∀ ls : List Nat, ((ls.map sgn).map (·.length)).sum = ls.length
  | [] => rfl
  | c :: r => by
    show 1 + ((r.map sgn).map (·.length)).sum = r.length + 1
    rw [sum_sgn r, Nat.add_comm]
end Nk

/-! G: defs that run where no repr is under way (their texts of containers are known), repr of data there. -/
namespace Nk
open PySem PySem.Spec PyProof.Rows L2

/-- a def's promise where no repr is under way -/
structure FnG (P : Program) (w : World) (K : PySem.W.Frag) (mg : Str → Option Value) (base : Heap) (CX : CXT) (k : Nat) (f : Addr) (fd : FuncData) (ps : List Str) (sp : Sp) : Prop where
  len : ∀ vs H Q E, sp vs H Q E → vs.length = ps.length
  run : ∀ (A : Around) (outer : List Env) (s : Shared) (H : Hp) (args : Args) (us : List Value) (vs : List V) (Q : VK) (E : XK), A.guards = some [] → Room k A → Env0 P w K mg base A outer s H → BindsTo s fd args (ps.zip us) → Vals vs us → sp vs H Q E →
    codeAny (model P w) A (.call (.ref f) args) (CR CX outer P w H s Q E) s

theorem fng_of {CX : CXT} {P : Program} {w : World} {K : PySem.W.Frag} {mg : Str → Option Value} {base : Heap} {k : Nat} {x qual : Str} {params : Arguments} {body : List Stmt} {scope : Scope} {f : Addr} {fd : FuncData} {N ps : List Str} {sp : Sp}
    (F : FunD K x qual params body scope [] [] f fd) (S : FnScope N ps scope) (len : ∀ vs H Q E, sp vs H Q E → vs.length = ps.length)
    (hbody : ∀ (cdv : Value) (A : Around) (outer : List Env) (s : Shared) (H : Hp) (vs : List V) (Q : VK) (E : XK), A.guards = some [] → Room k (A.deeper (envOfC qual scope s.heap.objs.size f cdv)) → sp vs H Q E →
      ∃ t, PSs (cxOf CX P w K mg base N qual scope f cdv A outer s H E) body t ∧ t { nx := fun _ H' => Q .non H', rt := Q } (L2.start N vs) H) : FnG P w K mg base CX (k + 1) f fd ps sp := by
  refine ⟨len, fun A outer s H args us vs Q E hg hr e0 hb r hsp => ?_⟩
  obtain ⟨oc, od, dV, kV, doc, pm, an, cdv, ct, osl, rfl, lk, hcd, _, _⟩ := F.ex
  exact LamX.run_ofS lk hcd S hr e0 hb r (len _ _ _ _ hsp) fun hr' => hbody cdv A outer s H vs Q E hg hr' hsp

/-- the same, the def's code object by its place -/
theorem fngC_of {CX : CXT} {P : Program} {w : World} {K : PySem.W.Frag} {mg : Str → Option Value} {base : Heap} {k : Nat} {x qual : Str} {params : Arguments} {body : List Stmt} {scope : Scope} {p : He.Defn} {fd : FuncData} {N ps : List Str} {sp : Sp}
    (F : FunD K x qual params body scope [] [] (He.fAd K p) fd) (S : FnScope N ps scope) (len : ∀ vs H Q E, sp vs H Q E → vs.length = ps.length)
    (hbody : ∀ (cdv : Value), cdv = .ref (He.codeOf K p) → ∀ (A : Around) (outer : List Env) (s : Shared) (H : Hp) (vs : List V) (Q : VK) (E : XK), A.guards = some [] → Room k (A.deeper (envOfC qual scope s.heap.objs.size (He.fAd K p) cdv)) → sp vs H Q E →
      ∃ t, PSs (cxOf CX P w K mg base N qual scope (He.fAd K p) cdv A outer s H E) body t ∧ t { nx := fun _ H' => Q .non H', rt := Q } (L2.start N vs) H) : FnG P w K mg base CX (k + 1) (He.fAd K p) fd ps sp := by
  refine ⟨len, fun A outer s H args us vs Q E hg hr e0 hb r hsp => ?_⟩
  obtain ⟨oc, od, dV, kV, doc, pm, an, cdv, ct, osl, rfl, lk, hcd, _, _⟩ := F.ex
  obtain ⟨c, rfl⟩ := He.codeIn_ref hcd
  have e := He.codeOf_eq lk rfl
  exact LamX.run_ofS lk hcd S hr e0 hb r (len _ _ _ _ hsp) fun hr' => hbody (.ref c) (by rw [e]) A outer s H vs Q E hg hr' hsp

/-- such a def's bundle -/
def Dg (P : Program) (w : World) (K : PySem.W.Frag) (mg : Str → Option Value) (base : Heap) (x : Str) (k : Nat) (ps : List Str) (sp : Sp) : Prop :=
  ∃ (f : Addr) (fd : FuncData), FnG P w K mg base (L2.CX P w) k f fd ps sp ∧ mg x = some (.ref f) ∧ PySem.W.keepIn K (.ref f) = true ∧ Binds K fd ps []
theorem dg_mk {P : Program} {w : World} {K : PySem.W.Frag} {mg : Str → Option Value} {base : Heap} {x qual : Str} {st : Stmt} {f : Addr} {N ps : List Str} {k : Nat} {sp : Sp} (F : ∃ fd, FunD K x qual (defArgs st) (defBody st) (defScope st) [] [] f fd) (hm : mg x = some (.ref f)) (S : FnScope N ps (defScope st))
    (hb : ∀ (kV doc pm : Value) (an : Option Addr) (cdv ct : Value) (us : List Value), us.length = ps.length → bindArgs (PySem.W.fnOf x qual (defArgs st) (defBody st) (defScope st) .none kV doc pm an cdv ct) ⟨us, []⟩ = pure (ps.zip us))
    (len : ∀ vs H Q E, sp vs H Q E → vs.length = ps.length)
    (hbody : ∀ (cdv : Value) (A : Around) (outer : List Env) (s : Shared) (H : Hp) (vs : List V) (Q : VK) (E : XK), A.guards = some [] → Room k (A.deeper (envOfC qual (defScope st) s.heap.objs.size f cdv)) → sp vs H Q E →
      ∃ t, PSs (cxOf (L2.CX P w) P w K mg base N qual (defScope st) f cdv A outer s H E) (defBody st) t ∧ t { nx := fun _ H' => Q .non H', rt := Q } (L2.start N vs) H) : Dg P w K mg base x (k + 1) ps sp := by
  obtain ⟨fd, F⟩ := F
  exact ⟨f, fd, fng_of F S len hbody, hm, F.kp, F.bindsN hb⟩
section
variable {X : Cx} {k j : Nat} {ps : List Str} {sp : Sp} {x : Str} {p pos : Pos} {e : Expr} {es : List Expr} {t : TA} {W : WX}
theorem pe_dg (c : Dg X.prog X.w X.K X.mg X.base x k ps sp) (hgd : X.A.guards = some []) (hr : Room j X.A) (hk : k ≤ j) (hg : Gl X x) (tk : Takes X W) (ha : PA X (e :: es) t)
    (hdb : (x == ("__debug__" : Str)) = false := by decide) (he : starEach (e :: es) X.env = (false, eval e X.env) :: starEach es X.env := by rfl) (hpl : (backTo pos (starEach es X.env)).any (·.1) = false := by rfl) :
    PE X (.Call (.Name x p) (e :: es) [] pos) (tDf sp W t) := by
  obtain ⟨f, fd, F, hm, hkp, hb⟩ := c
  refine ⟨fun pins s σ H Q I h => ?_⟩
  refine wpAny_Call_Name_kw (ld_glob I hg hm ?_ hdb)
  refine PySem.W.callWith_K (h₀ := X.base) I.ok.mod.kin hkp (thn (ha.run pos pins s σ H _ I h) fun us s1 ⟨vs, H1, I1, r, q⟩ => ⟨I1.kIn, ?_⟩) he hpl
  have hl : us.length = ps.length := by rw [← r.length]; exact F.len _ _ _ _ q
  have b := hb s1 us I1.kIn (by rw [List.append_nil]; exact hl)
  rw [List.append_nil] at b
  refine wpAny_call (codeAny_mono (F.run X.A X.stack s1 H1 ⟨us, []⟩ us vs Q (WE W σ) hgd (hr.mono hk) I1.env0 b r q) fun r s' hq => ?_)
  match r, hq with
  | .error e, hq => exact passAt tk σ pins H1 s1 e s' I1 hq
  | .ok (.ret u), hq => exact I1.after hq
  | .ok .next, hq => exact False.elim hq
  | .ok .brk, hq => exact False.elim hq
  | .ok .cont, hq => exact False.elim hq
end

/-! ### repr of data -/
inductive Dq (K : PySem.W.Frag) (H : Hp) : V → PyData → Prop
  | of {v : V} {d : PyData} (h : Dp K H v d) : Dq K H v d
  | dic {a : Addr} (h : H a = some (.dK [])) : Dq K H (.ref a) (.dict [])
mutual
theorem dp_nodict {K : PySem.W.Frag} {H : Hp} : ∀ (d : PyData) (v : V), Dp K H v d → d.hasDict = false
  | .none, _, _ => rfl
  | .bool _, _, _ => rfl
  | .int _, _, _ => rfl
  | .str _, _, _ => rfl
  | .list ds, _, h => by
    cases h with
    | lst _ ha => exact dp_nodicts ds _ ha
  | .tuple ds, _, h => by
    cases h with
    | tup _ ha => exact dp_nodicts ds _ ha
  | .dict _, _, h => by cases h
theorem dp_nodicts {K : PySem.W.Frag} {H : Hp} : ∀ (ds : List PyData) (vs : List V), DpAll K H vs ds → PyData.hasDictAll ds = false
  | [], _, _ => rfl
  | d :: ds, _, h => by
    cases h with
    | cons h1 h2 =>
      show (PyData.hasDict d || PyData.hasDictAll ds) = false
      rw [dp_nodict d _ h1, dp_nodicts ds _ h2]
      rfl
end
theorem Dq.reads {X : Cx} {pins : List (Addr × Obj)} {σ : L2.St} {H : Hp} {s : Shared} (I : Inv X pins σ H s) {v : V} {u : Value} {d : PyData} (h : Dq X.K H v d) (r : RelV v u) : ∃ as, Reads s.heap u d as ∧ (d.hasDict = true → sysModules ∉ as) := by
  cases h with
  | of h =>
    obtain ⟨as, q⟩ := Dp.reads I d v u h r
    exact ⟨as, q, fun z => by rw [dp_nodict d v h] at z; cases z⟩
  | dic h =>
    cases r
    obtain ⟨_, hne, vs, kv, dd⟩ := dk_of I.hok h
    cases kv
    obtain ⟨o, es, ep, ho, hx, hd, _, hes, _⟩ := dd
    have e0 : es.toList = [] := by cases hp : es.toList with | nil => rfl | cons e r => rw [hp] at hes; cases hes
    refine ⟨_, .dict (kvs := []) ho hx.1 hd (by rw [e0]; exact .nil) (by rw [e0]; exact .nil), fun _ hm => ?_⟩
    have hm := List.mem_singleton.mp hm
    rw [← hm] at hne
    simp at hne
def rRepr (K : PySem.W.Frag) : List V → Hp → VK → Prop := fun xs H Q => ∃ v d, xs = [v] ∧ Dq K H v d ∧ d.showable = true ∧ d.depth ≤ 60 ∧ d.shown.length ≤ sizeLine ∧ Q (.str d.shown) H
theorem call_reprG {X : Cx} (hgd : X.A.guards = some []) (hu : X.A.units + 64 < cLine) : CallR X (.builtin "repr") (rRepr X.K) := by
  intro pins s σ H xs us Q I r h
  obtain ⟨v, d, rfl, hd, hs, h60, hz, q⟩ := h
  obtain ⟨u, rfl, ru⟩ := vals1 r
  obtain ⟨as, rd, hm⟩ := hd.reads I ru
  have fin : ∀ h' t tk, (∀ b o, s.heap.get? b = some o → h'.get? b = some o) → EP X pins σ Q (.str d.shown t) { s with heap := h', toks := tk } := fun h' t tk k => ⟨.str _, H, I.kept k, ⟨_, rfl⟩, q⟩
  cases v with
  | ref a =>
    cases ru
    exact repr_of_reads' rd hs hm hgd (by omega) (fun _ _ e => e) fin hz
  | non =>
    cases ru
    cases rd
    exact PySem.P.repr_of_none (fin s.heap _ _ fun _ _ e => e)
  | bl b =>
    cases ru
    cases rd
    exact PySem.P.repr_of_bool (fin s.heap _ _ fun _ _ e => e)
  | int i =>
    obtain ⟨t, rfl⟩ := ru
    cases rd
    exact PySem.P.repr_of_int (of_decide_eq_true hs) (fin s.heap _ _ fun _ _ e => e)
  | str x =>
    obtain ⟨t, rfl⟩ := ru
    cases rd
    exact PySem.P.repr_of_str (fin s.heap _ _ fun _ _ e => e) hz
  | _ =>
    cases hd with
    | of h => cases h
end Nk

/-! Ops: == and != of instances with their own __eq__, str of instances with their own __str__, isinstance of a caught error. -/
namespace PySem.W
open PySem PySem.Spec PySem.Calls PyProof.Rows
section
variable {prog : Program} {w : World} {A : Around} {E : Value → Shared → Prop} {s : Shared} {K : Frag} {x C L f : Addr} {h₀ : Heap} {m : Str → Option Value} {ox : Obj} {od : Option Obj} {b tb : Value}
theorem nk_ifBound_B {M : Model} {T id : String} {name : Str} {args : List Value} {Q : Option Value → Shared → Prop} (X : K.In s.heap) (I : InstAt s.heap x ox C od) (hs : findIn K (.ref C) name = some (some (.builtin id))) (S : Slot T name id)
    (h : wpAny M A (call (.builtin id) (.ref x :: args)) (fun v => Q (some v)) E s) : wpAny M A (callSpecialIfBound? (.ref x) name args) Q E s := by
  simp only [callSpecialIfBound?, bindSpecialIfBound?]
  refine wpAny_holding (wpAny_bind (wpAny_bind (wpAny_bind (I.type.here ((looks_findIn X hs).here ?_)))))
  simp only [S.bind]
  refine wpAny_bind (wpAny_askSetting (wpAny_ite ?_))
  have fin : wpAny M A (call (.builtin id) ([.ref x] ++ args) >>= fun v => pure (some v)) Q E s := wpAny_bind (wpAny_mono h (fun v s' h' => wpAny_pure h') fun _ _ h' => h')
  split
  · exact wpAny_bind (wpAny_pure (wpAny_pure fin))
  · exact wpAny_tryCatch (wpAny_bind (wpAny_pure (wpAny_pure fin)))
/-- object.__ne__ by the own __eq__ -/
theorem nk_objNe (hu : A.units < cLine) {Q : Fin → Shared → Prop} (X : K.In s.heap) (I : InstAt s.heap x ox C od) (he : findIn K (.ref C) "__eq__" = some (some (.ref f))) (hf : isFn K (.ref f) = true)
    (h : wpAny (model prog w) A (call (.ref f) [.ref x, b]) (fun v s' => ∃ r, v = .bool r ∧ Q (.done (.ret (.bool (!r)))) s') E s) : wpAny (model prog w) A (Builtin.«object.__ne__» ⟨[.ref x, b], []⟩) Q E s := by
  obtain ⟨hp, g, d, t, os⟩ := s
  unfold Builtin.«object.__ne__»
  repeat (first
    | with_reducible refine wpAny_cRoomFor hu ?_
    | (refine wpAny_bind (m := callSpecialIfBound? (.ref x) (Str.ofString "__eq__") [b])
        (ifBound_K X I he hf (wpAny_mono h (fun r s' hr => by
          obtain ⟨b, rfl, hq⟩ := hr
          repeat (first | exact hq | exact wpAny_pure hq | exact wpAny_truthy_bool hq | (refine wpAny_bind (m := truthy (.bool _)) (wpAny_truthy_bool ?_)) | wp_step)) fun _ _ e => e)))
    | wp_step)
theorem nk_ne {Q : Value → Shared → Prop} (hu : A.units + 1 < cLine) (X : K.In s.heap) (I : InstAt s.heap x ox C od) (hb : Looks (model prog w) s.heap (typeOf b) tb) (hn : notFirst K C tb = true)
    (hs : findIn K (.ref C) "__ne__" = some (some (.builtin "object.__ne__"))) (ho : subIn K (.ref C) (.type "object") = some true) (he : findIn K (.ref C) "__eq__" = some (some (.ref f))) (hf : isFn K (.ref f) = true)
    (h : wpAny (model prog w) A.in1 (call (.ref f) [.ref x, b]) (fun v s' => ∃ r, v = .bool r ∧ Q (.bool (!r)) s') E s) : wpAny (model prog w) A (richCompare .NotEq (.ref x) b) Q E s := by
  have one : wpAny (model prog w) A (tryCompare (.ref x) (cmpInfo .NotEq).2.1 b) (fun r s' => ∃ v, r = some v ∧ Q v s') E s := by
    unfold tryCompare
    refine wpAny_bind (nk_ifBound_B X I hs F.cmp_object.ne (wpAny_call (codeAny_call_builtin F.cmp_object.ne.plain F.cmpEntry_ne
      (check_slot F.cmpKind_ne F.cmpSplit_ne (I.type.andThen (looks_subIn X ho)) (F.cmpArgs_ne _ _) (nk_objNe (A := A.in1) hu X I he hf (wpAny_mono h (fun v s' hv => ?_) fun _ _ e => e))))))
    obtain ⟨r, rfl, hq⟩ := hv
    exact ⟨r, rfl, wpAny_pure ⟨_, rfl, hq⟩⟩
  unfold richCompare
  simp only [oneThing_ref]
  refine wpAny_holding (wpAny_bind (wpAny_cRoomFor (by omega) ?_))
  refine wpAny_bind (I.type.here (wpAny_bind (hb.here ?_)))
  split
  · rename_i q
    have e : subIn K tb (.ref C) = some false := by
      rcases Bool.or_eq_true_iff.mp hn with e | e
      · rw [beq_iff_eq.mp e] at q; simp at q
      · exact beq_iff_eq.mp e
    refine wpAny_bind ((looks_subIn X e).here ?_)
    simp only [Bool.false_eq_true, if_false]
    refine wpAny_bind (wpAny_mono one (fun r s' z => ?_) fun _ _ e => e)
    obtain ⟨v, rfl, hq⟩ := z
    exact wpAny_pure hq
  · refine wpAny_bind (wpAny_pure ?_)
    simp only [Bool.false_eq_true, if_false]
    refine wpAny_bind (wpAny_mono one (fun r s' z => ?_) fun _ _ e => e)
    obtain ⟨v, rfl, hq⟩ := z
    exact wpAny_pure hq
end
section
variable {K : Frag} {x t : Value} {H : Heap → Prop}
/-- isinstance, the answer yes: the type alone is looked at -/
theorem nk_ansT {c : Value} (ty : ∀ (M : Model) (h : Heap), K.In h → H h → Looks M h (typeOf x) t) (e : kitOne K t c = some true) : Answers (fun s => K.In s.heap ∧ H s.heap) x c true := by
  intro dep tk prog w A R s hs
  obtain ⟨h0, g, d, tt, os⟩ := s
  obtain ⟨⟨X, p⟩, hq⟩ := hs
  have LT := ty (model prog w) h0 X p
  unfold kitOne at e
  unfold Builtin.«isinstance.nested»
  refine wpAny_bind (LT.at ?_)
  by_cases q : (t == c) = true
  · rw [if_pos q]
    first
      | ((repeat lk); exact hq tt)
      | exact wpAny_bind (wpAny_rule (hq tt))
      | exact wpAny_bind (wpAny_rule (wpAny_pure (hq tt)))
  · rw [if_neg q] at e
    rw [if_neg q]
    obtain ⟨hty, his, hsub⟩ := kit_cls (M := model prog w) X e
    have LI : Looks (model prog w) h0 (isInstance x c) true := LT.andThen hsub
    refine wpAny_bind (hty.at ?_)
    rw [if_pos (by decide)]
    k_delta "plainIsInstance"
    refine wpAny_bind (wpAny_bind (his.at ?_))
    simp only [Bool.not_true, Bool.false_eq_true, if_false]
    refine wpAny_bind (LI.at ?_)
    first
      | exact wpAny_pure (wpAny_pure (hq tt))
      | (simp only [if_true]; first | exact wpAny_pure (wpAny_pure (hq tt)) | exact wpAny_pure (hq tt) | exact wpAny_bind (wpAny_pure (wpAny_pure (hq tt))))
theorem nk_isT {prog : Program} {w : World} {A : Around} {E : Value → Shared → Prop} {s : Shared} {Q : Value → Shared → Prop} {c : Value} (ty : ∀ (M : Model) (h : Heap), K.In h → H h → Looks M h (typeOf x) t) (X : K.In s.heap) (p : H s.heap) (e : kitOne K t c = some true) (hx : x ≠ .builtin "__main__.__loader__#opaque") (h : ∀ tk, Q (.bool true) { s with toks := tk }) :
    wpAny (model prog w) A (call (.builtin "isinstance") [x, c]) Q E s :=
  call_isinstance (S := fun _ R s => (K.In s.heap ∧ H s.heap) ∧ ∀ tk, R (.ok (.ret (.bool true))) { s with toks := tk })
    (fun prog w A R s hs => isinstance_outer (nk_ansT ty e 0 _ prog w A R s hs) hx) ⟨⟨X, p⟩, h⟩
end
end PySem.W
namespace Nk
open PySem PySem.Spec PyProof.Rows L2
/-- a class whose instances are compared by their own __eq__ -/
structure EqC (K : PySem.W.Frag) (C f : Addr) : Prop where
  eq : PySem.W.findIn K (.ref C) "__eq__" = some (some (.ref f))
  ne : PySem.W.findIn K (.ref C) "__ne__" = some (some (.builtin "object.__ne__"))
  fn : PySem.W.isFn K (.ref f) = true
  obj : PySem.W.subIn K (.ref C) (.type "object") = some true
def noE : XK := fun _ _ _ => False
def rOwn (neg : Bool) (K : PySem.W.Frag) (C : Addr) (sp : Sp) : R2 := fun x y H Q => ∃ a dx fs tb, x = .ref a ∧ H a = some (.ins C dx fs) ∧ TyX K H y tb ∧ PySem.W.notFirst K C tb = true ∧ sp [x, y] H (fun v H' => ∃ b, v = .bl b ∧ Q (.bl (if neg then !b else b)) H') noE
section
variable {X : Cx} {k : Nat} {C f : Addr} {fd : FuncData} {ps : List Str} {sp : Sp}
theorem Env0.within {P : Program} {w : World} {K : PySem.W.Frag} {mg : Str → Option Value} {base : Heap} {A A' : Around} {outer : List Env} {s : Shared} {H : Hp} (e : Env0 P w K mg base A outer s H) (h : A'.frames = A.frames) : Env0 P w K mg base A' outer s H :=
  ⟨by rw [h]; exact e.frames, e.mod, e.bs, e.bsz, e.funs, e.frf, e.hok, e.bare⟩
theorem own_run {A : Around} {pins : List (Addr × Obj)} {σ : L2.St} {H : Hp} {s : Shared} {Q : VK} {vs : List V} {us : List Value} (F : FnOk X.prog X.w X.K X.mg X.base (L2.CX X.prog X.w) k f fd ps sp) (hb : Binds X.K fd ps []) (hr : Room k A) (hfr : A.frames = X.A.frames)
    (I : Inv X pins σ H s) (r : Vals vs us) (h : sp vs H Q noE) : wpAny (model X.prog X.w) A (call (.ref f) us) (EP X pins σ Q) X.xe s := by
  have hl : (us ++ []).length = ps.length := by rw [List.append_nil, ← r.length]; exact F.len _ _ _ _ h
  have b := hb s us I.kIn hl
  rw [List.append_nil] at b
  refine wpAny_call (codeAny_mono (F.run A X.stack s H ⟨us, []⟩ us vs Q noE hr (Env0.within I.env0 hfr) b r h) fun r s' hq => ?_)
  match r, hq with
  | .error e, hq => exact passes_call (W := fun _ _ _ _ => False) LamX.takes0 (fun _ _ _ _ z => z) pins σ H s e s' I hq
  | .ok (.ret u), hq => exact I.after hq
  | .ok .next, hq => exact False.elim hq
  | .ok .brk, hq => exact False.elim hq
  | .ok .cont, hq => exact False.elim hq
theorem op_eqO (T : EqC X.K C f) (F : FnOk X.prog X.w X.K X.mg X.base (L2.CX X.prog X.w) k f fd ps sp) (hb : Binds X.K fd ps []) (hr : Room k X.A) : OpR X (compareOp .Eq) (rOwn false X.K C sp) := by
  intro pins s σ H x y v u Q I rx ry h
  obtain ⟨a, dx, fs, tb, rfl, ea, ty, hn, hsp⟩ := h
  cases rx
  obtain ⟨mA, O, _⟩ := ins_get I.hok ea
  obtain ⟨od, J, _⟩ := O.look
  obtain ⟨φ, Z, p, _⟩ := kit_of I ry ty
  obtain ⟨m, hF⟩ := I.fr
  refine PySem.W.cmp_ofEq (PySem.W.cmp_K (op := .Eq) (tb := tb) hr.units0 hF I.ok.mod.kin J (Z.ty _ _ I.kIn p) hn T.eq T.fn ?_)
  refine wpAny_mono (own_run (vs := [.ref a, y]) F hb hr rfl I (.cons rfl (.cons ry .nil)) hsp) (fun v s' hv => ?_) fun _ _ z => z
  obtain ⟨z, H', I', rz, b, rfl, q⟩ := hv
  cases rz
  exact ⟨.bl b, H', I', rfl, q⟩
theorem op_neO (T : EqC X.K C f) (F : FnOk X.prog X.w X.K X.mg X.base (L2.CX X.prog X.w) k f fd ps sp) (hb : Binds X.K fd ps []) (hr : Room (k + 1) X.A) : OpR X (compareOp .NotEq) (rOwn true X.K C sp) := by
  intro pins s σ H x y v u Q I rx ry h
  obtain ⟨a, dx, fs, tb, rfl, ea, ty, hn, hsp⟩ := h
  cases rx
  obtain ⟨mA, O, _⟩ := ins_get I.hok ea
  obtain ⟨od, J, _⟩ := O.look
  obtain ⟨φ, Z, p, _⟩ := kit_of I ry ty
  refine PySem.W.cmp_ofNotEq (PySem.W.nk_ne (by have := hr.units; omega) I.kIn J (Z.ty _ _ I.kIn p) hn T.ne T.obj T.eq T.fn ?_)
  refine wpAny_mono (own_run (vs := [.ref a, y]) F hb hr.in1 rfl I (.cons rfl (.cons ry .nil)) hsp) (fun v s' hv => ?_) fun _ _ z => z
  obtain ⟨z, H', I', rz, b, rfl, q⟩ := hv
  cases rz
  exact ⟨b, rfl, .bl (!b), H', I', rfl, q⟩
/-- str(x) by the own __str__ -/
def rStrO (C : Addr) (sp : Sp) : List V → Hp → VK → Prop := fun xs H Q => ∃ a dx fs, xs = [.ref a] ∧ H a = some (.ins C dx fs) ∧ sp [.ref a] H (fun v H' => ∃ z, v = .str z ∧ Q (.str z) H') noE
theorem call_strO (hs : PySem.W.findIn X.K (.ref C) "__str__" = some (some (.ref f))) (hf : PySem.W.isFn X.K (.ref f) = true) (F : FnOk X.prog X.w X.K X.mg X.base (L2.CX X.prog X.w) k f fd ps sp) (hb : Binds X.K fd ps []) (hr : Room (k + 2) X.A) : CallR X (.type "str") (rStrO C sp) := by
  intro pins s σ H xs us Q I r h
  obtain ⟨a, dx, fs, rfl, ea, hsp⟩ := h
  obtain ⟨u, rfl, ru⟩ := vals1 r
  cases ru
  obtain ⟨mA, O, _⟩ := ins_get I.hok ea
  obtain ⟨od, J, _⟩ := O.look
  refine PySem.W.kso_call (by have := hr.units; show X.A.units + 1 + 1 < cLine; omega) I.kIn J hs hf ?_
  refine wpAny_mono (own_run (vs := [.ref a]) F hb hr.in1.in1 rfl I (.cons rfl .nil) hsp) (fun v s' hv => ?_) fun _ _ z => z
  obtain ⟨z, H', I', rz, x, rfl, q⟩ := hv
  obtain ⟨t, rfl⟩ := rz
  exact ⟨.str x, H', I', ⟨t, rfl⟩, q⟩
/-- isinstance(e, c), e the exception that the suite holds, of the class at D, an instance of c -/
def rIsT (K : PySem.W.Frag) (a : Addr) (cls : Value) : List V → Hp → VK → Prop := fun xs H Q => ∃ (D C : Addr), xs = [.ref a, .ref C] ∧ cls = .ref D ∧ PySem.W.kitOne K (.ref D) (.ref C) = some true ∧ Q (.bl true) H
theorem call_isT {X : Cx} {a : Addr} {cls : Value} {d : Option Addr} {oe : Obj} {pn : List (Addr × Obj)} (hz : Zc cls d oe) : CallR (X.suite a ((a, oe) :: pn)) (.builtin "isinstance") (rIsT X.K a cls) := by
  intro pins s σ H xs us Q I r h
  obtain ⟨D, C, rfl, rfl, e, q⟩ := h
  obtain ⟨u1, u2, rfl, r1, r2⟩ := vals2 r
  cases r1
  cases r2
  obtain ⟨hget, _⟩ := I.pin (a, oe) (List.mem_append.mpr (.inl List.mem_cons_self))
  refine PySem.W.nk_isT (H := fun h => h.get? a = some oe) (t := .ref D) (fun M h X p => ?_) I.kIn hget e (fun z => nomatch z) fun tk => ⟨.bl true, H, I.tok tk, rfl, q⟩
  have := PySem.W.Looks.ld (M := M) (part := none) p
  intro A' Q' E' s' k q'
  exact wpAny_typeOf_ref (k _ _ p) (by rw [hz.1]; exact q')
end
end Nk

/-! Cls: classes of the text by bundles: making (Dm), properties (Dp), methods that operators ask (Dop). -/
namespace Nk
open PySem PySem.Spec PyProof.Rows L2

/-- a function object's bundle, wherever it stands -/
def Fo (P : Program) (w : World) (K : PySem.W.Frag) (mg : Str → Option Value) (base : Heap) (f : Addr) (k : Nat) (ps : List Str) (sp : Sp) : Prop :=
  ∃ fd : FuncData, FnOk P w K mg base (L2.CX P w) k f fd ps sp ∧ Binds K fd ps []
theorem fo_mk {P : Program} {w : World} {K : PySem.W.Frag} {mg : Str → Option Value} {base : Heap} {x qual : Str} {st : Stmt} {f : Addr} {N ps : List Str} {k : Nat} {sp : Sp} (F : ∃ fd, FunD K x qual (defArgs st) (defBody st) (defScope st) [] [] f fd) (S : FnScope N ps (defScope st))
    (hb : ∀ (kV doc pm : Value) (an : Option Addr) (cdv ct : Value) (us : List Value), us.length = ps.length → bindArgs (PySem.W.fnOf x qual (defArgs st) (defBody st) (defScope st) .none kV doc pm an cdv ct) ⟨us, []⟩ = pure (ps.zip us))
    (len : ∀ vs H Q E, sp vs H Q E → vs.length = ps.length)
    (hbody : ∀ (cdv : Value) (A : Around) (outer : List Env) (s : Shared) (H : Hp) (vs : List V) (Q : VK) (E : XK), Room k (A.deeper (envOfC qual (defScope st) s.heap.objs.size f cdv)) → sp vs H Q E →
      ∃ t, PSs (cxOf (L2.CX P w) P w K mg base N qual (defScope st) f cdv A outer s H E) (defBody st) t ∧ t { nx := fun _ H' => Q .non H', rt := Q } (L2.start N vs) H) : Fo P w K mg base f (k + 1) ps sp := by
  obtain ⟨fd, F⟩ := F
  exact ⟨fd, F.ok S len hbody, F.bindsN hb⟩
/-- a call whose parameters are filled in by keywords, too -/
def FoK (P : Program) (w : World) (K : PySem.W.Frag) (mg : Str → Option Value) (base : Heap) (f : Addr) (k : Nat) (ps : List Str) (sp : Sp) (n : Nat) (ks : List Str) (gV : List V → List V → List V) : Prop :=
  ∃ (fd : FuncData) (g : List Value → List Value → List Value), FnOk P w K mg base (L2.CX P w) k f fd ps sp ∧ KBn K fd ps n ks g gV
theorem fok_mk {P : Program} {w : World} {K : PySem.W.Frag} {mg : Str → Option Value} {base : Heap} {x qual : Str} {st : Stmt} {f : Addr} {ps ks : List Str} {k n : Nat} {sp : Sp} (g : {α : Type} → List α → List α → List α) (F : ∃ fd, FunD K x qual (defArgs st) (defBody st) (defScope st) [] [] f fd)
    (hrel : ∀ {vs zs : List V} {us ws : List Value}, Vals vs us → Vals zs ws → Vals (g vs zs) (g us ws))
    (hb : ∀ (kV doc pm : Value) (an : Option Addr) (cdv ct : Value) (us ws : List Value), us.length = n → ws.length = ks.length → bindArgs (PySem.W.fnOf x qual (defArgs st) (defBody st) (defScope st) .none kV doc pm an cdv ct) ⟨us, ks.zip ws⟩ = pure (ps.zip (g us ws)))
    (hfd : ∀ fd, FunD K x qual (defArgs st) (defBody st) (defScope st) [] [] f fd → FnOk P w K mg base (L2.CX P w) k f fd ps sp) : FoK P w K mg base f k ps sp n ks (fun us ws => g us ws) := by
  obtain ⟨fd, F⟩ := F
  obtain ⟨oc, od, dV, kV, doc, pm, an, cdv, ct, osl, e, lk, hcd, hD, hK⟩ := id F.ex
  rcases hD with ⟨_, rfl⟩ | ⟨z, _⟩
  · refine ⟨fd, fun us ws => g us ws, hfd fd F, ⟨fun s us ws X l1 l2 => ?_, fun r1 r2 => hrel r1 r2⟩⟩
    rw [e]
    exact .of_eq (hb kV doc pm an cdv ct us ws l1 l2)
  · exact absurd rfl z

section
variable {X : Cx} {k j n : Nat} {C f p g : Addr} {ps ks : List Str} {sp : Sp} {x : Str} {E : XK} {W : WX} {e : Expr} {es : List Expr} {kws : List Keyword} {t tk ta : TA} {te : TE} {p1 pos : Pos} {gV : List V → List V → List V}
/-- C(e, ..) -/
theorem pe_mk (M : Mk X.K C f) (c : Fo X.prog X.w X.K X.mg X.base f k ps sp) (hr : Room j X.A) (hk : k + 1 ≤ j) (hg : Gl X x) (hm : X.mg x = some (.ref C)) (tk : Takes X W) (hW : ∀ cls d σ H, E cls d H → W cls d σ H) (ha : PA X (e :: es) t)
    (hdb : (x == ("__debug__" : Str)) = false := by decide) (he : starEach (e :: es) X.env = (false, eval e X.env) :: starEach es X.env := by rfl) (hpl : (backTo pos (starEach es X.env)).any (·.1) = false := by rfl) :
    PE X (.Call (.Name x p1) (e :: es) [] pos) (tMake C sp [] E t) := by
  obtain ⟨fd, F, hb⟩ := c
  exact pe_make M F (hr.mono hk) hg hm hb .nil (passes_call tk hW) ha hdb he hpl
/-- C(k = v, ..) -/
theorem pe_mkK {tz : TA} (M : Mk X.K C f) (c : FoK X.prog X.w X.K X.mg X.base f k ps sp 1 ks gV) (hr : Room j X.A) (hk : k + 1 ≤ j) (hg : Gl X x) (hm : X.mg x = some (.ref C)) (tk : Takes X W) (hW : ∀ cls d σ H, E cls d H → W cls d σ H) (hkw : PK X kws tz)
    (hall : (backToKw pos (keywordEach kws X.env)).all (·.1.isSome) = true := by rfl) (hks : (backToKw pos (keywordEach kws X.env)).filterMap (·.1) = ks := by rfl) (hdb : (x == ("__debug__" : Str)) = false := by decide)
    (hpl : ((backTo pos (starEach [] X.env)).any (·.1) || (backToKw pos (keywordEach kws X.env)).any (·.1.isNone)) = false := by rfl) :
    PE X (.Call (.Name x p1) [] kws pos) (tMakeK C 0 ks.length sp gV E tNil tz) := by
  obtain ⟨fd, g, F, hb⟩ := c
  exact pe_makeK0 M F (hr.mono hk) hg hm hb (passes_call tk hW) hkw hall hks hdb hpl
/-- e.f, a property that raises nothing -/
theorem pe_pr (he : PE X e te) (c : Cls X.K C) (hp : PropOf X.K C x p g) (F : Fo X.prog X.w X.K X.mg X.base g k ps sp) (hr : Room j X.A) (hk : k + 1 ≤ j) (hab : attributeBase e x X.env (eval e X.env) = eval e X.env := by rfl) :
    PE X (.Attribute e x pos) (tProp C sp [] noE te) := by
  obtain ⟨fd, F, hb⟩ := F
  exact pe_prop he c hp F (hr.mono hk) hb .nil (passes_call (X := X.nox) (W := fun _ _ _ _ => False) LamX.takes0 fun _ _ _ _ z => z) hab
theorem op_eqF {K : PySem.W.Frag} (T : EqC K C f) (F : Fo X.prog X.w X.K X.mg X.base f k ps sp) (hr : Room j X.A) (hk : k ≤ j) (hK : X.K = K := by rfl) : OpR X (compareOp .Eq) (rOwn false K C sp) := by
  subst hK
  obtain ⟨fd, F, hb⟩ := F
  exact op_eqO T F hb (hr.mono hk)
theorem op_neF {K : PySem.W.Frag} (T : EqC K C f) (F : Fo X.prog X.w X.K X.mg X.base f k ps sp) (hr : Room j X.A) (hk : k + 1 ≤ j) (hK : X.K = K := by rfl) : OpR X (compareOp .NotEq) (rOwn true K C sp) := by
  subst hK
  obtain ⟨fd, F, hb⟩ := F
  exact op_neO T F hb (hr.mono hk)
theorem call_strF (hs : PySem.W.findIn X.K (.ref C) "__str__" = some (some (.ref f))) (hf : PySem.W.isFn X.K (.ref f) = true) (F : Fo X.prog X.w X.K X.mg X.base f k ps sp) (hr : Room j X.A) (hk : k + 2 ≤ j) : CallR X (.type "str") (rStrO C sp) := by
  obtain ⟨fd, F, hb⟩ := F
  exact call_strO hs hf F hb (hr.mono hk)
end

/-! ### an own exception whose __init__ calls super().__init__ -/
/-- the def at f, that captures its class at D -/
structure SupD (K : PySem.W.Frag) (name qual : Str) (st : Stmt) (f D : Addr) (file : Str) : Prop where
  ex : ∃ (oc : Value) (od : Option Addr) (dV kV doc pm : Value) (an : Option Addr) (cdv ct : Value) (osl : Array (Option Value)) (cc : Addr),
    K.lookup f = some ⟨oc, od, .func (PySem.W.ksFn name qual (defArgs st) (defBody st) (defScope st) dV kV doc pm an cdv ct cc), osl⟩ ∧ PySem.W.codeIn K cdv qual = true ∧ ClsCell K cc D ∧ dV = .none ∧
    ∃ cda ccl cdd vs ccs tf, cdv = .ref cda ∧ K.lookup cda = some ⟨ccl, cdd, .fields vs, ccs⟩ ∧ vs[2]? = some (.str file tf)
theorem SupD.ok {P : Program} {w : World} {K : PySem.W.Frag} {mg : Str → Option Value} {base : Heap} {k : Nat} {name qual file : Str} {st : Stmt} {f D : Addr} {N ps : List Str} {sp : Sp} {sf : Str} {ar : Arg} (F : SupD K name qual st f D file) (S : FnSup N ps (defScope st))
    (len : ∀ vs H Q E, sp vs H Q E → vs.length = ps.length)
    (hb : ∀ (kV doc pm : Value) (an : Option Addr) (cdv ct : Value) (cc : Addr) (us : List Value), us.length = ps.length → bindArgs (PySem.W.ksFn name qual (defArgs st) (defBody st) (defScope st) .none kV doc pm an cdv ct cc) ⟨us, []⟩ = pure (ps.zip us))
    (har : ((defArgs st).posonlyargs ++ (defArgs st).args).head? = some ar) (hsf : ar.arg = sf) (hfile : ((P.main.file : Str) == file) = true) (htop : (P.main.scope.names.lookup ("super" : Str)).isSome = false) (hmg : mg "super" = none)
    (sS : (defScope st).names.lookup ("super" : Str) = some .globalImplicit) (sC : (defScope st).names.lookup ("__class__" : Str) = some .free) (sX : (defScope st).names.lookup sf = some .local) (n0 : N[0]? = some sf) (hD : ∃ cd, PySem.W.clsIn K D = some cd)
    (hbody : ∀ (cc : Addr) (cdv : Value) (A : Around) (outer : List Env) (s : Shared) (H : Hp) (vs : List V) (Q : VK) (E : XK), SupAt (supCx (L2.CX P w) P w K mg base N qual (defScope st) f cdv cc A outer s H E) f cc D sf → Room k (A.deeper (supEnv qual (defScope st) s.heap.objs.size f cdv cc)) → sp vs H Q E →
      ∃ t, PScs (supCx (L2.CX P w) P w K mg base N qual (defScope st) f cdv cc A outer s H E) (.func (defBody st) (supEnv qual (defScope st) s.heap.objs.size f cdv cc)) (defBody st) t ∧ t { nx := fun _ H' => Q .non H', rt := Q } (L2.start N vs) H) :
    Fo P w K mg base f (k + 1) ps sp := by
  obtain ⟨oc, od, dV, kV, doc, pm, an, cdv, ct, osl, cc, lk, hcd, C, rfl, cda, ccl, cdd, vs0, ccs, tf, rfl, h2, h3⟩ := F.ex
  refine ⟨_, fn_sup lk hcd C S len fun A outer s H vs Q E hr hsp => hbody cc (.ref cda) A outer s H vs Q E ⟨⟨oc, od, _, osl, ar, lk, har, hsf⟩, ⟨cda, ccl, cdd, vs0, ccs, file, tf, rfl, h2, h3, hfile⟩, htop, hmg, rfl, C, ?_, sS, sC, sX, n0, hD⟩ hr hsp, fun s us X hl => ?_⟩
  · show List.lookup _ [_] = _
    simp [List.lookup]
  · rw [List.append_nil] at hl ⊢
    exact .of_eq (hb kV doc pm an (.ref cda) ct cc us hl)
/-- raise C(v), C an own exception with one field -/
def spExc1 (C : Addr) (fld : Str) : Sp := fun vs H Q _ => ∃ (a : Addr) (v : V), vs = [.ref a, v] ∧ H a = some (exo a C none) ∧ ∀ dx, H dx = none → dx ≠ a → Q .non (upd (upd H dx (exd dx [(fld, v)])) a (exo a C (some dx)))
section
variable {X : Cx} {k j : Nat} {C fI : Addr} {ps : List Str} {sp : Sp} {x : Str} {W : WX} {e : Expr} {es : List Expr} {ta : TA} {p pos : Pos}
theorem pmk_ex (T : OexC X.K C) (iC : PySem.W.findIn X.K (.ref C) "__init__" = some (some (.ref fI))) (tI : PySem.W.typeIn X.K (.ref fI) = some (.type "function")) (c : Fo X.prog X.w X.K X.mg X.base fI k ps sp) (hr : Room j X.A) (hk : k + 1 ≤ j) (hg : Gl X x) (hm : X.mg x = some (.ref C)) (ha : PA X (e :: es) ta)
    (hdb : (x == ("__debug__" : Str)) = false := by decide) (he : starEach (e :: es) X.env = (false, eval e X.env) :: starEach es X.env := by rfl) (hpl : (backTo pos (starEach es X.env)).any (·.1) = false := by rfl) : PMk X (.Call (.Name x p) (e :: es) [] pos) (tMkO C sp [] ta) := by
  obtain ⟨fd, F, hb⟩ := c
  exact pmk_oex T iC tI F (hr.mono hk) hb .nil (passes_call (W := fun _ _ _ _ => False) LamX.takes0 fun _ _ _ _ z => z) hg hm ha hdb he hpl
end
/-- what such a raise leaves -/
theorem r_mkO1 {C : Addr} {fld : Str} {v : V} {H : Hp} {Q : XK} (h : ∀ d H', Same H H' → H' d = some (.xd [(fld, v)]) → Q (.ref C) (some d) H') : [v].length ≤ 1000 ∧ ∀ a, H a = none → spExc1 C fld (.ref a :: ([v] ++ [])) (upd H a (exo a C none))
    (fun u H2 => u = .non ∧ ∃ (d : Addr) (fs : List (Str × V)), H2 a = some (exo a C (some d)) ∧ H2 d = some (exd d fs) ∧ H d = none ∧ Q (.ref C) (some d) (upd (del H2 a) d (.xd fs))) (fun _ _ _ => False) := by
  refine ⟨by simp, fun a ha => ⟨a, v, rfl, upd_same, fun dx hd hne => ⟨rfl, dx, [(fld, v)], upd_same, by rw [upd_ne hne, upd_same], ?_, ?_⟩⟩⟩
  · rw [upd_ne hne] at hd
    exact hd
  · have hd' : H dx = none := by rw [upd_ne hne] at hd; exact hd
    refine h dx _ (fun b o hb => ?_) upd_same
    have h1 : b ≠ dx := ne_of_none hb hd'
    have h2 : b ≠ a := ne_of_none hb ha
    rw [upd_ne h1, del_ne h2, upd_ne h2, upd_ne h1, upd_ne h2]
    exact hb
/-- what the making of an instance leaves of what was -/
theorem mk_same {x dx C : Addr} {H H' : Hp} (hx : H x = none) (hd : H dx = none) (k : Kp x (upd (upd H dx (.own x)) x (.ins C dx [])) H') : Same H H' := fun b o hb => by
  have h1 : b ≠ x := ne_of_none hb hx
  have h2 : b ≠ dx := ne_of_none hb hd
  exact k b o (by rw [upd_ne h1, upd_ne h2]; exact hb) h1
end Nk

/-! Row: promises over whole argument lists (Fs), defs with *args, classes called with stars, by a variable, methods, classmethods, operators by own methods. -/
namespace PySem
open PySem.Calls
theorem nk_evalArgs2 {M : Model} {A : Around} {E : Value → Shared → Prop} {s : Shared} {f : Value} {x y : Bool × Sem Value} {rest : List (Bool × Sem Value)} {Q : Args → Shared → Prop}
    (h : wpAny M A (spliced (x :: y :: rest)) (fun vs s' => Q ⟨vs, []⟩ s') E s) : wpAny M A (evalArgs f true (x :: y :: rest) []) Q E s := by
  unfold evalArgs
  obtain ⟨b, x⟩ := x
  cases b
  · show wpAny M A (spliced ((false, x) :: y :: rest) >>= _) Q E s
    refine wpAny_bind (wpAny_mono h (fun vs s' h' => ?_) fun _ _ x => x)
    refine wpAny_holding ?_
    exact wpAny_bind (wpAny_pure (wpAny_bind (wpAny_pure (wpAny_pure h'))))
  · show wpAny M A (spliced ((true, x) :: y :: rest) >>= _) Q E s
    refine wpAny_bind (wpAny_mono h (fun vs s' h' => ?_) fun _ _ x => x)
    refine wpAny_holding ?_
    exact wpAny_bind (wpAny_pure (wpAny_bind (wpAny_pure (wpAny_pure h'))))
end PySem
namespace Nk
open PySem PySem.Spec PyProof.Rows L2 StX
/-- a promise over the whole list of written arguments -/
abbrev Fs (P : Program) (w : World) (K : PySem.W.Frag) (mg : Str → Option Value) (base : Heap) (f : Addr) (k : Nat) (sp : Sp) : Prop := FnR P w K mg base (L2.CX P w) k f sp
/-- def f(a, .., *v) -/
def starSp (n : Nat) (sp : Sp) : Sp := fun vs H Q E => ∃ ws rest, vs = ws ++ rest ∧ ws.length = n ∧ rest.length ≤ sizeLine ∧ ∀ p, H p = none → sp (ws ++ [V.ref p]) (upd H p (.tup rest)) Q E
theorem fs_star {P : Program} {w : World} {K : PySem.W.Frag} {mg : Str → Option Value} {base : Heap} {x qual pv : Str} {st : Stmt} {f : Addr} {N ps : List Str} {k : Nat} {sp : Sp} (F : ∃ fd, FunD K x qual (defArgs st) (defBody st) (defScope st) [] [] f fd) (S : FnScope N (ps ++ [pv]) (defScope st))
    (hb : ∀ (kV doc pm : Value) (an : Option Addr) (cdv ct : Value) (us rest : List Value), us.length = ps.length → bindArgs (PySem.W.fnOf x qual (defArgs st) (defBody st) (defScope st) .none kV doc pm an cdv ct) ⟨us ++ rest, []⟩ = (newTuple rest >>= fun t => pure (ps.zip us ++ [(pv, t)])))
    (hbody : ∀ (cdv : Value) (A : Around) (outer : List Env) (s : Shared) (H : Hp) (vs : List V) (Q : VK) (E : XK), Room k (A.deeper (envOfC qual (defScope st) s.heap.objs.size f cdv)) → sp vs H Q E →
      ∃ t, PSs (cxOf (L2.CX P w) P w K mg base N qual (defScope st) f cdv A outer s H E) (defBody st) t ∧ t { nx := fun _ H' => Q .non H', rt := Q } (L2.start N vs) H) : Fs P w K mg base f (k + 1) (starSp ps.length sp) := by
  obtain ⟨fd, F⟩ := F
  obtain ⟨oc, od, dV, kV, doc, pm, an, cdv, ct, osl, rfl, lk, hcd, hD, _⟩ := F.ex
  rcases hD with ⟨_, rfl⟩ | ⟨z, _⟩
  · exact fn_star lk hcd S cxUp (fun us rest hl => hb kV doc pm an cdv ct us rest hl) fun A outer s H vs Q E hr hsp => hbody cdv A outer s H vs Q E hr hsp
  · exact absurd rfl z
theorem fs_of {P : Program} {w : World} {K : PySem.W.Frag} {mg : Str → Option Value} {base : Heap} {f : Addr} {k : Nat} {ps : List Str} {sp : Sp} (c : Fo P w K mg base f k ps sp) : Fs P w K mg base f k sp := by
  obtain ⟨fd, F, hb⟩ := c
  refine fun A outer s H us vs Q E hr e0 r hsp => ?_
  have KX : K.In s.heap := e0.mod.kin.keeps fun b o e => (e0.bs b o e).1
  have b := hb s us KX (by rw [List.append_nil, ← r.length]; exact F.len _ _ _ _ hsp)
  rw [List.append_nil] at b
  exact F.run A outer s H ⟨us, []⟩ us vs Q E hr e0 b r hsp
/-- a def with defaults, the first ones written -/
theorem fs_dfl {P : Program} {w : World} {K : PySem.W.Frag} {mg : Str → Option Value} {base : Heap} {x qual : Str} {st : Stmt} {f : Addr} {ps : List Str} {dvs : List V} {k : Nat} {sp : Sp} (n j : Nat) (F : ∃ fd, FunD K x qual (defArgs st) (defBody st) (defScope st) dvs [] f fd)
    (ok : ∀ fd, FunD K x qual (defArgs st) (defBody st) (defScope st) dvs [] f fd → FnOk P w K mg base (L2.CX P w) k f fd ps sp) (hd : dvs ≠ []) (hn : n + (dvs.length - j) = ps.length)
    (h : ∀ (T : Addr) (kV doc pm : Value) (an : Option Addr) (cdv ct : Value) (us its : List Value), us.length = n → its.length = dvs.length →
      ∃ k, bindArgs (PySem.W.fnOf x qual (defArgs st) (defBody st) (defScope st) (.ref T) kV doc pm an cdv ct) ⟨us, []⟩ = seqItems? (.ref T) >>= k ∧ k (some its.toArray) = pure (ps.zip (us ++ its.drop j))) : Fs P w K mg base f k (fun vs H Q E => sp (vs ++ dvs.drop j) H Q E) := by
  obtain ⟨fd, F⟩ := F
  obtain ⟨ds, rd, b⟩ := F.binds1 (ps := ps) n j hd hn h
  have G := ok fd F
  refine fun A outer s H us vs Q E hr e0 r hsp => ?_
  have KX : K.In s.heap := e0.mod.kin.keeps fun b o e => (e0.bs b o e).1
  have r2 := r.append rd
  exact G.run A outer s H ⟨us, []⟩ (us ++ ds) (vs ++ dvs.drop j) Q E hr e0 (b s us KX (by rw [← r2.length]; exact G.len _ _ _ _ hsp)) r2 hsp
section
variable {X : Cx} {k j : Nat} {C f g p : Addr} {sp : Sp} {E : XK} {W : WX} {x m : Str} {e o : Expr} {es : List Expr} {te ta tf : TE} {t : TA} {p0 p1 pos apos : Pos}
def tMkA (C : Addr) (sp : Sp) (E : XK) (tf : TE) (t : TA) : TE := fun σ H Q => tf σ H fun y H1 => y = .ref C ∧ t σ H1 fun vs H2 => ∀ x dx, H2 x = none → H2 dx = none → dx ≠ x →
  sp (.ref x :: vs) (upd (upd H2 dx (.own x)) x (.ins C dx [])) (fun v H3 => v = .non ∧ Q (.ref x) H3) E
theorem run_mkA {pins : List (Addr × Obj)} {σ : L2.St} {H : Hp} {s : Shared} {Q : VK} {us : List Value} {vs : List V} (M : Mk X.K C f) (F : Fs X.prog X.w X.K X.mg X.base f k sp) (hr : Room j X.A) (hk : k + 1 ≤ j) (tk : Takes X W) (hW : ∀ cls d σ H, E cls d H → W cls d σ H) (I : Inv X pins σ H s) (r : Vals vs us)
    (h : ∀ x dx, H x = none → H dx = none → dx ≠ x → sp (V.ref x :: vs) (upd (upd H dx (.own x)) x (.ins C dx [])) (fun v H2 => v = .non ∧ Q (.ref x) H2) E) :
    wpAny (model X.prog X.w) X.A (call (.ref C) us) (EP X pins σ Q) X.xe s := run_makeR M F (hr.mono hk) (passes_call tk hW) I r h
/-- x(e, ..), x a name that stands for the class -/
theorem pe_cls (hf : PE X (.Name x p1) tf) (M : Mk X.K C f) (F : Fs X.prog X.w X.K X.mg X.base f k sp) (hr : Room j X.A) (hk : k + 1 ≤ j) (tk : Takes X W) (hW : ∀ cls d σ H, E cls d H → W cls d σ H) (ha : PA X (e :: es) t)
    (he : starEach (e :: es) X.env = (false, eval e X.env) :: starEach es X.env := by rfl) (hpl : (backTo pos (starEach es X.env)).any (·.1) = false := by rfl) : PE X (.Call (.Name x p1) (e :: es) [] pos) (tMkA C sp E tf t) := by
  refine ⟨fun pins s σ H Q I h => wpAny_Call_Name_kw (thn (hf.run pins s σ H _ I h) fun u s1 ⟨y, H1, I1, ry, ey, q⟩ => ?_)⟩
  subst ey
  obtain rfl : u = Value.ref C := ry
  refine PySem.W.callWith_K (h₀ := X.base) I.ok.mod.kin M.kp (thn (ha.run pos pins s1 σ H1 _ I1 q) fun us s2 ⟨vs, H2, I2, r, q2⟩ => ⟨I2.kIn, ?_⟩) he hpl
  exact run_mkA M F hr hk tk hW I2 r q2
theorem pe_cls0 (hf : PE X (.Name x p1) tf) (M : Mk X.K C f) (F : Fs X.prog X.w X.K X.mg X.base f k sp) (hr : Room j X.A) (hk : k + 1 ≤ j) (tk : Takes X W) (hW : ∀ cls d σ H, E cls d H → W cls d σ H) : PE X (.Call (.Name x p1) [] [] pos) (tMkA C sp E tf tNil) := by
  refine ⟨fun pins s σ H Q I h => wpAny_Call_Name_kw (thn (hf.run pins s σ H _ I h) fun u s1 ⟨y, H1, I1, ry, ey, q⟩ => ?_)⟩
  subst ey
  obtain rfl : u = Value.ref C := ry
  exact PySem.W.callWith_K0 I1.kIn M.kp (run_mkA (us := []) M F hr hk tk hW I1 .nil q)
/-- x(*e) -/
theorem pe_clsS (hf : PE X (.Name x p1) tf) (M : Mk X.K C f) (F : Fs X.prog X.w X.K X.mg X.base f k sp) (hr : Room j X.A) (hk : k + 1 ≤ j) (tk : Takes X W) (hW : ∀ cls d σ H, E cls d H → W cls d σ H) (he : PE X e te)
    (hst : starEach [.Starred e p0] X.env = [(true, eval e X.env)] := by rfl) : PE X (.Call (.Name x p1) [.Starred e p0] [] pos) (tMkA C sp E tf (tStar X.K te tNil)) := by
  refine ⟨fun pins s σ H Q I h => wpAny_Call_Name_kw (thn (hf.run pins s σ H _ I h) fun u s1 ⟨y, H1, I1, ry, ey, q⟩ => ?_)⟩
  subst ey
  obtain rfl : u = Value.ref C := ry
  refine PySem.W.callWith_S (h₀ := X.base) I.ok.mod.kin M.kp (thn (he.run pins s1 σ H1 _ I1 q) fun v s2 ⟨z, H2, I2, rz, a, xs, ez, hxs, q2⟩ => ?_) hst
  subst ez
  obtain rfl : v = Value.ref a := rz
  refine star_any I2 hxs fun us s3 I3 rv => ⟨I3.kIn, ?_⟩
  have q3 : ∀ x dx, H2 x = none → H2 dx = none → dx ≠ x → sp (.ref x :: (xs ++ [])) (upd (upd H2 dx (.own x)) x (.ins C dx [])) (fun v H3 => v = .non ∧ Q (.ref x) H3) E := q2
  rw [List.append_nil] at q3
  exact run_mkA M F hr hk tk hW I3 rv q3
/-- x(*e, e2, ..), stars among them -/
theorem pe_clsS2 {e2 : Expr} (hf : PE X (.Name x p1) tf) (M : Mk X.K C f) (F : Fs X.prog X.w X.K X.mg X.base f k sp) (hr : Room j X.A) (hk : k + 1 ≤ j) (tk : Takes X W) (hW : ∀ cls d σ H, E cls d H → W cls d σ H) (ha : PA X (e :: e2 :: es) t)
    (hst : ((backTo pos (starEach (e :: e2 :: es) X.env)).any (·.1) = true) := by rfl) (hne : ∃ a b r, backTo pos (starEach (e :: e2 :: es) X.env) = a :: b :: r := by exact ⟨_, _, _, rfl⟩) : PE X (.Call (.Name x p1) (e :: e2 :: es) [] pos) (tMkA C sp E tf t) := by
  refine ⟨fun pins s σ H Q I h => wpAny_Call_Name_kw (thn (hf.run pins s σ H _ I h) fun u s1 ⟨y, H1, I1, ry, ey, q⟩ => ?_)⟩
  subst ey
  obtain rfl : u = Value.ref C := ry
  obtain ⟨a, b, r, e3⟩ := hne
  have z := ha.run pos pins s1 σ H1 _ I1 q
  show wpAny _ _ (callWith pos (.ref C) [] (backTo pos (starEach (e :: e2 :: es) X.env)) []) _ _ _
  rw [e3] at z hst ⊢
  refine PySem.W.ks_call hst (PySem.W.keeps_K M.kp) (nk_evalArgs2 (thn z fun us s2 ⟨vs, H2, I2, r, q2⟩ => ⟨I2.kIn, ?_⟩))
  exact run_mkA M F hr hk tk hW I2 r q2
/-- o.m(e, ..) -/
def tMe (C : Addr) (m : Str) (sp : Sp) (E : XK) (ta : TE) (t : TA) : TE := fun σ H Q => ta σ H fun x H1 => ∃ a dx fs, x = .ref a ∧ H1 a = some (.ins C dx fs) ∧ fs.lookup m = none ∧ t σ H1 fun vs H2 => sp (x :: vs) H2 Q E
theorem pe_me {pl : Sem Bool} (he : PE X o ta) (c : Cls X.K C) (hm : Meth X.K C m f) (F : Fs X.prog X.w X.K X.mg X.base f k sp) (hr : Room j X.A) (hk : k ≤ j) (tk : Takes X W) (hW : ∀ cls d σ H, E cls d H → W cls d σ H) (ha : PA X (e :: es) t)
    (hst : starEach (e :: es) X.env = (false, eval e X.env) :: starEach es X.env := by rfl) (hpl : (backTo pos (starEach es X.env)).any (·.1) = false := by rfl)
    (ht : eval (.Call (.Attribute o m apos) (e :: es) [] pos) X.env = (do
      let ov ← eval o X.env
      standAt apos.atName
      let (f, first) ← holding [ov] (getMethod ov m pl)
      callWith pos f first (backTo pos (starEach (e :: es) X.env)) (backToKw pos (keywordEach [] X.env))) := by rfl) :
    PE X (.Call (.Attribute o m apos) (e :: es) [] pos) (tMe C m sp E ta t) := by
  refine ⟨fun pins s σ H Q I h => ?_⟩
  refine PySem.W.methodCall_KW (pl := pl) (thn (he.run pins s σ H _ I h) fun u s1 ⟨x, H1, I1, rx, a, dx, fs, ex, ea, l, q⟩ => ?_) ht
  subst ex
  obtain rfl : u = Value.ref a := rx
  refine getmeth_ok I1 ea c hm l ?_
  refine PySem.W.callWith_K (first := [.ref a]) (h₀ := X.base) I.ok.mod.kin hm.kp (thn (ha.run pos pins s1 σ H1 _ I1 q) fun us s2 ⟨vs, H2, I2, r, q2⟩ => ⟨I2.kIn, ?_⟩) hst hpl
  exact wpAny_call (run_fnR (us := .ref a :: us) (vs := .ref a :: vs) F (hr.mono hk) (passes_call tk hW) I2 (.cons rfl r) q2)
theorem pe_me0 {pl : Sem Bool} (he : PE X o ta) (c : Cls X.K C) (hm : Meth X.K C m f) (F : Fs X.prog X.w X.K X.mg X.base f k sp) (hr : Room j X.A) (hk : k ≤ j) (tk : Takes X W) (hW : ∀ cls d σ H, E cls d H → W cls d σ H)
    (ht : eval (.Call (.Attribute o m apos) [] [] pos) X.env = (do
      let ov ← eval o X.env
      standAt apos.atName
      let (f, first) ← holding [ov] (getMethod ov m pl)
      callWith pos f first (backTo pos (starEach [] X.env)) (backToKw pos (keywordEach [] X.env))) := by rfl) :
    PE X (.Call (.Attribute o m apos) [] [] pos) (tMe C m sp E ta tNil) := by
  refine ⟨fun pins s σ H Q I h => ?_⟩
  refine PySem.W.methodCall_KW (pl := pl) (thn (he.run pins s σ H _ I h) fun u s1 ⟨x, H1, I1, rx, a, dx, fs, ex, ea, l, q⟩ => ?_) ht
  subst ex
  obtain rfl : u = Value.ref a := rx
  refine getmeth_ok I1 ea c hm l ?_
  exact PySem.W.callWith_K0 (first := [.ref a]) I1.kIn hm.kp (wpAny_call (run_fnR (us := [Value.ref a]) (vs := [V.ref a]) F (hr.mono hk) (passes_call tk hW) I1 (.cons rfl .nil) q))
/-- C.m(e, ..), a classmethod -/
theorem pe_cm {mc : Value} {pl : Sem Bool} (he : PE X o ta) (r : ClX.CRead X.K C mc) (c : ClX.CMet X.K C mc m p g) (F : Fs X.prog X.w X.K X.mg X.base g k sp) (hr : Room j X.A) (hk : k ≤ j) (tk : Takes X W) (hW : ∀ cls d σ H, E cls d H → W cls d σ H) (ha : PA X (e :: es) t)
    (hst : starEach (e :: es) X.env = (false, eval e X.env) :: starEach es X.env := by rfl) (hpl : (backTo pos (starEach es X.env)).any (·.1) = false := by rfl)
    (ht : eval (.Call (.Attribute o m apos) (e :: es) [] pos) X.env = (do
      let ov ← eval o X.env
      standAt apos.atName
      let (f, first) ← holding [ov] (getMethod ov m pl)
      callWith pos f first (backTo pos (starEach (e :: es) X.env)) (backToKw pos (keywordEach [] X.env))) := by rfl) :
    PE X (.Call (.Attribute o m apos) (e :: es) [] pos) (ClX.tCMeth C sp E ta t) := ClX.pe_cmeth he r c F (hr.mono hk) (passes_call tk hW) ha hst hpl ht
end
end Nk
namespace PySem.W
open PySem PySem.Spec PySem.Calls PyProof.Rows
/-- no class above D has the operator, nor its reflected one -/
def nkNoNum (K : Frag) (D : Addr) (nm : String) : Bool := (clsIn K D).any fun cd => cd.mro.all fun c => decide (findIn K c (PySem.dunder nm) = some none) && decide (findIn K c (PySem.dunderR nm) = some none)
theorem nk_noNum {K : Frag} {D : Addr} {nm : String} {M : Model} {h : Heap} (X : K.In h) (e : nkNoNum K D nm = true) : Looks M h (fillsNumberSlot (.ref D) nm) false := by
  obtain ⟨cd, hc, hall⟩ := any_some e
  intro A Q E s k q
  unfold fillsNumberSlot
  dsimp only
  refine wpAny_bind ((looks_clsIn X hc).andThen (f := fun cd => pure cd.mro) .now A _ E s k ?_)
  generalize cd.mro = l at hall
  induction l with
  | nil => exact wpAny_pure q
  | cons c r ih =>
    obtain ⟨h1, h2⟩ := Bool.and_eq_true_iff.mp (List.all_cons ▸ hall)
    obtain ⟨e1, e2⟩ := Bool.and_eq_true_iff.mp h1
    have L1 := looks_findIn (M := M) X (of_decide_eq_true e1)
    have L2 := looks_findIn (M := M) X (of_decide_eq_true e2)
    rw [List.anyM_cons]
    refine wpAny_bind ?_
    cases c with
    | type n =>
      refine wpAny_bind (L1 A _ E s k (wpAny_bind (L2 A _ E s k (wpAny_pure ?_))))
      first
        | exact ih h2
        | exact wpAny_pure (ih h2)
        | (rw [if_neg (show ¬ ((Option.isSome (none : Option Value) && !isSeqSlot none || Option.isSome (none : Option Value) && !isSeqSlot none) = true) from Bool.false_ne_true)]; exact ih h2)
    | _ =>
      rw [List.anyM_cons]
      refine wpAny_bind (wpAny_bind (L1 A _ E s k (wpAny_pure ?_)))
      first | skip
      rw [if_neg Bool.false_ne_true, List.anyM_cons]
      refine wpAny_bind (wpAny_bind (L2 A _ E s k (wpAny_pure ?_)))
      rw [if_neg Bool.false_ne_true]
      refine wpAny_pure ?_
      rw [if_neg Bool.false_ne_true]
      exact ih h2
section
variable {prog : Program} {w : World} {A : Around} {E : Value → Shared → Prop} {s : Shared} {K : Frag} {x C f : Addr} {ox : Obj} {od : Option Obj} {b tb : Value}
/-- what the right side's type must be for the left one's method to be asked alone -/
def nkRight (K : Frag) (C : Addr) (nm : String) (tb : Value) : Bool := tb == .ref C || (match tb with
  | .ref D => nkNoNum K D nm
  | _ => false)
theorem nk_binop {op : Operator} {Q : Value → Shared → Prop} (X : K.In s.heap) (I : InstAt s.heap x ox C od) (hb : Looks (model prog w) s.heap (typeOf b) tb) (hc : selfFirst K C = true) (hr : nkRight K C op.info.2 tb = true)
    (hs : findIn K (.ref C) (PySem.dunder op.info.2) = some (some (.ref f))) (hf : isFn K (.ref f) = true)
    (h : wpAny (model prog w) A (call (.ref f) [.ref x, b]) (CmpBack Q) E s) : wpAny (model prog w) A (binaryOp op (.ref x) b) Q E s := by
  obtain ⟨cd, hcd, hm⟩ := any_some hc
  obtain ⟨rest, hm⟩ : ∃ rest, cd.mro = .ref C :: rest := by
    cases q : cd.mro with
    | nil => rw [q] at hm; cases hm
    | cons a r => rw [q] at hm; exact ⟨r, by rw [List.head?_cons] at hm; cases (beq_iff_eq.mp hm); rfl⟩
  unfold binaryOp
  refine wpAny_holding (wpAny_bind ?_)
  unfold binaryOp1
  refine wpAny_bind (I.type.here (wpAny_bind (hb.here (wpAny_bind ((fills_K X hcd hm hs).here ?_)))))
  have fin : wpAny (model prog w) A (tryMethod (.ref x) (PySem.dunder op.info.2) b) (fun r s' => ∃ v, r = some v ∧ Q v s') E s := by
    unfold tryMethod
    refine wpAny_bind (special_fn X I hs (beq_iff_eq.mp hf) (wpAny_mono h (fun v s' hv => ?_) fun _ _ e => e))
    cases v <;> first | exact hv.elim | exact wpAny_pure ⟨_, rfl, hv⟩
  by_cases e : (Value.ref C == tb) = true
  · simp only [e, if_true]
    refine wpAny_bind (wpAny_pure ?_)
    simp only [Bool.and_false, Bool.false_eq_true, if_false, Bool.false_and]
    refine wpAny_bind (wpAny_pure ?_)
    simp only [Bool.false_eq_true, if_false]
    refine wpAny_bind (wpAny_mono fin (fun r s' hr => ?_) fun _ _ e => e)
    obtain ⟨v, rfl, hv⟩ := hr
    exact wpAny_pure (wpAny_pure hv)
  · rcases Bool.or_eq_true_iff.mp hr with z | z
    · exact absurd (by rw [beq_iff_eq.mp z]; exact beq_self_eq_true _) e
    · have e' : (Value.ref C == tb) = false := by simpa using e
      simp only [e', Bool.false_eq_true, if_false]
      cases tb with
      | ref D =>
        refine wpAny_bind ((nk_noNum (M := model prog w) X z).here ?_)
        simp only [Bool.and_false, Bool.false_eq_true, if_false, Bool.false_and]
        refine wpAny_bind (wpAny_pure ?_)
        simp only [Bool.false_eq_true, if_false]
        refine wpAny_bind (wpAny_mono fin (fun r s' hr => ?_) fun _ _ e => e)
        obtain ⟨v, rfl, hv⟩ := hr
        exact wpAny_pure (wpAny_pure hv)
      | _ => cases z
end
end PySem.W

/-! Exc: try .. except X as e where the caught error is a value from then on (it may be kept behind the suite): its class, its fields, isinstance. -/
namespace PySem.W
open PySem PySem.Spec PySem.Calls PyProof.Rows
section
variable {prog : Program} {w : World} {A : Around} {E : Value → Shared → Prop} {s : Shared} {K : Frag} {x D : Addr} {ox : Obj} {od : Option Obj}
/-- the class of an error, whatever its own fields are -/
theorem nk_classE {Q : Option Value → Shared → Prop} (hg : findIn K (.ref D) "__getattribute__" = some (some (.builtin "BaseException.__getattribute__"))) (hk : findIn K (.ref D) "__getattr__" = some none) (hb : subIn K (.ref D) (.type "BaseException") = some true)
    (hf : findObj K D od "__class__" = some (.bind (.builtin "getset_descriptor.__get__") (.builtin "object.__class__"))) (hm : mroIn K D (.type "object") = some true) (X : K.In s.heap) (I : InstAt s.heap x ox D od) (h : Q (some (.ref D)) { s with toks := s.toks + 1 }) :
    wpAny (model prog w) A (getAttr? (.ref x) "__class__") Q E s := by
  obtain ⟨h0, gs, dr, tk, os⟩ := s
  have T0 := I.type (M := model prog w)
  have T1 := looks_findIn (M := model prog w) X hg
  have T2 := looks_findIn (M := model prog w) X hk
  have T3 := looks_find (M := model prog w) X I hf
  have isB : Looks (model prog w) h0 (isInstance (.ref x) (.type "BaseException")) true := T0.andThen (looks_subIn X hb)
  have n2 : (Value.builtin "BaseException.__getattribute__" == Value.builtin "object.__getattribute__") = false := by decide +kernel
  have n1 : (onTheHeap (Value.ref D) && Value.builtin "BaseException.__getattribute__" == Value.builtin "object.__getattribute__") = false := by rw [n2]; rfl
  unfold getAttr? getAttrBy? getAttrBy
  refine wpAny_bind (wpAny_mkText (wpAny_bind (wpAny_attempt (wpAny_holding (wpAny_bind (T0.at (wpAny_bind (T1.at ?_))))))))
  show wpAny _ _ (if (onTheHeap (Value.ref D) && Value.builtin "BaseException.__getattribute__" == Value.builtin "object.__getattribute__") = true then _ else _) _ _ _
  rw [n1, if_neg Bool.false_ne_true]
  unfold getAttrByItsOwn hookBefore
  refine wpAny_bind ?_
  rw [if_pos (show onTheHeap (Value.ref D) = true from rfl)]
  refine T2.at (wpAny_bind (wpAny_attempt (wpAny_holding ?_)))
  unfold callGetattribute
  rw [show (false && onTheHeap (Value.builtin "BaseException.__getattribute__")) = false from rfl, if_neg Bool.false_ne_true]
  unfold boundAndCalled
  rw [PySem.F.excAttr_ValueError.ga.bind (.ref x)]
  refine wpAny_bind (wpAny_pure ?_)
  show wpAny _ _ (call (.builtin "BaseException.__getattribute__") [.ref x, .str "__class__" tk]) _ _ _
  refine wpAny_call (codeAny_call_builtin PySem.F.excAttr_ValueError.ga.plain PySem.F.entry_bexc_ga ?_)
  refine @check_slot (model prog w) _ _ ⟨h0, gs, dr, tk + 1, os⟩ "BaseException.__getattribute__" "BaseException" "__getattribute__" (.ref x) [.str "__class__" tk] [] _ (by decide +kernel) (by decide +kernel) isB (PySem.F.args_bexc_ga (.ref x) (.str "__class__" tk)) ?_
  unfold Builtin.«object.__getattribute__»
  refine wpAny_bind (wpAny_of_eq (a := ((Value.ref x : Value), [Value.str "__class__" tk])) (by first | rfl | (simp only [slotArgs]; rfl)) ?_)
  refine wpAny_bind (wpAny_pure (wpAny_bind (T0.at (wpAny_bind (T3.at ?_)))))
  show wpAny _ _ (holding [Value.builtin "object.__class__"] (call (.builtin "getset_descriptor.__get__") [.builtin "object.__class__", .ref x, .ref D]) >>= ret) _ _ _
  refine wpAny_bind (wpAny_holding (wpAny_call (class_get (s := ⟨h0, gs, dr, tk + 1, os⟩) (ox := ox) (od := od) X I hm (wpAny_pure ?_))))
  show wpAny _ _ (handedOut (.ref D)) _ _ _
  rw [handedOut_of (v := .ref D) rfl]
  first
    | exact wpAny_pure (wpAny_pure h)
    | exact wpAny_pure h
    | exact wpAny_pure (wpAny_bind (wpAny_pure (wpAny_pure h)))
theorem nk_kitE (hg : findIn K (.ref D) "__getattribute__" = some (some (.builtin "BaseException.__getattribute__"))) (hk : findIn K (.ref D) "__getattr__" = some none) (hb : subIn K (.ref D) (.type "BaseException") = some true) (hdct : hasDictIn K D = true)
    (hf : findObj K D od "__class__" = some (.bind (.builtin "getset_descriptor.__get__") (.builtin "object.__class__"))) (hm : mroIn K D (.type "object") = some true) : KitX K (.ref x) (.ref D) (fun h => InstAt h x ox D od) where
  ty := fun _ _ _ I => I.type
  it := fun _ _ X _ => by
    obtain ⟨cdD, hcD, _⟩ := any_some hdct
    obtain ⟨c', d', sl, ho⟩ : ∃ c' d' sl, K.lookup D = some ⟨c', d', .cls cdD, sl⟩ := by
      unfold clsIn at hcD
      split at hcD
      · rename_i c' d' cd' sl' ho
        cases hcD
        exact ⟨c', d', sl', ho⟩
      · cases hcD
    intro A' Q' E' s' k q
    unfold isType loadHead
    exact wpAny_bind (wpAny_loadPart (k _ _ (X _ _ ho)) (wpAny_pure q))
  ne := fun h tp dd its n sl X htp => by
    obtain ⟨cdD, hcD, _⟩ := any_some hdct
    refine Bool.eq_false_iff.mpr fun q => ?_
    have e : D = tp := Value.ref.inj (beq_iff_eq.mp q)
    subst e
    unfold clsIn at hcD
    split at hcD
    · rename_i c' d' cd' sl' ho
      have z := (X _ _ ho).symm.trans htp
      cases z
    · cases hcD
  ca := fun X I k => nk_classE hg hk hb hf hm X I k
end
end PySem.W
namespace Nk
open PySem PySem.Spec PyProof.Rows L2
/-- an error at a, of the class cls, its fields in the dict d -/
def exK (cls : Value) (d : Option Addr) (a : Addr) : HO := .ext fun h => ∃ (oe : Obj) (vs : Array Value), h.get? a = some oe ∧ Zc cls d oe ∧ oe.data = .fields vs
theorem exK_ok {P : Program} {w : World} {H : Hp} {h : Heap} {a : Addr} {cls : Value} {d : Option Addr} {oe : Obj} {vs : Array Value} (e : h.get? a = some oe) (z : Zc cls d oe) (hd : oe.data = .fields vs) : ObjOk P w H h a (exK cls d a) :=
  ⟨⟨oe, vs, e, z, hd⟩, ⟨oe, e⟩, fun _ _ ⟨o, v, q, r⟩ k => ⟨o, v, k o q, r⟩⟩
section
variable {X : Cx} {pins : List (Addr × Obj)} {σ : L2.St} {H : Hp} {s : Shared}
/-- an object that came about since the entry is tracked from now on -/
theorem Inv.track {a : Addr} {o : Obj} {u : HO} (I : Inv X pins σ H s) (h0 : X.s_0.heap.get? a = none) (ho : s.heap.get? a = some o) (hc : ∀ v, o.data ≠ .cell v) (hn : H a = none) (nL : a ≠ X.env.locals) (np : ∀ p ∈ X.pn ++ pins, p.1 ≠ a) (new : ObjOk X.prog X.w (upd H a u) s.heap a u) : Inv X pins (σ := σ) (upd H a u) s := by
  have ne : ∀ b v, H b = some v → b ≠ a := fun b v e => ne_of_none e hn
  have ne0 : ∀ b v, X.s_0.heap.get? b = some v → b ≠ a := fun b v e z => by rw [z, h0] at e; cases e
  refine ⟨I.ok, I.os, I.bare, ⟨I.base.keep, I.base.slot, fun b v e n hx => ?_, I.base.there, fun b xs e => ?_, fun b v w' e => ?_, fun b ps e => ?_⟩, I.loc, I.cell, ?_, fun x c e => ?_, fun p hp => ?_, L2.HOk.laidN (h' := s.heap) I.hok (fun _ _ e => e) hn new, I.len⟩
  · rw [upd_ne (ne0 b v e)]
    exact I.base.free b v e n hx
  · have z := I.base.tups b xs e
    rw [upd_ne (ne b _ z)]
    exact z
  · have z := I.base.frzs b v w' e
    rw [upd_ne (ne b _ z)]
    exact z
  · obtain ⟨more, z⟩ := I.base.tbls b ps e
    exact ⟨more, by rw [upd_ne (ne b _ z)]; exact z⟩
  · rw [upd_ne (Ne.symm nL)]
    exact I.free
  · rw [upd_ne (fun z => ?_)]
    · exact I.freeC x c e
    · obtain ⟨v, oc, h1, h2⟩ := I.cell x c e
      rw [z, ho] at h1
      cases h1
      exact hc _ h2
  · obtain ⟨h1, h2, h3⟩ := I.pin p hp
    exact ⟨h1, by rw [upd_ne (np p hp)]; exact h2, h3⟩
end
section
variable {X : Cx} {pins pn' : List (Addr × Obj)} {σ : L2.St} {H : Hp} {s : Shared}
theorem Inv.suiteT (I : Inv X pins σ H s) (a : Addr) : Inv (X.suite a (X.pn ++ pins)) [] σ H s :=
  ⟨I.ok.suite _ _, I.os, I.bare, I.base, I.loc, I.cell, I.free, I.freeC, fun p hp => I.pin p (by
    have hp : p ∈ (X.pn ++ pins) ++ [] := hp
    rw [List.append_nil] at hp
    exact hp), I.hok, I.len⟩
theorem Inv.suiteB {a : Addr} (I : Inv (X.suite a (X.pn ++ pins)) pn' σ H s) (ok : X.Ok) : Inv X pins σ H s :=
  ⟨ok, I.os, I.bare, I.base, I.loc, I.cell, I.free, I.freeC, fun p hp => I.pin p (List.mem_append_left _ hp), I.hok, I.len⟩
end
/-- the wish of a clause 'except x as n', the error tracked from then on -/
def wTr (K : PySem.W.Frag) (c : Value) (i : Nat) (ts : TS) (Wout : WX) (D : Ends) : WX := fun cls d σ H =>
  ∃ b, PySem.W.exmOne K cls c = some b ∧ (b = true → ∀ a, H a = none → ts { nx := fun σ' H' => D.nx (σ'.set i none) H', rt := D.rt, bk := fun σ' H' => D.bk (σ'.set i none) H', ct := fun σ' H' => D.ct (σ'.set i none) H' } (σ.set i (some (.ref a))) (upd H a (exK cls d a))) ∧
    (b = false → Wout cls d σ H)
section
variable {X : Cx} {x n : Str} {c : Value} {i : Nat} {body suite : List Stmt} {b₀ : Stmt} {np pos pos' : Pos} {tb : WX → TS} {ts : TS} {Wout : WX}
theorem ps_try_tr (hex : X.ex = []) (hs : X.stack = X.env :: X.outer) (hf : X.env.frame = some X.env.locals) (hN : X.N.Nodup) (hi : X.N[i]? = some n) (hln : X.env.kindOf n = some .local) (hc : Names X x c) (tk : Takes X Wout)
    (hb : ∀ (W : WX) (pn : List (Addr × Obj)) (xe : Value → Shared → Prop), Takes (X.tr pn xe) W → PassesOwn (model X.prog X.w) X.A X.env xe → PSs (X.tr pn xe) body (tb W))
    (hsu : ∀ (a : Addr) (pn : List (Addr × Obj)), PSs (X.suite a pn) (b₀ :: suite) ts) :
    PS X (.Try body [.ExceptHandler (some (.Name x np)) (some n) (b₀ :: suite) pos'] [] [] pos) (fun D σ H => tb (wTr X.K c i ts Wout D) D σ H) := by
  refine ⟨fun pins s σ H D I h => wpAny_Try_except ?_⟩
  have ok := I.ok
  have hfr : X.A.frames = some (X.env :: X.outer) := by rw [ok.frames, hs]
  let xe' : Value → Shared → Prop := fun e s₁ => wpAny (model X.prog X.w) X.A (noteFrame e X.env) (fun _ s₂ => wpAny (model X.prog X.w) X.A (setFlight e none) (fun _ s₃ =>
    wpAny (model X.prog X.w) X.A (handleBy e X.env [.ExceptHandler (some (.Name x np)) (some n) (b₀ :: suite) pos']) (SP X pins D) X.xe s₃) X.xe s₂) X.xe s₁
  have caught : Takes (X.tr (X.pn ++ pins) xe') (wTr X.K c i ts Wout D) := by
    rintro u s' ⟨a, B, sI, pins', σ', H', cls, d, rfl, J', nb, up, sky, na, os, ag, b, hb1, hyes, hno⟩
    have J : Inv X pins σ' H' sI := J'.ofTry ok
    have sky' : Sky B (X.env :: X.outer) a (Zc cls d) X.env.locals s'.heap := by rw [← hs]; exact sky
    refine Sky.land Zc.steady hfr hf sky' fun h3 fl3 up3 => ?_
    have J3 : Inv X pins σ' H' { s' with heap := h3 } := J.landed nb fl3.1 (up.trans up3) os ag
    obtain ⟨oe3, vs3, he3, hz3, hd3⟩ := fl3.there
    -- no frame, no object of before
    have nst : a ∉ frs (X.env :: X.outer) := fun hm => by
      obtain ⟨_, o', e', hnf⟩ := fl3.2.2.1.mem hm
      cases e'.symm.trans he3
      exact hnf _ hd3
    have nL : a ≠ X.env.locals := fun z => nst (List.mem_filterMap.mpr ⟨X.env, List.mem_cons_self, by rw [hf, z]⟩)
    have nI : sI.heap.get? a = none := by
      cases q : sI.heap.get? a with
      | none => rfl
      | some o => exact absurd (nb a o q (by rw [hs]; exact nst)) (by rw [fl3.2.1]; simp)
    have n0 : X.s_0.heap.get? a = none := by
      cases q : X.s_0.heap.get? a with
      | none => rfl
      | some o =>
        have hx : a ∉ X.ex := by rw [hex]; exact List.not_mem_nil
        obtain ⟨o2, z⟩ := J.base.there a o q hx
        rw [nI] at z
        cases z
    have npn : ∀ p ∈ X.pn ++ pins, p.1 ≠ a := fun p hp z => by
      have := (J.pin p hp).1
      rw [z, nI] at this
      cases this
    refine wpAny_handleBy_cons (codeAny_handlers_test ?_) (by intro q; cases q)
    have LT : PySem.W.Looks (model X.prog X.w) h3 (typeOf (.ref a)) cls := fun A Q E s k q => wpAny_typeOf_ref (k _ _ he3) (by rw [hz3.1]; exact q)
    have LM := PySem.W.exm_one (M := model X.prog X.w) J3.kIn LT hb1
    have test : ∀ {Q E : Value → Shared → Prop}, Q c { s' with heap := h3 } → wpAny (model X.prog X.w) (X.A.mark (some (.ref a))) (eval (.Name x np) X.env) Q E { s' with heap := h3 } := fun {Q E} q => by
      obtain ⟨hg, hdbg, hm | ⟨hm, hv, hnn⟩⟩ := hc
      · exact ld_glob (X := X.suite a (X.pn ++ pins)) (Inv.suiteT J3 a) hg hm q hdbg
      · exact ld_blt (X := X.suite a (X.pn ++ pins)) (Inv.suiteT J3 a) hg hm hv q hnn hdbg
    refine test (LM.here ?_)
    cases b with
    | true =>
      refine codeAny_handlers_suite_as (HandSPX.lands_againZ fl3 fun h4 fl4 up4 => ?_)
      have J4 : Inv X pins σ' H' { s' with heap := h4 } := J.landed nb fl4.1 ((up.trans up3).trans up4) os ag
      obtain ⟨oe4, vs4, he4, hz4, hd4⟩ := fl4.there
      have J5 : Inv X pins σ' (upd H' a (exK cls d a)) { s' with heap := h4 } := Inv.track J4 n0 he4 (fun v z => by rw [hd4] at z; cases z) na nL npn (exK_ok he4 hz4 hd4)
      refine store_ok (X := X.suite a (X.pn ++ pins)) (v := .ref a) (Inv.suiteT J5 a) hN hi (.inl hln) rfl (fun s5 S5 => ?_) (.inr hln)
      have gone : ∀ {σ6 : L2.St} {H6 : Hp} {s6 : Shared} {Q : Shared → Prop}, Inv (X.suite a (X.pn ++ pins)) [] σ6 H6 s6 → (∀ s7, Inv X pins (σ6.set i none) H6 s7 → Q s7) →
          wpAny (model X.prog X.w) X.A (do bindName X.env n .none; unbindBehindTheSuite X.env n pos') (fun _ s7 => Q s7) X.xe s6 := fun S6 hq => gone_ok (Inv.suiteB S6 ok) hN hi hln hq
      refine wpAny_mono ((hsu a (X.pn ++ pins)).run [] s5 _ _ _ S5 (hyes rfl a na)) (fun f s6 hsp => ?_) (fun _ _ z => False.elim z)
      match f, hsp with
      | .next, ⟨σ6, H6, S6, q6⟩ => exact gone S6 fun s7 J7 => ⟨_, _, J7, q6⟩
      | .brk, ⟨σ6, H6, S6, q6⟩ => exact gone S6 fun s7 J7 => ⟨_, _, J7, q6⟩
      | .cont, ⟨σ6, H6, S6, q6⟩ => exact gone S6 fun s7 J7 => ⟨_, _, J7, q6⟩
      | .ret u, ⟨v6, σ6, H6, S6, r6, q6⟩ => exact gone S6 fun s7 J7 => ⟨_, _, _, J7, r6, q6⟩
    | false =>
      refine wpAny_handleBy_nil ?_
      obtain ⟨k1, k2, k3, oe, vs, Tr, oT, ts', he, hz, hd, h1, hr⟩ := id fl3
      unfold PySem.passOn
      refine wpAny_bind (wpAny_field he hd h1 ?_)
      rw [if_neg (show ¬ ((Value.ref Tr == Value.none) = true) from by simp)]
      have on : wpAny (model X.prog X.w) X.A (setFlight (.ref a) X.env.frame) (fun _ s4 => wpAny (model X.prog X.w) X.A (throw (.ref a) : Sem Flow) (SP X pins D) X.xe s4) X.xe { s' with heap := h3 } := by
        rw [hf]
        exact HandSPX.setFlight_upZ fl3 fun h4 hh4 up4 => wpAny_throw (tk _ _ ⟨a, B, sI, pins, σ', H', cls, d, rfl, J, nb, (up.trans up3).trans up4, .inr (.inr (by rw [hs]; exact hh4)), na, os, ag, hno rfl⟩)
      first
        | exact wpAny_bind (wpAny_pure (wpAny_bind on))
        | exact wpAny_bind on
  refine wpAny_mono ((hb (wTr X.K c i ts Wout D) (X.pn ++ pins) xe' caught PassesOwn.looking).run [] s σ H D (I.toTry _) h) (fun f s1 hsp => ?_) (fun e s1 he => he)
  match f, hsp with
  | .next, ⟨σ', H', J', q⟩ => exact wpAny_execs_nil ⟨σ', H', J'.ofTry ok, q⟩
  | .brk, ⟨σ', H', J', q⟩ => exact ⟨σ', H', J'.ofTry ok, q⟩
  | .cont, ⟨σ', H', J', q⟩ => exact ⟨σ', H', J'.ofTry ok, q⟩
  | .ret u, ⟨v, σ', H', J', r, q⟩ => exact ⟨v, σ', H', J'.ofTry ok, r, q⟩
end
/-! ### such an error's fields, its class -/
/-- e.f, e an error that is tracked: C its class, fs its fields -/
def tXe (K : PySem.W.Frag) (f : Str) (te : TE) : TE := fun σ H Q => te σ H fun x H1 => ∃ (a C d : Addr) (fs : List (Str × V)) (v : V), x = .ref a ∧ H1 a = some (exK (.ref C) (some d) a) ∧ XfC K C ∧ PySem.W.findIn K (.ref C) f = some none ∧ H1 d = some (.xd fs) ∧ fs.lookup f = some v ∧ Q v H1
theorem exK_at {P : Program} {w : World} {H : Hp} {h : Heap} {a C d : Addr} {fs : List (Str × V)} (hok : HOk P w H h) (ea : H a = some (exK (.ref C) (some d) a)) (ed : H d = some (.xd fs)) :
    ∃ (ox od : Obj) (mA : Str → Option Value), PySem.W.InstAt h a ox C (some od) ∧ (∀ f, PySem.W.lookIn f od = some (mA f)) ∧ ∀ f, RelO (fs.lookup f) (mA f) := by
  obtain ⟨⟨oe, vs, he, hz, hd⟩, _, _⟩ := hok a _ ea
  obtain ⟨mA, hns, hr⟩ := (show ObjOk P w H h d (.xd fs) from hok d _ ed)
  obtain ⟨od, ho, hl⟩ := lookIn_ns hns
  exact ⟨oe, od, mA, ⟨he, hz.1, by unfold PySem.W.notCls; rw [hd] <;> rfl, by rw [hz.2]; exact ho⟩, hl, hr⟩
theorem pe_xe {X : Cx} {e : Expr} {te : TE} {pos : Pos} {n : Str} (he : PE X e te) (hb : attributeBase e n X.env (eval e X.env) = eval e X.env := by rfl) : PE X (.Attribute e n pos) (tXe X.K n te) := by
  refine ⟨fun pins s σ H Q I h => ?_⟩
  refine attr_of hb (thn (he.run pins s σ H _ I h) fun u s1 hh => ?_)
  obtain ⟨x, H1, I1, rx, a, C, d, fs, v, ex, ea, T, hno, ed, l, q⟩ := hh
  subst ex
  obtain rfl : u = Value.ref a := rx
  obtain ⟨ox, od, mA, J, hl, hr⟩ := exK_at I1.hok ea ed
  obtain ⟨u, hu, ru⟩ := RelO.some_of (v := v) (o := mA n) (by rw [← l]; exact hr n)
  exact HandSPX.exc_get I1.kIn J T.ga T.gg T.exC (PySem.W.findObj_own T.hdC hno rfl (by rw [hl, hu])) (handed_of ru) ⟨v, H1, I1.tok _, ru, q⟩
/-- isinstance of such an error, both answers -/
def rIsX (K : PySem.W.Frag) : List V → Hp → VK → Prop := fun xs H Q => ∃ (a D C d : Addr) (fs : List (Str × V)) (b : Bool), xs = [.ref a, .ref C] ∧ H a = some (exK (.ref D) (some d) a) ∧ H d = some (.xd fs) ∧ L2.ExcC K D ∧ PySem.W.kitOne K (.ref D) (.ref C) = some b ∧ Q (.bl b) H
theorem call_isX {X : Cx} : CallR X (.builtin "isinstance") (rIsX X.K) := by
  intro pins s σ H xs us Q I r h
  obtain ⟨a, D, C, d, fs, b, rfl, ea, ed, T, e, q⟩ := h
  obtain ⟨u1, u2, rfl, r1, r2⟩ := vals2 r
  cases r1
  cases r2
  obtain ⟨ox, od, mA, J, _, _⟩ := exK_at I.hok ea ed
  have hc : (PySem.W.clsIn X.K D).isSome = true := by
    obtain ⟨cd, hc, _⟩ := PySem.W.any_some T.hd
    rw [hc]
    rfl
  exact PySem.W.kia_one (PySem.W.nk_kitE (od := some od) T.hg T.hk T.hs T.hd (PySem.W.findObj_data hc T.ha T.hn T.ht) T.hm) I.kIn J e (fun z => nomatch z) fun tk => ⟨.bl b, H, I.tok tk, rfl, q⟩
end Nk

/-! End: a law's promise where no repr is under way, to the row; the head's facts of defs at any place. -/
namespace Nk
open PySem PySem.Spec PyProof.Rows L2

/-! ### the state at the law's call -/
/-- the script and the tables are tracked, nothing else -/
def H0 (K : PySem.W.Frag) (ts : List Addr) (a : Addr) (oa : Obj) (xs : List V) : Hp := fun b => if b ∈ ts then some (.tbl #[]) else if b = a ∧ K.lookup a = none then some (.frz oa (.lst xs)) else none
section
variable {K : PySem.W.Frag} {ts : List Addr} {a b : Addr} {oa : Obj} {xs : List V}
theorem h0_tab (h : b ∈ ts) : H0 K ts a oa xs b = some (.tbl #[]) := if_pos h
theorem h0_cases (b : Addr) : (b ∈ ts ∧ H0 K ts a oa xs b = some (.tbl #[])) ∨ (b ∉ ts ∧ b = a ∧ K.lookup a = none ∧ H0 K ts a oa xs b = some (.frz oa (.lst xs))) ∨ (b ∉ ts ∧ ¬ (b = a ∧ K.lookup a = none) ∧ H0 K ts a oa xs b = none) := by
  unfold H0
  by_cases h : b ∈ ts
  · exact .inl ⟨h, if_pos h⟩
  · rw [if_neg h]
    by_cases q : b = a ∧ K.lookup a = none
    · exact .inr (.inl ⟨h, q.1, q.2, if_pos q⟩)
    · exact .inr (.inr ⟨h, q, if_neg q⟩)
end
/-- what the end is told of the state -/
structure AtCall (K : PySem.W.Frag) (mg mb : Str → Option Value) (cs : List (Addr × Addr)) (s : Shared) (a : Addr) (vs : List Value) (ns : List Int) : Prop where
  KX : K.In s.heap
  glob : s.heap.Ns mainGlobals mg
  blt : s.heap.Ns builtinsNs mb
  boot : ∀ x : Str, x ≠ "__name__" → mb x = bootBuiltins x
  lim : s.heap.NoLimit
  gens : s.gens = #[]
  tab : ∀ p ∈ cs, s.heap.get? p.2 = some { cls := .none, data := .fields #[] }
  tabK : ∀ p ∈ cs, K.lookup p.2 = none
  code : ∀ p ∈ cs, PySem.W.CodeHd s.heap p.1 p.2
  bm : ∃ (bm : Addr) (ob : Obj), mg "__builtins__" = some (.ref bm) ∧ bm ≠ builtinsNs ∧ s.heap.get? bm = some ob ∧ ob.cls = .type "module" ∧ ob.dict = some builtinsNs ∧ ob.data = .plain
  at_ : s.heap.get? a = some { cls := .type "list", data := .seq vs.toArray }
  iz : IntsAre vs ns
  len : ns.length ≤ sizeLine
section
variable {P : Program} {w : World} {K : PySem.W.Frag} {mg mb : Str → Option Value} {cs : List (Addr × Addr)} {s : Shared} {a : Addr} {vs : List Value} {ns : List Int}
/-- the tables' addresses -/
abbrev tsOf (cs : List (Addr × Addr)) : List Addr := cs.map (·.2)
abbrev HC (K : PySem.W.Frag) (cs : List (Addr × Addr)) (a : Addr) (vs : List Value) (ns : List Int) : Hp := H0 K (tsOf cs) a { cls := .type "list", data := .seq vs.toArray } (ns.map V.int)
theorem AtCall.ts (h : AtCall K mg mb cs s a vs ns) {b : Addr} (hb : b ∈ tsOf cs) : s.heap.get? b = some { cls := .none, data := .fields #[] } := by
  obtain ⟨p, hp, rfl⟩ := List.mem_map.mp hb
  exact h.tab p hp
theorem AtCall.off (h : AtCall K mg mb cs s a vs ns) : a ∉ tsOf cs := fun z => by
  have q := h.ts z
  rw [h.at_] at q
  cases q
theorem AtCall.script (h : AtCall K mg mb cs s a vs ns) : SqL K (HC K cs a vs ns) a (ns.map V.int) := by
  have rv := vals_ints h.iz
  rcases h0_cases (K := K) (ts := tsOf cs) (a := a) (oa := { cls := .type "list", data := .seq vs.toArray }) (xs := ns.map V.int) a with ⟨z, _⟩ | ⟨_, _, _, e⟩ | ⟨_, n, _⟩
  · exact absurd z h.off
  · exact .inl (.inr ⟨_, e⟩)
  · cases hk : K.lookup a with
    | none => exact absurd ⟨rfl, hk⟩ n
    | some o =>
      have e := h.KX a o hk
      rw [h.at_] at e
      cases e
      exact .inr ⟨_, vs.toArray, _, hk, rfl, rfl, rfl, by rw [List.size_toArray, h.iz.length]; exact h.len, by simpa using rv⟩
theorem AtCall.hok (h : AtCall K mg mb cs s a vs ns) : HOk P w (HC K cs a vs ns) s.heap := fun b u e => by
  have rv := vals_ints h.iz
  rcases h0_cases (K := K) (ts := tsOf cs) (a := a) (oa := { cls := .type "list", data := .seq vs.toArray }) (xs := ns.map V.int) b with ⟨z, q⟩ | ⟨_, eb, _, q⟩ | ⟨_, _, q⟩
  · cases q.symm.trans e
    exact h.ts z
  · cases q.symm.trans e
    subst eb
    exact ⟨h.at_, by rw [List.length_map]; exact h.len, vs, _, rv, h.at_⟩
  · cases q.symm.trans e
/-- an object that is no list of the script and no table is not tracked -/
theorem AtCall.none_ (h : AtCall K mg mb cs s a vs ns) {b : Addr} {o : Obj} (e : s.heap.get? b = some o) (h1 : ∀ v n, o.data ≠ .seq v n) (h2 : o.data ≠ .fields #[]) : HC K cs a vs ns b = none := by
  rcases h0_cases (K := K) (ts := tsOf cs) (a := a) (oa := { cls := .type "list", data := .seq vs.toArray }) (xs := ns.map V.int) b with ⟨z, _⟩ | ⟨_, eb, _, _⟩ | ⟨_, _, q⟩
  · have q := h.ts z
    rw [e] at q
    cases q
    exact absurd rfl h2
  · subst eb
    have q := h.at_
    rw [e] at q
    cases q
    exact absurd rfl (h1 _ _)
  · exact q
abbrev baseOf (K : PySem.W.Frag) (cs : List (Addr × Addr)) (s : Shared) (a : Addr) (vs : List Value) (ns : List Int) : Heap := hidT s.heap (HC K cs a vs ns)
theorem AtCall.base (h : AtCall K mg mb cs s a vs ns) {b : Addr} {o : Obj} (e : s.heap.get? b = some o) (h1 : ∀ v n, o.data ≠ .seq v n) (h2 : o.data ≠ .fields #[]) : (baseOf K cs s a vs ns).get? b = some o := hidT_get e (h.none_ e h1 h2)
theorem AtCall.nsB (h : AtCall K mg mb cs s a vs ns) {b : Addr} {m : Str → Option Value} (n : s.heap.Ns b m) : (baseOf K cs s a vs ns).Ns b m := by
  obtain ⟨o, es, ep, e, d, r⟩ := n
  exact ⟨o, es, ep, h.base e (fun v n z => by rw [d] at z; cases z) (fun z => by rw [d] at z; cases z), d, r⟩
theorem AtCall.kin (h : AtCall K mg mb cs s a vs ns) : K.In (baseOf K cs s a vs ns) := fun b o e => by
  refine hidT_get (h.KX b o e) ?_
  rcases h0_cases (K := K) (ts := tsOf cs) (a := a) (oa := { cls := .type "list", data := .seq vs.toArray }) (xs := ns.map V.int) b with ⟨z, _⟩ | ⟨_, eb, hk, _⟩ | ⟨_, _, q⟩
  · obtain ⟨p, hp, rfl⟩ := List.mem_map.mp z
    rw [h.tabK p hp] at e
    cases e
  · rw [eb, hk] at e
    cases e
  · exact q
theorem AtCall.mod (h : AtCall K mg mb cs s a vs ns) : L2.Mod K mg (baseOf K cs s a vs ns) := by
  obtain ⟨mc, h1, h2⟩ := h.lim
  exact ⟨h.kin, h.nsB h.glob, ⟨mb, h.nsB h.blt, h.boot⟩, ⟨mc, h.nsB h1, h2⟩⟩
theorem AtCall.env0 (h : AtCall K mg mb cs s a vs ns) : Env0 P w K mg (baseOf K cs s a vs ns) callerA [] s (HC K cs a vs ns) :=
  ⟨rfl, h.mod, fun b o e => of_hidT e, Nat.le_of_eq (hidT_size _ _), trivial, (fun b hb => nomatch (show b ∈ ([] : List Addr) from hb)), h.hok, .of_eq h.gens⟩
theorem AtCall.tabB (h : AtCall K mg mb cs s a vs ns) : ∀ p ∈ cs, LamX.TabB (baseOf K cs s a vs ns) mg p.1 p.2 := fun p hp => by
  have hTp := h.tab p hp
  refine ⟨?_, ?_, fun z => ?_⟩
  · obtain ⟨o, us, file, tf, flags, tg, inF, text, tt, e1, r1, r2, r3, r⟩ := h.code p hp
    refine ⟨o, us, file, tf, flags, tg, inF, text, tt, h.base e1 (fun v n z => by rw [r2] at z; cases z) (fun z => ?_), r1, r2, r3, r⟩
    rw [r2] at z
    cases z
    cases r3
  · obtain ⟨bm, ob, b1, b2, b3, b4, b5, b6⟩ := h.bm
    refine ⟨bm, ob, b1, b2, fun q => ?_, fun q => ?_, h.base b3 (fun v n z => by rw [b6] at z; cases z) (fun z => by rw [b6] at z; cases z), b4, b5, b6⟩
    · obtain ⟨o, es, ep, e, hd, _⟩ := h.glob
      rw [q, e] at b3
      cases b3
      rw [hd] at b6
      cases b6
    · rw [q, hTp] at b3
      cases b3
      cases b6
  · obtain ⟨o, es, ep, e, hd, _⟩ := h.glob
    rw [z, hTp] at e
    cases e
    cases hd
/-- behind the call: what was there is there, the tables have grown -/
theorem AtCall.old (h : AtCall K mg mb cs s a vs ns) {H' : Hp} {s' : Shared} (un : Un (frs []) [] (HC K cs a vs ns) H' s.heap s'.heap) (hok : HOk P w H' s'.heap) : OldK s.heap s'.heap := by
  have keep : ∀ b o, b ∉ tsOf cs → s.heap.get? b = some o → s'.heap.get? b = some o := fun b o nb e => by
    rcases h0_cases (K := K) (ts := tsOf cs) (a := a) (oa := { cls := .type "list", data := .seq vs.toArray }) (xs := ns.map V.int) b with ⟨z, _⟩ | ⟨_, eb, _, q⟩ | ⟨_, _, q⟩
    · exact absurd z nb
    · obtain ⟨e2, _⟩ := hok b _ (un.frzs b _ _ q)
      subst eb
      rw [h.at_] at e
      cases e
      exact e2
    · exact un.keep b o e q (fun z => by cases (show b ∈ ([] : List Addr) from z)) (fun z => by cases z)
  have grown : ∀ p ∈ cs, ∃ more : Array Value, s'.heap.get? p.2 = some { cls := .none, data := .fields more } := fun p hp => by
    obtain ⟨more, z⟩ := un.tbls p.2 #[] (h0_tab (List.mem_map.mpr ⟨p, hp, rfl⟩))
    exact ⟨_, hok p.2 _ z⟩
  refine ⟨fun b o e => ?_, fun b o e => ?_⟩
  · by_cases hb : b ∈ tsOf cs
    · obtain ⟨p, hp, rfl⟩ := List.mem_map.mp hb
      obtain ⟨more, hm⟩ := grown p hp
      rw [h.tab p hp] at e
      cases e
      exact .inr (.inl ⟨((h.code p hp).tab (h.tab p hp)).isCodeTable, rfl, #[], more, rfl, by rw [Array.empty_append]; exact hm⟩)
    · exact .inl (keep b o hb e)
  · by_cases hb : b ∈ tsOf cs
    · obtain ⟨p, hp, rfl⟩ := List.mem_map.mp hb
      obtain ⟨more, hm⟩ := grown p hp
      exact ⟨_, hm⟩
    · exact ⟨o, keep b o hb e⟩
theorem law_callG {k : Nat} {fa : Addr} {fd : FuncData} {x : Str} {sp : Sp} (h : AtCall K mg mb cs s a vs ns) (hr : Room k callerA)
    (F : ∀ base : Heap, K.In base → base.Ns mainGlobals mg → (∀ p ∈ cs, LamX.TabB base mg p.1 p.2) → FnG P w K mg base (L2.CX P w) k fa fd [x] sp) (hbind : ∀ (s : Shared) (u : Value), BindsTo s fd ⟨[u], []⟩ [(x, u)])
    (hsp : ∀ H : Hp, (∀ p ∈ cs, H p.2 = some (.tbl #[])) → SqL K H a (ns.map V.int) → sp [.ref a] H (fun v _ => v = .bl true) fun _ _ _ => False) :
    codeAny (model P w) callerA (.call (.ref fa) ⟨[.ref a], []⟩) (fun r s' => r = .ok (.ret (.bool true)) ∧ OldK s.heap s'.heap ∧ s'.os = s.os ∧ AllBare s'.gens) s := by
  refine codeAny_mono ((F _ h.kin (h.nsB h.glob) h.tabB).run callerA [] s _ ⟨[.ref a], []⟩ [.ref a] [.ref a] _ _ rfl hr h.env0 (hbind s (.ref a)) (.cons rfl .nil) (hsp _ (fun p hp => h0_tab (List.mem_map.mpr ⟨p, hp, rfl⟩)) h.script)) fun r s' hq => ?_
  match r, hq with
  | .error e, hq =>
    obtain ⟨_, _, _, _, _, _, _, _, _, _, _, _, z⟩ := hq
    exact z.elim
  | .ok (.ret u), ⟨v, H', os, bare, un, hok', r', q⟩ =>
    have q : v = .bl true := q
    subst q
    cases r'
    exact ⟨rfl, h.old un hok', os, bare⟩
  | .ok .next, hq => exact False.elim hq
  | .ok .brk, hq => exact False.elim hq
  | .ok .cont, hq => exact False.elim hq
end
/-- what is known of the law at the head's heap -/
def LawG (P : Program) (w : World) (K : PySem.W.Frag) (k n : Nat) (x : Str) (mg : Str → Option Value) (fa : Addr) (h : Heap) : Prop :=
  ∃ (fd : FuncData) (cs : List (Addr × Addr)) (sp : Sp), (∀ p ∈ cs, h.get? p.2 = some { cls := .none, data := .fields #[] }) ∧ (∀ p ∈ cs, K.lookup p.2 = none) ∧ (∀ p ∈ cs, PySem.W.CodeHd h p.1 p.2) ∧ (∀ (s : Shared) (u : Value), BindsTo s fd ⟨[u], []⟩ [(x, u)]) ∧
    (∀ (H : Hp) (a : Addr) (ns : List Int), ns.length ≤ n → (∀ z ∈ ns, Builtin.Int.intBits z ≤ 1048576) → (∀ p ∈ cs, H p.2 = some (.tbl #[])) → SqL K H a (ns.map V.int) → sp [.ref a] H (fun v _ => v = .bl true) fun _ _ _ => False) ∧
    ∀ base : Heap, K.In base → base.Ns mainGlobals mg → (∀ p ∈ cs, LamX.TabB base mg p.1 p.2) → FnG P w K mg base (L2.CX P w) k fa fd [x] sp
theorem walk_ofG {l : PySem.W.OpenLaw} {n k : Nat} {q : Program} {loose : List Str} {XP : (Str → Option Value) → Heap → Prop} {YP : World → Heap → Prop} {d : DefRec} {x : Str} (hn : l.most = some n) (hn2 : n ≤ sizeLine) (hdf : d.params.defaults = []) (hr : Room k callerA)
    (F : ∀ (w : World) (mg : Str → Option Value) (fa : Addr) (h : Heap), YP w h → h.Ns mainGlobals mg → mg d.name = some (.ref fa) → ∃ K : PySem.W.Frag, K.In h ∧ LawG l.prog w K k n x mg fa h) :
    PySem.W.WalkO q loose XP YP l.row.toRowW d [] (fun f vs => PySem.call f vs) := by
  refine Att.attach_callB hn hdf fun w s₀ s₁ mg mb fa o pm cd doc a vs ns G Y ho hd hcd hmg hobj hints hlen hbits hg => ?_
  obtain ⟨K, KX, fd, cs, sp, hT, nT, C, hb, hsp, hF⟩ := F w mg fa _ Y G.T.g hmg
  exact law_callG ⟨KX, G.T.g, G.T.b, G.T.builtins, G.T.nolimit, hg, hT, nT, C, G.T.bmain, hobj, hints, Nat.le_trans hlen hn2⟩ hr hF hb fun H hH hS => hsp H a ns hlen hbits hH hS

/-! ### the head's facts of defs at any place -/
/-- a def: where it stands (a path), its text, the class that it captures (super), if any -/
structure DefA where
  at_ : PySem.W.Frag → Addr
  name : Str
  qual : Str
  st : Stmt
  cap : Option (PySem.W.Frag → Addr) := none
  dfl : List He.Dv := []
def DefA.dvs (K : PySem.W.Frag) (d : DefA) : List V := d.dfl.map (He.Dv.v K)
abbrev FnS : Type := Option (Str × Str × Arguments × FuncBody × Scope × Addr × List Str × Addr)
def fnS (K : PySem.W.Frag) (f : Addr) : FnS := match K.lookup f with
  | some ⟨_, _, .func fd, _⟩ => some (fd.name, fd.qualname, fd.params, fd.body, fd.scope, fd.globals, fd.closure.map (·.1), fd.builtins)
  | _ => none
def DefA.val (d : DefA) : FnS := some (d.name, d.qual, defArgs d.st, .stmts (defBody d.st), defScope d.st, mainGlobals, (if d.cap.isSome then [("__class__" : Str)] else []), builtinsNs)
def capB (K : PySem.W.Frag) (file : Str) (fd : FuncData) (D : Addr) : Bool := (match fd.closure with
  | [(_, cc)] => (match K.lookup cc with
    | some ⟨_, _, .cell (some (.ref E)), _⟩ => decide (E = D)
    | _ => false)
  | _ => false) && (match fd.code with
  | .ref c => (match K.lookup c with
    | some ⟨_, _, .fields vs, _⟩ => (match (vs[2]? : Option Value) with
      | some (.str f _) => decide (f = file)
      | _ => false)
    | _ => false)
  | _ => false)
def DefA.ok (K : PySem.W.Frag) (file : Str) (d : DefA) : Bool := PySem.W.keepIn K (.ref (d.at_ K)) && (match K.lookup (d.at_ K) with
  | some ⟨_, _, .func fd, _⟩ => PySem.W.codeIn K fd.code d.qual && (He.dflB K fd.defaults (d.dvs K) && (He.kwdB K fd.kwdefaults [] && (match d.cap with
    | none => true
    | some D => capB K file fd (D K))))
  | _ => false)
theorem DefA.funD {K : PySem.W.Frag} {file : Str} {d : DefA} (e : fnS K (d.at_ K) = d.val) (c : d.ok K file = true) (hn : d.cap = none) : ∃ fd, FunD K d.name d.qual (defArgs d.st) (defBody d.st) (defScope d.st) (d.dvs K) [] (d.at_ K) fd := by
  obtain ⟨kp, c2⟩ := He.ba c
  unfold fnS at e
  cases q : K.lookup (d.at_ K) with
  | none => rw [q] at c2; cases c2
  | some o =>
    obtain ⟨oc, od, dt, osl⟩ := o
    rw [q] at c2 e
    cases dt with
    | func fd =>
      obtain ⟨n1, n2, n3, n4, n5, n6, n7, n8, n9, n10, n11, n12, n13, n14, n15⟩ := fd
      unfold DefA.val at e
      rw [hn] at e
      have e2 : (some (n1, n2, n3, n4, n5, n6, n7.map (·.1), n15) : FnS) = some (d.name, d.qual, defArgs d.st, .stmts (defBody d.st), defScope d.st, mainGlobals, [], builtinsNs) := e
      simp only [Option.some.injEq, Prod.mk.injEq, List.map_eq_nil_iff] at e2
      obtain ⟨h1, h2, h3, h4, h5, h6, h7, h8⟩ := e2
      subst h1 h2 h3 h4 h5 h6 h7 h8
      obtain ⟨k1, k2⟩ := He.ba c2
      obtain ⟨k3, k4⟩ := He.ba k2
      obtain ⟨k5, _⟩ := He.ba k4
      exact ⟨_, ⟨oc, od, n8, n9, n10, n11, n12, n13, n14, osl, rfl, q, k1, He.dflB_ok k3, He.kwdB_ok k5⟩, kp⟩
    | _ => cases c2
theorem DefA.supD {K : PySem.W.Frag} {file : Str} {d : DefA} {D : PySem.W.Frag → Addr} (e : fnS K (d.at_ K) = d.val) (c : d.ok K file = true) (hn : d.cap = some D) (h0 : d.dfl = []) : SupD K d.name d.qual d.st (d.at_ K) (D K) file := by
  obtain ⟨kp, c2⟩ := He.ba c
  unfold fnS at e
  cases q : K.lookup (d.at_ K) with
  | none => rw [q] at c2; cases c2
  | some o =>
    obtain ⟨oc, od, dt, osl⟩ := o
    rw [q] at c2 e
    cases dt with
    | func fd =>
      obtain ⟨n1, n2, n3, n4, n5, n6, n7, n8, n9, n10, n11, n12, n13, n14, n15⟩ := fd
      unfold DefA.val at e
      rw [hn] at e
      have e2 : (some (n1, n2, n3, n4, n5, n6, n7.map (·.1), n15) : FnS) = some (d.name, d.qual, defArgs d.st, .stmts (defBody d.st), defScope d.st, mainGlobals, [("__class__" : Str)], builtinsNs) := e
      simp only [Option.some.injEq, Prod.mk.injEq] at e2
      obtain ⟨h1, h2, h3, h4, h5, h6, h7, h8⟩ := e2
      subst h1 h2 h3 h4 h5 h6 h8
      obtain ⟨k1, k2⟩ := He.ba c2
      obtain ⟨k3, k4⟩ := He.ba k2
      obtain ⟨k5, k6⟩ := He.ba k4
      rw [hn] at k6
      obtain ⟨k7, k8⟩ := He.ba k6
      match n7, h7, k7 with
      | [(cn, cc)], h7, k7 =>
        have ec : cn = "__class__" := by simpa using h7
        subst ec
        have C : ClsCell K cc (D K) := by
          have k7' : (match K.lookup cc with
            | some ⟨_, _, .cell (some (.ref E)), _⟩ => decide (E = D K)
            | _ => false) = true := k7
          split at k7'
          · rename_i c' d' E sl z
            rw [of_decide_eq_true k7'] at z
            exact ⟨_, _, _, z⟩
          · cases k7'
        have eD : n8 = .none := by
          rcases He.dflB_ok k3 with ⟨_, z⟩ | ⟨z, _⟩
          · exact z
          · exact absurd (by unfold DefA.dvs; rw [h0]; rfl) z
        obtain ⟨cda, rfl⟩ := He.codeIn_ref k1
        have k9 : (match K.lookup cda with
            | some ⟨_, _, .fields vs, _⟩ => (match (vs[2]? : Option Value) with
              | some (.str f _) => decide (f = file)
              | _ => false)
            | _ => false) = true := k8
        refine ⟨oc, od, n8, n9, n10, n11, n12, .ref cda, n14, osl, cc, q, k1, C, eD, cda, ?_⟩
        split at k9
        · rename_i c' d' vs sl z
          split at k9
          · rename_i f tf z2
            rw [of_decide_eq_true k9] at z2
            exact ⟨_, _, _, _, _, rfl, z, z2⟩
          · cases k9
        · cases k9
    | _ => cases c2
/-! ### the Hook -/
/-- what is looked at: what the module's names reach, and the library's own statics -/
abbrev frN (g : Addr → Option Obj) (n : Nat) : PySem.W.Frag := He.frT g (cStatics :: He.asD g n)
abbrev AlN : Type := List FnS × Bool
structure SaysN (ds : List DefA) (file : Str) (tf : List He.Defn) (ex : PySem.W.Frag → Bool) (h : Heap) (K : PySem.W.Frag) : Prop where
  fn : ∀ d ∈ ds, fnS K (d.at_ K) = d.val
  ok : ∀ d ∈ ds, d.ok K file = true
  more : ex K = true
  hd : ∀ p ∈ tf, PySem.W.codeHdIn K (He.cT K p).1 (He.cT K p).2 = true
  out : ∀ p ∈ tf, K.lookup (He.cT K p).2 = none
  empty : ∀ p ∈ tf, h.get? (He.cT K p).2 = some { cls := .none, data := .fields #[] }
def obsN (n : Nat) (ds : List DefA) (file : Str) (tf : List He.Defn) (ex : PySem.W.Frag → Bool) (g : Addr → Option Obj) : AlN :=
  (ds.map (fun d => fnS (frN g n) (d.at_ (frN g n))), (ds.all fun d => d.ok (frN g n) file) && (ex (frN g n) && He.tabsB g tf (frN g n)))
def valN (ds : List DefA) : AlN := (ds.map DefA.val, true)
theorem saysN_of {n : Nat} {ds : List DefA} {file : Str} {tf : List He.Defn} {ex : PySem.W.Frag → Bool} {h : Heap} (e : obsN n ds file tf ex h.get? = valN ds) : SaysN ds file tf ex h (frN h.get? n) := by
  have e1 : ds.map (fun d => fnS (frN h.get? n) (d.at_ (frN h.get? n))) = ds.map DefA.val := congrArg (fun z : AlN => z.1) e
  have e2 : ((ds.all fun d => d.ok (frN h.get? n) file) && (ex (frN h.get? n) && He.tabsB h.get? tf (frN h.get? n))) = true := congrArg (fun z : AlN => z.2) e
  obtain ⟨h0, e3⟩ := He.ba e2
  obtain ⟨h1, h2⟩ := He.ba e3
  have key : ∀ p ∈ tf, PySem.W.codeHdIn (frN h.get? n) (He.cT (frN h.get? n) p).1 (He.cT (frN h.get? n) p).2 = true ∧ ∃ o, h.get? (He.cT (frN h.get? n) p).2 = some o ∧ He.emptyTab o = true := fun p hp => by
    obtain ⟨h3, h4⟩ := He.ba (List.all_eq_true.mp h2 p hp)
    refine ⟨h3, ?_⟩
    cases q : h.get? (He.cT (frN h.get? n) p).2 with
    | none => rw [q] at h4; cases h4
    | some o => rw [q] at h4; exact ⟨o, rfl, h4⟩
  exact ⟨fun d hd => List.map_inj_left.mp e1 d hd, fun d hd => List.all_eq_true.mp h0 d hd, h1, fun p hp => (key p hp).1, fun p hp => by
    obtain ⟨_, o, q, z⟩ := key p hp
    exact He.frT_none q z, fun p hp => by
    obtain ⟨_, o, q, z⟩ := key p hp
    rw [q, He.emptyTab_eq z]⟩
def hookN (n : Nat) (ds : List DefA) (file : Str) (tf : List He.Defn) (ex : PySem.W.Frag → Bool) : PySem.W.Hook where
  α := AlN
  obs := fun s => obsN n ds file tf ex s.heap.get?
  val := fun _ => valN ds
  says := fun _ h => ∃ K : PySem.W.Frag, K.In h ∧ SaysN ds file tf ex h K
  of := fun _ _ e => ⟨_, He.frT_in, saysN_of e⟩
  keeps := fun _ _ _ ⟨K, hK, c⟩ k => ⟨K, PySem.W.Frag.In.keeps hK k, ⟨c.fn, c.ok, c.more, c.hd, c.out, fun p hp => k _ _ (c.empty p hp)⟩⟩
theorem obsN_eq {n : Nat} {ds : List DefA} {file : Str} {tf : List He.Defn} {ex : PySem.W.Frag → Bool} {g : Addr → Option Obj} {s : Shared} (h : ∀ a, g a = s.heap.get? a) : obsN n ds file tf ex g = (hookN n ds file tf ex).obs s := by
  have e : g = s.heap.get? := funext h
  rw [e] <;> rfl
theorem SaysN.fun_ {ds : List DefA} {file : Str} {tf : List He.Defn} {ex : PySem.W.Frag → Bool} {h : Heap} {K : PySem.W.Frag} (c : SaysN ds file tf ex h K) {d : DefA} (hd : d ∈ ds) (hn : d.cap = none) : ∃ fd, FunD K d.name d.qual (defArgs d.st) (defBody d.st) (defScope d.st) (d.dvs K) [] (d.at_ K) fd := DefA.funD (c.fn d hd) (c.ok d hd) hn
theorem SaysN.sup {ds : List DefA} {file : Str} {tf : List He.Defn} {ex : PySem.W.Frag → Bool} {h : Heap} {K : PySem.W.Frag} (c : SaysN ds file tf ex h K) {d : DefA} {D : PySem.W.Frag → Addr} (hd : d ∈ ds) (hn : d.cap = some D) (h0 : d.dfl = []) : SupD K d.name d.qual d.st (d.at_ K) (D K) file := DefA.supD (c.fn d hd) (c.ok d hd) hn h0
/-! ### Bools for what is told of classes -/
def eqL (a b : Option (Option Value)) : Bool := He.eqO a b
def oexB (K : PySem.W.Frag) (C : Addr) : Bool := (match K.lookup C with
  | some ⟨.type "type", _, .cls cd, sl⟩ => (match cd.mro, sl.toList with
    | .ref C' :: bm, [_, _, _, _, some (.builtin n), _] => C' == C && (n == "ValueError.__new__" && (!cd.hasDel && (cd.hasDict && PySem.HandSPX.refsVE bm)))
    | _, _ => false)
  | _ => false) && (He.eqO (PySem.W.findIn K (.ref C) "__setattr__") (some (some (.builtin "object.__setattr__"))) && (decide (PySem.W.subIn K (.ref C) (.type "BaseException") = some true) && (decide (PySem.W.typeIn K (.ref C) = some (.type "type")) && PySem.W.keepIn K (.ref C))))
theorem oexB_ok {K : PySem.W.Frag} {C : Addr} (h : oexB K C = true) : OexC K C := by
  obtain ⟨h1, h⟩ := He.ba h
  obtain ⟨h2, h⟩ := He.ba h
  obtain ⟨h3, h⟩ := He.ba h
  obtain ⟨h4, h5⟩ := He.ba h
  refine ⟨?_, He.eqO_ok h2, of_decide_eq_true h3, of_decide_eq_true h4, h5⟩
  split at h1
  · rename_i dd cd sl ho
    split at h1
    · rename_i C' bm k0 k1 k2 k3 n k5 hm hs
      simp only [Bool.and_eq_true, beq_iff_eq, Bool.not_eq_true'] at h1
      obtain ⟨rfl, rfl, hdel, hdict, ht⟩ := h1
      obtain ⟨nm, bs, mro, ns, qn, hd, sn, sub, ab, col, del⟩ := cd
      dsimp only at hm hdel hdict
      subst hm hdel hdict
      have hsl : sl = #[k0, k1, k2, k3, some (.builtin "ValueError.__new__"), k5] := by
        obtain ⟨l⟩ := sl
        simp only at hs
        rw [hs]
      subst hsl
      exact ⟨nm, qn, ns, bs, bm, sn, sub, ab, col, dd, k0, k1, k2, k3, k5, ho, ht⟩
    · cases h1
  · cases h1
def supB (K : PySem.W.Frag) (C : Addr) : Bool := oexB K C && (He.eqO (PySem.W.ks_superIn K C C "__init__") (some (some (.builtin "ValueError.__init__"))) && (decide (PySem.W.mroIn K C (.ref C) = some true) && (decide (PySem.W.subIn K (.ref C) (.type "ValueError") = some true) && He.eqO (PySem.W.nsIn K cStatics "thirdparty.any") (some none))))
theorem supB_ok {K : PySem.W.Frag} {C : Addr} (h : supB K C = true) : SupX K C := by
  obtain ⟨h1, h⟩ := He.ba h
  obtain ⟨h2, h⟩ := He.ba h
  obtain ⟨h3, h⟩ := He.ba h
  obtain ⟨h4, h5⟩ := He.ba h
  exact ⟨oexB_ok h1, He.eqO_ok h2, of_decide_eq_true h3, of_decide_eq_true h4, He.eqO_ok h5⟩
def clsInB (K : PySem.W.Frag) (C : Addr) : Bool := (PySem.W.clsIn K C).isSome
theorem clsInB_ok {K : PySem.W.Frag} {C : Addr} (h : clsInB K C = true) : ∃ cd, PySem.W.clsIn K C = some cd := Option.isSome_iff_exists.mp h
/-- the property m of C: the getter -/
def getOf (K : PySem.W.Frag) (C : Addr) (m : Str) : Addr := match PySem.W.recIn K (He.ma K C m) "property" with
  | some (.ref g :: _) => g
  | _ => 0
def propB (K : PySem.W.Frag) (C : Addr) (m : Str) : Bool := He.eqO (PySem.W.findIn K (.ref C) m) (some (some (.ref (He.ma K C m)))) && (He.eqO (PySem.W.specialIn K (.ref (He.ma K C m)) "__get__") (some (some (.builtin "property.__get__"))) && (decide (PySem.W.takesIn K (.ref (He.ma K C m)) = some true) && (match PySem.W.recIn K (He.ma K C m) "property" with
  | some (.ref _ :: _) => true
  | _ => false)))
theorem propB_ok {K : PySem.W.Frag} {C : Addr} {m : Str} (h : propB K C m = true) : PropOf K C m (He.ma K C m) (getOf K C m) := by
  obtain ⟨h1, h⟩ := He.ba h
  obtain ⟨h2, h⟩ := He.ba h
  obtain ⟨h3, h4⟩ := He.ba h
  refine ⟨He.eqO_ok h1, He.eqO_ok h2, of_decide_eq_true h3, ?_⟩
  unfold getOf
  split at h4
  · rename_i g r e
    rw [e]
    exact ⟨r, rfl⟩
  · cases h4
def eqCB (K : PySem.W.Frag) (C : Addr) : Bool := He.eqO (PySem.W.findIn K (.ref C) "__eq__") (some (some (.ref (He.ma K C "__eq__")))) && (He.eqO (PySem.W.findIn K (.ref C) "__ne__") (some (some (.builtin "object.__ne__"))) && (PySem.W.isFn K (.ref (He.ma K C "__eq__")) && decide (PySem.W.subIn K (.ref C) (.type "object") = some true)))
theorem eqCB_ok {K : PySem.W.Frag} {C : Addr} (h : eqCB K C = true) : EqC K C (He.ma K C "__eq__") := by
  obtain ⟨h1, h⟩ := He.ba h
  obtain ⟨h2, h⟩ := He.ba h
  obtain ⟨h3, h4⟩ := He.ba h
  exact ⟨He.eqO_ok h1, He.eqO_ok h2, h3, of_decide_eq_true h4⟩
/-- what isinstance asks of a class -/
structure InsC (K : PySem.W.Frag) (C : Addr) : Prop where
  ha : PySem.W.findIn K (.ref C) "__class__" = some (some (.builtin "object.__class__"))
  hn : PySem.W.specialIn K (.builtin "object.__class__") "__get__" = some (some (.builtin "getset_descriptor.__get__"))
  ht : PySem.W.takesIn K (.builtin "object.__class__") = some true
  hm : PySem.W.mroIn K C (.type "object") = some true
def insB (K : PySem.W.Frag) (C : Addr) : Bool := He.eqO (PySem.W.findIn K (.ref C) "__class__") (some (some (.builtin "object.__class__"))) && (He.eqO (PySem.W.specialIn K (.builtin "object.__class__") "__get__") (some (some (.builtin "getset_descriptor.__get__"))) && (decide (PySem.W.takesIn K (.builtin "object.__class__") = some true) && decide (PySem.W.mroIn K C (.type "object") = some true)))
theorem insB_ok {K : PySem.W.Frag} {C : Addr} (h : insB K C = true) : InsC K C := by
  obtain ⟨h1, h⟩ := He.ba h
  obtain ⟨h2, h⟩ := He.ba h
  obtain ⟨h3, h4⟩ := He.ba h
  exact ⟨He.eqO_ok h1, He.eqO_ok h2, of_decide_eq_true h3, of_decide_eq_true h4⟩
/-- a method that an operator or a built-in asks for -/
structure OwnM (K : PySem.W.Frag) (C : Addr) (m : Str) (f : Addr) : Prop where
  at_ : PySem.W.findIn K (.ref C) m = some (some (.ref f))
  fn : PySem.W.isFn K (.ref f) = true
def ownMB (K : PySem.W.Frag) (C : Addr) (m : Str) : Bool := He.eqO (PySem.W.findIn K (.ref C) m) (some (some (.ref (He.ma K C m)))) && PySem.W.isFn K (.ref (He.ma K C m))
theorem ownMB_ok {K : PySem.W.Frag} {C : Addr} {m : Str} (h : ownMB K C m = true) : OwnM K C m (He.ma K C m) := by
  obtain ⟨h1, h2⟩ := He.ba h
  exact ⟨He.eqO_ok h1, h2⟩
/-- an error class whose caught instances are asked for their class -/
def excCB (K : PySem.W.Frag) (D : Addr) : Bool := He.eqO (PySem.W.findIn K (.ref D) "__getattribute__") (some (some (.builtin "BaseException.__getattribute__"))) && (He.eqO (PySem.W.findIn K (.ref D) "__getattr__") (some none) && (decide (PySem.W.subIn K (.ref D) (.type "BaseException") = some true) && (PySem.W.hasDictIn K D && insB K D)))
theorem excCB_ok {K : PySem.W.Frag} {D : Addr} (h : excCB K D = true) : L2.ExcC K D := by
  obtain ⟨h1, h⟩ := He.ba h
  obtain ⟨h2, h⟩ := He.ba h
  obtain ⟨h3, h⟩ := He.ba h
  obtain ⟨h4, h5⟩ := He.ba h
  have z := insB_ok h5
  exact ⟨He.eqO_ok h1, He.eqO_ok h2, of_decide_eq_true h3, h4, z.ha, z.hn, z.ht, z.hm⟩
/-- the def of a classmethod -/
def cmOf (K : PySem.W.Frag) (C : Addr) (m : Str) : Addr := match PySem.W.recIn K (He.ma K C m) "classmethod" with
  | some (.ref f :: _) => f
  | _ => 0
def cmB (K : PySem.W.Frag) (C : Addr) (m : Str) : Bool := (match PySem.W.findCls K (.ref C) (.type "type") m with
  | some (.get (.builtin g) (.ref p) .none (.ref D)) => decide (g = "classmethod.__get__") && (decide (p = He.ma K C m) && decide (D = C))
  | _ => false) && ((match PySem.W.recIn K (He.ma K C m) "classmethod" with
  | some (.ref _ :: _) => true
  | _ => false) && PySem.W.fnIn K (cmOf K C m))
theorem cmB_ok {K : PySem.W.Frag} {C : Addr} {m : Str} (h : cmB K C m = true) : ClX.CMet K C (.type "type") m (He.ma K C m) (cmOf K C m) := by
  obtain ⟨h1, h⟩ := He.ba h
  obtain ⟨h2, h3⟩ := He.ba h
  refine ⟨?_, ?_, h3⟩
  · split at h1
    · rename_i g p D e
      obtain ⟨k1, k⟩ := He.ba h1
      obtain ⟨k2, k3⟩ := He.ba k
      rw [e, of_decide_eq_true k1, of_decide_eq_true k2, of_decide_eq_true k3]
    · cases h1
  · unfold cmOf
    split at h2
    · rename_i f r e
      exact ⟨r, by rw [e]⟩
    · cases h2
def creadB (K : PySem.W.Frag) (C : Addr) : Bool := PySem.W.readsIn K C (.type "type") && He.eqO (PySem.W.specialIn K (.ref C) "__getattribute__") (some (some (.builtin "type.__getattribute__")))
theorem creadB_ok {K : PySem.W.Frag} {C : Addr} (h : creadB K C = true) : ClX.CRead K C (.type "type") := by
  obtain ⟨h1, h2⟩ := He.ba h
  exact ⟨h1, He.eqO_ok h2⟩
end Nk

/-! Iter: enumerate over a tuple; either of two readings (alt); len and + of own classes. -/
namespace PySem
open Sem (wp)
theorem nk_enum_newB {v : Value} {o : Obj} {H : Heap → Prop} (B : Begins v o H) :
    Meets (Builtin.«enumerate.__new__» ⟨[.type "enumerate", v], []⟩) (fun _ R s => H s.heap ∧
      R (.ok (.ret (.ref (s.heap.push o).objs.size))) { s with heap := (s.heap.push o).push { cls := .type "enumerate", data := .fields #[.none, .bool false, .ref s.heap.objs.size, rawInt 0, .none, .none] } }) :=
  .of_wp fun prog w A R s h => by
    obtain ⟨hp, g, d, tk, os⟩ := s; obtain ⟨h1, h⟩ := h
    have hsub := sub_enumerate
    have q1 : ∀ {A' : Around} {E : Value → Shared → Prop} {Q : Value → Shared → Prop}, Q (.ref hp.objs.size) ⟨hp.push o, g, d, tk, os⟩ → wpAny (model prog w) A' (pyIter v) Q E ⟨hp, g, d, tk, os⟩ :=
      fun q => B.iter prog w _ _ ⟨hp, g, d, tk, os⟩ _ h1 q
    wp_walk using q1
    refine wpAny_stack_any fun st => wpAny_pure ?_
    split
    · rename_i c _ _ _ _ _
      cases (c == Value.type "enumerate")
      · wp_walk using q1
        exact ⟨_, rfl, h⟩
      · wp_walk using q1
        exact ⟨_, rfl, h⟩
    · wp_walk using q1
      exact ⟨_, rfl, h⟩
section
variable {prog : Program} {w : World} {A : Around} {E : Value → Shared → Prop} {s : Shared}
theorem nk_enum1 {v : Value} {o : Obj} {H : Heap → Prop} {Q : Value → Shared → Prop} (B : Begins v o H) (h1 : H s.heap)
    (h : ∀ h', IsEnum h' (s.heap.objs.size + 1) s.heap.objs.size 0 .none → h'.get? s.heap.objs.size = some o → h'.objs.size = s.heap.objs.size + 2 →
      (∀ b o, s.heap.get? b = some o → h'.get? b = some o) → Q (.ref (s.heap.objs.size + 1)) { s with heap := h' }) :
    wpAny (model prog w) A (call (.type "enumerate") [v]) Q E s := by
  refine callType_new F.called_enumerate (by decide) (F.typeCall_enumerate_1 _) (F.newCall_enumerate_1 _) (fun obj => F.args_object_init_2 obj _) F.entry_enumerate_new
    (nk_enum_newB B) ⟨h1, ?_⟩
  have hz : (s.heap.push o).objs.size = s.heap.objs.size + 1 := Heap.size_push ..
  show _ ∧ _
  rw [hz]
  have he : IsEnum ((s.heap.push o).push { cls := .type "enumerate", data := .fields #[.none, .bool false, .ref s.heap.objs.size, rawInt 0, .none, .none] }) (s.heap.objs.size + 1) s.heap.objs.size 0 .none := by
    have := Heap.get?_push_size (s.heap.push o) (o := { cls := .type "enumerate", data := .fields #[.none, .bool false, .ref s.heap.objs.size, rawInt 0, .none, .none] }) rfl
    rw [hz] at this; exact this
  refine ⟨⟨_, he, rfl⟩, h _ he (Heap.get?_push_of_some _ (Heap.get?_push_size _ B.free)) (by rw [Heap.size_push, hz]) fun b o x => Heap.get?_push_of_some _ (Heap.get?_push_of_some _ x)⟩
end
end PySem
namespace Nk
open PySem PySem.Spec PyProof.Rows L2 StX
def IteT (K : PySem.W.Frag) (a : Addr) : It :=
  ⟨fun i H => ∃ (xs : List V) (x : V), SqT K H a xs ∧ xs[i]? = some x, fun i H v H' => ∃ T x, v = .ref T ∧ H T = none ∧ H' = upd H T (.tup [.int (i : Nat), x]) ∧ ∀ xs, SqT K H a xs → xs[i]? = some x, fun i H => ∃ xs : List V, SqT K H a xs ∧ xs.length ≤ i⟩
theorem turn_enumT {P : Program} {w : World} {K : PySem.W.Frag} {elts : List Expr} {kk : Nat} {tpos : Pos} (a e it : Addr) :
    Turn P w K (.Tuple elts kk tpos) (IteT K a) [e, it] e (fun i h => (∃ old, IsEnum h e it ((i : Nat) : Int) old) ∧ h.IsTupleIter it a i ∧ e ≠ it) where
  mem := by simp
  obj := fun i h st b hb => by
    obtain ⟨⟨old, he⟩, ⟨o, ho, hc, hd⟩, _⟩ := st
    have e' : b = e ∨ b = it := by simpa using hb
    rcases e' with z | z
    · rw [z]; exact ⟨_, he, fun v q => nomatch q⟩
    · rw [z]; exact ⟨o, ho, fun v q => by rw [hd] at q; cases q⟩
  keep := fun i h h' st k => let ⟨⟨old, he⟩, hi, hne⟩ := st; ⟨⟨old, k e (by simp) _ he⟩, hi.at fun o q => k it (by simp) o q, hne⟩
  item := by
    intro X hP hw hK hc i pins s σ H E I hf st hg
    subst hP hw hK
    obtain ⟨⟨old, he⟩, hit, hne⟩ := st
    obtain ⟨xs, x, hq, hx⟩ := hg
    obtain ⟨its, rv, p, hz⟩ := I.tuple hq
    obtain ⟨u, hu, ru⟩ := rv.get hx
    have hel : e < s.heap.objs.size := Heap.lt_size he
    have hil : it < s.heap.objs.size := by obtain ⟨_, q, _⟩ := hit; exact Heap.lt_size q
    have pT : s.heap.IsTuple a its.toArray := p
    have hae : a ≠ it := fun z => by
      obtain ⟨o, ho, hc1, _⟩ := pT
      obtain ⟨o2, ho2, hc2, _⟩ := hit
      rw [z, ho2] at ho; cases ho; rw [hc2] at hc1; exact absurd (Value.type.inj hc1) (by decide)
    have hee : e ∉ [it, a] := fun z => by
      have z' : e = it ∨ e = a := by simpa using z
      rcases z' with z | z
      · exact hne z
      · obtain ⟨o, ho, hc1, _⟩ := pT
        rw [← z, he] at ho; cases ho; exact absurd (Value.type.inj hc1) (by decide)
    have hlt : i < its.toArray.size := by
      have := rv.length
      have h2 : i < xs.length := (List.getElem?_eq_some_iff.mp hx).1
      simp; omega
    refine wpAny_pyNext_enum_itemD (Draws.tuple (show X.A.in1.handled = none from I.ok.hd hc) it a hae its.toArray) he ⟨hit, pT⟩ hlt hne hee fun x2 h' tk hx2 ho hit' hT hsz hk => ?_
    have hu2 : u = x2 := by
      have h1 : its.toArray[i]? = some u := by simpa using hu
      have h2 : its.toArray[i]? = some x2 := hx2
      rw [h1] at h2; exact Option.some.inj h2
    subst hu2
    refine ⟨_, rfl, wpAny_letOwnedTupleGo_enum (s := { s with heap := h', toks := tk + 1 }) ho fun h'' he' sb => ?_⟩
    have hT2 : h''.get? s.heap.objs.size = some { cls := .type "tuple", data := .seq #[.int i tk, u] } := (sb.2 _ (Nat.ne_of_gt hel)).trans hT
    have new : ObjOk X.prog X.w (upd H s.heap.objs.size (.tup [.int (i : Nat), x])) h'' s.heap.objs.size (.tup [.int (i : Nat), x]) :=
      ⟨by show 2 ≤ sizeLine; decide, [.int i tk, u], .cons ⟨_, rfl⟩ (.cons ru .nil), ⟨_, hT2, rfl, _, rfl⟩⟩
    have I1 : Inv X pins σ (upd H s.heap.objs.size (.tup [.int (i : Nat), x])) { s with heap := h'', toks := tk + 1 } :=
      I.turnedNew (ch := [e, it]) (fun b ob hb q => (sb.2 b (fun z => hb (by simp [z]))).trans (hk b ob (fun z => hb (by simp [z])) (fun z => hb (by simp [z])) q)) hf (Nat.le_refl _) new
    refine ⟨.ref s.heap.objs.size, _, I1, rfl, ⟨_, x, rfl, I.hok.fresh (Nat.le_refl _), rfl, fun ys hy => by rw [I.tuple_inj hy hq]; exact hx⟩, ⟨⟨u, ?_⟩, hit'.1.at fun o q => (sb.2 it (Ne.symm hne)).trans q, hne⟩, fun b hb => ?_⟩
    · have e1 : ((i + 1 : Nat) : Int) = (i : Int) + 1 := by omega
      rw [e1]; exact he'
    · have hb' : b < s.heap.objs.size := by
        have e' : b = e ∨ b = it := by simpa using hb
        rcases e' with z | z
        · rw [z]; exact hel
        · rw [z]; exact hil
      rw [upd_ne (Nat.ne_of_lt hb')]
      exact (hf b hb).1
  done := by
    intro X hP hw hK hc i pins s σ H E I hf st hg
    subst hP hw hK
    obtain ⟨⟨old, he⟩, hit, hne⟩ := st
    obtain ⟨xs, hq, hx⟩ := hg
    obtain ⟨its, rv, p, hz⟩ := I.tuple hq
    have pT : s.heap.IsTuple a its.toArray := p
    obtain ⟨f0, f1, f2, f3, f4, f5⟩ := hf it (by simp)
    have hl := rv.length
    have hT : s.TypeIs (.ref e) "enumerate" := ⟨_, he, rfl⟩
    unfold pyNext
    refine wpAny_bind (wpAny_attempt (wpAny_callSpecial?_slot (name := Str.ofString "__next__") hT F.slot_enumerate_next
      (wpAny_call_entry F.slot_enumerate_next hT F.entry_enumerate_next ?_ (F.args_enumerate_next_1 _))))
    show wpAny _ _ (field (.ref e) 2 >>= _) _ _ _
    refine wpAny_bind (wpAny_field he rfl (x := .ref it) rfl ?_)
    refine wpAny_bind (wpAny_nextOf_tuple_end (show X.A.in1.handled = none from I.ok.hd hc) hit pT (by simp; omega) fun h' x he' hx' => ?_)
    obtain ⟨o, ho, hc⟩ := hx'
    refine wpAny_bind (wpAny_isInstance (T := "StopIteration") (b := true) ⟨o, ho, hc⟩ isSubtype_stop ?_)
    exact wpAny_pure ⟨rfl, I.turned (t' := s.toks) (fun b o hb q => he' b o (fun z => hb (by simp [z])) q) f0 f1 f3 f4 f5⟩
  self := fun A i s Q E st h => let ⟨⟨_, he⟩, _⟩ := st; wpAny_pyIter_enum he h
def iEnumT (K : PySem.W.Frag) (ta : TA) : TI := fun σ H R => ta σ H fun vs H1 => ∃ a xs, vs = [.ref a] ∧ SqT K H1 a xs ∧ R (IteT K a) H1
theorem pi_enumT {X : Cx} {e : Expr} {ta : TA} {p pos tpos : Pos} {elts : List Expr} {kk : Nat} (hg : Gl X "enumerate") (hm : X.mg "enumerate" = none) (ha : PA X [e] ta) (hs : starEach [e] X.env = [(false, eval e X.env)] := by rfl) :
    PI X (.Tuple elts kk tpos) (.Call (.Name "enumerate" p) [e] [] pos) (iEnumT X.K ta) := by
  refine ⟨fun pins s σ H R I h => ?_⟩
  refine Call_ (ld_blt I hg hm boot_enumerate (PyProof.Rows.callWith_type1 (thn (ha.run pos pins s σ H _ I h) fun us s1 ⟨vs, H1, I1, r1, q1⟩ => ?_) hs rfl))
  obtain ⟨a, xs, ex, hq, q⟩ := q1
  subst ex
  cases r1 with
  | cons r rr =>
    cases rr
    cases r
    obtain ⟨its, rv, p', hz⟩ := I1.tuple hq
    refine nk_enum1 (begins_tuple a its.toArray) p' fun h' he ho hsz hk => wpAny_pyIter_enum he ?_
    have I2 : Inv X pins σ H1 { s1 with heap := h' } := I1.kept (t' := s1.toks) hk
    refine ⟨s1.heap.objs.size + 1, [s1.heap.objs.size + 1, s1.heap.objs.size], _, _, H1, rfl, I2, turn_enumT a (s1.heap.objs.size + 1) s1.heap.objs.size, ⟨⟨.none, he⟩, ⟨_, ho, rfl, rfl⟩, Nat.succ_ne_self _⟩, fun b hb => ?_, q⟩
    have e' : b = s1.heap.objs.size + 1 ∨ b = s1.heap.objs.size := by simpa using hb
    have hle : s1.heap.objs.size ≤ b := by
      rcases e' with z | z
      · rw [z]; exact Nat.le_add_right _ _
      · rw [z]; exact Nat.le_refl _
    exact I1.fpOk hle (I1.hok.fresh hle)
theorem r_enumT {K : PySem.W.Frag} {σ : L2.St} {H : Hp} {ta : TA} {R : It → Hp → Prop} (h : ta σ H fun vs H1 => ∃ a xs, vs = [.ref a] ∧ SqT K H1 a xs ∧ R (IteT K a) H1) : iEnumT K ta σ H R := h

/-! ### either of two readings -/
def tAlt (t u : TE) : TE := fun σ H Q => t σ H Q ∨ u σ H Q
theorem pe_alt {X : Cx} {e : Expr} {t u : TE} (h1 : PE X e t) (h2 : PE X e u) : PE X e (tAlt t u) := ⟨fun pins s σ H Q I h => h.elim (h1.run pins s σ H Q I) (h2.run pins s σ H Q I)⟩
def rAlt (r r' : R2) : R2 := fun x y H Q => r x y H Q ∨ r' x y H Q
theorem op_alt {X : Cx} {o : Value → Value → Sem Value} {r r' : R2} (h1 : OpR X o r) (h2 : OpR X o r') : OpR X o (rAlt r r') := fun pins s σ H x y v u Q I rx ry h => h.elim (h1 pins s σ H x y v u Q I rx ry) (h2 pins s σ H x y v u Q I rx ry)

/-! ### len and + of own classes -/
def rLenO (C : Addr) (sp : Sp) : List V → Hp → VK → Prop := fun xs H Q => ∃ a dx fs, xs = [.ref a] ∧ H a = some (.ins C dx fs) ∧ sp [.ref a] H (fun v H' => ∃ n : Int, v = .int n ∧ 0 ≤ n ∧ n < 2 ^ 63 ∧ Q (.int n) H') noE
section
variable {X : Cx} {k j : Nat} {C f : Addr} {ps : List Str} {sp : Sp} {K : PySem.W.Frag}
theorem call_lenO (T : OwnM X.K C "__len__" f) (F : Fo X.prog X.w X.K X.mg X.base f k ps sp) (hr : Room j X.A) (hk : k + 1 ≤ j) : CallR X (.builtin "len") (rLenO C sp) := by
  intro pins s σ H xs us Q I r h
  obtain ⟨a, dx, fs, rfl, ea, hsp⟩ := h
  obtain ⟨u, rfl, ru⟩ := vals1 r
  cases ru
  obtain ⟨fd, F, hb⟩ := F
  obtain ⟨mA, O, _⟩ := ins_get I.hok ea
  obtain ⟨od, J, _⟩ := O.look
  obtain ⟨m, hF⟩ := I.fr
  refine PySem.W.len_K hF I.ok.mod.kin J T.at_ T.fn ?_
  refine wpAny_mono (own_run (vs := [.ref a]) F hb (hr.mono hk).in1 rfl I (.cons rfl .nil) hsp) (fun v s' hv => ?_) fun _ _ z => z
  obtain ⟨z, H', I', rz, n, rfl, h0, h1, q⟩ := hv
  obtain ⟨t, rfl⟩ := rz
  exact ⟨⟨h0, h1⟩, .int n, H', I'.tok _, ⟨_, rfl⟩, q⟩
theorem relV_back {v : V} {u : Value} {Q : Value → Shared → Prop} {s : Shared} (r : RelV v u) (q : Q u s) : PySem.W.CmpBack Q u s := by
  cases u with
  | notImplemented => cases v <;> first | (cases (show Value.notImplemented = _ from r)) | (obtain ⟨_, z⟩ := r; exact Value.noConfusion z)
  | _ => exact q
/-- x op y by x's own method: y of a class without the operator, or of the same one -/
def tBinO (K : PySem.W.Frag) (C : Addr) (nm : String) (sp : Sp) (E : XK) (ta tb : TE) : TE := fun σ H Q => ta σ H fun x H1 => tb σ H1 fun y H2 => ∃ a dx fs tb, x = .ref a ∧ H2 a = some (.ins C dx fs) ∧ TyX K H2 y tb ∧ PySem.W.nkRight K C nm tb = true ∧ sp [x, y] H2 Q E
theorem pe_binO {op : Operator} {W : WX} {E : XK} {a b : Expr} {ta tb : TE} {pos : Pos} {m : Str} (hm : m = PySem.dunder op.info.2) (T : OwnM X.K C m f) (hc : PySem.W.selfFirst X.K C = true) (F : Fs X.prog X.w X.K X.mg X.base f k sp) (hr : Room j X.A) (hk : k ≤ j) (tk : Takes X W) (hW : ∀ cls d σ H, E cls d H → W cls d σ H)
    (ha : PE X a ta) (hb : PE X b tb) : PE X (.BinOp a op b pos) (tBinO X.K C op.info.2 sp E ta tb) := by
  subst hm
  refine ⟨fun pins s σ H Q I h => ?_⟩
  refine wpAny_BinOp (binT ha hb I (R := fun x y H2 => ∃ a dx fs tb, x = .ref a ∧ H2 a = some (.ins C dx fs) ∧ TyX X.K H2 y tb ∧ PySem.W.nkRight X.K C op.info.2 tb = true ∧ sp [x, y] H2 Q E) h fun v u s2 x y H2 I2 rx ry q => ?_)
  obtain ⟨a, dx, fs, tb, rfl, ea, ty, hn, hsp⟩ := q
  cases rx
  obtain ⟨mA, O, _⟩ := ins_get I2.hok ea
  obtain ⟨od, J, _⟩ := O.look
  obtain ⟨φ, Z, p, _⟩ := kit_of I2 ry ty
  refine PySem.W.nk_binop I2.kIn J (Z.ty _ _ I2.kIn p) hc hn T.at_ T.fn ?_
  refine wpAny_mono (wpAny_call (run_fnR (us := [Value.ref a, u]) (vs := [.ref a, y]) F (hr.mono hk) (passes_call tk hW) I2 (.cons rfl (.cons ry .nil)) hsp)) (fun v s' hv => ?_) fun _ _ z => z
  obtain ⟨z, H', I', rz, q⟩ := hv
  exact relV_back rz ⟨z, H', I', rz, q⟩
end
section
variable {σ : L2.St} {H : Hp} {Q : VK} {ta tb : TE} {C : Addr} {sp : Sp} {E : XK} {K : PySem.W.Frag} {nm : String}
theorem r_binO (h : ta σ H fun x H1 => tb σ H1 fun y H2 => ∃ a dx fs tb, x = .ref a ∧ H2 a = some (.ins C dx fs) ∧ TyX K H2 y tb ∧ PySem.W.nkRight K C nm tb = true ∧ sp [x, y] H2 Q E) : tBinO K C nm sp E ta tb σ H Q := h
theorem r_altL {t u : TE} (h : t σ H Q) : tAlt t u σ H Q := .inl h
theorem r_altR {t u : TE} (h : u σ H Q) : tAlt t u σ H Q := .inr h
theorem r_mkA {tf : TE} {t : TA} (h : tf σ H fun y H1 => y = .ref C ∧ t σ H1 fun vs H2 => ∀ x dx, H2 x = none → H2 dx = none → dx ≠ x → sp (.ref x :: vs) (upd (upd H2 dx (.own x)) x (.ins C dx [])) (fun v H3 => v = .non ∧ Q (.ref x) H3) E) : tMkA C sp E tf t σ H Q := h
theorem r_me {m : Str} {t : TA} (h : ta σ H fun x H1 => ∃ a dx fs, x = .ref a ∧ H1 a = some (.ins C dx fs) ∧ fs.lookup m = none ∧ t σ H1 fun vs H2 => sp (x :: vs) H2 Q E) : tMe C m sp E ta t σ H Q := h
theorem r_fld {f : Str} (h : ta σ H fun x H1 => ∃ a C dx fs v, x = .ref a ∧ H1 a = some (.ins C dx fs) ∧ Cls K C ∧ NoAttr K C f ∧ fs.lookup f = some v ∧ Q v H1) : tFld K ta f σ H Q := h
end
/-- raise C(v, u), C an own exception with two fields -/
def spExc2 (C : Addr) (f g : Str) : Sp := fun vs H Q _ => ∃ (a : Addr) (v u : V), vs = [.ref a, v, u] ∧ H a = some (exo a C none) ∧ ∀ dx, H dx = none → dx ≠ a → Q .non (upd (upd (upd H dx (exd dx [(f, v)])) a (exo a C (some dx))) dx (exd dx [(g, u), (f, v)]))
theorem r_mkO2 {C : Addr} {f g : Str} {v u : V} {H : Hp} {Q : XK} (h : ∀ d H', Same H H' → H' d = some (.xd [(g, u), (f, v)]) → Q (.ref C) (some d) H') : [v, u].length ≤ 1000 ∧ ∀ a, H a = none → spExc2 C f g (.ref a :: ([v, u] ++ [])) (upd H a (exo a C none))
    (fun z H2 => z = .non ∧ ∃ (d : Addr) (fs : List (Str × V)), H2 a = some (exo a C (some d)) ∧ H2 d = some (exd d fs) ∧ H d = none ∧ Q (.ref C) (some d) (upd (del H2 a) d (.xd fs))) (fun _ _ _ => False) := by
  refine ⟨by simp, fun a ha => ⟨a, v, u, rfl, upd_same, fun dx hd hne => ⟨rfl, dx, [(g, u), (f, v)], by rw [upd_ne (Ne.symm hne), upd_same], upd_same, ?_, ?_⟩⟩⟩
  · rw [upd_ne hne] at hd
    exact hd
  · have hd' : H dx = none := by rw [upd_ne hne] at hd; exact hd
    refine h dx _ (fun b o hb => ?_) upd_same
    have h1 : b ≠ dx := ne_of_none hb hd'
    have h2 : b ≠ a := ne_of_none hb ha
    rw [upd_ne h1, del_ne h2, upd_ne h1, upd_ne h2, upd_ne h1, upd_ne h2]
    exact hb
/-! ### texts: words joined and cut again -/
theorem split_join {ws : List Str} (hne : ws ≠ []) (h : ∀ x ∈ ws, 32 ∉ x.cps.toList) : Txt.split (Txt.join " " ws) " " = ws := by
  have e32 : TL.tl (Str.ofString " ") = [32] := by decide +kernel
  have k : (Str.ofString " ").cps.all (· < 256) = true := by decide +kernel
  have e := TL.split_spl (Txt.join " " ws) " " (by rw [e32]; simp) (TL.kind_ok k)
  rw [TL.join_eq, TL.tl_join, e32, TL.spl_join (by simpa using hne) (fun p hp => by
    obtain ⟨x, hx, rfl⟩ := List.mem_map.mp hp
    exact h x hx)] at e
  rw [TL.join_eq]
  exact TL.map_tl_inj e
theorem walk_enumT {K : PySem.W.Frag} {a : Addr} {xs : List V} : Walk (IteT K a) xs.length (fun H => SqT K H a xs) (fun i H v H' => ∃ T x, v = .ref T ∧ H T = none ∧ H' = upd H T (.tup [.int (i : Nat), x]) ∧ xs[i]? = some x) :=
  ⟨fun i H hi h => ⟨xs, xs[i], h, List.getElem?_eq_getElem hi⟩, fun H h => ⟨xs, h, Nat.le_refl _⟩, fun i H v H' hi h ⟨T, x, e, hn, e2, q⟩ => ⟨T, x, e, hn, e2, q xs h⟩⟩
section
variable {K : PySem.W.Frag} {σ : L2.St} {H : Hp} {Q : VK}
theorem r_gcons {v : V} {r : List V} {t : TG} {u : TGs} {R : L2.St → Hp → Prop} (h : t v σ H fun σ' H' => u r σ' H' R) : gCons t u (v :: r) σ H R := ⟨v, r, rfl, h⟩
theorem r_gnil {R : L2.St → Hp → Prop} (h : R σ H) : gNil [] σ H R := ⟨rfl, h⟩
theorem r_gtup {a : Addr} {xs : List V} {n : Nat} {t : TGs} {R : L2.St → Hp → Prop} (h : SqT K H a xs) (hn : xs.length = n) (q : t xs σ H R) : gTup K n t (.ref a) σ H R := ⟨a, xs, rfl, h, hn, q⟩
theorem r_mk {C : Addr} {sp : Sp} {dvs : List V} {E : XK} {t : TA} (h : t σ H fun vs H1 => ∀ x dx, H1 x = none → H1 dx = none → dx ≠ x → sp (.ref x :: (vs ++ dvs)) (upd (upd H1 dx (.own x)) x (.ins C dx [])) (fun v H2 => v = .non ∧ Q (.ref x) H2) E) : tMake C sp dvs E t σ H Q := h
theorem r_mkK {C : Addr} {sp : Sp} {n m : Nat} {gV : List V → List V → List V} {E : XK} {t tk : TA} (h : t σ H fun vs H1 => tk σ H1 fun zs H2 => vs.length = n ∧ zs.length = m ∧ ∀ x dx, H2 x = none → H2 dx = none → dx ≠ x → sp (gV (.ref x :: vs) zs) (upd (upd H2 dx (.own x)) x (.ins C dx [])) (fun v H3 => v = .non ∧ Q (.ref x) H3) E) : tMakeK C n m sp gV E t tk σ H Q := h
theorem r_prop {C : Addr} {sp : Sp} {dvs : List V} {E : XK} {ta : TE} (h : ta σ H fun x H1 => ∃ a dx fs, x = .ref a ∧ H1 a = some (.ins C dx fs) ∧ sp (.ref a :: dvs) H1 Q E) : tProp C sp dvs E ta σ H Q := h
theorem r_mkO {C : Addr} {sp : Sp} {dvs : List V} {ta : TA} {R : XK} (h : ta σ H fun vs H1 => vs.length ≤ 1000 ∧ ∀ a, H1 a = none → sp (.ref a :: (vs ++ dvs)) (upd H1 a (exo a C none))
  (fun v H2 => v = .non ∧ ∃ (d : Addr) (fs : List (Str × V)), H2 a = some (exo a C (some d)) ∧ H2 d = some (exd d fs) ∧ H1 d = none ∧ R (.ref C) (some d) (upd (del H2 a) d (.xd fs))) (fun _ _ _ => False)) : tMkO C sp dvs ta σ H R := h
theorem r_sfld {f : Str} {ta tv : TE} {D : Ends} (h : tv σ H fun y H1 => ta σ H1 fun x H2 => ∃ a C dx fs, x = .ref a ∧ H2 a = some (.ins C dx fs) ∧ Cls K C ∧ NoAttr K C f ∧ fs.length < 1000 ∧ D.nx σ (upd H2 a (.ins C dx (putF f y fs)))) : sFld K ta tv f D σ H := h
theorem r_sfaug {f : Str} {ta tv : TE} {rd : V → V → Hp → VK → Prop} {D : Ends} (h : ta σ H fun x H1 => ∃ a C dx fs v, x = .ref a ∧ H1 a = some (.ins C dx fs) ∧ Cls K C ∧ NoAttr K C f ∧ fs.lookup f = some v ∧
  tv σ H1 fun y H2 => rd v y H2 fun z H3 => ∃ dx' fs', H3 a = some (.ins C dx' fs') ∧ fs'.length < 1000 ∧ D.nx σ (upd H3 a (.ins C dx' (putF f z fs')))) : sFldAug K ta tv rd f D σ H := h
theorem r_star {te : TE} {t : TA} {R : List V → Hp → Prop} (h : te σ H fun x H1 => ∃ p xs, x = V.ref p ∧ (SqT K H1 p xs ∨ SqL K H1 p xs) ∧ t σ H1 fun ys H2 => R (xs ++ ys) H2) : StX.tStar K te t σ H R := h
theorem r_while {c : TT} {tb : TS} {D : Ends} (Pv : Nat → L2.St → Hp → Prop) (n : Nat) (h0 : Pv n σ H) (hs : ∀ m σ H, Pv m σ H → c σ H fun b H1 => if b = true then ∃ N : L2.St → Hp → Prop, (∀ σ' H', N σ' H' → ∃ m', m' < m ∧ Pv m' σ' H') ∧ tb { D with nx := N, ct := N, bk := D.nx } σ H1 else D.nx σ H1) : tWhile c tb D σ H := ⟨Pv, ⟨n, h0⟩, hs⟩
end
/-- == of own objects inside a list, a tuple -/
theorem eqG_own {X : Cx} {C f : Addr} {n : Nat} {ps : List Str} {sp : Sp} {R : Addr → Addr → Hp → Prop} (T : EqC X.K C f) (F : Fo X.prog X.w X.K X.mg X.base f n ps sp) (h : ∀ a b H Q E, R a b H → (∀ H', Ext H H' → Q (.bl true) H') → sp [.ref a, .ref b] H Q E) : EqG X n (DIns C R) := by
  obtain ⟨fd, F, hb⟩ := F
  refine eqG_ins (E := noE) (F.imp fun vs H Q E ⟨a, b, e, r, q⟩ => e ▸ h a b H Q E r q) T.eq T.fn hb (passes_call (W := fun _ _ _ _ => False) LamX.takes0 fun _ _ _ _ z => z)
/-! ### all but lists and tables stays -/
def Nl (H H' : Hp) : Prop := ∀ b o, H b = some o → (∀ xs, o ≠ .lst xs) → (∀ ps, o ≠ .tbl ps) → H' b = some o
section
variable {H H' H2 : Hp} {D a : Addr} {xs ys : List V} {K : PySem.W.Frag}
theorem Nl.refl (H : Hp) : Nl H H := fun _ _ h _ _ => h
theorem Nl.trans (h : Nl H H') (g : Nl H' H2) : Nl H H2 := fun b o e n m => g b o (h b o e n m) n m
theorem Nl.same (h : Same H H') : Nl H H' := fun b o e _ _ => h b o e
theorem Nl.ext (h : LamX.ExtN H H') : Nl H H' := fun b o e _ m => h b o e m
theorem Nl.kp {p c : Addr} {ns : List Int} {n : Nat} (P : Pen H p c ns n) (k : Kp p H H') : Nl H H' := fun b o e n _ => k b o e (P.off e n)
theorem Nl.put (n : Nl H H') (h : H' D = some (.lst xs)) : Nl H (upd H' D (.lst ys)) := fun b o e n1 n2 => by
  have h1 := n b o e n1 n2
  rw [upd_ne (fun z => by rw [z, h] at h1; exact n1 _ (Option.some.inj h1).symm)]
  exact h1
theorem Nl.new {o : HO} (n : Nl H H') (h : H' D = none) : Nl H (upd H' D o) := fun b u e n1 n2 => by
  rw [upd_ne (ne_of_none (n b u e n1 n2) h)]
  exact n b u e n1 n2
theorem SqT.nl (h : SqT K H a xs) (n : Nl H H') : SqT K H' a xs := by
  rcases h with (h | ⟨o, h⟩) | h
  · exact .inl (.inl (n _ _ h (fun _ z => by cases z) (fun _ z => by cases z)))
  · exact .inl (.inr ⟨o, n _ _ h (fun _ z => by cases z) (fun _ z => by cases z)⟩)
  · exact .inr h
end
end Nk

/-! Sh1: values as trees (D), cells, what a tree is in a heap (Rep), worlds that go on (Le, Fut), results (R, RS). -/
namespace Sh
open PySem PySem.Spec PyProof.Rows L2 Nk

/-- the tables of code objects in which lambdas are laid, with their names -/
class TabSet where
  TS : PySem.W.Frag → List (Addr × Str)
/-- a value of the program: what never changes as a tree; what changes by the number of its cell -/
inductive D where
  | non | bl (b : Bool) | int (i : Int) | str (x : Str) | ty (n : String) | cls (c : String)
  | tup (xs : List D) | lst (xs : List D) | obj (c : String) (fs : List (Str × D)) | exc (c : String) (fs : List (Str × D))
  | dk (kvs : List (Key × D)) | dt (kvs : List (List Key × D)) | ref (n : Nat) | scr (xs : List D) | adr (a : Addr)
  deriving Inhabited

inductive Cell where
  | lst (xs : List D) | ins (c : String) (fs : List (Str × D)) | dk (kvs : List (Key × D)) | dt (kvs : List (List Key × D))
  deriving Inhabited
abbrev Store := List Cell
/-- a slot: nothing, a value, or something that only this slot holds and that changes -/
inductive Sl where
  | no | val (d : D) | own (c : Cell)
  deriving Inhabited
abbrev En := List Sl
structure Exn where
  c : String
  fs : List (Str × D)
inductive R (α : Type) where
  | ok (a : α) (S : Store) | er (x : Exn) (S : Store) | no
def R.bind {α β : Type} (r : R α) (k : α → Store → R β) : R β := match r with
  | .ok a S => k a S
  | .er x S => .er x S
  | .no => .no
section
variable {α β : Type} {a : α} {S : Store} {k : α → Store → R β} {x : Exn}
@[simp] theorem ok_bind : (R.ok a S).bind k = k a S := rfl
@[simp] theorem er_bind : (R.er x S : R α).bind k = .er x S := rfl
@[simp] theorem no_bind : (R.no : R α).bind k = .no := rfl
@[simp] theorem ite_bind {c : Prop} [Decidable c] {r s : R α} : (if c then r else s).bind k = if c then r.bind k else s.bind k := by split <;> rfl
end
def R.of {α : Type} (S : Store) : Option α → R α
  | some a => .ok a S
  | none => .no
@[simp] theorem of_some {α : Type} {a : α} {S : Store} : R.of S (some a) = .ok a S := rfl
@[simp] theorem of_none {α : Type} {S : Store} : R.of S (none : Option α) = .no := rfl
inductive RS where
  | nx (e : En) (S : Store) | rt (d : D) (S : Store) | bk (e : En) (S : Store) | ct (e : En) (S : Store) | er (x : Exn) (e : En) (S : Store) | no

/-! ### worlds -/
structure Wo where
  K : PySem.W.Frag
  Z : Addr → Prop
  m : List Addr
  H : Hp
/- -/ def KpL (K : PySem.W.Frag) (a : Addr) (xs : List V) : Prop := ∃ (o : Obj) (its : Array Value) (n : Nat), K.lookup a = some o ∧ o.cls = .type "list" ∧ o.dict = none ∧ o.data = .seq its n ∧ its.size ≤ sizeLine ∧ Vals xs its.toList
def KpT (K : PySem.W.Frag) (a : Addr) (xs : List V) : Prop := ∃ (o : Obj) (its : Array Value) (n : Nat), K.lookup a = some o ∧ o.cls = .type "tuple" ∧ o.data = .seq its n ∧ its.size ≤ sizeLine ∧ Vals xs its.toList
/-- the list, the tuple at a, that stays -/
def TrL (w : Wo) (a : Addr) (xs : List V) : Prop := ¬ w.Z a ∧ w.H a = some (.lst xs) ∧ xs.length ≤ sizeLine
def TrT (w : Wo) (a : Addr) (xs : List V) : Prop := ((¬ w.Z a ∧ Rd w.H a (.tup xs)) ∨ KpT w.K a xs) ∧ xs.length ≤ sizeLine
/-- a list that nobody changes, wherever it is -/
def TrS (w : Wo) (a : Addr) (xs : List V) : Prop := ((¬ w.Z a ∧ Rd w.H a (.lst xs)) ∨ KpL w.K a xs) ∧ xs.length ≤ sizeLine
theorem TrS.sq {w : Wo} {a : Addr} {xs : List V} (h : TrS w a xs) : SqL w.K w.H a xs := h.1.imp And.right id
theorem TrL.sq {w : Wo} {a : Addr} {xs : List V} (h : TrL w a xs) : SqL w.K w.H a xs := .inl (.inl h.2.1)
theorem TrT.sq {w : Wo} {a : Addr} {xs : List V} (h : TrT w a xs) : SqT w.K w.H a xs := h.1.imp And.right id
mutual
def Rep (w : Wo) : D → V → Prop
  | .non, v => v = .non
  | .bl b, v => v = .bl b
  | .int i, v => v = .int i
  | .str x, v => v = .str x ∧ x.length ≤ sizeLine
  | .ty n, v => v = .ty n
  | .cls c, v => v = .ref (He.ga w.K c)
  | .tup ds, v => ∃ a vs, v = .ref a ∧ TrT w a vs ∧ Reps w ds vs
  | .lst ds, v => ∃ a vs, v = .ref a ∧ TrL w a vs ∧ Reps w ds vs
  | .obj c fs, v => ∃ a dx gs, v = .ref a ∧ ¬ w.Z a ∧ w.H a = some (.ins (He.ga w.K c) dx gs) ∧ RepF w fs gs
  | .exc c fs, v => ∃ a d gs, v = .ref a ∧ ¬ w.Z a ∧ w.H a = some (exK (.ref (He.ga w.K c)) (some d) a) ∧ ¬ w.Z d ∧ w.H d = some (.xd gs) ∧ RepF w fs gs
  | .dk kvs, v => ∃ a vs, v = .ref a ∧ ¬ w.Z a ∧ w.H a = some (.dK vs) ∧ RepK w kvs vs
  | .dt kvs, v => ∃ a vs, v = .ref a ∧ ¬ w.Z a ∧ w.H a = some (.dT vs) ∧ RepT w kvs vs
  | .ref n, v => ∃ a, v = .ref a ∧ w.m[n]? = some a
  | .scr ds, v => ∃ a vs, v = .ref a ∧ TrS w a vs ∧ Reps w ds vs
  | .adr a, v => v = .ref a
def Reps (w : Wo) : List D → List V → Prop
  | [], vs => vs = []
  | d :: ds, vs => ∃ v r, vs = v :: r ∧ Rep w d v ∧ Reps w ds r
def RepF (w : Wo) : List (Str × D) → List (Str × V) → Prop
  | [], vs => vs = []
  | (f, d) :: ds, vs => ∃ v r, vs = (f, v) :: r ∧ Rep w d v ∧ RepF w ds r
def RepK (w : Wo) : List (Key × D) → List (Key × V) → Prop
  | [], vs => vs = []
  | (f, d) :: ds, vs => ∃ v r, vs = (f, v) :: r ∧ Rep w d v ∧ RepK w ds r
def RepT (w : Wo) : List (List Key × D) → List (List Key × V) → Prop
  | [], vs => vs = []
  | (f, d) :: ds, vs => ∃ v r, vs = (f, v) :: r ∧ Rep w d v ∧ RepT w ds r
end
/-- from one world to a later one: what does not change stays -/
structure Le (w w' : Wo) : Prop where
  K : w'.K = w.K
  z : ∀ a o, w.H a = some o → (∀ ps, o ≠ .tbl ps) → ¬ w.Z a → ¬ w'.Z a
  m : ∀ (n : Nat) (a : Addr), w.m[n]? = some a → w'.m[n]? = some a
  keep : ∀ a o, w.H a = some o → (∀ ps, o ≠ .tbl ps) → ¬ w.Z a → w'.H a = some o
theorem Le.refl (w : Wo) : Le w w := ⟨rfl, fun _ _ _ _ h => h, fun _ _ h => h, fun _ _ h _ _ => h⟩
theorem Le.trans {w1 w2 w3 : Wo} (h : Le w1 w2) (g : Le w2 w3) : Le w1 w3 :=
  ⟨g.K.trans h.K, fun a o e n z => g.z a o (h.keep a o e n z) n (h.z a o e n z), fun n a e => g.m n a (h.m n a e), fun a o e n z => g.keep a o (h.keep a o e n z) n (h.z a o e n z)⟩
theorem Rd.le {w w' : Wo} {a : Addr} {u : HO} (l : Le w w') (hu : ∀ ps, u ≠ .tbl ps) (z : ¬ w.Z a) (h : Rd w.H a u) : ¬ w'.Z a ∧ Rd w'.H a u := by
  rcases h with h | ⟨o, h⟩
  · exact ⟨l.z _ _ h hu z, .inl (l.keep _ _ h hu z)⟩
  · exact ⟨l.z _ _ h (fun _ q => by cases q) z, .inr ⟨o, l.keep _ _ h (fun _ q => by cases q) z⟩⟩
theorem TrL.le {w w' : Wo} {a : Addr} {xs : List V} (l : Le w w') (h : TrL w a xs) : TrL w' a xs := by
  obtain ⟨z, h, n⟩ := h
  exact ⟨l.z _ _ h (fun _ q => by cases q) z, l.keep _ _ h (fun _ q => by cases q) z, n⟩
theorem TrT.le {w w' : Wo} {a : Addr} {xs : List V} (l : Le w w') (h : TrT w a xs) : TrT w' a xs := by
  obtain ⟨h, n⟩ := h
  refine ⟨?_, n⟩
  rcases h with ⟨z, h⟩ | h
  · exact .inl (Rd.le l (fun _ q => by cases q) z h)
  · exact .inr (l.K ▸ h)
theorem TrS.le {w w' : Wo} {a : Addr} {xs : List V} (l : Le w w') (h : TrS w a xs) : TrS w' a xs := by
  obtain ⟨h, n⟩ := h
  refine ⟨?_, n⟩
  rcases h with ⟨z, h⟩ | h
  · exact .inl (Rd.le l (fun _ q => by cases q) z h)
  · exact .inr (l.K ▸ h)
mutual
theorem Rep.le {w w' : Wo} (l : Le w w') : ∀ (d : D) {v : V}, Rep w d v → Rep w' d v
  | .non, _, h => by unfold Rep at h ⊢; exact h
  | .bl _, _, h => by unfold Rep at h ⊢; exact h
  | .int _, _, h => by unfold Rep at h ⊢; exact h
  | .str _, _, h => by unfold Rep at h ⊢; exact h
  | .ty _, _, h => by unfold Rep at h ⊢; exact h
  | .cls _, _, h => by unfold Rep at h ⊢; rw [l.K]; exact h
  | .tup ds, _, h => by unfold Rep at h ⊢; obtain ⟨a, vs, e, t, r⟩ := h; exact ⟨a, vs, e, t.le l, Reps.le l ds r⟩
  | .lst ds, _, h => by unfold Rep at h ⊢; obtain ⟨a, vs, e, t, r⟩ := h; exact ⟨a, vs, e, t.le l, Reps.le l ds r⟩
  | .obj c fs, _, h => by
    unfold Rep at h ⊢
    obtain ⟨a, dx, gs, e, z, t, r⟩ := h
    exact ⟨a, dx, gs, e, l.z _ _ t (fun _ q => by cases q) z, by rw [l.K]; exact l.keep _ _ t (fun _ q => by cases q) z, RepF.le l fs r⟩
  | .exc c fs, _, h => by
    unfold Rep at h ⊢
    obtain ⟨a, d, gs, e, z, t, z2, t2, r⟩ := h
    exact ⟨a, d, gs, e, l.z _ _ t (fun _ q => by cases q) z, by rw [l.K]; exact l.keep _ _ t (fun _ q => by cases q) z, l.z _ _ t2 (fun _ q => by cases q) z2, l.keep _ _ t2 (fun _ q => by cases q) z2, RepF.le l fs r⟩
  | .dk kvs, _, h => by
    unfold Rep at h ⊢
    obtain ⟨a, vs, e, z, t, r⟩ := h
    exact ⟨a, vs, e, l.z _ _ t (fun _ q => by cases q) z, l.keep _ _ t (fun _ q => by cases q) z, RepK.le l kvs r⟩
  | .dt kvs, _, h => by
    unfold Rep at h ⊢
    obtain ⟨a, vs, e, z, t, r⟩ := h
    exact ⟨a, vs, e, l.z _ _ t (fun _ q => by cases q) z, l.keep _ _ t (fun _ q => by cases q) z, RepT.le l kvs r⟩
  | .ref n, _, h => by unfold Rep at h ⊢; obtain ⟨a, e, t⟩ := h; exact ⟨a, e, l.m _ _ t⟩
  | .adr _, _, h => by unfold Rep at h ⊢; exact h
  | .scr ds, _, h => by
    unfold Rep at h ⊢
    obtain ⟨a, vs, e, t, r⟩ := h
    exact ⟨a, vs, e, t.le l, Reps.le l ds r⟩
theorem Reps.le {w w' : Wo} (l : Le w w') : ∀ (ds : List D) {vs : List V}, Reps w ds vs → Reps w' ds vs
  | [], _, h => by unfold Reps at h ⊢; exact h
  | d :: ds, _, h => by unfold Reps at h ⊢; obtain ⟨v, r, e, a, b⟩ := h; exact ⟨v, r, e, Rep.le l d a, Reps.le l ds b⟩
theorem RepF.le {w w' : Wo} (l : Le w w') : ∀ (ds : List (Str × D)) {vs : List (Str × V)}, RepF w ds vs → RepF w' ds vs
  | [], _, h => by unfold RepF at h ⊢; exact h
  | (f, d) :: ds, _, h => by unfold RepF at h ⊢; obtain ⟨v, r, e, a, b⟩ := h; exact ⟨v, r, e, Rep.le l d a, RepF.le l ds b⟩
theorem RepK.le {w w' : Wo} (l : Le w w') : ∀ (ds : List (Key × D)) {vs : List (Key × V)}, RepK w ds vs → RepK w' ds vs
  | [], _, h => by unfold RepK at h ⊢; exact h
  | (f, d) :: ds, _, h => by unfold RepK at h ⊢; obtain ⟨v, r, e, a, b⟩ := h; exact ⟨v, r, e, Rep.le l d a, RepK.le l ds b⟩
theorem RepT.le {w w' : Wo} (l : Le w w') : ∀ (ds : List (List Key × D)) {vs : List (List Key × V)}, RepT w ds vs → RepT w' ds vs
  | [], _, h => by unfold RepT at h ⊢; exact h
  | (f, d) :: ds, _, h => by unfold RepT at h ⊢; obtain ⟨v, r, e, a, b⟩ := h; exact ⟨v, r, e, Rep.le l d a, RepT.le l ds b⟩
end
end Sh

/-! Sh2: the state of a def against its picture (At), what a picture's answer asks (Post, PostS), judgements (Ev, Et, Ea, Es). -/
namespace Sh
open PySem PySem.Spec PyProof.Rows L2 Nk
variable [TabSet]

def zf (B : Addr → Prop) (m : List Addr) (ow : List (Option Addr)) : Addr → Prop := fun a => B a ∨ a ∈ m ∨ some a ∈ ow
abbrev wo (K : PySem.W.Frag) (B : Addr → Prop) (m : List Addr) (ow : List (Option Addr)) (H : Hp) : Wo := ⟨K, zf B m ow, m, H⟩
/-- what stands in a cell at a -/
def CRep (w : Wo) (a : Addr) : Cell → Prop
  | .lst ds => ∃ vs, w.H a = some (.lst vs) ∧ vs.length ≤ sizeLine ∧ Reps w ds vs
  | .ins c fs => ∃ dx gs, w.H a = some (.ins (He.ga w.K c) dx gs) ∧ RepF w fs gs
  | .dk kvs => ∃ vs, w.H a = some (.dK vs) ∧ RepK w kvs vs
  | .dt kvs => ∃ vs, w.H a = some (.dT vs) ∧ RepT w kvs vs
theorem CRep.le {w w' : Wo} {a : Addr} (l : Le w w') (k : ∀ o, w.H a = some o → (∀ ps, o ≠ .tbl ps) → w'.H a = some o) : ∀ {c : Cell}, CRep w a c → CRep w' a c
  | .lst ds, ⟨vs, h, n, r⟩ => ⟨vs, k _ h (fun _ q => by cases q), n, Reps.le l ds r⟩
  | .ins c fs, ⟨dx, gs, h, r⟩ => ⟨dx, gs, by rw [l.K]; exact k _ h (fun _ q => by cases q), RepF.le l fs r⟩
  | .dk kvs, ⟨vs, h, r⟩ => ⟨vs, k _ h (fun _ q => by cases q), RepK.le l kvs r⟩
  | .dt kvs, ⟨vs, h, r⟩ => ⟨vs, k _ h (fun _ q => by cases q), RepT.le l kvs r⟩
theorem CRep.some {w : Wo} {a : Addr} : ∀ {c : Cell}, CRep w a c → ∃ o, w.H a = some o ∧ (∀ ps, o ≠ .tbl ps) ∧ ∀ φ, o ≠ .ext φ
  | .lst ds, ⟨vs, h, _, r⟩ => ⟨_, h, (fun _ q => by cases q), (fun _ q => by cases q)⟩
  | .ins c fs, ⟨dx, gs, h, r⟩ => ⟨_, h, (fun _ q => by cases q), (fun _ q => by cases q)⟩
  | .dk kvs, ⟨vs, h, r⟩ => ⟨_, h, (fun _ q => by cases q), (fun _ q => by cases q)⟩
  | .dt kvs, ⟨vs, h, r⟩ => ⟨_, h, (fun _ q => by cases q), (fun _ q => by cases q)⟩
/-- tables stay where something else changes -/
theorem tabs_keep {T : List (Addr × Str)} {H H' : Hp} {a : Addr} (t : LamX.Tabs T H) (ha : ∃ o, H a = some o ∧ (∀ ps, o ≠ .tbl ps) ∧ ∀ φ, o ≠ .ext φ) (keep : ∀ x o, x ≠ a → H x = some o → H' x = some o) : LamX.Tabs T H' := fun p hp => by
  obtain ⟨o, ho, n1, n2⟩ := ha
  obtain ⟨ps, h1, h2, h3⟩ := t p hp
  refine ⟨ps, keep _ _ (fun z => by rw [z, ho] at h1; exact n1 ps (Option.some.inj h1)) h1, h2, fun pos cv hc => ?_⟩
  obtain ⟨c, e1, e2⟩ := h3 pos cv hc
  exact ⟨c, e1, keep _ _ (fun z => by rw [z, ho] at e2; exact n2 _ (Option.some.inj e2)) e2⟩
/-- no object of ours: nothing, or a table of code objects -/
def Fr (H : Hp) (a : Addr) : Prop := ∀ o, H a = some o → ∃ ps, o = .tbl ps
theorem Fr.none {H : Hp} {a : Addr} (h : H a = Option.none) : Fr H a := fun o e => by rw [h] at e; cases e
theorem Fr.no {H : Hp} {a : Addr} {o : HO} (f : Fr H a) (e : H a = some o) (n : ∀ ps, o ≠ .tbl ps) : False := let ⟨ps, z⟩ := f o e; n ps z
theorem Fr.same {H H' : Hp} {a : Addr} (s : Same H H') (f : Fr H' a) : Fr H a := fun o e => f o (s a o e)
theorem Fr.ne {H : Hp} {a b : Addr} {o : HO} (f : Fr H b) (e : H a = some o) (n : ∀ ps, o ≠ .tbl ps) : a ≠ b := fun z => f.no (z ▸ e) n
theorem Fr.upd {H : Hp} {p x : Addr} {o : HO} (ho : ∀ ps, o ≠ .tbl ps) (f : Fr (L2.upd H p o) x) : Fr H x := fun u e => by
  by_cases z : x = p
  · subst z; exact absurd upd_same (fun z => f.no z ho)
  · exact f u (by rw [upd_ne z]; exact e)
structure Cells (K : PySem.W.Frag) (B : Addr → Prop) (m : List Addr) (ow : List (Option Addr)) (H : Hp) (S : Store) : Prop where
  hB : ∀ a, B a → ¬ Fr H a
  nd : m.Nodup
  no : ∀ a, a ∈ m → some a ∉ ow
  nB : ∀ a, a ∈ m ∨ some a ∈ ow → ¬ B a
  od : ∀ (i j : Nat) (a : Addr), ow[i]? = some (some a) → ow[j]? = some (some a) → i = j
  oh : ∀ a, some a ∈ ow → ¬ Fr H a
  len : m.length = S.length
  cs : ∀ (n : Nat) (a : Addr) (c : Cell), m[n]? = some a → S[n]? = some c → CRep (wo K B m ow H) a c
  tb : LamX.Tabs (TabSet.TS K) H
/-- later: cells may have changed, all else stands -/
structure Fut (m : List Addr) (H : Hp) (m' : List Addr) (H' : Hp) : Prop where
  pre : ∃ r, m' = m ++ r ∧ ∀ a ∈ r, Fr H a
  keep : ∀ a o, H a = some o → (∀ ps, o ≠ .tbl ps) → a ∉ m → H' a = some o
  dom : ∀ a, Fr H' a → Fr H a
theorem Fut.refl (m : List Addr) (H : Hp) : Fut m H m H := ⟨⟨[], by simp, by simp⟩, fun _ _ h _ _ => h, fun _ h => h⟩
theorem Fut.trans {m1 m2 m3 : List Addr} {H1 H2 H3 : Hp} (h : Fut m1 H1 m2 H2) (g : Fut m2 H2 m3 H3) : Fut m1 H1 m3 H3 := by
  obtain ⟨⟨r, rfl, hr⟩, k, d⟩ := h
  obtain ⟨⟨r', rfl, hr'⟩, k', d'⟩ := g
  refine ⟨⟨r ++ r', by simp, fun a ha => ?_⟩, fun a o e n hn => ?_, fun a e => d a (d' a e)⟩
  · rcases List.mem_append.mp ha with ha | ha
    · exact hr a ha
    · exact d a (hr' a ha)
  · refine k' a o (k a o e n hn) n fun hm => ?_
    rcases List.mem_append.mp hm with hm | hm
    · exact hn hm
    · exact (hr a hm).no e n
theorem Fut.same {m : List Addr} {H H' : Hp} (s : Same H H') : Fut m H m H' := ⟨⟨[], by simp, by simp⟩, fun a o h _ _ => s a o h, fun a h => h.same s⟩
theorem Fut.le {K : PySem.W.Frag} {B : Addr → Prop} {m m' : List Addr} {ow : List (Option Addr)} {H H' : Hp} (f : Fut m H m' H') : Le (wo K B m ow H) (wo K B m' ow H') := by
  obtain ⟨⟨r, rfl, hr⟩, k, d⟩ := f
  refine ⟨rfl, fun a o e n z => ?_, fun n a e => ?_, fun a o e n z => k a o e n fun hm => z (.inr (.inl hm))⟩
  · rintro (q | q | q)
    · exact z (.inl q)
    · rcases List.mem_append.mp q with q | q
      · exact z (.inr (.inl q))
      · exact (hr a q).no e n
    · exact z (.inr (.inr q))
  · show (m ++ r)[n]? = some a
    have h : m[n]? = some a := e
    rw [List.getElem?_append_left (List.getElem?_eq_some_iff.mp h).1]
    exact h
theorem Cells.same {K : PySem.W.Frag} {B : Addr → Prop} {m : List Addr} {ow : List (Option Addr)} {H H' : Hp} {S : Store} (c : Cells K B m ow H S) (s : Same H H') : Cells K B m ow H' S :=
  ⟨fun a b h => c.hB a b (h.same s), c.nd, c.no, c.nB, c.od, fun a b h => c.oh a b (h.same s), c.len, fun n a x h1 h2 => (c.cs n a x h1 h2).le (Fut.same s).le fun o e _ => s _ _ e, c.tb.ext s⟩
/-- the slots -/
def SlR (w : Wo) (σ : L2.St) (ow : List (Option Addr)) (i : Nat) : Sl → Prop
  | .no => True
  | .val d => ∃ v, σ[i]? = some (some v) ∧ Rep w d v
  | .own c => ∃ a, σ[i]? = some (some (.ref a)) ∧ ow[i]? = some (some a) ∧ CRep w a c
structure Bs where
  B : Addr → Prop
  m0 : List Addr
  H0 : Hp
  /-- the object that an __init__ makes -/
  sf : Option Addr := none
/-- what is known of the base of a def's run (a def that got a lambda: where it was called) -/
class BasePred where
  Φ : Bs → Prop
  grow : ∀ b p, Fr b.H0 p → Φ b → Φ ⟨fun x => b.B x ∨ x = p, b.m0, b.H0, b.sf⟩
structure At [BasePred] (K : PySem.W.Frag) (b : Bs) (m : List Addr) (ow : List (Option Addr)) (H : Hp) (σ : L2.St) (e : En) (S : Store) : Prop where
  cells : Cells K b.B m ow H S
  len : σ.length = e.length ∧ ow.length = e.length
  slots : ∀ (i : Nat) (s : Sl), e[i]? = some s → SlR (wo K b.B m ow H) σ ow i s
  fut : Fut b.m0 b.H0 m H
  new : ∀ a, some a ∈ ow → Fr b.H0 a
  oe : ∀ (i : Nat) (a : Addr), ow[i]? = some (some a) → ∃ c, e[i]? = some (Sl.own c)
  sf : ∀ a, b.sf = some a → σ[0]? = some (some (.ref a)) ∧ ow[0]? = some (some a) ∧ ∃ c fs, e[0]? = some (Sl.own (.ins c fs))
  ph : BasePred.Φ b
variable [BasePred]
section
variable {K : PySem.W.Frag} {b : Bs} {m m' : List Addr} {ow : List (Option Addr)} {H H' : Hp} {σ : L2.St} {e : En} {S S' : Store}
theorem At.go (t : At K b m ow H σ e S) (f : Fut m H m' H') (c : Cells K b.B m' ow H' S') : At K b m' ow H' σ e S' := by
  refine ⟨c, t.len, fun i s hs => ?_, t.fut.trans f, t.new, t.oe, t.sf, t.ph⟩
  have h := t.slots i s hs
  cases s with
  | no => exact True.intro
  | val d => obtain ⟨v, h1, h2⟩ := h; exact ⟨v, h1, Rep.le f.le d h2⟩
  | own x =>
    obtain ⟨a, h1, h2, h3⟩ := h
    refine ⟨a, h1, h2, h3.le f.le fun o e n => f.keep a o e n fun hm => t.cells.no a hm (List.mem_of_getElem? h2)⟩
theorem At.same (t : At K b m ow H σ e S) (s : Same H H') : At K b m ow H' σ e S := t.go (Fut.same s) (t.cells.same s)
end
/-- a caught or leaving error -/
def ExR (w : Wo) (x : Exn) (c : Value) (d : Option Addr) : Prop := c = .ref (He.ga w.K x.c) ∧ ∃ a gs, d = some a ∧ ¬ w.Z a ∧ w.H a = some (.xd gs) ∧ RepF w x.fs gs
theorem ExR.le {w w' : Wo} {x : Exn} {c : Value} {d : Option Addr} (l : Le w w') (h : ExR w x c d) : ExR w' x c d := by
  obtain ⟨e, a, gs, ed, z, h, r⟩ := h
  exact ⟨by rw [l.K]; exact e, a, gs, ed, l.z _ _ h (fun _ q => by cases q) z, l.keep _ _ h (fun _ q => by cases q) z, RepF.le l _ r⟩
section
variable (K : PySem.W.Frag) (B : Addr → Prop) (ow : List (Option Addr))
/-- what an answer asks: Q of whatever it stands for -/
def Post {α β : Type} (m : List Addr) (H : Hp) (RP : Wo → β → α → Prop) (W : Value → Option Addr → Hp → Prop) (Q : α → Hp → Prop) : R β → Prop
  | .ok y S' => ∀ a m' H', Fut m H m' H' → Cells K B m' ow H' S' → RP (wo K B m' ow H') y a → Q a H'
  | .er x S' => ∀ c d m' H', Fut m H m' H' → Cells K B m' ow H' S' → ExR (wo K B m' ow H') x c d → W c d H'
  | .no => False
end
section
variable {K : PySem.W.Frag} {B : Addr → Prop} {ow : List (Option Addr)} {m m' : List Addr} {H H' : Hp} {α β γ δ : Type} {RP : Wo → β → α → Prop} {RP2 : Wo → δ → γ → Prop} {W : Value → Option Addr → Hp → Prop} {Q : α → Hp → Prop} {Q2 : γ → Hp → Prop}
theorem Post.go {r : R β} (h : Post K B ow m H RP W Q r) (f : Fut m H m' H') : Post K B ow m' H' RP W Q r := by
  cases r with
  | ok y S' => exact fun a m2 H2 f2 => h a m2 H2 (f.trans f2)
  | er x S' => exact fun c d m2 H2 f2 => h c d m2 H2 (f.trans f2)
  | no => exact h
theorem Post.bind {r : R β} {k : β → Store → R δ} (h : Post K B ow m H RP2 W Q2 (r.bind k)) (g : ∀ y S' a m' H', Fut m H m' H' → Cells K B m' ow H' S' → RP (wo K B m' ow H') y a → Post K B ow m' H' RP2 W Q2 (k y S') → Q a H') : Post K B ow m H RP W Q r := by
  cases r with
  | ok y S' => exact fun a m2 H2 f2 c2 r2 => g y S' a m2 H2 f2 c2 r2 (Post.go h f2)
  | er x S' => exact h
  | no => exact h
theorem Post.imp {r : R β} {Q' : α → Hp → Prop} (h : Post K B ow m H RP W Q r) (g : ∀ a H', Q a H' → Q' a H') : Post K B ow m H RP W Q' r := by
  cases r with
  | ok y S' => exact fun a m2 H2 f2 c2 r2 => g a H2 (h a m2 H2 f2 c2 r2)
  | er x S' => exact h
  | no => exact h
end
/-! ### judgements -/
abbrev Sx (α : Type) := En → Store → R α
def RB : Wo → Bool → Bool → Prop := fun _ x y => y = x
section
variable (K : PySem.W.Frag) (X : Cx) (W : WX)
structure Ev (ex : Expr) (f : Sx D) : Prop where
  run : ∃ te, PE X ex te ∧ ∀ b m ow H σ e S Q, At K b m ow H σ e S → Post K b.B ow m H Rep (fun c d => W c d σ) Q (f e S) → te σ H Q
structure Et (ex : Expr) (f : Sx Bool) : Prop where
  run : ∃ tt, PT X ex tt ∧ ∀ b m ow H σ e S Q, At K b m ow H σ e S → Post K b.B ow m H RB (fun c d => W c d σ) Q (f e S) → tt σ H Q
structure Ew (ex : Expr) (f : Sx Bool) : Prop where
  run : ∃ tt, PW X ex tt ∧ ∀ b m ow H σ e S Q, At K b m ow H σ e S → Post K b.B ow m H RB (fun c d => W c d σ) Q (f e S) → tt σ H Q
structure Ea (es : List Expr) (f : Sx (List D)) : Prop where
  run : ∃ ta, PA X es ta ∧ ∀ b m ow H σ e S Q, At K b m ow H σ e S → Post K b.B ow m H Reps (fun c d => W c d σ) Q (f e S) → ta σ H Q
end
abbrev Sy := En → Store → RS
def Ends1 (K : PySem.W.Frag) (b : Bs) (w : Wo) (N : L2.St → Hp → Prop) (e' : En) (S' : Store) : Prop := ∀ σ' m' ow' H', At K b m' ow' H' σ' e' S' → Le w (wo K b.B m' ow' H') → N σ' H'
def PostS (K : PySem.W.Frag) (b : Bs) (w : Wo) (W : WX) (D : Ends) : RS → Prop
  | .nx e' S' => Ends1 K b w D.nx e' S'
  | .bk e' S' => Ends1 K b w D.bk e' S'
  | .ct e' S' => Ends1 K b w D.ct e' S'
  | .rt d S' => ∀ v m' ow' H', Cells K b.B m' ow' H' S' → Fut b.m0 b.H0 m' H' → (∀ a, some a ∈ ow' → Fr b.H0 a) → Rep (wo K b.B m' ow' H') d v → D.rt v H'
  | .er x e' S' => ∀ c d σ' m' ow' H', At K b m' ow' H' σ' e' S' → Le w (wo K b.B m' ow' H') → ExR (wo K b.B m' ow' H') x c d → W c d σ' H'
  | .no => False
section
variable (K : PySem.W.Frag) (X : Cx) (W : WX)
structure Es (st : Stmt) (f : Sy) : Prop where
  run : ∃ ts, PS X st ts ∧ ∀ b m ow H σ e S D, At K b m ow H σ e S → PostS K b (wo K b.B m ow H) W D (f e S) → ts D σ H
structure Ess (st : List Stmt) (f : Sy) : Prop where
  run : ∃ ts, PSs X st ts ∧ ∀ b m ow H σ e S D, At K b m ow H σ e S → PostS K b (wo K b.B m ow H) W D (f e S) → ts D σ H
end
section
variable {K : PySem.W.Frag} {b : Bs} {w w' : Wo} {W : WX} {D D' : Ends}
theorem Ends1.le {N : L2.St → Hp → Prop} {e : En} {S : Store} (h : Ends1 K b w N e S) (l : Le w w') : Ends1 K b w' N e S := fun σ' m' ow' H' t l' => h σ' m' ow' H' t (l.trans l')
theorem PostS.le {r : RS} (h : PostS K b w W D r) (l : Le w w') : PostS K b w' W D r := by
  cases r with
  | nx e' S' => exact Ends1.le h l
  | bk e' S' => exact Ends1.le h l
  | ct e' S' => exact Ends1.le h l
  | rt d S' => exact h
  | er x e' S' => exact fun c d σ' m' ow' H' t l' => h c d σ' m' ow' H' t (l.trans l')
  | no => exact h
end
def RS.seq (r : RS) (k : En → Store → RS) : RS := match r with
  | .nx e S => k e S
  | r => r
@[simp] theorem seq_nx {e : En} {S : Store} {k : En → Store → RS} : (RS.nx e S).seq k = k e S := rfl
@[simp] theorem seq_rt {d : D} {S : Store} {k : En → Store → RS} : (RS.rt d S).seq k = .rt d S := rfl
@[simp] theorem seq_bk {e : En} {S : Store} {k : En → Store → RS} : (RS.bk e S).seq k = .bk e S := rfl
@[simp] theorem seq_ct {e : En} {S : Store} {k : En → Store → RS} : (RS.ct e S).seq k = .ct e S := rfl
@[simp] theorem seq_er {x : Exn} {e : En} {S : Store} {k : En → Store → RS} : (RS.er x e S).seq k = .er x e S := rfl
@[simp] theorem seq_no {k : En → Store → RS} : RS.no.seq k = .no := rfl
@[simp] theorem ite_seq {c : Prop} [Decidable c] {r s : RS} {k : En → Store → RS} : (if c then r else s).seq k = if c then r.seq k else s.seq k := by split <;> rfl
/-- an expression's answer as a statement's -/
def R.run {α : Type} (r : R α) (e : En) (k : α → Store → RS) : RS := match r with
  | .ok a S => k a S
  | .er x S => .er x e S
  | .no => .no
@[simp] theorem run_ok {α : Type} {a : α} {S : Store} {e : En} {k : α → Store → RS} : (R.ok a S).run e k = k a S := rfl
@[simp] theorem run_er {α : Type} {x : Exn} {S : Store} {e : En} {k : α → Store → RS} : (R.er x S : R α).run e k = .er x e S := rfl
@[simp] theorem run_no {α : Type} {e : En} {k : α → Store → RS} : (R.no : R α).run e k = .no := rfl
@[simp] theorem ite_run {α : Type} {c : Prop} [Decidable c] {r s : R α} {e : En} {k : α → Store → RS} : (if c then r else s).run e k = if c then r.run e k else s.run e k := by split <;> rfl
@[simp] theorem bind_run {α β : Type} {r : R α} {g : α → Store → R β} {e : En} {k : β → Store → RS} : (r.bind g).run e k = r.run e fun a S => (g a S).run e k := by cases r <;> rfl
@[simp] theorem run_seq {α : Type} {r : R α} {e : En} {k : α → Store → RS} {g : En → Store → RS} : (r.run e k).seq g = r.run e fun a S => (k a S).seq g := by cases r <;> rfl
@[simp] theorem bind_bind {α β γ : Type} {r : R α} {g : α → Store → R β} {k : β → Store → R γ} : (r.bind g).bind k = r.bind fun a S => (g a S).bind k := by cases r <;> rfl
@[simp] theorem seq_seq {r : RS} {g k : En → Store → RS} : (r.seq g).seq k = r.seq fun e S => (g e S).seq k := by cases r <;> rfl
/-- an expression inside a statement: its answer is known -/
theorem PostS.run {K : PySem.W.Frag} {b : Bs} {W : WX} {D : Ends} {m : List Addr} {ow : List (Option Addr)} {H : Hp} {σ : L2.St} {e : En} {S : Store} {α β : Type} {RP : Wo → β → α → Prop} {r : R β} {k : β → Store → RS} {Q : α → Hp → Prop}
    (t : At K b m ow H σ e S) (h : PostS K b (wo K b.B m ow H) W D (r.run e k))
    (g : ∀ y S' a m' H', At K b m' ow H' σ e S' → Fut m H m' H' → RP (wo K b.B m' ow H') y a → PostS K b (wo K b.B m' ow H') W D (k y S') → Q a H') : Post K b.B ow m H RP (fun c d => W c d σ) Q r := by
  cases r with
  | ok y S' => exact fun a m' H' f c r => g y S' a m' H' (t.go f c) f r (PostS.le h f.le)
  | er x S' => exact fun c d m' H' f cl r => h c d σ m' ow H' (t.go f cl) f.le r
  | no => exact h
end Sh

/-! Sh3: expressions: names, constants, operators on values, tests, subscripts. -/
namespace Sh
open PySem PySem.Spec PyProof.Rows L2 Nk
variable [TabSet]

/-! ### facts of Rep -/
section
variable {w w' : Wo}
theorem reps_len : ∀ {ds : List D} {vs : List V}, Reps w ds vs → vs.length = ds.length
  | [], _, h => by unfold Reps at h; rw [h]; rfl
  | d :: ds, _, h => by unfold Reps at h; obtain ⟨v, r, rfl, _, h⟩ := h; simp [reps_len h]
theorem reps_get : ∀ {ds : List D} {vs : List V} {i : Nat} {d : D}, Reps w ds vs → ds[i]? = some d → ∃ v, vs[i]? = some v ∧ Rep w d v
  | [], _, _, _, _, e => by simp at e
  | x :: ds, _, 0, d, h, e => by unfold Reps at h; obtain ⟨v, r, rfl, a, h⟩ := h; simp at e; subst e; exact ⟨v, rfl, a⟩
  | x :: ds, _, i + 1, d, h, e => by unfold Reps at h; obtain ⟨v, r, rfl, a, h⟩ := h; simpa using reps_get h (by simpa using e)
theorem reps_nil : Reps w [] [] := by unfold Reps; rfl
theorem reps_cons {d : D} {v : V} {ds : List D} {vs : List V} (a : Rep w d v) (b : Reps w ds vs) : Reps w (d :: ds) (v :: vs) := by unfold Reps; exact ⟨v, vs, rfl, a, b⟩
theorem reps_app : ∀ {ds : List D} {vs : List V} {es : List D} {us : List V}, Reps w ds vs → Reps w es us → Reps w (ds ++ es) (vs ++ us)
  | [], _, _, _, h, g => by unfold Reps at h; rw [h]; exact g
  | d :: ds, _, _, _, h, g => by unfold Reps at h; obtain ⟨v, r, rfl, a, h⟩ := h; exact reps_cons a (reps_app h g)
theorem reps_take : ∀ {ds : List D} {vs : List V} (n : Nat), Reps w ds vs → Reps w (ds.take n) (vs.take n)
  | [], _, n, h => by unfold Reps at h; rw [h]; simp; exact reps_nil
  | d :: ds, _, 0, h => by simp; exact reps_nil
  | d :: ds, _, n + 1, h => by unfold Reps at h; obtain ⟨v, r, rfl, a, h⟩ := h; exact reps_cons a (reps_take n h)
theorem reps_drop : ∀ {ds : List D} {vs : List V} (n : Nat), Reps w ds vs → Reps w (ds.drop n) (vs.drop n)
  | [], _, n, h => by unfold Reps at h; rw [h]; simp; exact reps_nil
  | d :: ds, _, 0, h => h
  | d :: ds, _, n + 1, h => by unfold Reps at h; obtain ⟨v, r, rfl, a, h⟩ := h; exact reps_drop n h
theorem reps_rep {d : D} {v : V} (h : Rep w d v) : ∀ n, Reps w (List.replicate n d) (List.replicate n v)
  | 0 => reps_nil
  | n + 1 => reps_cons h (reps_rep h n)
theorem reps_flat {ds : List D} {vs : List V} (h : Reps w ds vs) : ∀ n, Reps w (List.replicate n ds).flatten (List.replicate n vs).flatten
  | 0 => reps_nil
  | n + 1 => by simpa [List.replicate_succ] using reps_app h (reps_flat h n)
theorem reps_set {d : D} {v : V} (a : Rep w d v) : ∀ {ds : List D} {vs : List V} (i : Nat), Reps w ds vs → Reps w (ds.set i d) (vs.set i v)
  | [], _, i, h => by unfold Reps at h; rw [h]; exact reps_nil
  | x :: ds, _, 0, h => by unfold Reps at h; obtain ⟨u, r, rfl, _, h⟩ := h; exact reps_cons a h
  | x :: ds, _, i + 1, h => by unfold Reps at h; obtain ⟨u, r, rfl, b, h⟩ := h; exact reps_cons b (reps_set a i h)
theorem reps_rev : ∀ {ds : List D} {vs : List V}, Reps w ds vs → Reps w ds.reverse vs.reverse
  | [], _, h => by unfold Reps at h; rw [h]; exact reps_nil
  | d :: ds, _, h => by unfold Reps at h; obtain ⟨v, r, rfl, a, h⟩ := h; simpa using reps_app (reps_rev h) (reps_cons a reps_nil)
theorem reps_ints : ∀ (ns : List Int), Reps w (ns.map D.int) (ns.map V.int)
  | [] => reps_nil
  | n :: r => reps_cons (by unfold Rep; rfl) (reps_ints r)
theorem repF_get : ∀ {fs : List (Str × D)} {gs : List (Str × V)} {f : Str} {d : D}, RepF w fs gs → fs.lookup f = some d → ∃ v, gs.lookup f = some v ∧ Rep w d v
  | [], _, _, _, _, e => by simp at e
  | (g, x) :: fs, _, f, d, h, e => by
    unfold RepF at h
    obtain ⟨v, r, rfl, a, h⟩ := h
    simp only [List.lookup_cons] at e ⊢
    cases q : f == g with
    | true => rw [q] at e; exact ⟨v, rfl, by cases e; exact a⟩
    | false => rw [q] at e; exact repF_get h e
theorem repF_none : ∀ {fs : List (Str × D)} {gs : List (Str × V)} {f : Str}, RepF w fs gs → fs.lookup f = none → gs.lookup f = none
  | [], _, _, h, e => by unfold RepF at h; rw [h]; rfl
  | (g, x) :: fs, _, f, h, e => by
    unfold RepF at h
    obtain ⟨v, r, rfl, a, h⟩ := h
    simp only [List.lookup_cons] at e ⊢
    cases q : f == g with
    | true => rw [q] at e; cases e
    | false => rw [q] at e; exact repF_none h e
theorem repF_len : ∀ {fs : List (Str × D)} {gs : List (Str × V)}, RepF w fs gs → gs.length = fs.length
  | [], _, h => by unfold RepF at h; rw [h]; rfl
  | (g, x) :: fs, _, h => by unfold RepF at h; obtain ⟨v, r, rfl, _, h⟩ := h; simp [repF_len h]
end
/-- a world whose heap has grown -/
abbrev Wo.at (w : Wo) (H : Hp) : Wo := { w with H := H }
theorem Le.same {w : Wo} {H' : Hp} (s : Same w.H H') : Le w (w.at H') := ⟨rfl, fun _ _ _ _ h => h, fun _ _ h => h, fun a o h _ _ => s a o h⟩
/-- what may change stands somewhere -/
def Wo.Full (w : Wo) : Prop := ∀ a, w.Z a → ¬ Fr w.H a
theorem Cells.full {K : PySem.W.Frag} {B : Addr → Prop} {m : List Addr} {ow : List (Option Addr)} {H : Hp} {S : Store} (c : Cells K B m ow H S) : (wo K B m ow H).Full := by
  rintro a (h | h | h)
  · exact c.hB a h
  · obtain ⟨n, hn⟩ := List.mem_iff_getElem?.mp h
    have hl := (List.getElem?_eq_some_iff.mp hn).1
    obtain ⟨o, e, n1, _⟩ := (c.cs n a (S[n]'(by rw [← c.len]; exact hl)) hn (List.getElem?_eq_getElem _)).some
    exact fun z => z.no e n1
  · exact c.oh a h
theorem rep_tup {w : Wo} (f : w.Full) {p : Addr} {vs : List V} {ds : List D} (hp : w.H p = none) (hl : vs.length ≤ sizeLine) (r : Reps w ds vs) : Rep (w.at (upd w.H p (.tup vs))) (.tup ds) (.ref p) := by
  have s : Same w.H (upd w.H p (.tup vs)) := same_mut (Same.refl _) hp
  unfold Rep
  exact ⟨p, vs, rfl, ⟨.inl ⟨fun z => f p z (.none hp), .inl upd_same⟩, hl⟩, Reps.le (Le.same s) ds r⟩
theorem rep_lst {w : Wo} (f : w.Full) {p : Addr} {vs : List V} {ds : List D} (hp : w.H p = none) (hl : vs.length ≤ sizeLine) (r : Reps w ds vs) : Rep (w.at (upd w.H p (.lst vs))) (.lst ds) (.ref p) := by
  have s : Same w.H (upd w.H p (.lst vs)) := same_mut (Same.refl _) hp
  unfold Rep
  exact ⟨p, vs, rfl, ⟨fun z => f p z (.none hp), upd_same, hl⟩, Reps.le (Le.same s) ds r⟩

/-! ### operators that make a value -/
def Pz (w : Wo) (Q : VK) : Option D → Prop
  | some d => ∀ v H', Same w.H H' → Rep (w.at H') d v → Q v H'
  | none => False
theorem Pz.ite {w : Wo} {Q : VK} {d : D} {c : Prop} [Decidable c] (h : Pz w Q (if c then some d else none)) : c ∧ Pz w Q (some d) := by
  split at h
  · exact ⟨by assumption, h⟩
  · exact h.elim
theorem Pz.here {w : Wo} {Q : VK} {d : D} {v : V} (h : Pz w Q (some d)) (r : Rep w d v) : Q v w.H := h v w.H (Same.refl _) r
structure OpS (K : PySem.W.Frag) (X : Cx) (f : Value → Value → Sem Value) (o : D → D → Option D) : Prop where
  run : ∃ r, OpR X f r ∧ ∀ (w : Wo), w.K = K → w.Full → ∀ x y dx dy Q, Rep w dx x → Rep w dy y → Pz w Q (o dx dy) → r x y w.H Q
structure UnS (K : PySem.W.Frag) (X : Cx) (f : Value → Sem Value) (o : D → Option D) : Prop where
  run : ∃ r, UnR X f r ∧ ∀ (w : Wo), w.K = K → w.Full → ∀ x dx Q, Rep w dx x → Pz w Q (o dx) → r x w.H Q
structure IxS (K : PySem.W.Frag) (X : Cx) (o : D → D → Option D) : Prop where
  run : ∃ r, IxR X r ∧ ∀ (w : Wo), w.K = K → w.Full → ∀ x y dx dy Q, Rep w dx x → Rep w dy y → Pz w Q (o dx dy) → r x y w.H Q
structure CallS (K : PySem.W.Frag) (X : Cx) (f : Value) (o : List D → Option D) : Prop where
  run : ∃ r, CallR X f r ∧ ∀ (w : Wo), w.K = K → w.Full → ∀ xs ds Q, Reps w ds xs → Pz w Q (o ds) → r xs w.H Q
def alt2 (o p : D → D → Option D) (x : D) (y : D) : Option D := match o x y with
  | some d => some d
  | none => p x y
def alt1 {α : Type} (o p : α → Option D) (x : α) : Option D := match o x with
  | some d => some d
  | none => p x
section
variable {K : PySem.W.Frag} {X : Cx}
theorem OpS.or {f : Value → Value → Sem Value} {o p : D → D → Option D} (h : OpS K X f o) (g : OpS K X f p) : OpS K X f (alt2 o p) := by
  obtain ⟨r1, a1, b1⟩ := h.run
  obtain ⟨r2, a2, b2⟩ := g.run
  refine ⟨_, op_alt a1 a2, fun w hw hf x y dx dy Q rx ry q => ?_⟩
  unfold alt2 at q
  cases e : o dx dy with
  | some d => rw [e] at q; exact .inl (b1 w hw hf x y dx dy Q rx ry (by rw [e]; exact q))
  | none => rw [e] at q; exact .inr (b2 w hw hf x y dx dy Q rx ry q)
theorem IxS.or {o p : D → D → Option D} (h : IxS K X o) (g : IxS K X p) : IxS K X (alt2 o p) := by
  obtain ⟨r1, a1, b1⟩ := h.run
  obtain ⟨r2, a2, b2⟩ := g.run
  refine ⟨_, a1.or a2, fun w hw hf x y dx dy Q rx ry q => ?_⟩
  unfold alt2 at q
  cases e : o dx dy with
  | some d => rw [e] at q; exact .inl (b1 w hw hf x y dx dy Q rx ry (by rw [e]; exact q))
  | none => rw [e] at q; exact .inr (b2 w hw hf x y dx dy Q rx ry q)
theorem CallS.or {f : Value} {o p : List D → Option D} (h : CallS K X f o) (g : CallS K X f p) : CallS K X f (alt1 o p) := by
  obtain ⟨r1, a1, b1⟩ := h.run
  obtain ⟨r2, a2, b2⟩ := g.run
  refine ⟨fun xs H Q => r1 xs H Q ∨ r2 xs H Q, fun pins s σ H xs us Q I r h => h.elim (a1 pins s σ H xs us Q I r) (a2 pins s σ H xs us Q I r), fun w hw hf xs ds Q rx q => ?_⟩
  unfold alt1 at q
  cases e : o ds with
  | some d => rw [e] at q; exact .inl (b1 w hw hf xs ds Q rx (by rw [e]; exact q))
  | none => rw [e] at q; exact .inr (b2 w hw hf xs ds Q rx q)
/-- a call of a D-function: the cases that are none of its own are nothing -/
theorem OpS.weak {f : Value → Value → Sem Value} {o p : D → D → Option D} (h : OpS K X f o) (g : ∀ x y d, p x y = some d → o x y = some d) : OpS K X f p := by
  obtain ⟨r1, a1, b1⟩ := h.run
  refine ⟨r1, a1, fun w hw hf x y dx dy Q rx ry q => ?_⟩
  cases e : p dx dy with
  | some d => exact b1 w hw hf x y dx dy Q rx ry (by rw [g _ _ _ e]; rw [e] at q; exact q)
  | none => rw [e] at q; exact q.elim
end
def oI (C : Int → Int → Prop) [∀ i j, Decidable (C i j)] (g : Int → Int → D) : D → D → Option D
  | .int i, .int j => if C i j then some (g i j) else none
  | _, _ => none
def oI0 (g : Int → Int → D) : D → D → Option D
  | .int i, .int j => some (g i j)
  | _, _ => none
section
variable {K : PySem.W.Frag} {X : Cx} {f : Value → Value → Sem Value}
theorem ops_I0 {g : Int → Int → V} {g' : Int → Int → D} (h : OpR X f (rI0 g)) (hg : ∀ w i j, Rep w (g' i j) (g i j)) : OpS K X f (oI0 g') := by
  refine ⟨_, h, fun w hw hf x y dx dy Q rx ry q => ?_⟩
  cases dx <;> cases dy <;> try exact (q : False).elim
  unfold Rep at rx ry
  subst rx ry
  exact ⟨_, _, rfl, rfl, q.here (hg w _ _)⟩
theorem ops_I {C : Int → Int → Prop} [∀ i j, Decidable (C i j)] {g : Int → Int → V} {g' : Int → Int → D} (h : OpR X f (rI C g)) (hg : ∀ w i j, Rep w (g' i j) (g i j)) : OpS K X f (oI C g') := by
  refine ⟨_, h, fun w hw hf x y dx dy Q rx ry q => ?_⟩
  cases dx <;> cases dy <;> try exact (q : False).elim
  unfold Rep at rx ry
  subst rx ry
  obtain ⟨c, q⟩ := Pz.ite q
  exact ⟨_, _, rfl, rfl, c, q.here (hg w _ _)⟩
theorem rep_int {w : Wo} {i : Int} : Rep w (.int i) (.int i) := by unfold Rep; rfl
theorem rep_bl {w : Wo} {i : Bool} : Rep w (.bl i) (.bl i) := by unfold Rep; rfl
theorem rep_non {w : Wo} : Rep w .non .non := by unfold Rep; rfl
theorem rep_str {w : Wo} {x : Str} (h : x.length ≤ sizeLine) : Rep w (.str x) (.str x) := by unfold Rep; exact ⟨rfl, h⟩
end
instance {i j : Int} : Decidable (CMul i j) := inferInstanceAs (Decidable (_ ∨ _))
instance {i j : Int} : Decidable (CMulW i j) := inferInstanceAs (Decidable (_ < _))
instance {i j : Int} : Decidable (CDivW i j) := inferInstanceAs (Decidable (_ ∧ _))
instance {i j : Int} : Decidable (CPow i j) := inferInstanceAs (Decidable (_ ∧ _ ∧ _))
def oStr (C : Str → Str → Prop) [∀ i j, Decidable (C i j)] (g : Str → Str → D) : D → D → Option D
  | .str x, .str y => if C x y then some (g x y) else none
  | _, _ => none
def oCatL : D → D → Option D
  | .lst x, .lst y => if x.length + y.length ≤ sizeLine then some (.lst (x ++ y)) else none
  | _, _ => none
def oCatT : D → D → Option D
  | .tup x, .tup y => if x.length + y.length ≤ sizeLine then some (.tup (x ++ y)) else none
  | _, _ => none
def okK (n : Int) : Bool := match n with
  | .ofNat k => Nat.ble k 9223372036854775807
  | .negSucc k => Nat.ble k 9223372036854775807
theorem of_okK {n : Int} (h : okK n = true) : -(2 ^ 63) ≤ n ∧ n < 2 ^ 63 := by
  cases n with
  | ofNat k =>
    have h2 : k ≤ 9223372036854775807 := Nat.le_of_ble_eq_true h
    exact ⟨by simp only [Int.ofNat_eq_natCast]; omega, by simp only [Int.ofNat_eq_natCast]; omega⟩
  | negSucc k => 
    have h2 : k ≤ 9223372036854775807 := Nat.le_of_ble_eq_true h
    exact ⟨by rw [Int.negSucc_eq]; omega, by rw [Int.negSucc_eq]; omega⟩
theorem okK_of {n : Int} (h : -(2 ^ 63) ≤ n) (h2 : n < 2 ^ 63) : okK n = true := by
  cases n with
  | ofNat k =>
    simp only [Int.ofNat_eq_natCast] at h2
    exact Nat.ble_eq_true_of_le (by omega)
  | negSucc k => 
    rw [Int.negSucc_eq] at h
    exact Nat.ble_eq_true_of_le (by omega)
def oRep : D → D → Option D
  | .lst x, .int k => if okK k = true ∧ x.length * k.toNat ≤ sizeLine then some (.lst (List.replicate k.toNat x).flatten) else none
  | _, _ => none
def dAdd : D → D → Option D := alt2 (oI0 fun i j => .int (i + j)) (alt2 (oStr (fun x y => x.length + y.length ≤ sizeLine) fun x y => .str (x ++ y)) (alt2 oCatL oCatT))
def dSub : D → D → Option D := oI0 fun i j => .int (i - j)
def dMul : D → D → Option D := alt2 (oI CMul fun i j => .int (i * j)) (alt2 (oI CMulW fun i j => .int (i * j)) oRep)
def dFdiv : D → D → Option D := oI CDivW fun i j => .int (i / j)
def dMod : D → D → Option D := oI (fun _ j => 0 < j) fun i j => .int (i % j)
def dPow : D → D → Option D := oI CPow fun i j => .int (i ^ j.toNat)
section
variable {K : PySem.W.Frag} {X : Cx} (hK : X.K = K)
include hK
theorem ops_add : OpS K X (binaryOp .Add) dAdd := by
  subst hK
  refine (ops_I0 op_add fun _ _ _ => rep_int).or (.or ?_ (.or ?_ ?_))
  · refine ⟨_, op_add_str, fun w hw hf x y dx dy Q rx ry q => ?_⟩
    cases dx <;> cases dy <;> try exact (q : False).elim
    unfold Rep at rx ry
    obtain ⟨rfl, rx⟩ := rx
    obtain ⟨rfl, ry⟩ := ry
    obtain ⟨h, q⟩ := Pz.ite q
    exact ⟨_, _, rfl, rfl, h, q.here (rep_str (by rw [str_len]; exact h))⟩
  · refine ⟨_, op_cat, fun w hw hf x y dx dy Q rx ry q => ?_⟩
    cases dx <;> cases dy <;> try exact (q : False).elim
    unfold Rep at rx ry
    obtain ⟨a, vs, rfl, ⟨_, ha, _⟩, rx⟩ := rx
    obtain ⟨b, us, rfl, ⟨_, hb, _⟩, ry⟩ := ry
    obtain ⟨h, q⟩ := Pz.ite q
    rw [← reps_len rx, ← reps_len ry] at h
    exact ⟨a, b, vs, us, rfl, rfl, ha, hb, h, fun p hp => q _ _ (same_mut (Same.refl _) hp) (rep_lst hf hp (by simpa using h) (reps_app rx ry))⟩
  · refine ⟨_, op_catA, fun w hw hf x y dx dy Q rx ry q => ?_⟩
    cases dx <;> cases dy <;> try exact (q : False).elim
    obtain ⟨h, q⟩ := Pz.ite q
    have rx0 := rx
    have ry0 := ry
    unfold Rep at rx ry
    obtain ⟨a, vs, rfl, ta, rx⟩ := rx
    obtain ⟨b, us, rfl, tb, ry⟩ := ry
    rw [← reps_len rx, ← reps_len ry] at h
    refine ⟨a, b, vs, us, rfl, rfl, hw ▸ ta.sq, hw ▸ tb.sq, h, fun e => ?_, fun _ e => ?_, fun _ _ p hp => q _ _ (same_mut (Same.refl _) hp) (rep_tup hf hp (by simpa using h) (reps_app rx ry))⟩
    · have e2 := reps_len rx
      rw [e] at e2
      rw [List.length_eq_zero_iff.mp e2.symm, List.nil_append] at q
      exact q.here ry0
    · have e2 := reps_len ry
      rw [e] at e2
      rw [List.length_eq_zero_iff.mp e2.symm, List.append_nil] at q
      exact q.here rx0
theorem ops_sub : OpS K X (binaryOp .Sub) dSub := ops_I0 op_sub fun _ _ _ => rep_int
theorem ops_mul : OpS K X (binaryOp .Mult) dMul := by
  refine (ops_I op_mul fun _ _ _ => rep_int).or (.or (ops_I op_mulW fun _ _ _ => rep_int) ?_)
  refine ⟨_, op_rep, fun w hw hf x y dx dy Q rx ry q => ?_⟩
  cases dx <;> cases dy <;> try exact (q : False).elim
  unfold Rep at rx ry
  obtain ⟨a, vs, rfl, ⟨_, ha, _⟩, rx⟩ := rx
  subst ry
  obtain ⟨⟨h0, h3⟩, q⟩ := Pz.ite q
  obtain ⟨h1, h2⟩ := of_okK h0
  rw [← reps_len rx] at h3
  exact ⟨a, _, vs, rfl, rfl, ha, h1, h2, h3, fun p hp => q _ _ (same_mut (Same.refl _) hp) (rep_lst hf hp (by simp [List.length_flatten, List.map_replicate, Nat.mul_comm] at h3 ⊢; exact h3) (reps_flat rx _))⟩
theorem ops_fdiv : OpS K X (binaryOp .FloorDiv) dFdiv := ops_I op_fdivW fun _ _ _ => rep_int
theorem ops_mod : OpS K X (binaryOp .Mod) dMod := ops_I op_mod fun _ _ _ => rep_int
theorem ops_pow : OpS K X (binaryOp .Pow) dPow := ops_I op_pow fun _ _ _ => rep_int
end
/-! ### comparisons -/
mutual
def D.py : D → Option PyData
  | .non => some .none
  | .bl b => some (.bool b)
  | .int i => some (.int i)
  | .str x => some (.str x)
  | .tup ds => (D.pys ds).map .tuple
  | .lst ds => (D.pys ds).map .list
  | _ => none
def D.pys : List D → Option (List PyData)
  | [] => some []
  | d :: ds => match D.py d, D.pys ds with
    | some p, some ps => some (p :: ps)
    | _, _ => none
end
mutual
theorem rep_dp {w : Wo} : ∀ (d : D) {v : V} {p : PyData}, Rep w d v → d.py = some p → Dp w.K w.H v p ∧ p.plain = true
  | .non, v, p, r, e => by unfold Rep at r; unfold D.py at e; cases e; subst r; exact ⟨.non, rfl⟩
  | .bl _, v, p, r, e => by unfold Rep at r; unfold D.py at e; cases e; subst r; exact ⟨.bl _, rfl⟩
  | .int _, v, p, r, e => by unfold Rep at r; unfold D.py at e; cases e; subst r; exact ⟨.int _, rfl⟩
  | .str _, v, p, r, e => by unfold Rep at r; unfold D.py at e; cases e; obtain ⟨rfl, _⟩ := r; exact ⟨.str _, rfl⟩
  | .tup ds, v, p, r, e => by
    unfold Rep at r
    unfold D.py at e
    obtain ⟨a, vs, rfl, t, r⟩ := r
    cases q : D.pys ds with
    | none => rw [q] at e; cases e
    | some ps =>
      rw [q] at e
      cases e
      obtain ⟨h, g⟩ := reps_dp ds r q
      exact ⟨.tup t.sq h, g⟩
  | .lst ds, v, p, r, e => by
    unfold Rep at r
    unfold D.py at e
    obtain ⟨a, vs, rfl, t, r⟩ := r
    cases q : D.pys ds with
    | none => rw [q] at e; cases e
    | some ps =>
      rw [q] at e
      cases e
      obtain ⟨h, g⟩ := reps_dp ds r q
      exact ⟨.lst t.sq h, g⟩
  | .ty _, v, p, r, e => by unfold D.py at e; cases e
  | .cls _, v, p, r, e => by unfold D.py at e; cases e
  | .obj _ _, v, p, r, e => by unfold D.py at e; cases e
  | .exc _ _, v, p, r, e => by unfold D.py at e; cases e
  | .dk _, v, p, r, e => by unfold D.py at e; cases e
  | .dt _, v, p, r, e => by unfold D.py at e; cases e
  | .ref _, v, p, r, e => by unfold D.py at e; cases e
  | .scr _, v, p, r, e => by unfold D.py at e; cases e
  | .adr _, v, p, r, e => by unfold D.py at e; cases e
theorem reps_dp {w : Wo} : ∀ (ds : List D) {vs : List V} {ps : List PyData}, Reps w ds vs → D.pys ds = some ps → DpAll w.K w.H vs ps ∧ PyData.plainAll ps = true
  | [], vs, ps, r, e => by unfold Reps at r; unfold D.pys at e; cases e; subst r; exact ⟨.nil, rfl⟩
  | d :: ds, vs, ps, r, e => by
    unfold Reps at r
    unfold D.pys at e
    obtain ⟨v, us, rfl, a, r⟩ := r
    cases q1 : D.py d with
    | none => rw [q1] at e; cases e
    | some p =>
      cases q2 : D.pys ds with
      | none => rw [q1, q2] at e; cases e
      | some qs =>
        rw [q1, q2] at e
        cases e
        obtain ⟨h1, g1⟩ := rep_dp d a q1
        obtain ⟨h2, g2⟩ := reps_dp ds r q2
        exact ⟨.cons h1 h2, by show (PyData.plain p && PyData.plainAll qs) = true; rw [g1, g2]; rfl⟩
end
/-- == of data -/
def dEqP (neg : Bool) (x : D) (y : D) : Option D := match x.py, y.py with
  | some p, some q => if p.depth ≤ 60 then some (.bl (if neg then !PyData.eqv p q else PyData.eqv p q)) else none
  | _, _ => none
def dEq : D → D → Option D := dEqP false
def dNe : D → D → Option D := dEqP true
def oB0 (g : Int → Int → Bool) : D → D → Option D := oI0 fun i j => .bl (g i j)
def oSB (g : Str → Str → Bool) : D → D → Option D
  | .str x, .str y => some (.bl (g x y))
  | _, _ => none
def dLt : D → D → Option D := alt2 (oB0 fun i j => decide (i < j)) (oSB fun i j => decide (i.cps.toList < j.cps.toList))
def dLe : D → D → Option D := alt2 (oB0 fun i j => decide (i ≤ j)) (oSB fun i j => !decide (j.cps.toList < i.cps.toList))
def dGt : D → D → Option D := alt2 (oB0 fun i j => decide (j < i)) (oSB fun i j => decide (j.cps.toList < i.cps.toList))
def dGe : D → D → Option D := alt2 (oB0 fun i j => decide (j ≤ i)) (oSB fun i j => !decide (i.cps.toList < j.cps.toList))
def D.isN : D → Bool
  | .non => true
  | _ => false
def dIs : D → D → Option D
  | x, .non => some (.bl x.isN)
  | _, _ => none
def dNot : D → D → Option D
  | x, .non => some (.bl (!x.isN))
  | _, _ => none
def D.sign : D → Option Nat
  | .str x => if x.cps.size = 1 then x.cps[0]? else none
  | _ => none
/-- one sign in a text; data in a list or tuple -/
def dInS (neg : Bool) : D → D → Option D
  | x, .str z => match x.sign with
    | some c => some (.bl (if neg then !decide (c ∈ z.cps.toList) else decide (c ∈ z.cps.toList)))
    | none => none
  | _, _ => none
def dInL (neg : Bool) : D → D → Option D
  | x, .lst ys => match x.py, D.pys ys with
    | some p, some qs => if SeqAt.shaped p = true ∧ SeqAt.shaped (.list qs) = true then some (.bl (if neg then !qs.any fun z => PyData.eqv z p else qs.any fun z => PyData.eqv z p)) else none
    | _, _ => none
  | _, _ => none
def D.flat : D → Bool
  | .non | .bl _ | .int _ | .str _ => true
  | _ => false
def D.eqF : D → D → Bool
  | .non, .non => true
  | .bl a, .bl b => a == b
  | .bl a, .int b => (if a then 1 else 0) == b
  | .int a, .bl b => a == (if b then 1 else 0)
  | .int a, .int b => a == b
  | .str a, .str b => a == b
  | _, _ => false
def dInT (neg : Bool) : D → D → Option D
  | x, .tup ys => if x.flat && ys.all D.flat then some (.bl (if neg then !ys.any fun y => D.eqF y x else ys.any fun y => D.eqF y x)) else none
  | _, _ => none
def dIn : D → D → Option D := alt2 (dInS false) (alt2 (dInL false) (dInT false))
def dNin : D → D → Option D := alt2 (dInS true) (alt2 (dInL true) (dInT true))
section
variable {K : PySem.W.Frag} {X : Cx} (hK : X.K = K)
include hK
theorem ops_eqP (hu : X.A.units + 64 < cLine) : OpS K X (compareOp .Eq) dEq := by
  subst hK
  refine ⟨_, op_eqP hu, fun w hw hf x y dx dy Q rx ry q => ?_⟩
  unfold dEq dEqP at q
  split at q
  · rename_i p p' e1 e2
    obtain ⟨h, q⟩ := Pz.ite q
    obtain ⟨a1, b1⟩ := rep_dp _ rx e1
    obtain ⟨a2, b2⟩ := rep_dp _ ry e2
    rw [hw] at a1 a2
    exact ⟨p, p', a1, a2, b1, b2, h, q.here rep_bl⟩
  · exact (q : False).elim
theorem ops_neP (hu : X.A.units + 64 < cLine) : OpS K X (compareOp .NotEq) dNe := by
  subst hK
  refine ⟨_, op_neP hu, fun w hw hf x y dx dy Q rx ry q => ?_⟩
  unfold dNe dEqP at q
  split at q
  · rename_i p p' e1 e2
    obtain ⟨h, q⟩ := Pz.ite q
    obtain ⟨a1, b1⟩ := rep_dp _ rx e1
    obtain ⟨a2, b2⟩ := rep_dp _ ry e2
    rw [hw] at a1 a2
    exact ⟨p, p', a1, a2, b1, b2, h, q.here rep_bl⟩
  · exact (q : False).elim
theorem ops_SB {f : Value → Value → Sem Value} {g : Str → Str → Bool} (h : OpR X f (fun x y H Q => ∃ i j, x = .str i ∧ y = .str j ∧ Q (.bl (g i j)) H)) : OpS K X f (oSB g) := by
  refine ⟨_, h, fun w hw hf x y dx dy Q rx ry q => ?_⟩
  cases dx <;> cases dy <;> try exact (q : False).elim
  unfold Rep at rx ry
  obtain ⟨rfl, rx⟩ := rx
  obtain ⟨rfl, ry⟩ := ry
  exact ⟨_, _, rfl, rfl, Pz.here q rep_bl⟩
theorem ops_lt : OpS K X (compareOp .Lt) dLt := (ops_I0 op_lt fun _ _ _ => rep_bl).or (ops_SB hK op_lt_str)
theorem ops_le : OpS K X (compareOp .LtE) dLe := (ops_I0 op_le fun _ _ _ => rep_bl).or (ops_SB hK op_le_str)
theorem ops_gt : OpS K X (compareOp .Gt) dGt := (ops_I0 op_gt fun _ _ _ => rep_bl).or (ops_SB hK op_gt_str)
theorem ops_ge : OpS K X (compareOp .GtE) dGe := (ops_I0 op_ge fun _ _ _ => rep_bl).or (ops_SB hK op_ge_str)
omit hK in
theorem rep_isN {w : Wo} {d : D} {v : V} (r : Rep w d v) : d.isN = decide (v = .non) := by
  cases d <;> unfold Rep at r <;> unfold D.isN
  case non => rw [r]; rfl
  case bl => rw [r]; rfl
  case int => rw [r]; rfl
  case str => rw [r.1]; rfl
  case ty => rw [r]; rfl
  case cls => rw [r]; rfl
  case adr => rw [r]; rfl
  all_goals (obtain ⟨a, h⟩ := r; first | (obtain ⟨_, h, _⟩ := h; rw [h]; rfl) | (obtain ⟨_, _, h, _⟩ := h; rw [h]; rfl) | (obtain ⟨h, _⟩ := h; rw [h]; rfl))
theorem ops_is : OpS K X (compareOp .Is) dIs := by
  refine ⟨_, op_isN, fun w hw hf x y dx dy Q rx ry q => ?_⟩
  cases dy <;> try exact (q : False).elim
  unfold Rep at ry
  refine ⟨ry, ?_⟩
  rw [← rep_isN rx]
  exact Pz.here q rep_bl
theorem ops_not : OpS K X (compareOp .IsNot) dNot := by
  refine ⟨_, op_notN, fun w hw hf x y dx dy Q rx ry q => ?_⟩
  cases dy <;> try exact (q : False).elim
  unfold Rep at ry
  refine ⟨ry, ?_⟩
  rw [← rep_isN rx]
  exact Pz.here q rep_bl
omit hK in
theorem sign_at {w : Wo} {d : D} {v : V} {c : Nat} (r : Rep w d v) (h : d.sign = some c) : v = .str ⟨#[c]⟩ := by
  cases d <;> unfold D.sign at h <;> try cases h
  rename_i x
  unfold Rep at r
  obtain ⟨rfl, _⟩ := r
  by_cases e : x.cps.size = 1
  · have h : (if x.cps.size = 1 then x.cps[0]? else none) = some c := h
    rw [if_pos e] at h
    obtain ⟨x⟩ := x
    congr
    refine Array.ext (by simpa using e) fun i h1 h2 => ?_
    have hi : i = 0 := by have e : x.size = 1 := e; omega
    subst hi
    have h : x[0]? = some c := h
    rw [Array.getElem?_eq_getElem h1] at h
    exact Option.some.inj h
  · have h : (if x.cps.size = 1 then x.cps[0]? else none) = some c := h
    rw [if_neg e] at h
    cases h
omit hK in
theorem flat_at {w : Wo} {d : D} {v : V} (r : Rep w d v) (h : d.flat = true) : flatV v = true := by
  cases d <;> unfold D.flat at h <;> try cases h
  all_goals unfold Rep at r
  · rw [r]; rfl
  · rw [r]; rfl
  · rw [r]; rfl
  · rw [r.1]; rfl
omit hK in
theorem eqF_at {w : Wo} {d e : D} {v u : V} (r : Rep w d v) (r2 : Rep w e u) (h : d.flat = true) (h2 : e.flat = true) : D.eqF d e = eqV v u := by
  cases d <;> unfold D.flat at h <;> (try cases h) <;> cases e <;> unfold D.flat at h2 <;> (try cases h2) <;> unfold Rep at r r2 <;> first | (rw [r, r2]; rfl) | (rw [r.1, r2]; rfl) | (rw [r, r2.1]; rfl) | (rw [r.1, r2.1]; rfl)
omit hK in
theorem inV_at {w : Wo} {d : D} {v : V} (r : Rep w d v) (h : d.flat = true) : ∀ {ys : List D} {us : List V}, Reps w ys us → ys.all D.flat = true → us.all flatV = true ∧ inV v us = ys.any fun y => D.eqF y d
  | [], _, q, _ => by unfold Reps at q; rw [q]; exact ⟨rfl, rfl⟩
  | y :: ys, _, q, h2 => by
    unfold Reps at q
    obtain ⟨u, us, rfl, a, q⟩ := q
    simp only [List.all_cons, Bool.and_eq_true] at h2
    obtain ⟨h3, h4⟩ := inV_at r h q h2.2
    refine ⟨by simp only [List.all_cons, Bool.and_eq_true]; exact ⟨flat_at a h2.1, h3⟩, ?_⟩
    unfold inV at h4 ⊢
    rw [List.any_cons, List.any_cons, h4, eqF_at a r h2.1 h]
theorem ops_in (hu : X.A.units + 65 < cLine) : OpS K X (compareOp .In) dIn := by
  subst hK
  refine .or ?_ (.or ?_ ?_)
  · refine ⟨_, op_in_sign, fun w hw hf x y dx dy Q rx ry q => ?_⟩
    cases dy <;> try exact (q : False).elim
    rename_i z
    unfold Rep at ry
    unfold dInS at q
    cases e : dx.sign with
    | none => simp only [e] at q; exact (q : False).elim
    | some c => simp only [e] at q; exact ⟨c, z, sign_at rx e, ry.1, Pz.here q rep_bl⟩
  · refine ⟨_, op_inD hu, fun w hw hf x y dx dy Q rx ry q => ?_⟩
    cases dy <;> try exact (q : False).elim
    rename_i ys
    unfold dInL at q
    dsimp only at q
    split at q
    · rename_i p qs e1 e2
      obtain ⟨h, q⟩ := Pz.ite q
      obtain ⟨a1, b1⟩ := rep_dp _ rx e1
      obtain ⟨a2, b2⟩ := rep_dp (.lst ys) (p := .list qs) ry (by unfold D.py; rw [e2]; rfl)
      rw [hw] at a1 a2
      exact ⟨p, qs, a1, a2, h.1, h.2, Pz.here q rep_bl⟩
    · exact (q : False).elim
  · refine ⟨_, op_in_seq, fun w hw hf x y dx dy Q rx ry q => ?_⟩
    cases dy <;> try exact (q : False).elim
    obtain ⟨h, q⟩ := Pz.ite q
    rw [Bool.and_eq_true] at h
    unfold Rep at ry
    obtain ⟨a, us, rfl, t, ry⟩ := ry
    obtain ⟨h3, h4⟩ := inV_at rx h.1 ry h.2
    refine ⟨a, us, rfl, .inr (hw ▸ t.sq), flat_at rx h.1, h3, ?_⟩
    rw [h4]
    exact Pz.here q rep_bl
theorem ops_nin (hu : X.A.units + 65 < cLine) : OpS K X (compareOp .NotIn) dNin := by
  subst hK
  refine .or ?_ (.or ?_ ?_)
  · refine ⟨_, op_notIn_sign, fun w hw hf x y dx dy Q rx ry q => ?_⟩
    cases dy <;> try exact (q : False).elim
    rename_i z
    unfold Rep at ry
    unfold dInS at q
    cases e : dx.sign with
    | none => simp only [e] at q; exact (q : False).elim
    | some c => simp only [e] at q; exact ⟨c, z, sign_at rx e, ry.1, Pz.here q rep_bl⟩
  · refine ⟨_, op_notInD hu, fun w hw hf x y dx dy Q rx ry q => ?_⟩
    cases dy <;> try exact (q : False).elim
    rename_i ys
    unfold dInL at q
    dsimp only at q
    split at q
    · rename_i p qs e1 e2
      obtain ⟨h, q⟩ := Pz.ite q
      obtain ⟨a1, b1⟩ := rep_dp _ rx e1
      obtain ⟨a2, b2⟩ := rep_dp (.lst ys) (p := .list qs) ry (by unfold D.py; rw [e2]; rfl)
      rw [hw] at a1 a2
      exact ⟨p, qs, a1, a2, h.1, h.2, Pz.here q rep_bl⟩
    · exact (q : False).elim
  · refine ⟨_, op_notIn_seq, fun w hw hf x y dx dy Q rx ry q => ?_⟩
    cases dy <;> try exact (q : False).elim
    obtain ⟨h, q⟩ := Pz.ite q
    rw [Bool.and_eq_true] at h
    unfold Rep at ry
    obtain ⟨a, us, rfl, t, ry⟩ := ry
    obtain ⟨h3, h4⟩ := inV_at rx h.1 ry h.2
    refine ⟨a, us, rfl, .inr (hw ▸ t.sq), flat_at rx h.1, h3, ?_⟩
    simp only [if_true]
    rw [h4]
    exact Pz.here q rep_bl
end
end Sh

/-! Sh4: expressions as pictures: names, constants, operators, tests, displays, subscripts, slices. -/
namespace Sh
open PySem PySem.Spec PyProof.Rows L2 Nk
variable [TabSet] [BasePred]

/-- a value at a point of a def -/
theorem Post.val {K : PySem.W.Frag} {B : Addr → Prop} {ow : List (Option Addr)} {m : List Addr} {H : Hp} {W : Value → Option Addr → Hp → Prop} {Q : VK} {d : D} {S : Store} {v : V} (h : Post K B ow m H Rep W Q (.ok d S)) (c : Cells K B m ow H S) (r : Rep (wo K B m ow H) d v) : Q v H := h v m H (Fut.refl m H) c r
theorem Post.pz {K : PySem.W.Frag} {B : Addr → Prop} {ow : List (Option Addr)} {m : List Addr} {H : Hp} {W : Value → Option Addr → Hp → Prop} {Q : VK} {S : Store} {o : Option D} (h : Post K B ow m H Rep W Q (R.of S o)) (c : Cells K B m ow H S) : Pz (wo K B m ow H) Q o := by
  cases o with
  | none => exact h
  | some d => exact fun v H' s r => h v m H' (Fut.same s) (c.same s) r

def eVar (i : Nat) (e : En) (S : Store) : R D := match e[i]? with
  | some (.val d) => .ok d S
  | _ => .no
def eC (d : D) (_ : En) (S : Store) : R D := .ok d S
def eBin (o : D → D → Option D) (f g : Sx D) (e : En) (S : Store) : R D := (f e S).bind fun x S1 => (g e S1).bind fun y S2 => R.of S2 (o x y)
def eUn (o : D → Option D) (f : Sx D) (e : En) (S : Store) : R D := (f e S).bind fun x S1 => R.of S1 (o x)
def D.b : D → Option Bool
  | .bl b => some b
  | _ => none
/-- a value that is True or False -/
def tVal (f : Sx D) (e : En) (S : Store) : R Bool := (f e S).bind fun x S1 => R.of S1 x.b
def tNt (f : Sx Bool) (e : En) (S : Store) : R Bool := (f e S).bind fun b S1 => .ok (!b) S1
def tAd (f g : Sx Bool) (e : En) (S : Store) : R Bool := (f e S).bind fun b S1 => if b then g e S1 else .ok false S1
def tOo (f g : Sx Bool) (e : En) (S : Store) : R Bool := (f e S).bind fun b S1 => if b then .ok true S1 else g e S1
def eNt (f : Sx D) (e : En) (S : Store) : R D := (tVal f e S).bind fun b S1 => .ok (.bl (!b)) S1
def eAd (f g : Sx D) (e : En) (S : Store) : R D := (tVal f e S).bind fun b S1 => if b then g e S1 else .ok (.bl false) S1
def eOo (f g : Sx D) (e : En) (S : Store) : R D := (tVal f e S).bind fun b S1 => if b then .ok (.bl true) S1 else g e S1
def eIf (t : Sx Bool) (f g : Sx D) (e : En) (S : Store) : R D := (t e S).bind fun b S1 => if b then f e S1 else g e S1
def eChain (o p : D → D → Option D) (f g h : Sx D) (e : En) (S : Store) : R D := (f e S).bind fun x S1 => (g e S1).bind fun y S2 => (R.of S2 ((o x y).bind D.b)).bind fun b S3 => if b then (h e S3).bind fun z S4 => R.of S4 (p y z) else .ok (.bl false) S3
def aNil (_ : En) (S : Store) : R (List D) := .ok [] S
def aCons (f : Sx D) (g : Sx (List D)) (e : En) (S : Store) : R (List D) := (f e S).bind fun x S1 => (g e S1).bind fun xs S2 => .ok (x :: xs) S2
/-- *e -/
def aStar (f : Sx D) (g : Sx (List D)) (e : En) (S : Store) : R (List D) := (f e S).bind fun x S1 => match x with
  | .tup xs => (g e S1).bind fun ys S2 => .ok (xs ++ ys) S2
  | .lst xs => (g e S1).bind fun ys S2 => .ok (xs ++ ys) S2
  | _ => .no
def eTup (g : Sx (List D)) (e : En) (S : Store) : R D := (g e S).bind fun xs S1 => if xs.length ≤ sizeLine then .ok (.tup xs) S1 else .no
def eLst (g : Sx (List D)) (e : En) (S : Store) : R D := (g e S).bind fun xs S1 => if xs.length ≤ sizeLine then .ok (.lst xs) S1 else .no
/-- a built-in called -/
def eCall (o : List D → Option D) (g : Sx (List D)) (e : En) (S : Store) : R D := (g e S).bind fun xs S1 => R.of S1 (o xs)
/-- e.f, a field of an own object -/
def eFld (f : Str) (g : Sx D) (e : En) (S : Store) : R D := (g e S).bind fun x S1 => match x with
  | .obj _ fs => R.of S1 (fs.lookup f)
  | .ref n => match S1[n]? with
    | some (.ins _ fs) => R.of S1 (fs.lookup f)
    | _ => .no
  | _ => .no
/-- a list in a cell, an item of it -/
def D.ix : D → D → Option D := alt2 (fun | .lst xs, .int i => atI xs i | _, _ => none) (alt2 (fun | .tup xs, .int i => atI xs i | _, _ => none) (fun | .str z, .int i => (atI z.cps.toList i).map fun c => .str ⟨#[c]⟩ | _, _ => none))
def eIx (f g : Sx D) (e : En) (S : Store) : R D := (f e S).bind fun x S1 => (g e S1).bind fun y S2 => match x with
  | .ref n => match S2[n]?, y with
    | some (.lst xs), .int i => R.of S2 (atI xs i)
    | _, _ => .no
  | _ => R.of S2 (D.ix x y)
section
variable {K : PySem.W.Frag} {X : Cx} {W : WX} {ex ex2 ex3 : Expr} {f g h : Sx D} {t u : Sx Bool} {a : Sx (List D)} {pos : Pos} {i : Nat} {x : Str}
theorem x_var (hN : X.N[i]? = some x) (hv : Vis X.env.scope x) (hd : (x == ("__debug__" : Str)) = false := by decide) (hcd : (x == ("__classdict__" : Str)) = false := by decide) : Ev K X W (.Name x pos) (eVar i) := by
  refine ⟨_, pe_var hN hv hd hcd, fun b m ow H σ e S Q t q => ?_⟩
  unfold eVar at q
  cases he : e[i]? with
  | none => rw [he] at q; exact q.elim
  | some s =>
    cases s with
    | val d =>
      rw [he] at q
      obtain ⟨v, h1, h2⟩ := t.slots i _ he
      exact ⟨v, h1, q.val t.cells h2⟩
    | no => rw [he] at q; exact q.elim
    | own c => rw [he] at q; exact q.elim
theorem x_c {v : V} {d : D} (hp : PE X ex (tC v)) (hr : ∀ w, Rep w d v) : Ev K X W ex (eC d) := ⟨_, hp, fun b m ow H σ e S Q t q => q.val t.cells (hr _)⟩
theorem x_int {i : Int} {j pos} : Ev K X W (.Constant (.int i) j pos) (eC (.int i)) := x_c pe_int fun _ => rep_int
theorem x_bl {i : Bool} {j pos} : Ev K X W (.Constant (.bool i) j pos) (eC (.bl i)) := x_c pe_bl fun _ => rep_bl
theorem x_non {j pos} : Ev K X W (.Constant .none j pos) (eC .non) := x_c pe_non fun _ => rep_non
theorem x_str {z : Str} {j pos} (hz : decide (z.length ≤ sizeLine) = true := by decide +kernel) : Ev K X W (.Constant (.str z) j pos) (eC (.str z)) := x_c pe_str fun _ => rep_str (of_decide_eq_true hz)
theorem x_gc {x : Str} {v : V} {d : D} (hg : Gl X x) (h : ∃ u, X.mg x = some u ∧ RelV v u) (hr : ∀ w, Rep w d v) (hd : (x == ("__debug__" : Str)) = false := by decide) : Ev K X W (.Name x pos) (eC d) := x_c (pe_gc hg h hd) hr
theorem x_cls {x : Str} {c : String} (hK : X.K = K) (hg : Gl X x) (hm : X.mg x = some (.ref (He.ga K c))) (hd : (x == ("__debug__" : Str)) = false := by decide) : Ev K X W (.Name x pos) (eC (.cls c)) :=
  ⟨_, pe_glob (v := .ref (He.ga K c)) hg hm rfl hd, fun b m ow H σ e S Q t q => q.val t.cells (by unfold Rep; rfl)⟩
theorem x_ty {x : Str} {n : String} (hp : PE X (.Name x pos) (tC (.ty n))) : Ev K X W (.Name x pos) (eC (.ty n)) := x_c hp fun _ => by unfold Rep; rfl
theorem x_op {op : Operator} {o : D → D → Option D} (ho : OpS K X (binaryOp op) o) (hf : Ev K X W ex f) (hg : Ev K X W ex2 g) : Ev K X W (.BinOp ex op ex2 pos) (eBin o f g) := by
  obtain ⟨ta, p1, h1⟩ := hf.run
  obtain ⟨tb, p2, h2⟩ := hg.run
  obtain ⟨r, p3, h3⟩ := ho.run
  refine ⟨_, pe_op p3 p1 p2, fun b m ow H σ e S Q t q => h1 b m ow H σ e S _ t (Post.bind q fun x S1 v m1 H1 f1 c1 rx q => h2 b m1 ow H1 σ e S1 _ (t.go f1 c1) (Post.bind q fun y S2 u m2 H2 f2 c2 ry q => ?_))⟩
  exact h3 _ rfl c2.full v u x y Q (Rep.le f2.le x rx) ry (q.pz c2)
theorem x_un {op : UnaryOp} {o : D → Option D} (ho : UnS K X (unaryOp op) o) (hf : Ev K X W ex f) : Ev K X W (.UnaryOp op ex pos) (eUn o f) := by
  obtain ⟨ta, p1, h1⟩ := hf.run
  obtain ⟨r, p3, h3⟩ := ho.run
  refine ⟨_, pe_un p3 p1, fun b m ow H σ e S Q t q => h1 b m ow H σ e S _ t (Post.bind q fun x S1 v m1 H1 f1 c1 rx q => ?_)⟩
  exact h3 _ rfl c1.full v x Q rx (q.pz c1)
theorem x_cmp {op : CmpOp} {o : D → D → Option D} (ho : OpS K X (compareOp op) o) (hf : Ev K X W ex f) (hg : Ev K X W ex2 g) (hm : behindInMarks op ex2 = false) : Ev K X W (.Compare ex [op] [ex2] pos) (eBin o f g) := by
  obtain ⟨ta, p1, h1⟩ := hf.run
  obtain ⟨tb, p2, h2⟩ := hg.run
  obtain ⟨r, p3, h3⟩ := ho.run
  refine ⟨_, pe_cmpR p3 p1 p2 hm, fun b m ow H σ e S Q t q => h1 b m ow H σ e S _ t (Post.bind q fun x S1 v m1 H1 f1 c1 rx q => h2 b m1 ow H1 σ e S1 _ (t.go f1 c1) (Post.bind q fun y S2 u m2 H2 f2 c2 ry q => ?_))⟩
  exact h3 _ rfl c2.full v u x y Q (Rep.le f2.le x rx) ry (q.pz c2)
theorem rep_b {w : Wo} {x : D} {v : V} {k : Bool} (r : Rep w x v) (h : x.b = some k) : v = .bl k := by
  cases x <;> unfold D.b at h <;> try cases h
  unfold Rep at r
  exact r
theorem Post.tst {B : Addr → Prop} {ow : List (Option Addr)} {m : List Addr} {H : Hp} {Wp : Value → Option Addr → Hp → Prop} {Q : Bool → Hp → Prop} {S : Store} {x : D} {v : V} (h : Post K B ow m H RB Wp Q (R.of S x.b)) (c : Cells K B m ow H S) (r : Rep (wo K B m ow H) x v) : ∃ k, v = .bl k ∧ Q k H := by
  cases e : x.b with
  | none => rw [e] at h; exact h.elim
  | some k => rw [e] at h; exact ⟨k, rep_b r e, h k m H (Fut.refl m H) c rfl⟩
theorem t_val (hf : Ev K X W ex f) (he : ∀ whole, isTrue ex X.env whole = (do let v ← whole; standAt ex.pos; holding [v] (truthy v)) := by intro _; rfl) : Et K X W ex (tVal f) := by
  obtain ⟨ta, p1, h1⟩ := hf.run
  exact ⟨_, pt_val p1 he, fun b m ow H σ e S Q t q => h1 b m ow H σ e S _ t (Post.bind q fun x S1 v m1 H1 f1 c1 rx q => q.tst c1 rx)⟩
theorem t_cmp {op : CmpOp} {o : D → D → Option D} (ho : OpS K X (compareOp op) o) (hf : Ev K X W ex f) (hg : Ev K X W ex2 g) (hm : behindInMarks op ex2 = false) : Et K X W (.Compare ex [op] [ex2] pos) (tVal (eBin o f g)) := by
  obtain ⟨ta, p1, h1⟩ := hf.run
  obtain ⟨tb, p2, h2⟩ := hg.run
  obtain ⟨r, p3, h3⟩ := ho.run
  refine ⟨_, pt_cmpR p3 p1 p2 hm, fun b m ow H σ e S Q t q => ?_⟩
  unfold tVal eBin at q
  simp only [bind_bind] at q
  refine h1 b m ow H σ e S _ t (Post.bind q fun x S1 v m1 H1 f1 c1 rx q => h2 b m1 ow H1 σ e S1 _ (t.go f1 c1) (Post.bind q fun y S2 u m2 H2 f2 c2 ry q => ?_))
  refine h3 _ rfl c2.full v u x y _ (Rep.le f2.le x rx) ry ?_
  refine Post.pz (W := fun c d => W c d σ) (S := S2) (Post.bind q fun z S3 v3 m3 H3 f3 c3 rz q => q.tst c3 rz) c2
theorem t_not (hf : Et K X W ex t) : Et K X W (.UnaryOp .Not ex pos) (tNt t) := by
  obtain ⟨ta, p1, h1⟩ := hf.run
  exact ⟨_, pt_not p1, fun b m ow H σ e S Q t q => h1 b m ow H σ e S _ t (Post.bind q fun x S1 v m1 H1 f1 c1 rx q => q _ m1 H1 (Fut.refl _ _) c1 (by rw [show v = x from rx]; rfl))⟩
theorem w_pt (h : Ew K X W ex t) : Et K X W ex t := by
  obtain ⟨ta, p1, h1⟩ := h.run
  exact ⟨_, p1.pt, h1⟩
theorem w_and1 (hf : Et K X W ex t) : Ew K X W (.BoolOp .And [ex] pos) t := by
  obtain ⟨ta, p1, h1⟩ := hf.run
  exact ⟨_, pw_and1 p1, h1⟩
theorem w_or1 (hf : Et K X W ex t) : Ew K X W (.BoolOp .Or [ex] pos) t := by
  obtain ⟨ta, p1, h1⟩ := hf.run
  exact ⟨_, pw_or1 p1, h1⟩
theorem w_and {rest : List Expr} (hf : Et K X W ex t) (hg : Ew K X W (.BoolOp .And (ex2 :: rest) pos) u) : Ew K X W (.BoolOp .And (ex :: ex2 :: rest) pos) (tAd t u) := by
  obtain ⟨ta, p1, h1⟩ := hf.run
  obtain ⟨tb, p2, h2⟩ := hg.run
  refine ⟨_, pw_and p1 p2, fun b m ow H σ e S Q t q => h1 b m ow H σ e S _ t (Post.bind q fun x S1 v m1 H1 f1 c1 rx q => ?_)⟩
  obtain rfl : v = x := rx
  cases v with
  | true => rw [if_pos rfl] at q ⊢; exact h2 b m1 ow H1 σ e S1 _ (t.go f1 c1) q
  | false => rw [if_neg Bool.false_ne_true] at q ⊢; exact q _ m1 H1 (Fut.refl _ _) c1 rfl
theorem w_or {rest : List Expr} (hf : Et K X W ex t) (hg : Ew K X W (.BoolOp .Or (ex2 :: rest) pos) u) : Ew K X W (.BoolOp .Or (ex :: ex2 :: rest) pos) (tOo t u) := by
  obtain ⟨ta, p1, h1⟩ := hf.run
  obtain ⟨tb, p2, h2⟩ := hg.run
  refine ⟨_, pw_or p1 p2, fun b m ow H σ e S Q t q => h1 b m ow H σ e S _ t (Post.bind q fun x S1 v m1 H1 f1 c1 rx q => ?_)⟩
  obtain rfl : v = x := rx
  cases v with
  | false => rw [if_neg Bool.false_ne_true] at q ⊢; exact h2 b m1 ow H1 σ e S1 _ (t.go f1 c1) q
  | true => rw [if_pos rfl] at q ⊢; exact q _ m1 H1 (Fut.refl _ _) c1 rfl
theorem Post.bval {B : Addr → Prop} {ow : List (Option Addr)} {m : List Addr} {H : Hp} {Wp : Value → Option Addr → Hp → Prop} {Q : VK} {S : Store} {x : D} {v : V} {k : Bool → Store → R D} (h : Post K B ow m H Rep Wp Q ((R.of S x.b).bind k)) (r : Rep (wo K B m ow H) x v) : ∃ c, v = .bl c ∧ Post K B ow m H Rep Wp Q (k c S) := by
  cases e : x.b with
  | none => rw [e] at h; exact h.elim
  | some c => rw [e] at h; exact ⟨c, rep_b r e, h⟩
theorem x_not (hf : Ev K X W ex f) : Ev K X W (.UnaryOp .Not ex pos) (eNt f) := by
  obtain ⟨ta, p1, h1⟩ := hf.run
  refine ⟨_, pe_not p1, fun b m ow H σ e S Q t q => ?_⟩
  unfold eNt tVal at q
  simp only [bind_bind] at q
  refine h1 b m ow H σ e S _ t (Post.bind q fun x S1 v m1 H1 f1 c1 rx q => ?_)
  obtain ⟨c, ev, q⟩ := q.bval rx
  exact ⟨c, ev, q.val c1 rep_bl⟩
theorem x_one {op} (hf : Ev K X W ex f) : Ev K X W (.BoolOp op [ex] pos) f := by
  obtain ⟨ta, p1, h1⟩ := hf.run
  exact ⟨_, pe_one p1, h1⟩
theorem x_and {rest : List Expr} (hf : Ev K X W ex f) (hg : Ev K X W (.BoolOp .And (ex2 :: rest) pos) g) : Ev K X W (.BoolOp .And (ex :: ex2 :: rest) pos) (eAd f g) := by
  obtain ⟨ta, p1, h1⟩ := hf.run
  obtain ⟨tb, p2, h2⟩ := hg.run
  refine ⟨_, pe_and p1 p2, fun b m ow H σ e S Q t q => ?_⟩
  unfold eAd tVal at q
  simp only [bind_bind] at q
  refine h1 b m ow H σ e S _ t (Post.bind q fun x S1 v m1 H1 f1 c1 rx q => ?_)
  obtain ⟨c, ev, q⟩ := q.bval rx
  refine ⟨c, ev, ?_⟩
  cases c with
  | true => rw [if_pos rfl] at q ⊢; exact h2 b m1 ow H1 σ e S1 _ (t.go f1 c1) q
  | false => rw [if_neg Bool.false_ne_true] at q ⊢; exact q.val c1 rep_bl
theorem x_or {rest : List Expr} (hf : Ev K X W ex f) (hg : Ev K X W (.BoolOp .Or (ex2 :: rest) pos) g) : Ev K X W (.BoolOp .Or (ex :: ex2 :: rest) pos) (eOo f g) := by
  obtain ⟨ta, p1, h1⟩ := hf.run
  obtain ⟨tb, p2, h2⟩ := hg.run
  refine ⟨_, pe_or p1 p2, fun b m ow H σ e S Q t q => ?_⟩
  unfold eOo tVal at q
  simp only [bind_bind] at q
  refine h1 b m ow H σ e S _ t (Post.bind q fun x S1 v m1 H1 f1 c1 rx q => ?_)
  obtain ⟨c, ev, q⟩ := q.bval rx
  refine ⟨c, ev, ?_⟩
  cases c with
  | false => rw [if_neg Bool.false_ne_true] at q ⊢; exact h2 b m1 ow H1 σ e S1 _ (t.go f1 c1) q
  | true => rw [if_pos rfl] at q ⊢; exact q.val c1 rep_bl
theorem x_if (ht : Et K X W ex t) (hf : Ev K X W ex2 f) (hg : Ev K X W ex3 g) : Ev K X W (.IfExp ex ex2 ex3 pos) (eIf t f g) := by
  obtain ⟨tt, p0, h0⟩ := ht.run
  obtain ⟨ta, p1, h1⟩ := hf.run
  obtain ⟨tb, p2, h2⟩ := hg.run
  refine ⟨_, pe_ifExp p0 p1 p2, fun b m ow H σ e S Q t q => h0 b m ow H σ e S _ t (Post.bind q fun x S1 v m1 H1 f1 c1 rx q => ?_)⟩
  obtain rfl : v = x := rx
  cases v with
  | true => rw [if_pos rfl] at q ⊢; exact h1 b m1 ow H1 σ e S1 _ (t.go f1 c1) q
  | false => rw [if_neg Bool.false_ne_true] at q ⊢; exact h2 b m1 ow H1 σ e S1 _ (t.go f1 c1) q
theorem a_nil : Ea K X W [] aNil := ⟨_, pa_nil, fun b m ow H σ e S Q t q => q [] m H (Fut.refl _ _) t.cells reps_nil⟩
theorem a_cons {es : List Expr} (hf : Ev K X W ex f) (ha : Ea K X W es a) (hs : starEach (ex :: es) X.env = (false, eval ex X.env) :: starEach es X.env := by rfl) : Ea K X W (ex :: es) (aCons f a) := by
  obtain ⟨ta, p1, h1⟩ := hf.run
  obtain ⟨tb, p2, h2⟩ := ha.run
  exact ⟨_, pa_cons p1 p2 hs, fun b m ow H σ e S Q t q => h1 b m ow H σ e S _ t (Post.bind q fun x S1 v m1 H1 f1 c1 rx q => h2 b m1 ow H1 σ e S1 _ (t.go f1 c1) (Post.bind q fun y S2 u m2 H2 f2 c2 ry q =>
    q _ m2 H2 (Fut.refl _ _) c2 (reps_cons (Rep.le f2.le x rx) ry)))⟩
theorem x_tup {es : List Expr} {x1} (ha : Ea K X W es a) : Ev K X W (.Tuple es x1 pos) (eTup a) := by
  obtain ⟨ta, p1, h1⟩ := ha.run
  refine ⟨_, pe_tup p1, fun b m ow H σ e S Q t q => h1 b m ow H σ e S _ t (Post.bind q fun x S1 v m1 H1 f1 c1 rx q => ?_)⟩
  split at q
  · rename_i hl
    rw [← reps_len rx] at hl
    exact ⟨hl, fun p hp => q _ m1 _ (Fut.same (same_mut (Same.refl _) hp)) (c1.same (same_mut (Same.refl _) hp)) (rep_tup c1.full hp hl rx)⟩
  · exact q.elim
theorem x_lst {es : List Expr} (ha : Ea K X W es a) : Ev K X W (.List es pos) (eLst a) := by
  obtain ⟨ta, p1, h1⟩ := ha.run
  refine ⟨_, pe_lst p1, fun b m ow H σ e S Q t q => h1 b m ow H σ e S _ t (Post.bind q fun x S1 v m1 H1 f1 c1 rx q => ?_)⟩
  split at q
  · rename_i hl
    rw [← reps_len rx] at hl
    exact ⟨hl, fun p hp => q _ m1 _ (Fut.same (same_mut (Same.refl _) hp)) (c1.same (same_mut (Same.refl _) hp)) (rep_lst c1.full hp hl rx)⟩
  · exact q.elim
theorem x_chain {op op' : CmpOp} {o p : D → D → Option D} (ho : OpS K X (compareOp op) o) (hp : OpS K X (compareOp op') p) (hf : Ev K X W ex f) (hg : Ev K X W ex2 g) (hh : Ev K X W ex3 h) (hm : lastMarks [op, op'] [ex2, ex3] = false := by with_unfolding_all rfl) : Ev K X W (.Compare ex [op, op'] [ex2, ex3] pos) (eChain o p f g h) := by
  obtain ⟨ta, p1, h1⟩ := hf.run
  obtain ⟨tb, p2, h2⟩ := hg.run
  obtain ⟨tc, p3, h3⟩ := hh.run
  obtain ⟨r, p4, h4⟩ := ho.run
  obtain ⟨r', p5, h5⟩ := hp.run
  refine ⟨_, pe_chain p4 p5 p1 p2 p3 hm, fun b m ow H σ e S Q t q => h1 b m ow H σ e S _ t (Post.bind q fun x S1 v m1 H1 f1 c1 rx q => h2 b m1 ow H1 σ e S1 _ (t.go f1 c1) (Post.bind q fun y S2 u m2 H2 f2 c2 ry q => ?_))⟩
  refine h4 _ rfl c2.full v u x y _ (Rep.le f2.le x rx) ry ?_
  cases e1 : o x y with
  | none => rw [e1] at q; exact q.elim
  | some z =>
    intro v3 H3 s3 rz
    have c3 := c2.same s3
    cases e2 : z.b with
    | none => rw [e1] at q; simp only [Option.bind_some, e2] at q; exact q.elim
    | some k =>
      refine ⟨k, rep_b rz e2, ?_⟩
      rw [e1] at q
      simp only [Option.bind_some, e2, of_some, ok_bind] at q
      have t3 := ((t.go f1 c1).go f2 c2).same s3
      have q := q.go (Fut.same s3)
      cases k with
      | true =>
        rw [if_pos rfl] at q ⊢
        refine h3 b m2 ow H3 σ e S2 _ t3 (Post.bind q fun z S4 v4 m4 H4 f4 c4 rz q => ?_)
        exact h5 _ rfl c4.full u v4 y z Q (Rep.le ((Fut.same s3).trans f4).le y ry) rz (q.pz c4)
      | false =>
        rw [if_neg Bool.false_ne_true] at q ⊢
        exact q.val c3 rep_bl
theorem t_chain {op op' : CmpOp} {o p : D → D → Option D} (ho : OpS K X (compareOp op) o) (hp : OpS K X (compareOp op') p) (hf : Ev K X W ex f) (hg : Ev K X W ex2 g) (hh : Ev K X W ex3 h) (hm : lastMarks [op, op'] [ex2, ex3] = false := by with_unfolding_all rfl) : Et K X W (.Compare ex [op, op'] [ex2, ex3] pos) (tVal (eChain o p f g h)) := by
  obtain ⟨ta, p1, h1⟩ := hf.run
  obtain ⟨tb, p2, h2⟩ := hg.run
  obtain ⟨tc, p3, h3⟩ := hh.run
  obtain ⟨r, p4, h4⟩ := ho.run
  obtain ⟨r', p5, h5⟩ := hp.run
  refine ⟨_, pt_chain p4 p5 p1 p2 p3 hm, fun b m ow H σ e S Q t q => ?_⟩
  unfold tVal eChain at q
  simp only [bind_bind] at q
  refine h1 b m ow H σ e S _ t (Post.bind q fun x S1 v m1 H1 f1 c1 rx q => h2 b m1 ow H1 σ e S1 _ (t.go f1 c1) (Post.bind q fun y S2 u m2 H2 f2 c2 ry q => ?_))
  refine h4 _ rfl c2.full v u x y _ (Rep.le f2.le x rx) ry ?_
  cases e1 : o x y with
  | none => rw [e1] at q; exact q.elim
  | some z =>
    intro v3 H3 s3 rz
    have c3 := c2.same s3
    cases e2 : z.b with
    | none => rw [e1] at q; simp only [Option.bind_some, e2] at q; exact q.elim
    | some k =>
      refine ⟨k, rep_b rz e2, ?_⟩
      rw [e1] at q
      simp only [Option.bind_some, e2, of_some, ok_bind] at q
      have t3 := ((t.go f1 c1).go f2 c2).same s3
      have q := q.go (Fut.same s3)
      cases k with
      | true =>
        rw [if_pos rfl] at q ⊢
        simp only [bind_bind] at q
        refine h3 b m2 ow H3 σ e S2 _ t3 (Post.bind q fun z S4 v4 m4 H4 f4 c4 rz q => ?_)
        exact h5 _ rfl c4.full u v4 y z _ (Rep.le ((Fut.same s3).trans f4).le y ry) rz (Post.pz (W := fun c d => W c d σ) (S := S4) (Post.bind q fun z S3 v3 m3 H3 f3 c3 rz q => q.tst c3 rz) c4)
      | false =>
        rw [if_neg Bool.false_ne_true] at q ⊢
        exact ⟨false, rfl, q _ m2 H3 (Fut.refl _ _) c3 rfl⟩
theorem x_callB {id : String} {o : List D → Option D} {es : List Expr} {p : Pos} (hc : CallS K X (.builtin id) o) (hg : Gl X x) (hm : X.mg x = none) (hv : bootBuiltins x = some (.builtin id)) (ha : Ea K X W (ex :: es) a) (hn : x ≠ "__name__" := by decide) (hdb : (x == ("__debug__" : Str)) = false := by decide)
    (he : starEach (ex :: es) X.env = (false, eval ex X.env) :: starEach es X.env := by rfl) (hpl : (backTo pos (starEach es X.env)).any (·.1) = false := by rfl) : Ev K X W (.Call (.Name x p) (ex :: es) [] pos) (eCall o a) := by
  obtain ⟨ta, p1, h1⟩ := ha.run
  obtain ⟨r, p2, h2⟩ := hc.run
  exact ⟨_, pe_callB p2 hg hm hv p1 hn hdb he hpl, fun b m ow H σ e S Q t q => h1 b m ow H σ e S _ t (Post.bind q fun x S1 v m1 H1 f1 c1 rx q => h2 _ rfl c1.full v x Q rx (q.pz c1))⟩
theorem x_callT {T : String} {o : List D → Option D} {es : List Expr} {p : Pos} (hc : CallS K X (.type T) o) (hg : Gl X x) (hm : X.mg x = none) (hv : bootBuiltins x = some (.type T)) (ha : Ea K X W (ex :: es) a) (hn : x ≠ "__name__" := by decide) (hdb : (x == ("__debug__" : Str)) = false := by decide)
    (he : starEach (ex :: es) X.env = (false, eval ex X.env) :: starEach es X.env := by rfl) (hpl : (backTo pos (starEach es X.env)).any (·.1) = false := by rfl) : Ev K X W (.Call (.Name x p) (ex :: es) [] pos) (eCall o a) := by
  obtain ⟨ta, p1, h1⟩ := ha.run
  obtain ⟨r, p2, h2⟩ := hc.run
  exact ⟨_, pe_callTy p2 hg hm hv p1 hn hdb he hpl, fun b m ow H σ e S Q t q => h1 b m ow H σ e S _ t (Post.bind q fun x S1 v m1 H1 f1 c1 rx q => h2 _ rfl c1.full v x Q rx (q.pz c1))⟩
end
end Sh

/-! Sh5: how a state changes: slots set, own things and cells changed, frozen; statements. -/
namespace Sh
open PySem PySem.Spec PyProof.Rows L2 Nk
variable [TabSet] [BasePred]

section
variable {K : PySem.W.Frag} {b : Bs} {m : List Addr} {ow ow2 : List (Option Addr)} {H H' : Hp} {σ : L2.St} {e : En} {S S' : Store} {i : Nat} {v : V} {d : D} {a : Addr} {B : Addr → Prop}
theorem le_ow (h : ∀ a, some a ∈ ow2 → some a ∈ ow) : Le (wo K B m ow H) (wo K B m ow2 H) :=
  ⟨rfl, fun a o _ _ z => by rintro (q | q | q); exact z (.inl q); exact z (.inr (.inl q)); exact z (.inr (.inr (h a q))), fun _ _ e => e, fun _ _ e _ _ => e⟩
theorem mem_set_none {a : Addr} (h : some a ∈ ow.set i none) : ∃ j : Nat, j ≠ i ∧ ow[j]? = some (some a) := by
  obtain ⟨j, hj⟩ := List.mem_iff_getElem?.mp h
  by_cases e : i = j
  · subst e
    by_cases l : i < ow.length
    · rw [List.getElem?_set_self l] at hj; cases hj
    · rw [List.getElem?_eq_none (by simpa using l)] at hj; cases hj
  · rw [List.getElem?_set_ne e] at hj
    exact ⟨j, fun z => e z.symm, hj⟩
theorem Cells.sub (c : Cells K B m ow H S) (h : ∀ a, some a ∈ ow2 → some a ∈ ow) (od : ∀ (i j : Nat) (a : Addr), ow2[i]? = some (some a) → ow2[j]? = some (some a) → i = j) : Cells K B m ow2 H S :=
  ⟨c.hB, c.nd, fun a ha z => c.no a ha (h a z), fun a ha => c.nB a (ha.imp id (h a)), od, fun a z => c.oh a (h a z), c.len, fun n a x h1 h2 => (c.cs n a x h1 h2).le (le_ow h) fun o e _ => e, c.tb⟩
theorem od_none (c : Cells K B m ow H S) : ∀ (j k : Nat) (a : Addr), (ow.set i none)[j]? = some (some a) → (ow.set i none)[k]? = some (some a) → j = k := by
  have f : ∀ (j : Nat) (a : Addr), (ow.set i none)[j]? = some (some a) → ow[j]? = some (some a) := fun j a hj => by
    by_cases e : i = j
    · subst e
      by_cases l : i < ow.length
      · rw [List.getElem?_set_self l] at hj; cases hj
      · rw [List.getElem?_eq_none (by simpa using l)] at hj; cases hj
    · rwa [List.getElem?_set_ne e] at hj
  exact fun j k a hj hk => c.od j k a (f j a hj) (f k a hk)
theorem sub_none : ∀ a, some a ∈ ow.set i none → some a ∈ ow := fun a h => let ⟨j, _, hj⟩ := mem_set_none h; List.mem_of_getElem? hj
theorem set_none_get {ow : List (Option Addr)} {i j : Nat} {a : Addr} (h : (ow.set i none)[j]? = some (some a)) : i ≠ j ∧ ow[j]? = some (some a) := by
  by_cases e1 : i = j
  · subst e1
    by_cases l : i < ow.length
    · rw [List.getElem?_set_self l] at h; cases h
    · rw [List.getElem?_eq_none (by simpa using l)] at h; cases h
  · rw [List.getElem?_set_ne e1] at h
    exact ⟨e1, h⟩
theorem oe_none {s : Sl} (h : ∀ (i : Nat) (a : Addr), ow[i]? = some (some a) → ∃ c, e[i]? = some (Sl.own c)) : ∀ (j : Nat) (a : Addr), (ow.set i none)[j]? = some (some a) → ∃ c, (e.set i s)[j]? = some (Sl.own c) := fun j a hj => by
  obtain ⟨n, hj⟩ := set_none_get hj
  rw [List.getElem?_set_ne n]
  exact h j a hj
/-- a slot that holds nothing of its own -/
def notOwn (i : Nat) (e : En) : Bool := match e[i]? with
  | some (.own _) => false
  | _ => true
theorem ow_set (t : At K b m ow H σ e S) (h : notOwn i e = true) : ow.set i none = ow := by
  refine List.ext_getElem? fun j => ?_
  by_cases e1 : i = j
  · subst e1
    by_cases l : i < ow.length
    · rw [List.getElem?_set_self l]
      cases q : ow[i]? with
      | none => rw [List.getElem?_eq_getElem l] at q; cases q
      | some x =>
        cases x with
        | none => rfl
        | some a =>
          obtain ⟨c, hc⟩ := t.oe i a q
          unfold notOwn at h
          rw [hc] at h
          cases h
    · rw [List.getElem?_eq_none (by simpa using l), List.getElem?_eq_none (by simpa using l)]
  · rw [List.getElem?_set_ne e1]
theorem sf_set {s : Sl} {u : Option V} (t : At K b m ow H σ e S) (h : notOwn i e = true) : ∀ a, b.sf = some a → (σ.set i u)[0]? = some (some (.ref a)) ∧ ow[0]? = some (some a) ∧ ∃ c fs, (e.set i s)[0]? = some (Sl.own (.ins c fs)) := fun a ha => by
  obtain ⟨h1, h2, c, fs, h3⟩ := t.sf a ha
  have n : i ≠ 0 := fun z => by
    subst z
    unfold notOwn at h
    rw [h3] at h
    cases h
  exact ⟨by rw [List.getElem?_set_ne n]; exact h1, h2, c, fs, by rw [List.getElem?_set_ne n]; exact h3⟩
theorem oe_set {s : Sl} (t : At K b m ow H σ e S) (h : notOwn i e = true) : ∀ (j : Nat) (a : Addr), ow[j]? = some (some a) → ∃ c, (e.set i s)[j]? = some (Sl.own c) := fun j a hj => by
  obtain ⟨c, hc⟩ := t.oe j a hj
  have n : i ≠ j := fun z => by
    subst z
    unfold notOwn at h
    rw [hc] at h
    cases h
  exact ⟨c, by rw [List.getElem?_set_ne n]; exact hc⟩
/-- a slot holds a value from now on -/
theorem At.set' (t : At K b m ow H σ e S) (h : notOwn i e = true) (r : Rep (wo K b.B m ow H) d v) : At K b m ow H (σ.set i (some v)) (e.set i (.val d)) S := by
  refine ⟨t.cells, by simpa using t.len, fun j s hs => ?_, t.fut, t.new, oe_set t h, sf_set t h, t.ph⟩
  by_cases e1 : i = j
  · subst e1
    by_cases l : i < e.length
    · rw [List.getElem?_set_self l] at hs
      cases hs
      exact ⟨v, List.getElem?_set_self (by rw [t.len.1]; exact l), r⟩
    · rw [List.getElem?_eq_none (by simpa using l)] at hs; cases hs
  · rw [List.getElem?_set_ne e1] at hs
    have h := t.slots j s hs
    cases s with
    | no => exact True.intro
    | val d' => obtain ⟨u, h1, h2⟩ := h; exact ⟨u, by rw [List.getElem?_set_ne e1]; exact h1, h2⟩
    | own x => obtain ⟨u, h1, h2, h3⟩ := h; exact ⟨u, by rw [List.getElem?_set_ne e1]; exact h1, h2, h3⟩
theorem At.clear' (t : At K b m ow H σ e S) (h : notOwn i e = true) (u : Option V) : At K b m ow H (σ.set i u) (e.set i .no) S := by
  refine ⟨t.cells, by simpa using t.len, fun j s hs => ?_, t.fut, t.new, oe_set t h, sf_set t h, t.ph⟩
  by_cases e1 : i = j
  · subst e1
    by_cases l : i < e.length
    · rw [List.getElem?_set_self l] at hs
      cases hs
      exact True.intro
    · rw [List.getElem?_eq_none (by simpa using l)] at hs; cases hs
  · rw [List.getElem?_set_ne e1] at hs
    have h := t.slots j s hs
    cases s with
    | no => exact True.intro
    | val d' => obtain ⟨u, h1, h2⟩ := h; exact ⟨u, by rw [List.getElem?_set_ne e1]; exact h1, h2⟩
    | own x => obtain ⟨u, h1, h2, h3⟩ := h; exact ⟨u, by rw [List.getElem?_set_ne e1]; exact h1, h2, h3⟩
/-- what a slot owns, an object that only it holds, as a tree -/
def Cell.tree : Cell → D
  | .lst ds => .lst ds
  | .ins c fs => .obj c fs
  | .dk kvs => .dk kvs
  | .dt kvs => .dt kvs
def freeze (i : Nat) (e : En) : En := match e[i]? with
  | some (.own (.lst ds)) => e.set i (.val (.lst ds))
  | some (.own (.dk ds)) => e.set i (.val (.dk ds))
  | some (.own (.dt ds)) => e.set i (.val (.dt ds))
  | _ => e
theorem crep_tree {w : Wo} {c : Cell} (h : CRep w a c) (z : ¬ w.Z a) : Rep w c.tree (.ref a) := by
  cases c with
  | lst ds => obtain ⟨vs, h, l, r⟩ := h; unfold Cell.tree Rep; exact ⟨a, vs, rfl, ⟨z, h, l⟩, r⟩
  | ins c fs => obtain ⟨dx, gs, h, r⟩ := h; unfold Cell.tree Rep; exact ⟨a, dx, gs, rfl, z, h, r⟩
  | dk kvs => obtain ⟨vs, h, r⟩ := h; unfold Cell.tree Rep; exact ⟨a, vs, rfl, z, h, r⟩
  | dt kvs => obtain ⟨vs, h, r⟩ := h; unfold Cell.tree Rep; exact ⟨a, vs, rfl, z, h, r⟩
theorem own_z (c : Cells K B m ow H S) (h : ow[i]? = some (some a)) : ¬ zf B m (ow.set i none) a := by
  rintro (q | q | q)
  · exact c.nB a (.inr (List.mem_of_getElem? h)) q
  · exact c.no a q (List.mem_of_getElem? h)
  · obtain ⟨j, hj, e⟩ := mem_set_none q
    exact hj (c.od j i a e h)
theorem At.frz {c : Cell} (t : At K b m ow H σ e S) (q : e[i]? = some (.own c)) (hc : ∀ k fs, c ≠ .ins k fs) : ∃ ow', At K b m ow' H σ (e.set i (.val c.tree)) S ∧ Le (wo K b.B m ow H) (wo K b.B m ow' H) := by
  obtain ⟨a, h1, h2, h3⟩ := t.slots i _ q
  refine ⟨ow.set i none, ?_, le_ow sub_none⟩
  have h4 : CRep (wo K b.B m (ow.set i none) H) a c := h3.le (le_ow sub_none) fun o e _ => e
  have h5 := crep_tree h4 (own_z t.cells h2)
  refine ⟨t.cells.sub sub_none (od_none t.cells), by simpa using t.len, fun j s hs => ?_, t.fut, fun a ha => t.new a (sub_none a ha), oe_none t.oe, fun x hx => ?_, t.ph⟩
  · by_cases e1 : i = j
    · subst e1
      rw [List.getElem?_set_self (List.getElem?_eq_some_iff.mp q).1] at hs
      cases hs
      exact ⟨_, h1, h5⟩
    · rw [List.getElem?_set_ne e1] at hs
      have h := t.slots j s hs
      cases s with
      | no => exact True.intro
      | val d' => obtain ⟨u, h1, h2⟩ := h; exact ⟨u, h1, Rep.le (le_ow sub_none) d' h2⟩
      | own x => obtain ⟨u, h1, h2, h3⟩ := h; exact ⟨u, h1, by rw [List.getElem?_set_ne e1]; exact h2, h3.le (le_ow sub_none) fun o e _ => e⟩
  · obtain ⟨g1, g2, k, fs, g3⟩ := t.sf x hx
    have n : i ≠ 0 := fun z => by
      subst z
      rw [q] at g3
      exact hc k fs (Sl.own.inj (Option.some.inj g3))
    exact ⟨g1, by rw [List.getElem?_set_ne n]; exact g2, k, fs, by rw [List.getElem?_set_ne n]; exact g3⟩
theorem At.freeze (t : At K b m ow H σ e S) : ∃ ow', At K b m ow' H σ (freeze i e) S ∧ Le (wo K b.B m ow H) (wo K b.B m ow' H) := by
  unfold Sh.freeze
  cases q : e[i]? with
  | none => exact ⟨ow, t, Le.refl _⟩
  | some s =>
    cases s with
    | no => exact ⟨ow, t, Le.refl _⟩
    | val d => exact ⟨ow, t, Le.refl _⟩
    | own c =>
      cases c with
      | ins k fs => exact ⟨ow, t, Le.refl _⟩
      | lst ds => exact t.frz q fun _ _ z => by cases z
      | dk ds => exact t.frz q fun _ _ z => by cases z
      | dt ds => exact t.frz q fun _ _ z => by cases z
/-- an address that is hidden becomes a slot's own -/
theorem At.own {c : Cell} (t : At K b m ow H σ e S) (z : ¬ zf b.B m ow a) (h0 : Fr b.H0 a) (cl : Cells K (fun x => b.B x ∨ x = a) m ow H S) (r : CRep (wo K (fun x => b.B x ∨ x = a) m ow H) a c) (sl : ∀ (j : Nat) (s : Sl), j ≠ i → e[j]? = some s → SlR (wo K (fun x => b.B x ∨ x = a) m ow H) σ ow j s) (hi : i < e.length) (hno : notOwn i e = true) :
    At K b m (ow.set i (some a)) H (σ.set i (some (.ref a))) (e.set i (.own c)) S ∧ Le (wo K (fun x => b.B x ∨ x = a) m ow H) (wo K b.B m (ow.set i (some a)) H) := by
  have mem : ∀ x, some x ∈ ow.set i (some a) → x = a ∨ some x ∈ ow := fun x hx => by
    rcases List.mem_or_eq_of_mem_set hx with h | h
    · exact .inr h
    · exact .inl (Option.some.inj h)
  have hio : i < ow.length := by rw [t.len.2]; exact hi
  have get : ∀ (j : Nat) (x : Addr), (ow.set i (some a))[j]? = some (some x) → (j = i ∧ x = a) ∨ (j ≠ i ∧ ow[j]? = some (some x)) := fun j x hx => by
    by_cases e1 : i = j
    · subst e1
      rw [List.getElem?_set_self hio] at hx
      cases hx
      exact .inl ⟨rfl, rfl⟩
    · rw [List.getElem?_set_ne e1] at hx
      exact .inr ⟨fun z => e1 z.symm, hx⟩
  have le : Le (wo K (fun x => b.B x ∨ x = a) m ow H) (wo K b.B m (ow.set i (some a)) H) := ⟨rfl, fun x o _ _ q => by
    rintro (h | h | h)
    · exact q (.inl (.inl h))
    · exact q (.inr (.inl h))
    · rcases mem x h with h | h
      · exact q (.inl (.inr h))
      · exact q (.inr (.inr h)), fun _ _ h => h, fun _ _ h _ _ => h⟩
  refine ⟨⟨⟨fun x hx => cl.hB x (.inl hx), cl.nd, fun x hx q => ?_, fun x hx q => ?_, fun j k x hj hk => ?_, fun x hx => ?_, cl.len, fun n x c h1 h2 => (cl.cs n x c h1 h2).le le fun o e _ => e, cl.tb⟩, by simpa using t.len, fun j s hs => ?_, t.fut, fun x hx => ?_, fun j x hj => ?_, fun x hx => ?_, t.ph⟩, le⟩
  · rcases mem x q with q | q
    · subst q; exact z (.inr (.inl hx))
    · exact cl.no x hx q
  · rcases hx with hx | hx
    · exact t.cells.nB x (.inl hx) q
    · rcases mem x hx with h | h
      · subst h; exact z (.inl q)
      · exact t.cells.nB x (.inr h) q
  · rcases get j x hj with ⟨rfl, rfl⟩ | ⟨e1, h1⟩ <;> rcases get k _ hk with ⟨rfl, h⟩ | ⟨e2, h2⟩
    · rfl
    · exact (z (.inr (.inr (List.mem_of_getElem? h2)))).elim
    · subst h; exact (z (.inr (.inr (List.mem_of_getElem? h1)))).elim
    · exact cl.od j k x h1 h2
  · rcases mem x hx with h | h
    · subst h; exact cl.hB x (.inr rfl)
    · exact cl.oh x h
  · by_cases e1 : i = j
    · subst e1
      rw [List.getElem?_set_self hi] at hs
      cases hs
      exact ⟨a, List.getElem?_set_self (by rw [t.len.1]; exact hi), List.getElem?_set_self hio, r.le le fun o e _ => e⟩
    · rw [List.getElem?_set_ne e1] at hs
      have h := sl j s (fun q => e1 q.symm) hs
      cases s with
      | no => exact True.intro
      | val d' => obtain ⟨u, h1, h2⟩ := h; exact ⟨u, by rw [List.getElem?_set_ne e1]; exact h1, Rep.le le d' h2⟩
      | own x => obtain ⟨u, h1, h2, h3⟩ := h; exact ⟨u, by rw [List.getElem?_set_ne e1]; exact h1, by rw [List.getElem?_set_ne e1]; exact h2, h3.le le fun o e _ => e⟩
  · rcases mem x hx with h | h
    · subst h; exact h0
    · exact t.new x h
  · rcases get j x hj with ⟨rfl, _⟩ | ⟨n, h⟩
    · exact ⟨c, List.getElem?_set_self hi⟩
    · rw [List.getElem?_set_ne (fun q => n q.symm)]
      exact t.oe j x h
  · obtain ⟨g1, g2, k, fs, g3⟩ := t.sf x hx
    have n : i ≠ 0 := fun z => by
      subst z
      unfold notOwn at hno
      rw [g3] at hno
      cases hno
    exact ⟨by rw [List.getElem?_set_ne n]; exact g1, by rw [List.getElem?_set_ne n]; exact g2, k, fs, by rw [List.getElem?_set_ne n]; exact g3⟩
/-- what a slot owns changes -/
theorem At.own_upd {c c' : Cell} (t : At K b m ow H σ e S) (ho : ow[i]? = some (some a)) (he : e[i]? = some (.own c)) (hs : σ[i]? = some (some (.ref a))) (keep : ∀ x o, x ≠ a → H x = some o → H' x = some o) (dom : ∀ x, Fr H' x → Fr H x) (r : CRep (wo K b.B m ow H') a c') (hk : ∀ k fs, c = .ins k fs → ∃ k' fs', c' = .ins k' fs') :
    At K b m ow H' σ (e.set i (.own c')) S ∧ Le (wo K b.B m ow H) (wo K b.B m ow H') := by
  have am : some a ∈ ow := List.mem_of_getElem? ho
  have ho1 : ∃ o, H a = some o ∧ (∀ ps, o ≠ .tbl ps) ∧ ∀ φ, o ≠ .ext φ := by
    obtain ⟨a', g1, g2, g3⟩ := t.slots i _ he
    rw [ho] at g2
    cases g2
    exact g3.some
  have le : Le (wo K b.B m ow H) (wo K b.B m ow H') := ⟨rfl, fun _ _ _ _ h => h, fun _ _ h => h, fun x o h _ z => keep x o (fun q => z (by rw [q]; exact .inr (.inr am))) h⟩
  refine ⟨⟨⟨fun x hx q => t.cells.hB x hx (dom x q), t.cells.nd, t.cells.no, t.cells.nB, t.cells.od, fun x hx q => t.cells.oh x hx (dom x q), t.cells.len, fun n x c h1 h2 => (t.cells.cs n x c h1 h2).le le fun o e _ => keep x o (fun q => t.cells.no x (List.mem_of_getElem? h1) (by rw [q]; exact am)) e, tabs_keep t.cells.tb ho1 keep⟩, by simpa using t.len, fun j s hj => ?_, ?_, t.new, fun j x hj => ?_, fun x hx => ?_, t.ph⟩, le⟩
  · by_cases e1 : i = j
    · subst e1
      rw [List.getElem?_set_self (List.getElem?_eq_some_iff.mp he).1] at hj
      cases hj
      exact ⟨a, hs, ho, r⟩
    · rw [List.getElem?_set_ne e1] at hj
      have h := t.slots j s hj
      cases s with
      | no => exact True.intro
      | val d' => obtain ⟨u, h1, h2⟩ := h; exact ⟨u, h1, Rep.le le d' h2⟩
      | own x => obtain ⟨u, h1, h2, h3⟩ := h; exact ⟨u, h1, h2, h3.le le fun o e _ => keep u o (fun q => e1 (t.cells.od i j u (by rw [q]; exact ho) h2)) e⟩
  · obtain ⟨pre, kp, dm⟩ := t.fut
    refine ⟨pre, fun x o h n hm => keep x o (fun q => ?_) (kp x o h n hm), fun x h => dm x (dom x h)⟩
    have := t.new a am
    rw [← q] at this
    exact this.no h n
  · by_cases e1 : i = j
    · subst e1
      exact ⟨c', List.getElem?_set_self (List.getElem?_eq_some_iff.mp he).1⟩
    · rw [List.getElem?_set_ne e1]
      exact t.oe j x hj
  · obtain ⟨g1, g2, k, fs, g3⟩ := t.sf x hx
    refine ⟨g1, g2, ?_⟩
    by_cases n : i = 0
    · subst n
      rw [he] at g3
      obtain ⟨k', fs', e'⟩ := hk k fs (Sl.own.inj (Option.some.inj g3))
      exact ⟨k', fs', by rw [List.getElem?_set_self (List.getElem?_eq_some_iff.mp he).1, e']⟩
    · exact ⟨k, fs, by rw [List.getElem?_set_ne n]; exact g3⟩
/-- a cell changes -/
theorem Cells.put {n : Nat} {c' : Cell} (t : Cells K B m ow H S) (hm : m[n]? = some a) (keep : ∀ x o, x ≠ a → H x = some o → H' x = some o) (dom : ∀ x, Fr H' x → Fr H x) (r : CRep (wo K B m ow H') a c') :
    Cells K B m ow H' (S.set n c') ∧ Fut m H m H' := by
  have am : a ∈ m := List.mem_of_getElem? hm
  have fut : Fut m H m H' := ⟨⟨[], by simp, by simp⟩, fun x o h _ z => keep x o (fun q => z (by rw [q]; exact am)) h, dom⟩
  refine ⟨⟨fun x hx q => t.hB x hx (dom x q), t.nd, t.no, t.nB, t.od, fun x hx q => t.oh x hx (dom x q), by simpa using t.len, fun k x c h1 h2 => ?_, tabs_keep t.tb (t.cs n a _ hm (List.getElem?_eq_getElem (by rw [← t.len]; exact (List.getElem?_eq_some_iff.mp hm).1))).some keep⟩, fut⟩
  by_cases e1 : n = k
  · subst e1
    rw [hm] at h1
    cases h1
    rw [List.getElem?_set_self (by rw [← t.len]; exact (List.getElem?_eq_some_iff.mp hm).1)] at h2
    cases h2
    exact r
  · rw [List.getElem?_set_ne e1] at h2
    refine (t.cs k x c h1 h2).le fut.le fun o e _ => keep x o (fun q => e1 ?_) e
    subst q
    exact (List.getElem?_inj (List.getElem?_eq_some_iff.mp hm).1 t.nd).mp (hm.trans h1.symm)
end
end Sh

/-! Sh6: statements, targets, loops, comprehensions, fresh lists. -/
namespace Sh
open PySem PySem.Spec PyProof.Rows L2 Nk
variable [TabSet] [BasePred]

abbrev Tg := D → En → Option En
def gN (i : Nat) (d : D) (e : En) : Option En := if notOwn i e then some (e.set i (.val d)) else none
def gsNil (ds : List D) (e : En) : Option En := match ds with
  | [] => some e
  | _ => none
def gsCons (g : Tg) (gs : List D → En → Option En) (ds : List D) (e : En) : Option En := match ds with
  | d :: ds => (g d e).bind (gs ds)
  | [] => none
def gT (gs : List D → En → Option En) (d : D) (e : En) : Option En := match d with
  | .tup ds => gs ds e
  | _ => none
/-- an iterator gives these -/
def ItR (w : Wo) (ds : List D) (J : It) : Prop := ∃ (G : Hp → Prop) (Y : Nat → Hp → V → Hp → Prop), Walk J ds.length G Y ∧ (∀ w', Le w w' → G w'.H) ∧ ∀ i d w' v H', ds[i]? = some d → Le w w' → w'.Full → Y i w'.H v H' → Same w'.H H' ∧ Rep (w'.at H') d v
section
variable (K : PySem.W.Frag) (X : Cx) (W : WX)
structure Eg (us : List Nat) (tg : Expr) (g : Tg) : Prop where
  run : ∃ t, PG X tg t ∧ ∀ b m ow H σ e S d v (N : L2.St → Hp → Prop), At K b m ow H σ e S → Rep (wo K b.B m ow H) d v → (match g d e with
    | some e' => ∀ σ', At K b m ow H σ' e' S → wipe σ' us = wipe σ us → N σ' H
    | none => False) → t v σ H N
structure Egs (us : List Nat) (tg : List Expr) (g : List D → En → Option En) : Prop where
  run : ∃ t, PGs X tg t ∧ ∀ b m ow H σ e S ds vs (N : L2.St → Hp → Prop), At K b m ow H σ e S → Reps (wo K b.B m ow H) ds vs → (match g ds e with
    | some e' => ∀ σ', At K b m ow H σ' e' S → wipe σ' us = wipe σ us → N σ' H
    | none => False) → t vs σ H N
structure Ei (tg iter : Expr) (f : Sx (List D)) : Prop where
  run : ∃ wi, PI X tg iter wi ∧ ∀ b m ow H σ e S Q, At K b m ow H σ e S → Post K b.B ow m H ItR (fun c d => W c d σ) Q (f e S) → wi σ H Q
end
def sSeq (f g : Sy) (e : En) (S : Store) : RS := (f e S).seq g
def sNil (e : En) (S : Store) : RS := .nx e S
def sSet (i : Nat) (f : Sx D) (e : En) (S : Store) : RS := (f e S).run e fun d S1 => if notOwn i e then .nx (e.set i (.val d)) S1 else .no
def sAsg (g : Tg) (f : Sx D) (e : En) (S : Store) : RS := (f e S).run e fun d S1 => match g d e with
  | some e' => .nx e' S1
  | none => .no
def sDrop (f : Sx D) (e : En) (S : Store) : RS := (f e S).run e fun _ S1 => .nx e S1
def sRet (f : Sx D) (e : En) (S : Store) : RS := (f e S).run e fun d S1 => .rt d S1
def sRetN (_ : En) (S : Store) : RS := .rt .non S
/-- the list that the slot holds -/
def sRetO (i : Nat) (e : En) (S : Store) : RS := match e[i]? with
  | some (.own c) => .rt c.tree S
  | _ => .no
def sIf (t : Sx Bool) (f g : Sy) (e : En) (S : Store) : RS := (t e S).run e fun b S1 => if b then f e S1 else g e S1
def sBk (e : En) (S : Store) : RS := .bk e S
def sCt (e : En) (S : Store) : RS := .ct e S
def RS.turn (r : RS) (k : En → Store → RS) : RS := match r with
  | .nx e S => k e S
  | .ct e S => k e S
  | .bk e S => .nx e S
  | r => r
@[simp] theorem turn_nx {e : En} {S : Store} {k : En → Store → RS} : (RS.nx e S).turn k = k e S := rfl
@[simp] theorem turn_ct {e : En} {S : Store} {k : En → Store → RS} : (RS.ct e S).turn k = k e S := rfl
@[simp] theorem turn_bk {e : En} {S : Store} {k : En → Store → RS} : (RS.bk e S).turn k = .nx e S := rfl
@[simp] theorem turn_rt {d : D} {S : Store} {k : En → Store → RS} : (RS.rt d S).turn k = .rt d S := rfl
@[simp] theorem turn_er {x : Exn} {e : En} {S : Store} {k : En → Store → RS} : (RS.er x e S).turn k = .er x e S := rfl
@[simp] theorem turn_no {k : En → Store → RS} : RS.no.turn k = .no := rfl
@[simp] theorem ite_turn {c : Prop} [Decidable c] {r s : RS} {k : En → Store → RS} : (if c then r else s).turn k = if c then r.turn k else s.turn k := by split <;> rfl
@[simp] theorem run_turn {α : Type} {r : R α} {e : En} {k : α → Store → RS} {g : En → Store → RS} : (r.run e k).turn g = r.run e fun a S => (k a S).turn g := by cases r <;> rfl
def forD (g : Tg) (body : Sy) : List D → Sy
  | [], e, S => .nx e S
  | d :: ds, e, S => match g d e with
    | none => .no
    | some e1 => (body e1 S).turn (forD g body ds)
def sFor (it : Sx (List D)) (g : Tg) (body : Sy) (e : En) (S : Store) : RS := (it e S).run e fun ds S1 => forD g body ds e S1
def whileD (t : Sx Bool) (body : Sy) : Nat → Sy
  | 0, _, _ => .no
  | n + 1, e, S => (t e S).run e fun c S1 => if c then (body e S1).turn (whileD t body n) else .nx e S1
def sWhile (n : Nat) (t : Sx Bool) (body : Sy) : Sy := whileD t body n
/-- ghost: what slot i owns is a value from now on -/
def sFrz (i : Nat) (f : Sy) (e : En) (S : Store) : RS := f (freeze i e) S
section
variable {K : PySem.W.Frag} {X : Cx} {W : WX} {ex ex2 tg iter : Expr} {st : Stmt} {rest body body2 : List Stmt} {f : Sx D} {t : Sx Bool} {a : Sx (List D)} {p q : Sy} {g : Tg} {gs : List D → En → Option En} {pos pos' : Pos} {i : Nat} {x : Str}
theorem ss_nil : Ess K X W [] sNil := ⟨_, pss_nil, fun b m ow H σ e S D t q => q _ m ow H t (Le.refl _)⟩
theorem ss_cons (h : Es K X W st p) (g : Ess K X W rest q) : Ess K X W (st :: rest) (sSeq p q) := by
  obtain ⟨ts, p1, h1⟩ := h.run
  obtain ⟨tu, p2, h2⟩ := g.run
  refine ⟨_, pss_cons p1 p2, fun b m ow H σ e S D t z => h1 b m ow H σ e S _ t ?_⟩
  unfold sSeq at z
  cases r : p e S with
  | nx e' S' => rw [r] at z; exact fun σ' m' ow' H' t' l => h2 b m' ow' H' σ' e' S' D t' (PostS.le z l)
  | rt d S' => rw [r] at z; exact z
  | bk e' S' => rw [r] at z; exact z
  | ct e' S' => rw [r] at z; exact z
  | er x e' S' => rw [r] at z; exact z
  | no => rw [r] at z; exact z.elim
theorem ss_one (h : Es K X W st p) : Ess K X W [st] p := by
  obtain ⟨ts, p1, h1⟩ := h.run
  exact ⟨_, pss_one p1, h1⟩
theorem s_frz (h : Es K X W st p) : Es K X W st (sFrz i p) := by
  obtain ⟨ts, p1, h1⟩ := h.run
  refine ⟨ts, p1, fun b m ow H σ e S D t z => ?_⟩
  obtain ⟨ow', t', l⟩ := t.freeze (i := i)
  exact h1 b m ow' H σ _ S D t' (PostS.le z l)
theorem s_set {pos' : Pos} (hN : X.N.Nodup) (hi : X.N[i]? = some x) (hx : Loc X.env.scope x) (hf : Ev K X W ex f) (hs : swapsWith ex (some (.Name x pos')) pos.line X.env = pure false := by rfl) (hfn : X.fn x = true ∨ X.env.scope.names.lookup x = some .local := by first | exact .inl rfl | exact .inr rfl | assumption) : Es K X W (.Assign [.Name x pos'] ex pos) (sSet i f) := by
  obtain ⟨ta, p1, h1⟩ := hf.run
  refine ⟨_, ps_set hN hi hx p1 hs hfn, fun b m ow H σ e S D t z => h1 b m ow H σ e S _ t (PostS.run t z fun d S' v m' H' t' f' r z => ?_)⟩
  split at z
  · exact z _ m' _ H' (t'.set' (by assumption) r) (Le.refl _)
  · exact z.elim
theorem wipe_get {σ : L2.St} {j : Nat} : ∀ {us : List Nat}, (wipe σ us)[j]? = if j ∈ us ∧ j < σ.length then some none else σ[j]?
  | [] => by simp [wipe]
  | v :: us => by
    unfold wipe
    by_cases e : v = j
    · subst e
      by_cases l : v < σ.length
      · rw [List.getElem?_set_self (by rw [wipe_length]; exact l), if_pos ⟨List.mem_cons_self, l⟩]
      · rw [List.getElem?_eq_none (by rw [List.length_set, wipe_length]; omega), if_neg (fun h => l h.2), List.getElem?_eq_none (by omega)]
    · rw [List.getElem?_set_ne e, wipe_get]
      have : (j ∈ v :: us) ↔ j ∈ us := by simp only [List.mem_cons]; exact ⟨fun h => h.elim (fun q => absurd q.symm e) id, .inr⟩
      simp only [this]
theorem wipe_set {σ : L2.St} {u : Option V} {us : List Nat} (h : i ∈ us) : wipe (σ.set i u) us = wipe σ us := by
  refine List.ext_getElem? fun j => ?_
  rw [wipe_get, wipe_get, List.length_set]
  by_cases c : j ∈ us ∧ j < σ.length
  · rw [if_pos c, if_pos c]
  · rw [if_neg c, if_neg c]
    by_cases e : i = j
    · subst e
      have l : ¬ i < σ.length := fun q => c ⟨h, q⟩
      rw [List.getElem?_eq_none (by rw [List.length_set]; omega), List.getElem?_eq_none (by omega)]
    · rw [List.getElem?_set_ne e]
variable {us : List Nat}
theorem g_name (hN : X.N.Nodup) (hi : X.N[i]? = some x) (hx : Loc X.env.scope x) (hu : i ∈ us := by decide) (hf : X.fn x = true ∨ X.env.scope.names.lookup x = some .local := by first | exact .inl rfl | exact .inr rfl | assumption) : Eg K X us (.Name x pos) (gN i) := by
  refine ⟨_, pg_name hN hi hx hf, fun b m ow H σ e S d v N t r z => ?_⟩
  unfold gN at z
  by_cases h : notOwn i e = true
  · rw [if_pos h] at z
    exact z _ (t.set' h r) (wipe_set hu)
  · rw [if_neg h] at z
    exact z.elim
theorem gs_nil : Egs K X us [] gsNil := by
  refine ⟨gNil, ⟨?_⟩, fun b m ow H σ e S ds vs N t r z => ?_⟩
  · exact (pgs_nil (X := X)).run
  · cases ds with
    | nil => unfold Reps at r; subst r; exact ⟨rfl, z σ t rfl⟩
    | cons d ds => exact z.elim
theorem gs_cons {e2 : List Expr} (h : Eg K X us ex g) (k : Egs K X us e2 gs) (hs : (assignEach (ex :: e2) X.env).map (·.2) = assign ex X.env :: (assignEach e2 X.env).map (·.2) := by rfl) : Egs K X us (ex :: e2) (gsCons g gs) := by
  obtain ⟨t1, p1, h1⟩ := h.run
  obtain ⟨t2, p2, h2⟩ := k.run
  refine ⟨_, pgs_cons p1 p2 hs, fun b m ow H σ e S ds vs N t r z => ?_⟩
  cases ds with
  | nil => exact z.elim
  | cons d ds =>
    unfold Reps at r
    obtain ⟨v, vr, rfl, r1, r2⟩ := r
    refine ⟨v, vr, rfl, h1 b m ow H σ e S d v _ t r1 ?_⟩
    unfold gsCons at z
    simp only at z
    cases q : g d e with
    | none => rw [q] at z; exact z.elim
    | some e1 =>
      rw [q] at z
      refine fun σ' t' l => h2 b m ow H σ' e1 S ds vr N t' r2 ?_
      simp only [Option.bind_some] at z
      cases q2 : gs ds e1 with
      | none => rw [q2] at z; exact z.elim
      | some e2 => rw [q2] at z; exact fun σ2 t2 l2 => z σ2 t2 (l2.trans l)
/-- a target that is a tuple of so many -/
def GLen (gs : List D → En → Option En) (n : Nat) : Prop := ∀ ds e e', gs ds e = some e' → ds.length = n
theorem gl_nil : GLen gsNil 0 := fun ds e e' h => by cases ds with
  | nil => rfl
  | cons d ds => cases h
theorem gl_cons {n : Nat} (h : GLen gs n) : GLen (gsCons g gs) (n + 1) := fun ds e e' q => by
  cases ds with
  | nil => cases q
  | cons d ds =>
    unfold gsCons at q
    dsimp only at q
    cases z : g d e with
    | none => rw [z] at q; cases q
    | some e1 => rw [z] at q; rw [List.length_cons, h ds e1 e' q]
theorem g_tup {es : List Expr} {k : Nat} {n : Nat} (hK : X.K = K) (hc : X.calm = true) (h : Egs K X us es gs) (hg : GLen gs n) (hn : (assignEach es X.env).length = n := by rfl) (hst : (assignEach es X.env).findIdx? (·.1) = none := by rfl) : Eg K X us (.Tuple es k pos) (gT gs) := by
  subst hK
  obtain ⟨t1, p1, h1⟩ := h.run
  refine ⟨_, pg_tup hc p1 hn hst, fun b m ow H σ e S d v N t r z => ?_⟩
  cases d <;> try exact z.elim
  rename_i ds
  unfold Rep at r
  obtain ⟨a, vs, rfl, tr, r⟩ := r
  cases q : gs ds e with
  | none => simp only [gT, q] at z
  | some e' =>
    refine ⟨a, vs, rfl, tr.sq, by rw [reps_len r]; exact hg _ _ _ q, h1 b m ow H σ e S ds vs N t r ?_⟩
    simp only [gT, q] at z ⊢
    exact z
theorem s_asg (hf : Ev K X W ex f) (hg : Eg K X us tg g) (hs : swapsWithSole [tg] ex pos.line X.env = pure false := by rfl) (hw : swappedStores [tg] ex X.env = pure none := by rfl) (h1 : (assignEach [tg] X.env).map (·.2) = [assign tg X.env] := by rfl) : Es K X W (.Assign [tg] ex pos) (sAsg g f) := by
  obtain ⟨ta, p1, h2⟩ := hf.run
  obtain ⟨tt, p2, h3⟩ := hg.run
  refine ⟨_, ps_asg p1 p2 hs hw h1, fun b m ow H σ e S D t z => h2 b m ow H σ e S _ t (PostS.run t z fun d S' v m' H' t' f' r z => h3 b m' ow H' σ e S' d v _ t' r ?_)⟩
  cases q : g d e with
  | none => rw [q] at z; exact z.elim
  | some e' => rw [q] at z; exact fun σ' t2 l => z σ' m' ow H' t2 (Le.refl _)
theorem s_expr (hf : Ev K X W ex f) (hs : swapsWith ex none pos.line X.env = pure false := by rfl) : Es K X W (.Expr ex pos) (sDrop f) := by
  obtain ⟨ta, p1, h1⟩ := hf.run
  exact ⟨_, ps_expr p1 hs, fun b m ow H σ e S D t z => h1 b m ow H σ e S _ t (PostS.run t z fun d S' v m' H' t' f' r z => z σ m' ow H' t' (Le.refl _))⟩
theorem s_doc {z : Str} {j p0} {pos : Pos} : Es K X W (.Expr (.Constant (.str z) j p0) pos) sNil := ⟨_, ps_doc, fun b m ow H σ e S D t z => z _ m ow H t (Le.refl _)⟩
theorem s_ret (hf : Ev K X W ex f) : Es K X W (.Return (some ex) pos) (sRet f) := by
  obtain ⟨ta, p1, h1⟩ := hf.run
  exact ⟨_, ps_ret p1, fun b m ow H σ e S D t z => h1 b m ow H σ e S _ t (PostS.run t z fun d S' v m' H' t' f' r z => z v m' ow H' t'.cells t'.fut t'.new r)⟩
theorem s_retN : Es K X W (.Return none pos) sRetN := ⟨_, ps_retN, fun b m ow H σ e S D t z => z .non m ow H t.cells t.fut t.new rep_non⟩
theorem s_retO (hN : X.N[i]? = some x) (hv : Vis X.env.scope x) (hd : (x == ("__debug__" : Str)) = false := by decide) (hcd : (x == ("__classdict__" : Str)) = false := by decide) : Es K X W (.Return (some (.Name x pos')) pos) (sRetO i) := by
  refine ⟨_, ps_ret (pe_var hN hv hd hcd), fun b m ow H σ e S D t z => ?_⟩
  unfold sRetO at z
  cases q : e[i]? with
  | none => rw [q] at z; exact z.elim
  | some s =>
    rw [q] at z
    cases s with
    | no => exact z.elim
    | val d => exact z.elim
    | own c =>
      obtain ⟨a, h1, h2, h3⟩ := t.slots i _ q
      refine ⟨_, h1, z _ m (ow.set i none) H (t.cells.sub sub_none (od_none t.cells)) t.fut (fun a ha => t.new a (sub_none a ha)) (crep_tree (h3.le (le_ow sub_none) fun o e _ => e) (own_z t.cells h2))⟩
theorem s_if (ht : Et K X W ex t) (h1 : Ess K X W body p) (h2 : Ess K X W body2 q) : Es K X W (.If ex body body2 pos) (sIf t p q) := by
  obtain ⟨tt, p0, h0⟩ := ht.run
  obtain ⟨t1, p1, h1⟩ := h1.run
  obtain ⟨t2, p2, h2⟩ := h2.run
  refine ⟨_, ps_if p0 p1 p2, fun b m ow H σ e S D t z => h0 b m ow H σ e S _ t (PostS.run t z fun c S' v m' H' t' f' r z => ?_)⟩
  obtain rfl : v = c := r
  cases v with
  | true => rw [if_pos rfl] at z ⊢; exact h1 b m' ow H' σ e S' D t' z
  | false => rw [if_neg Bool.false_ne_true] at z ⊢; exact h2 b m' ow H' σ e S' D t' z
theorem s_pass : Es K X W (.Pass pos) sNil := ⟨_, ps_pass, fun b m ow H σ e S D t z => z _ m ow H t (Le.refl _)⟩
theorem s_bk : Es K X W (.Break pos) sBk := ⟨_, ps_break, fun b m ow H σ e S D t z => z _ m ow H t (Le.refl _)⟩
theorem s_ct : Es K X W (.Continue pos) sCt := ⟨_, ps_continue, fun b m ow H σ e S D t z => z _ m ow H t (Le.refl _)⟩
/-- a turn's end -/
theorem turn_post {b : Bs} {w : Wo} {D : Ends} {r : RS} {k : En → Store → RS} {N : L2.St → Hp → Prop} (z : PostS K b w W D (r.turn k))
    (h : ∀ e' S' σ' m' ow' H', At K b m' ow' H' σ' e' S' → Le w (wo K b.B m' ow' H') → PostS K b (wo K b.B m' ow' H') W D (k e' S') → N σ' H') : PostS K b w W { D with nx := N, ct := N, bk := D.nx } r := by
  cases r with
  | nx e' S' => exact fun σ' m' ow' H' t l => h e' S' σ' m' ow' H' t l (PostS.le z l)
  | ct e' S' => exact fun σ' m' ow' H' t l => h e' S' σ' m' ow' H' t l (PostS.le z l)
  | bk e' S' => exact z
  | rt d S' => exact z
  | er x e' S' => exact z
  | no => exact z
theorem s_for {us : List Nat} {it : Sx (List D)} (hp : PassesOwn (model X.prog X.w) X.A X.env X.xe) (hc : X.calm = true) (hi : Ei K X W tg iter it) (hg : Eg K X us tg g) (hb : Ess K X W body p) (hs : ∀ x, foldedSetIterable iter X.env x = pure x := by intro _; rfl) : Es K X W (.For tg iter body [] pos) (sFor it g p) := by
  obtain ⟨wi, p0, h0⟩ := hi.run
  obtain ⟨tg', p1, h1⟩ := hg.run
  obtain ⟨tb, p2, h2⟩ := hb.run
  refine ⟨_, ps_for hp hc p0 p1 p2 hs, fun b m ow H σ e S D t z => h0 b m ow H σ e S _ t (PostS.run t z fun ds S1 J m1 H1 t1 f1 r z => ?_)⟩
  obtain ⟨G, Y, wk, hG, hY⟩ := r
  refine for_it wk (fun i σ' H' => ∃ m' ow' e' S', At K b m' ow' H' σ' e' S' ∧ Le (wo K b.B m1 ow H1) (wo K b.B m' ow' H') ∧ PostS K b (wo K b.B m' ow' H') W D (forD g p (ds.drop i) e' S')) ⟨m1, ow, e, S1, t1, Le.refl _, z⟩ (fun i σ' H' _ ⟨m', ow', e', S', _, l, _⟩ => hG _ l) ?_ ?_
  · rintro i v σ' H' H2 hi ⟨m', ow', e', S', t', l, z⟩ y
    have hd : ds[i]? = some ds[i] := List.getElem?_eq_getElem hi
    obtain ⟨s, r⟩ := hY i ds[i] _ v H2 hd l t'.cells.full y
    rw [List.drop_eq_getElem_cons hi] at z
    have l2 : Le (wo K b.B m' ow' H') (wo K b.B m' ow' H2) := (Fut.same s).le
    refine h1 b m' ow' H2 σ' e' S' ds[i] v _ (t'.same s) r ?_
    unfold forD at z
    cases q : g ds[i] e' with
    | none => rw [q] at z; exact z.elim
    | some e1 =>
      rw [q] at z
      refine fun σ2 t2 l3 => h2 b m' ow' H2 σ2 e1 S' _ t2 ?_
      exact turn_post (PostS.le z l2) fun e3 S3 σ3 m3 ow3 H3 t3 l4 z => ⟨m3, ow3, e3, S3, t3, l.trans (l2.trans l4), z⟩
  · rintro σ' H' ⟨m', ow', e', S', t', l, z⟩
    rw [List.drop_length] at z
    exact z σ' m' ow' H' t' (Le.refl _)
theorem s_while (n : Nat) (hp : PassesOwn (model X.prog X.w) X.A X.env X.xe) (ht : Et K X W ex t) (hb : Ess K X W body p) : Es K X W (.While ex body [] pos) (sWhile n t p) := by
  obtain ⟨tt, p0, h0⟩ := ht.run
  obtain ⟨tb, p2, h2⟩ := hb.run
  refine ⟨_, ps_while hp p0 p2, fun b m ow H σ e S D t' z => ?_⟩
  refine ⟨fun n σ' H' => ∃ m' ow' e' S', At K b m' ow' H' σ' e' S' ∧ PostS K b (wo K b.B m' ow' H') W D (whileD t p n e' S'), ⟨n, m, ow, e, S, t', z⟩, ?_⟩
  rintro k σ' H' ⟨m', ow', e', S', t1, z⟩
  cases k with
  | zero => exact z.elim
  | succ k =>
    unfold whileD at z
    refine h0 b m' ow' H' σ' e' S' _ t1 (PostS.run t1 z fun c S2 v m2 H2 t2 f2 r z => ?_)
    obtain rfl : v = c := r
    cases v with
    | true =>
      rw [if_pos rfl] at z ⊢
      refine ⟨fun σ3 H3 => ∃ m3 ow3 e3 S3, At K b m3 ow3 H3 σ3 e3 S3 ∧ PostS K b (wo K b.B m3 ow3 H3) W D (whileD t p k e3 S3), fun σ3 H3 h => ⟨k, Nat.lt_succ_self k, h⟩, h2 b m2 ow' H2 σ' e' S2 _ t2 ?_⟩
      exact turn_post z fun e3 S3 σ3 m3 ow3 H3 t3 l z => ⟨m3, ow3, e3, S3, t3, z⟩
    | false =>
      rw [if_neg Bool.false_ne_true] at z ⊢
      exact z σ' m2 ow' H2 t2 (Le.refl _)
end
end Sh

/-! Sh7: what is walked, comprehensions, lists that a slot owns. -/
namespace Sh
open PySem PySem.Spec PyProof.Rows L2 Nk
variable [TabSet] [BasePred]

/-! ### what is walked -/
def D.items : D → Option (List D)
  | .lst ds => some ds
  | .tup ds => some ds
  | .str z => some (z.cps.toList.map fun c => .str ⟨#[c]⟩)
  | _ => none
def iSq (f : Sx D) (e : En) (S : Store) : R (List D) := (f e S).bind fun x S1 => R.of S1 x.items
/-- a bound that range takes -/
def okR (n : Int) : Bool := match n with
  | .ofNat k => Nat.ble k 4611686018427387903
  | .negSucc k => Nat.ble k 4611686018427387903
theorem of_okR {n : Int} (h : okR n = true) : -(2 ^ 62) ≤ n ∧ n < 2 ^ 62 := by
  cases n with
  | ofNat k =>
    have h2 : k ≤ 4611686018427387903 := Nat.le_of_ble_eq_true h
    exact ⟨by simp only [Int.ofNat_eq_natCast]; omega, by simp only [Int.ofNat_eq_natCast]; omega⟩
  | negSucc k => 
    have h2 : k ≤ 4611686018427387903 := Nat.le_of_ble_eq_true h
    exact ⟨by rw [Int.negSucc_eq]; omega, by rw [Int.negSucc_eq]; omega⟩
theorem okR_of {n : Int} (h : -(2 ^ 62) ≤ n) (h2 : n < 2 ^ 62) : okR n = true := by
  cases n with
  | ofNat k =>
    simp only [Int.ofNat_eq_natCast] at h2
    exact Nat.ble_eq_true_of_le (by omega)
  | negSucc k => 
    rw [Int.negSucc_eq] at h
    exact Nat.ble_eq_true_of_le (by omega)
def iRng1 (a : Sx (List D)) (e : En) (S : Store) : R (List D) := (a e S).bind fun xs S1 => match xs with
  | [.int j] => if okR j = true then .ok ((List.range j.toNat).map fun i => .int (i : Nat)) S1 else .no
  | _ => .no
def iRng2 (a : Sx (List D)) (e : En) (S : Store) : R (List D) := (a e S).bind fun xs S1 => match xs with
  | [.int i, .int j] => if okR i = true ∧ okR j = true then .ok ((List.range (j - i).toNat).map fun k => .int (i + (k : Nat))) S1 else .no
  | _ => .no
def enumF : Nat → List D → List D
  | _, [] => []
  | n, d :: ds => .tup [.int n, d] :: enumF (n + 1) ds
def iEnu (f : Sx (List D)) (e : En) (S : Store) : R (List D) := (f e S).bind fun xs S1 => match xs with
  | [.lst ds] => .ok (enumF 0 ds) S1
  | [.tup ds] => .ok (enumF 0 ds) S1
  | _ => .no
def D.seq : D → Option (List D)
  | .lst ds => some ds
  | .tup ds => some ds
  | _ => none
theorem enumF_len : ∀ (ds : List D) (n : Nat), (enumF n ds).length = ds.length
  | [], _ => rfl
  | d :: ds, n => by unfold enumF; simp [enumF_len ds (n + 1)]
theorem enumF_get : ∀ (ds : List D) (n i : Nat), (enumF n ds)[i]? = (ds[i]?).map fun d => .tup [.int ((n + i : Nat) : Int), d]
  | [], _, _ => by simp [enumF]
  | d :: ds, n, 0 => by simp [enumF]
  | d :: ds, n, i + 1 => by
    unfold enumF
    simp only [List.getElem?_cons_succ, enumF_get ds (n + 1) i]
    congr 2
    funext d
    rw [show n + 1 + i = n + (i + 1) by omega]
section
variable {w : Wo}
theorem itr_list {ds : List D} {a : Addr} {vs : List V} (t : TrL w a vs) (r : Reps w ds vs) : ItR w ds (Itl w.K a) := by
  refine ⟨_, _, (reps_len r) ▸ walk_list (K := w.K) (a := a) (xs := vs), fun w' l => l.K ▸ (t.le l).sq, fun i d w' v H' hd l _ y => ?_⟩
  obtain ⟨rfl, hv⟩ := y
  obtain ⟨u, hu, ru⟩ := reps_get r hd
  rw [hv] at hu
  cases hu
  exact ⟨Same.refl _, Rep.le l d ru⟩
theorem itr_tup {ds : List D} {a : Addr} {vs : List V} (t : TrT w a vs) (r : Reps w ds vs) : ItR w ds (Itt w.K a) := by
  refine ⟨_, _, (reps_len r) ▸ walk_tup (K := w.K) (a := a) (xs := vs), fun w' l => l.K ▸ (t.le l).sq, fun i d w' v H' hd l _ y => ?_⟩
  obtain ⟨rfl, hv⟩ := y
  obtain ⟨u, hu, ru⟩ := reps_get r hd
  rw [hv] at hu
  cases hu
  exact ⟨Same.refl _, Rep.le l d ru⟩
theorem itr_str {z : Str} : ItR w (z.cps.toList.map fun c => D.str ⟨#[c]⟩) (Its z) := by
  have e : z.cps.size = (z.cps.toList.map fun c => D.str ⟨#[c]⟩).length := by simp
  refine ⟨_, _, e ▸ walk_str (z := z), fun w' l => True.intro, fun i d w' v H' hd l _ y => ?_⟩
  obtain ⟨rfl, c, hc, rfl⟩ := y
  simp only [List.getElem?_map, Array.getElem?_toList, hc, Option.map_some] at hd
  cases hd
  exact ⟨Same.refl _, rep_str (show (1 : Nat) ≤ sizeLine by decide)⟩
theorem itr_rng {lo : Int} {n : Nat} : ItR w ((List.range n).map fun (i : Nat) => D.int (lo + (i : Nat))) (Itr lo n) := by
  have e : n = ((List.range n).map fun (i : Nat) => D.int (lo + (i : Nat))).length := by simp
  refine ⟨_, _, cast (by rw [← e]) (walk_range (lo := lo) (n := n)), fun w' l => True.intro, fun i d w' v H' hd l _ y => ?_⟩
  obtain ⟨rfl, rfl⟩ := y
  have hi : i < n := by
    have := (List.getElem?_eq_some_iff.mp hd).1
    simpa using this
  simp only [List.getElem?_map, List.getElem?_range hi, Option.map_some] at hd
  cases hd
  exact ⟨Same.refl _, rep_int⟩
theorem rep_pair {w' : Wo} {H' : Hp} {T : Addr} {x y : V} {d e : D} (f : w'.Full) (hT : w'.H T = none) (hH : H' = upd w'.H T (.tup [x, y])) (r1 : Rep w' d x) (r2 : Rep w' e y) : Same w'.H H' ∧ Rep (w'.at H') (.tup [d, e]) (.ref T) := by
  subst hH
  exact ⟨same_mut (Same.refl _) hT, rep_tup f hT (show (2 : Nat) ≤ sizeLine by decide) (reps_cons r1 (reps_cons r2 reps_nil))⟩
theorem itr_enum {ds : List D} {a : Addr} {vs : List V} (t : TrL w a vs) (r : Reps w ds vs) : ItR w (enumF 0 ds) (Ite w.K a) := by
  refine ⟨_, _, cast (by rw [enumF_len, reps_len r]) (walk_enum (K := w.K) (a := a) (xs := vs)), fun w' l => l.K ▸ (t.le l).sq, fun i d w' v H' hd l fl y => ?_⟩
  obtain ⟨T, x, z, rfl, hT, hH, e1, e2⟩ := y
  rw [enumF_get] at hd
  cases q : ds[i]? with
  | none => rw [q] at hd; cases hd
  | some d0 =>
    rw [q] at hd
    cases hd
    obtain ⟨u, hu, ru⟩ := reps_get r q
    have e2 : vs[i]? = some z := e2
    rw [hu] at e2
    cases e2
    cases e1
    refine rep_pair fl hT hH ?_ (Rep.le l d0 ru)
    rw [Nat.zero_add]
    exact rep_int
theorem itr_enumT {ds : List D} {a : Addr} {vs : List V} (t : TrT w a vs) (r : Reps w ds vs) : ItR w (enumF 0 ds) (IteT w.K a) := by
  refine ⟨_, _, cast (by rw [enumF_len, reps_len r]) (walk_enumT (K := w.K) (a := a) (xs := vs)), fun w' l => l.K ▸ (t.le l).sq, fun i d w' v H' hd l fl y => ?_⟩
  obtain ⟨T, x, rfl, hT, hH, e2⟩ := y
  rw [enumF_get] at hd
  cases q : ds[i]? with
  | none => rw [q] at hd; cases hd
  | some d0 =>
    rw [q] at hd
    cases hd
    obtain ⟨u, hu, ru⟩ := reps_get r q
    rw [hu] at e2
    cases e2
    refine rep_pair fl hT hH ?_ (Rep.le l d0 ru)
    rw [Nat.zero_add]
    exact rep_int
end
section
variable {K : PySem.W.Frag} {X : Cx} {W : WX} {ex ex2 tg iter : Expr} {f : Sx D} {t : Sx Bool} {a : Sx (List D)} {g : Tg} {pos p : Pos} {i : Nat} {x : Str}
theorem Post.mapO {α β γ : Type} {B : Addr → Prop} {ow : List (Option Addr)} {m : List Addr} {H : Hp} {RP : Wo → β → α → Prop} {Wp : Value → Option Addr → Hp → Prop} {Q : α → Hp → Prop} {S : Store} {o : Option β} (h : Post K B ow m H RP Wp Q (R.of S o)) (c : Cells K B m ow H S) {y : β} (e : o = some y) {u : α} (r : RP (wo K B m ow H) y u) : Q u H := by
  subst e
  exact h u m H (Fut.refl m H) c r
theorem pi_alt {wi wj : TI} (h1 : PI X tg iter wi) (h2 : PI X tg iter wj) : PI X tg iter (fun σ H R => wi σ H R ∨ wj σ H R) := ⟨fun pins s σ H R I h => h.elim (h1.run pins s σ H R I) (h2.run pins s σ H R I)⟩
theorem i_seq (hK : X.K = K) (hf : Ev K X W iter f) : Ei K X W tg iter (iSq f) := by
  subst hK
  obtain ⟨ta, p1, h1⟩ := hf.run
  refine ⟨_, pi_alt (pi_list p1) (pi_alt (pi_tup p1) (pi_str p1)), fun b m ow H σ e S Q t q => ?_⟩
  unfold iSq at q
  cases r : f e S with
  | no => rw [r] at q; exact q.elim
  | er x S1 =>
    rw [r] at q
    refine .inl (h1 b m ow H σ e S _ t ?_)
    rw [r]
    exact q
  | ok x S1 =>
    rw [r] at q
    cases x <;> try exact q.elim
    · rename_i z
      refine .inr (.inr (h1 b m ow H σ e S _ t ?_))
      rw [r]
      intro v m1 H1 f1 c1 rx
      unfold Rep at rx
      obtain ⟨rfl, _⟩ := rx
      exact ⟨z, rfl, q _ m1 H1 f1 c1 itr_str⟩
    · rename_i ds
      refine .inr (.inl (h1 b m ow H σ e S _ t ?_))
      rw [r]
      intro v m1 H1 f1 c1 rx
      unfold Rep at rx
      obtain ⟨a, vs, rfl, tr, r⟩ := rx
      exact ⟨a, rfl, ⟨vs, tr.sq⟩, q _ m1 H1 f1 c1 (itr_tup tr r)⟩
    · rename_i ds
      refine .inl (h1 b m ow H σ e S _ t ?_)
      rw [r]
      intro v m1 H1 f1 c1 rx
      unfold Rep at rx
      obtain ⟨a, vs, rfl, tr, r⟩ := rx
      exact ⟨a, rfl, ⟨vs, tr.sq⟩, q _ m1 H1 f1 c1 (itr_list tr r)⟩
theorem i_rng1 (hg : Gl X "range") (hm : X.mg "range" = none) (ha : Ea K X W [ex] a) (hs : starEach [ex] X.env = [(false, eval ex X.env)] := by rfl) : Ei K X W tg (.Call (.Name "range" p) [ex] [] pos) (iRng1 a) := by
  obtain ⟨ta, p1, h1⟩ := ha.run
  refine ⟨_, pi_range1 hg hm p1 hs, fun b m ow H σ e S Q t q => h1 b m ow H σ e S _ t (Post.bind q fun xs S1 vs m1 H1 f1 c1 rx q => ?_)⟩
  split at q
  · rename_i j
    unfold Reps at rx
    obtain ⟨v, r, rfl, r1, r2⟩ := rx
    unfold Reps at r2
    unfold Rep at r1
    subst r1 r2
    split at q
    · rename_i hc
      refine ⟨j, rfl, (of_okR hc).1, (of_okR hc).2, q _ m1 H1 (Fut.refl _ _) c1 ?_⟩
      have := itr_rng (w := wo K b.B m1 ow H1) (lo := 0) (n := j.toNat)
      simpa using this
    · exact q.elim
  · exact q.elim
theorem i_rng2 (hg : Gl X "range") (hm : X.mg "range" = none) (ha : Ea K X W [ex, ex2] a) (hs : starEach [ex, ex2] X.env = [(false, eval ex X.env), (false, eval ex2 X.env)] := by rfl) (hs2 : starEach [ex2] X.env = [(false, eval ex2 X.env)] := by rfl) : Ei K X W tg (.Call (.Name "range" p) [ex, ex2] [] pos) (iRng2 a) := by
  obtain ⟨ta, p1, h1⟩ := ha.run
  refine ⟨_, pi_range2 hg hm p1 hs hs2, fun b m ow H σ e S Q t q => h1 b m ow H σ e S _ t (Post.bind q fun xs S1 vs m1 H1 f1 c1 rx q => ?_)⟩
  split at q
  · rename_i i j
    unfold Reps at rx
    obtain ⟨v, r, rfl, r1, r2⟩ := rx
    unfold Reps at r2
    obtain ⟨v2, r3, rfl, r2, r4⟩ := r2
    unfold Reps at r4
    unfold Rep at r1 r2
    subst r1 r2 r4
    split at q
    · rename_i hc
      exact ⟨i, j, rfl, ⟨(of_okR hc.1).1, (of_okR hc.1).2, (of_okR hc.2).1, (of_okR hc.2).2⟩, q _ m1 H1 (Fut.refl _ _) c1 itr_rng⟩
    · exact q.elim
  · exact q.elim
theorem i_enum {es : List Expr} {kk : Nat} {tpos : Pos} (hK : X.K = K) (hg : Gl X "enumerate") (hm : X.mg "enumerate" = none) (ha : Ea K X W [ex] a) (hs : starEach [ex] X.env = [(false, eval ex X.env)] := by rfl) : Ei K X W (.Tuple es kk tpos) (.Call (.Name "enumerate" p) [ex] [] pos) (iEnu a) := by
  subst hK
  obtain ⟨ta, p1, h1⟩ := ha.run
  refine ⟨_, pi_alt (pi_enum hg hm p1 hs) (pi_enumT hg hm p1 hs), fun b m ow H σ e S Q t q => ?_⟩
  unfold iEnu at q
  cases r : a e S with
  | no => rw [r] at q; exact q.elim
  | er x S1 =>
    rw [r] at q
    refine .inl (h1 b m ow H σ e S _ t ?_)
    rw [r]
    exact q
  | ok xs S1 =>
    rw [r, ok_bind] at q
    split at q
    · rename_i ds
      refine .inl (h1 b m ow H σ e S _ t ?_)
      rw [r]
      intro vs m1 H1 f1 c1 rx
      unfold Reps at rx
      obtain ⟨v, r, rfl, r1, r2⟩ := rx
      unfold Reps at r2
      subst r2
      unfold Rep at r1
      obtain ⟨a, vs, rfl, tr, r⟩ := r1
      exact ⟨a, vs, rfl, tr.sq, q _ m1 H1 f1 c1 (itr_enum tr r)⟩
    · rename_i ds
      refine .inr (h1 b m ow H σ e S _ t ?_)
      rw [r]
      intro vs m1 H1 f1 c1 rx
      unfold Reps at rx
      obtain ⟨v, r, rfl, r1, r2⟩ := rx
      unfold Reps at r2
      subst r2
      unfold Rep at r1
      obtain ⟨a, vs, rfl, tr, r⟩ := r1
      exact ⟨a, vs, rfl, tr.sq, q _ m1 H1 f1 c1 (itr_enumT tr r)⟩
    · exact q.elim
end
/-! ### fresh lists -/
section
variable (K : PySem.W.Frag) (B : Addr → Prop) (ow : List (Option Addr))
/-- a new list: nobody else holds it -/
def PostF (m : List Addr) (H : Hp) (W : Value → Option Addr → Hp → Prop) (Q : VK) : R (List D) → Prop
  | .ok ds S' => ∀ p vs m' H', Fut m H m' H' → Fr H p → Cells K (fun x => B x ∨ x = p) m' ow H' S' → ¬ zf B m' ow p → H' p = some (.lst vs) → vs.length ≤ sizeLine → Reps (wo K (fun x => B x ∨ x = p) m' ow H') ds vs → Q (.ref p) H'
  | .er x S' => ∀ c d m' H', Fut m H m' H' → Cells K B m' ow H' S' → ExR (wo K B m' ow H') x c d → W c d H'
  | .no => False
end
structure Ef (K : PySem.W.Frag) (X : Cx) (W : WX) (ex : Expr) (f : Sx (List D)) : Prop where
  run : ∃ te, PE X ex te ∧ ∀ b m ow H σ e S Q, At K b m ow H σ e S → PostF K b.B ow m H (fun c d => W c d σ) Q (f e S) → te σ H Q
section
variable {K : PySem.W.Frag} {B : Addr → Prop} {ow : List (Option Addr)} {m m' : List Addr} {H H' : Hp} {S : Store} {p : Addr}
theorem le_hid : Le (wo K (fun x => B x ∨ x = p) m ow H) (wo K B m ow H) := ⟨rfl, fun a o _ _ z => by
  rintro (q | q | q)
  · exact z (.inl (.inl q))
  · exact z (.inr (.inl q))
  · exact z (.inr (.inr q)), fun _ _ e => e, fun _ _ e _ _ => e⟩
theorem Cells.unhide (c : Cells K (fun x => B x ∨ x = p) m ow H S) : Cells K B m ow H S :=
  ⟨fun a h => c.hB a (.inl h), c.nd, c.no, fun a h q => c.nB a h (.inl q), c.od, c.oh, c.len, fun n a x h1 h2 => (c.cs n a x h1 h2).le le_hid fun o e _ => e, c.tb⟩
/-- something new is hidden -/
theorem le_hide {o : HO} (hp : H p = none) : Le (wo K B m ow H) (wo K (fun x => B x ∨ x = p) m ow (upd H p o)) := ⟨rfl, fun a u e _ z => by
  rintro ((q | q) | q | q)
  · exact z (.inl q)
  · have e : H a = some u := e
    rw [q, hp] at e
    cases e
  · exact z (.inr (.inl q))
  · exact z (.inr (.inr q)), fun _ _ e => e, fun a u e _ _ => by
    show upd H p o a = some u
    rw [upd_ne (ne_of_none e hp)]
    exact e⟩
theorem Cells.hide {o : HO} (c : Cells K B m ow H S) (hp : H p = none) (hf : ¬ zf B m ow p) (ho : ∀ ps, o ≠ .tbl ps) : Cells K (fun x => B x ∨ x = p) m ow (upd H p o) S := by
  have s : Same H (upd H p o) := same_mut (Same.refl _) hp
  refine ⟨fun a h q => ?_, c.nd, c.no, fun a h q => ?_, c.od, fun a h q => c.oh a h (q.same s), c.len, fun n a x h1 h2 => (c.cs n a x h1 h2).le (le_hide hp) fun o e _ => s _ _ e, c.tb.ext s⟩
  · rcases h with h | h
    · exact c.hB a h (q.same s)
    · exact (h ▸ q : Fr _ p).no upd_same ho
  · rcases q with q | q
    · exact c.nB a h q
    · subst q; exact hf (.inr h)
theorem PostF.go {W : Value → Option Addr → Hp → Prop} {Q : VK} {r : R (List D)} (h : PostF K B ow m H W Q r) (f : Fut m H m' H') : PostF K B ow m' H' W Q r := by
  cases r with
  | ok y S' => exact fun p vs m2 H2 f2 hp => h p vs m2 H2 (f.trans f2) (f.dom p hp)
  | er x S' => exact fun c d m2 H2 f2 => h c d m2 H2 (f.trans f2)
  | no => exact h
/-- a new list, when all else is known -/
theorem PostF.new {W : Value → Option Addr → Hp → Prop} {Q : VK} {ds : List D} {vs : List V} (h : PostF K B ow m H W Q (.ok ds S)) (c : Cells K B m ow H S) (r : Reps (wo K B m ow H) ds vs) (hl : vs.length ≤ sizeLine) (hp : H p = none) : Q (.ref p) (upd H p (.lst vs)) := by
  have hf : ¬ zf B m ow p := fun z => c.full p z (.none hp)
  exact h p vs m _ (Fut.same (same_mut (Same.refl _) hp)) (.none hp) (c.hide hp hf fun _ z => by cases z) hf upd_same hl (Reps.le (le_hide hp) ds r)
end
def eNew (f : Sx (List D)) (e : En) (S : Store) : R D := (f e S).bind fun ds S1 => .ok (.lst ds) S1
def lDisp (a : Sx (List D)) (e : En) (S : Store) : R (List D) := (a e S).bind fun ds S1 => if ds.length ≤ sizeLine then .ok ds S1 else .no
/-- turns of a comprehension; acc: what is made so far -/
def mapA (g : Tg) (t : Sx Bool) (f : Sx D) : List D → List D → En → Store → R (List D)
  | acc, [], _, S => .ok acc S
  | acc, d :: ds, e, S => match g d e with
    | none => .no
    | some e1 => (t e1 S).bind fun c S1 => if c then (f e1 S1).bind fun y S2 => mapA g t f (acc ++ [y]) ds e S2 else mapA g t f acc ds e S1
def clr : List Nat → En → En
  | [], e => e
  | v :: vs, e => (clr vs e).set v .no
def R.clean {α : Type} : R α → R α
  | .ok a S => .ok a S
  | _ => .no
@[simp] theorem clean_ok {α : Type} {a : α} {S : Store} : (R.ok a S).clean = .ok a S := rfl
@[simp] theorem clean_er {α : Type} {x : Exn} {S : Store} : (R.er x S : R α).clean = .no := rfl
@[simp] theorem clean_no {α : Type} : (R.no : R α).clean = .no := rfl
def lComp (vs : List Nat) (it : Sx (List D)) (g : Tg) (t : Sx Bool) (f : Sx D) (e : En) (S : Store) : R (List D) := (it e S).bind fun ds S1 => if ds.length ≤ sizeLine ∧ vs.all (fun v => notOwn v e) = true then (mapA g t f [] ds (clr vs e) S1).clean else .no
def tYesD (_ : En) (S : Store) : R Bool := .ok true S
structure Ets (K : PySem.W.Frag) (X : Cx) (W : WX) (es : List Expr) (f : Sx Bool) : Prop where
  run : ∃ tt, PTs X es tt ∧ ∀ b m ow H σ e S Q, At K b m ow H σ e S → Post K b.B ow m H RB (fun c d => W c d σ) Q (f e S) → tt σ H Q
def W0 : WX := fun _ _ _ _ => False
section
variable {K : PySem.W.Frag} {X : Cx} {W : WX} {ex ex2 tg iter elt : Expr} {ifs : List Expr} {f : Sx D} {t : Sx Bool} {a it : Sx (List D)} {l : Sx (List D)} {g : Tg} {pos p : Pos} {i : Nat} {x : Str}
theorem x_new (h : Ef K X W ex l) : Ev K X W ex (eNew l) := by
  obtain ⟨te, p1, h1⟩ := h.run
  refine ⟨te, p1, fun b m ow H σ e S Q t q => h1 b m ow H σ e S Q t ?_⟩
  unfold eNew at q
  cases r : l e S with
  | no => rw [r] at q; exact q.elim
  | er x S1 => rw [r] at q; exact q
  | ok ds S1 =>
    rw [r] at q
    refine fun p vs m1 H1 f1 hp c1 z hv hl rx => q _ m1 H1 f1 c1.unhide ?_
    show Rep _ (.lst ds) (.ref p)
    unfold Rep
    exact ⟨p, vs, rfl, ⟨z, hv, hl⟩, Reps.le le_hid ds rx⟩
theorem f_disp {es : List Expr} (ha : Ea K X W es a) : Ef K X W (.List es pos) (lDisp a) := by
  obtain ⟨ta, p1, h1⟩ := ha.run
  refine ⟨_, pe_lst p1, fun b m ow H σ e S Q t q => h1 b m ow H σ e S _ t ?_⟩
  unfold lDisp at q
  cases r : a e S with
  | no => rw [r] at q; exact q.elim
  | er x S1 => rw [r] at q; exact q
  | ok ds S1 =>
    rw [r, ok_bind] at q
    intro vs m1 H1 f1 c1 rx
    split at q
    · rename_i hl
      rw [← reps_len rx] at hl
      exact ⟨hl, fun p hp => (q.go f1).new c1 rx hl hp⟩
    · exact q.elim
theorem ts_nil : Ets K X W [] tYesD := ⟨_, pts_nil, fun b m ow H σ e S Q t q => q true m H (Fut.refl _ _) t.cells rfl⟩
theorem ts_one (h : Et K X W ex t) : Ets K X W [ex] t := by
  obtain ⟨tt, p1, h1⟩ := h.run
  exact ⟨_, pts_one p1, h1⟩
theorem wipe_at {b : Bs} {m : List Addr} {ow : List (Option Addr)} {H : Hp} {σ : L2.St} {e : En} {S : Store} (t : At K b m ow H σ e S) : ∀ vs, vs.all (fun v => notOwn v e) = true → At K b m ow H (wipe σ vs) (clr vs e) S
  | [], _ => t
  | v :: vs, h => by
    simp only [List.all_cons, Bool.and_eq_true] at h
    refine (wipe_at t vs h.2).clear' ?_ none
    have h1 := h.1
    unfold notOwn at h1 ⊢
    have : (clr vs e)[v]? = e[v]? ∨ (clr vs e)[v]? = some .no := by
      clear h h1
      induction vs with
      | nil => exact .inl rfl
      | cons u us ih =>
        unfold clr
        by_cases q : u = v
        · subst q
          by_cases l : u < (clr us e).length
          · exact .inr (List.getElem?_set_self l)
          · rw [List.getElem?_eq_none (by simpa using l)]
            rw [List.getElem?_eq_none (by simpa using l)] at ih
            rcases ih with ih | ih
            · exact .inl ih
            · cases ih
        · rw [List.getElem?_set_ne q]
          exact ih
    rcases this with q | q
    · rw [q]; exact h1
    · rw [q]
/-- the same point of the def, something more hidden -/
theorem At.hideB {b : Bs} {m : List Addr} {ow : List (Option Addr)} {H : Hp} {σ : L2.St} {e : En} {S : Store} {p : Addr} {o : HO} (t : At K b m ow H σ e S) (hp : H p = none) (ho : ∀ ps, o ≠ .tbl ps) : At K ⟨fun x => b.B x ∨ x = p, b.m0, b.H0, b.sf⟩ m ow (L2.upd H p o) σ e S := by
  have s : Same H (L2.upd H p o) := same_mut (Same.refl _) hp
  have hf : ¬ zf b.B m ow p := fun z => t.cells.full p z (.none hp)
  refine ⟨t.cells.hide hp hf ho, t.len, fun j s hs => ?_, t.fut.trans (Fut.same s), t.new, t.oe, t.sf, BasePred.grow _ _ (t.fut.dom p (.none hp)) t.ph⟩
  have h := t.slots j s hs
  cases s with
  | no => exact True.intro
  | val d' => obtain ⟨u, h1, h2⟩ := h; exact ⟨u, h1, Rep.le (le_hide hp) d' h2⟩
  | own x => obtain ⟨u, h1, h2, h3⟩ := h; exact ⟨u, h1, h2, h3.le (le_hide hp) fun o e _ => s _ _ e⟩
/-- what is hidden changes -/
theorem At.hid_upd {b : Bs} {m : List Addr} {ow : List (Option Addr)} {H : Hp} {σ : L2.St} {e : En} {S : Store} {p : Addr} {o : HO} (t : At K ⟨fun x => b.B x ∨ x = p, b.m0, b.H0, b.sf⟩ m ow H σ e S) (h0 : Fr b.H0 p) (ho : ∀ ps, o ≠ .tbl ps) (hp1 : ∃ o, H p = some o ∧ (∀ ps, o ≠ .tbl ps) ∧ ∀ φ, o ≠ .ext φ) : At K ⟨fun x => b.B x ∨ x = p, b.m0, b.H0, b.sf⟩ m ow (L2.upd H p o) σ e S := by
  have keep : ∀ x u, x ≠ p → H x = some u → L2.upd H p o x = some u := fun x u n h => by rw [upd_ne n]; exact h
  have dom : ∀ x, Fr (L2.upd H p o) x → Fr H x := fun x h => h.upd ho
  have le : Le (wo K (fun x => b.B x ∨ x = p) m ow H) (wo K (fun x => b.B x ∨ x = p) m ow (L2.upd H p o)) := ⟨rfl, fun _ _ _ _ h => h, fun _ _ h => h, fun x u h _ z => keep x u (fun q => z (.inl (.inr q))) h⟩
  have nm : ∀ x, x ∈ m ∨ some x ∈ ow → x ≠ p := fun x hx q => t.cells.nB x hx (.inr q)
  refine ⟨⟨fun x hx q => t.cells.hB x hx (dom x q), t.cells.nd, t.cells.no, t.cells.nB, t.cells.od, fun x hx q => t.cells.oh x hx (dom x q), t.cells.len, fun n x c h1 h2 => (t.cells.cs n x c h1 h2).le le fun u e _ => keep x u (nm x (.inl (List.mem_of_getElem? h1))) e, tabs_keep t.cells.tb hp1 keep⟩, t.len, fun j s hs => ?_, ?_, t.new, t.oe, t.sf, t.ph⟩
  · have h := t.slots j s hs
    cases s with
    | no => exact True.intro
    | val d' => obtain ⟨u, h1, h2⟩ := h; exact ⟨u, h1, Rep.le le d' h2⟩
    | own x => obtain ⟨u, h1, h2, h3⟩ := h; exact ⟨u, h1, h2, h3.le le fun o e _ => keep u o (nm u (.inr (List.mem_of_getElem? h2))) e⟩
  · obtain ⟨pre, kp, dm⟩ := t.fut
    refine ⟨pre, fun x u h n hm => keep x u (fun q => ?_) (kp x u h n hm), fun x h => dm x (dom x h)⟩
    rw [q] at h
    exact h0.no h n
/-- the readings that the pictures themselves are -/
def teOf (K : PySem.W.Frag) (W : WX) (f : Sx D) : TE := fun σ H Q => ∃ b m ow e S, At K b m ow H σ e S ∧ Post K b.B ow m H Rep (fun c d => W c d σ) Q (f e S)
def ttOf (K : PySem.W.Frag) (W : WX) (f : Sx Bool) : TT := fun σ H Q => ∃ b m ow e S, At K b m ow H σ e S ∧ Post K b.B ow m H RB (fun c d => W c d σ) Q (f e S)
def tgOf (K : PySem.W.Frag) (us : List Nat) (g : Tg) : TG := fun v σ H N => ∃ b m ow e S d, At K b m ow H σ e S ∧ Rep (wo K b.B m ow H) d v ∧ match g d e with
    | some e' => ∀ σ', At K b m ow H σ' e' S → wipe σ' us = wipe σ us → N σ' H
    | none => False
theorem Ev.canon (h : Ev K X W ex f) : PE X ex (teOf K W f) := by
  obtain ⟨te, p1, h1⟩ := h.run
  exact ⟨fun pins s σ H Q I ⟨b, m, ow, e, S, t, q⟩ => p1.run pins s σ H Q I (h1 b m ow H σ e S Q t q)⟩
theorem Ets.canon {es : List Expr} (h : Ets K X W es t) : PTs X es (ttOf K W t) := by
  obtain ⟨te, p1, h1⟩ := h.run
  exact ⟨fun pins s σ H Q I ⟨b, m, ow, e, S, t, q⟩ => p1.run pins s σ H Q I (h1 b m ow H σ e S Q t q)⟩
theorem Eg.canon {us : List Nat} (h : Eg K X us tg g) : PG X tg (tgOf K us g) := by
  obtain ⟨te, p1, h1⟩ := h.run
  exact ⟨fun pins s σ H v u Q I r ⟨b, m, ow, e, S, d, t, q, z⟩ => p1.run pins s σ H v u Q I r (h1 b m ow H σ e S d v Q t q z)⟩
theorem lc_rd {wi : TI} {vs : List Nat} (h1 : ∀ b m ow H σ e S Q, At K b m ow H σ e S → Post K b.B ow m H ItR (fun c d => W c d σ) Q (it e S) → wi σ H Q) : ∀ b m ow H σ e S Q, At K b m ow H σ e S → PostF K b.B ow m H (fun c d => W c d σ) Q (lComp vs it g t f e S) → tLc wi (tgOf K vs g) (ttOf K W0 t) (teOf K W0 f) vs σ H Q := by
  refine fun b m ow H σ e S Q t0 q => h1 b m ow H σ e S _ t0 ?_
  unfold lComp at q
  cases r : it e S with
  | no => rw [r] at q; exact q.elim
  | er x S1 => rw [r] at q; exact q
  | ok ds S1 =>
    rw [r, ok_bind] at q
    intro J m1 H1 f1 c1 rJ D hD
    obtain ⟨G, Y, wk, hG, hY⟩ := rJ
    split at q
    · rename_i hl
      obtain ⟨hl, hno⟩ := hl
      have t1 := t0.go f1 c1
      have hD0 : Fr b.H0 D := t1.fut.dom D (.none hD)
      have tw := wipe_at t1 vs hno
      have th : At K ⟨fun x => b.B x ∨ x = D, b.m0, b.H0, b.sf⟩ m1 ow (L2.upd H1 D (.lst [])) (wipe σ vs) (clr vs e) S1 := tw.hideB hD fun _ z => by cases z
      have l1 : Le (wo K b.B m1 ow H1) (wo K (fun x => b.B x ∨ x = D) m1 ow (L2.upd H1 D (.lst []))) := le_hide hD
      -- what is known at each turn
      let Pv : Nat → Hp → Prop := fun i H' => ∃ m' S' vs' acc, At K ⟨fun x => b.B x ∨ x = D, b.m0, b.H0, b.sf⟩ m' ow H' (wipe σ vs) (clr vs e) S' ∧ Fut m1 H1 m' H' ∧ H' D = some (.lst vs') ∧ vs'.length ≤ i ∧ Reps (wo K (fun x => b.B x ∨ x = D) m' ow H') acc vs' ∧
        PostF K b.B ow m H (fun c d => W c d σ) Q (mapA g t f acc (ds.drop i) (clr vs e) S').clean
      refine lc_it wk Pv ⟨m1, S1, [], [], th, Fut.same (same_mut (Same.refl _) hD), upd_same, Nat.le_refl _, reps_nil, by simpa using q⟩ ?_ ?_ ?_
      · rintro i H' hi ⟨m', S', vs', acc, t', f', _⟩
        exact hG (wo K (fun x => b.B x) m' ow H') f'.le
      · rintro i x H' H2 hi ⟨m', S', vs', acc, t', f', hv, hvl, ra, q⟩ y
        have hd : ds[i]? = some ds[i] := List.getElem?_eq_getElem hi
        have le1 : Le (wo K b.B m1 ow H1) (wo K (fun x => b.B x ∨ x = D) m' ow H') := by
          refine ⟨rfl, fun a o e n z => ?_, fun n a e => f'.le (K := K) (B := b.B) (ow := ow) |>.m n a e, fun a o e n z => f'.keep a o e n fun hm => z (.inr (.inl hm))⟩
          have z2 := f'.le (K := K) (B := b.B) (ow := ow) |>.z a o e n z
          rintro ((h | h) | h | h)
          · exact z2 (.inl h)
          · have e : H1 a = some o := e
            rw [h, hD] at e; cases e
          · exact z2 (.inr (.inl h))
          · exact z2 (.inr (.inr h))
        obtain ⟨s2, rd⟩ := hY i ds[i] _ x H2 hd le1 t'.cells.full y
        have t2 := t'.same s2
        rw [List.drop_eq_getElem_cons hi] at q
        unfold mapA at q
        refine ⟨_, m', ow, clr vs e, S', ds[i], t2, rd, ?_⟩
        cases qg : g ds[i] (clr vs e) with
        | none => rw [qg] at q; exact q.elim
        | some e1 =>
          rw [qg] at q
          dsimp only at q ⊢
          intro σ2 t3 hw
          have hww : wipe (wipe σ vs) vs = wipe σ vs := by
            refine List.ext_getElem? fun j => ?_
            simp only [wipe_get, wipe_length]
            split <;> rfl
          rw [hww] at hw
          refine ⟨hw, ?_⟩
          -- the block's point is left: slots as at the start
          have back : ∀ {m3 : List Addr} {H3 : Hp} {S3 : Store}, Fut m' H2 m3 H3 → Cells K (fun x => b.B x ∨ x = D) m3 ow H3 S3 → At K ⟨fun x => b.B x ∨ x = D, b.m0, b.H0, b.sf⟩ m3 ow H3 (wipe σ vs) (clr vs e) S3 := fun f3 c3 => t2.go f3 c3
          have q3 := q
          refine ⟨⟨fun x => b.B x ∨ x = D, b.m0, b.H0, b.sf⟩, m', ow, e1, S', t3, ?_⟩
          cases rt : t e1 S' with
          | no => rw [rt] at q; exact q.elim
          | er x S3 => rw [rt] at q; exact q.elim
          | ok c S3 =>
            rw [rt, ok_bind] at q
            intro c' m3 H3 f3 c3 ec
            obtain rfl : c' = c := ec
            have fD : H3 D = some (.lst vs') := f3.keep D _ (s2 _ _ hv) (fun _ z => by cases z) fun hm => t2.cells.nB D (.inl hm) (.inr rfl)
            have f1D : Fut m1 H1 m3 H3 := f'.trans ((Fut.same s2).trans f3)
            have le3 : Le (wo K (fun x => b.B x ∨ x = D) m' ow H') (wo K (fun x => b.B x ∨ x = D) m3 ow H3) := ((Fut.same s2).trans f3).le
            cases c' with
            | false =>
              rw [if_neg Bool.false_ne_true] at q ⊢
              exact ⟨m3, S3, vs', acc, back f3 c3, f1D, fD, Nat.le_succ_of_le hvl, Reps.le le3 _ ra, q⟩
            | true =>
              rw [if_pos rfl] at q ⊢
              refine ⟨⟨fun x => b.B x ∨ x = D, b.m0, b.H0, b.sf⟩, m3, ow, e1, S3, t3.go f3 c3, ?_⟩
              cases rf : f e1 S3 with
              | no => rw [rf] at q; exact q.elim
              | er x S4 => rw [rf] at q; exact q.elim
              | ok y S4 =>
                rw [rf, ok_bind] at q
                intro v m4 H4 f4 c4 ry
                have fD4 : H4 D = some (.lst vs') := f4.keep D _ fD (fun _ z => by cases z) fun hm => c3.nB D (.inl hm) (.inr rfl)
                have ti := back (f3.trans f4) c4
                have tn := ti.hid_upd (o := .lst (vs' ++ [v])) hD0 (fun _ z => by cases z) ⟨_, fD4, (fun _ z => by cases z), (fun _ z => by cases z)⟩
                have le4 : Le (wo K (fun x => b.B x ∨ x = D) m4 ow H4) (wo K (fun x => b.B x ∨ x = D) m4 ow (L2.upd H4 D (.lst (vs' ++ [v])))) := ⟨rfl, fun _ _ _ _ h => h, fun _ _ h => h, fun x u h _ z => by
                  show L2.upd H4 D _ x = some u
                  rw [upd_ne (fun q => z (.inl (.inr q)))]
                  exact h⟩
                have ra4 := Reps.le (le3.trans (f4.le.trans le4)) _ ra
                refine ⟨vs', fD4, Nat.lt_of_le_of_lt hvl (Nat.lt_of_lt_of_le hi hl), m4, S4, vs' ++ [v], acc ++ [y], tn, ?_, upd_same, by simpa using hvl, reps_app ra4 (reps_cons (Rep.le le4 y ry) reps_nil), q⟩
                have fa := f1D.trans f4
                refine ⟨fa.pre, fun a o ea n hm => ?_, fun a ha => ?_⟩
                · rw [upd_ne (ne_of_none ea hD)]
                  exact fa.keep a o ea n hm
                · exact fa.dom a (ha.upd fun _ z => by cases z)
      · rintro H' ⟨m', S', vs', acc, t', f', hv, hvl, ra, q⟩
        rw [List.drop_length] at q
        exact q D vs' m' H' (f1.trans f') (f1.dom D (.none hD)) t'.cells (fun z => t'.cells.nB D (by
          rcases z with z | z
          · exact absurd z (fun z => t1.cells.hB D z (.none hD))
          · exact z) (.inr rfl)) hv (Nat.le_trans hvl hl) ra
    · exact q.elim
section
variable {scope : Scope} {own : List (Str × Nat)}
theorem f_comp (hc : X.calm = true) (hN : X.N.Nodup) (hi : Ei K X W tg iter it) (ok : BlkOk X.N X.env.scope scope own)
    (hg : ∀ (s : Shared) (H : Hp) (C : Addr) (cl : List (Str × Addr)) (fp : List Addr), Eg K (X.blk s H scope (compEnvC scope cl C X.env) fp) (own.map (·.2)) tg g) (ht : ∀ (s : Shared) (H : Hp) (C : Addr) (cl : List (Str × Addr)) (fp : List Addr), Ets K (X.blk s H scope (compEnvC scope cl C X.env) fp) W0 ifs t)
    (he : ∀ (s : Shared) (H : Hp) (C : Addr) (cl : List (Str × Addr)) (fp : List Addr), Ev K (X.blk s H scope (compEnvC scope cl C X.env) fp) W0 elt f) (hs : ∀ x, foldedSetIterable iter X.env x = pure x := by intro _; rfl) :
    Ef K X W (.ListComp elt [⟨tg, iter, ifs, 0⟩] scope pos) (lComp (own.map (·.2)) it g t f) := by
  obtain ⟨wi, p1, h1⟩ := hi.run
  exact ⟨_, pe_lc hc hN p1 ok (fun s H C cl fp => (hg s H C cl fp).canon) (fun s H C cl fp => (ht s H C cl fp).canon) (fun s H C cl fp => (he s H C cl fp).canon) hs, lc_rd h1⟩
end
/-- a new list is a slot's own from now on -/
def sOwn (i : Nat) (l : Sx (List D)) (e : En) (S : Store) : RS := (l e S).run e fun ds S1 => if i < e.length ∧ notOwn i e = true then .nx (e.set i (.own (.lst ds))) S1 else .no
theorem own_rd {te : TE} {l : Sx (List D)} (h1 : ∀ b m ow H σ e S Q, At K b m ow H σ e S → PostF K b.B ow m H (fun c d => W c d σ) Q (l e S) → te σ H Q) : ∀ b m ow H σ e S D, At K b m ow H σ e S → PostS K b (wo K b.B m ow H) W D (sOwn i l e S) → tAsg te (gName i) D σ H := by
  refine fun b m ow H σ e S D t z => h1 b m ow H σ e S _ t ?_
  unfold sOwn at z
  cases r : l e S with
  | no => rw [r] at z; exact z.elim
  | er x S1 => rw [r] at z; exact fun c d m1 H1 f1 c1 rx => z c d σ m1 ow H1 (t.go f1 c1) f1.le rx
  | ok ds S1 =>
    rw [r, run_ok] at z
    split at z
    · rename_i hi
      intro p vs m1 H1 f1 hp c1 hz hv hl rx
      have t1 := t.go f1 c1.unhide
      have r1 : CRep (wo K (fun x => b.B x ∨ x = p) m1 ow H1) p (.lst ds) := ⟨vs, hv, hl, rx⟩
      -- what the slots hold was there before the new list
      have lp : Le (wo K b.B m ow H) (wo K (fun x => b.B x ∨ x = p) m1 ow H1) := by
        refine ⟨rfl, fun a o e n z => ?_, fun n a e => f1.le (K := K) (B := b.B) (ow := ow) |>.m n a e, fun a o e n z => f1.keep a o e n fun hm => z (.inr (.inl hm))⟩
        have z2 := f1.le (K := K) (B := b.B) (ow := ow) |>.z a o e n z
        rintro ((h | h) | h | h)
        · exact z2 (.inl h)
        · exact hp.no (h ▸ e) n
        · exact z2 (.inr (.inl h))
        · exact z2 (.inr (.inr h))
      obtain ⟨t2, l2⟩ := t1.own (c := .lst ds) (i := i) hz (t.fut.dom p hp) c1 r1 (fun j s _ hs => by
        have h := t.slots j s hs
        cases s with
        | no => exact True.intro
        | val d' => obtain ⟨u, h1, h2⟩ := h; exact ⟨u, h1, Rep.le lp d' h2⟩
        | own x =>
          obtain ⟨u, h1, h2, h3⟩ := h
          exact ⟨u, h1, h2, h3.le lp fun o e n => f1.keep u o e n fun hm => t.cells.no u hm (List.mem_of_getElem? h2)⟩) hi.1 hi.2
      exact z _ m1 _ H1 t2 (lp.trans l2)
    · exact z.elim
section
variable {st : Stmt} {pos' spos : Pos} {l : Sx (List D)}
theorem s_own (hN : X.N.Nodup) (hi : X.N[i]? = some x) (hx : Loc X.env.scope x) (hf : Ef K X W ex l) (hs : swapsWith ex (some (.Name x pos')) pos.line X.env = pure false := by rfl) (hfn : X.fn x = true ∨ X.env.scope.names.lookup x = some .local := by first | exact .inl rfl | exact .inr rfl | assumption) : Es K X W (.Assign [.Name x pos'] ex pos) (sOwn i l) := by
  obtain ⟨te, p1, h1⟩ := hf.run
  exact ⟨_, ps_set hN hi hx p1 hs hfn, own_rd h1⟩
variable {scope : Scope} {own : List (Str × Nat)}
theorem s_ownLc (hc : X.calm = true) (hN : X.N.Nodup) (hy : X.N[i]? = some x) (hyl : X.env.scope.names.lookup x = some .local) (hsw : swapsWith (.ListComp elt [⟨tg, iter, ifs, 0⟩] scope pos) (some (.Name x pos')) spos.line X.env = pure true) (hi : Ei K X W tg iter it) (ok : BlkOk X.N X.env.scope scope own)
    (hg : ∀ (s : Shared) (H : Hp) (C : Addr) (cl : List (Str × Addr)) (fp : List Addr), Eg K (X.blk s H scope (compEnvC scope cl C X.env) fp) (own.map (·.2)) tg g) (ht : ∀ (s : Shared) (H : Hp) (C : Addr) (cl : List (Str × Addr)) (fp : List Addr), Ets K (X.blk s H scope (compEnvC scope cl C X.env) fp) W0 ifs t)
    (he : ∀ (s : Shared) (H : Hp) (C : Addr) (cl : List (Str × Addr)) (fp : List Addr), Ev K (X.blk s H scope (compEnvC scope cl C X.env) fp) W0 elt f) (hs : ∀ x, foldedSetIterable iter X.env x = pure x := by intro _; rfl) :
    Es K X W (.Assign [.Name x pos'] (.ListComp elt [⟨tg, iter, ifs, 0⟩] scope pos) spos) (sOwn i (lComp (own.map (·.2)) it g t f)) := by
  obtain ⟨wi, p1, h1⟩ := hi.run
  exact ⟨_, ps_setLc hc hN hy hyl hsw p1 ok (fun s H C cl fp => (hg s H C cl fp).canon) (fun s H C cl fp => (ht s H C cl fp).canon) (fun s H C cl fp => (he s H C cl fp).canon) hs, own_rd (lc_rd h1)⟩
theorem set_rd {te : TE} {l : Sx D} (h1 : ∀ b m ow H σ e S Q, At K b m ow H σ e S → Post K b.B ow m H Rep (fun c d => W c d σ) Q (l e S) → te σ H Q) : ∀ b m ow H σ e S D, At K b m ow H σ e S → PostS K b (wo K b.B m ow H) W D (sSet i l e S) → tAsg te (gName i) D σ H :=
  fun b m ow H σ e S D t z => h1 b m ow H σ e S _ t (PostS.run t z fun d S' v m' H' t' f' r z => by
    split at z
    · exact z _ m' _ H' (t'.set' (by assumption) r) (Le.refl _)
    · exact z.elim)
theorem new_rd {te : TE} {l : Sx (List D)} (h1 : ∀ b m ow H σ e S Q, At K b m ow H σ e S → PostF K b.B ow m H (fun c d => W c d σ) Q (l e S) → te σ H Q) : ∀ b m ow H σ e S Q, At K b m ow H σ e S → Post K b.B ow m H Rep (fun c d => W c d σ) Q (eNew l e S) → te σ H Q := by
  refine fun b m ow H σ e S Q t q => h1 b m ow H σ e S Q t ?_
  unfold eNew at q
  cases r : l e S with
  | no => rw [r] at q; exact q.elim
  | er x S1 => rw [r] at q; exact q
  | ok ds S1 =>
    rw [r] at q
    refine fun p vs m1 H1 f1 hp c1 z hv hl rx => q _ m1 H1 f1 c1.unhide ?_
    show Rep _ (.lst ds) (.ref p)
    unfold Rep
    exact ⟨p, vs, rfl, ⟨z, hv, hl⟩, Reps.le le_hid ds rx⟩
theorem s_setLc (hc : X.calm = true) (hN : X.N.Nodup) (hy : X.N[i]? = some x) (hyl : X.env.scope.names.lookup x = some .local) (hsw : swapsWith (.ListComp elt [⟨tg, iter, ifs, 0⟩] scope pos) (some (.Name x pos')) spos.line X.env = pure true) (hi : Ei K X W tg iter it) (ok : BlkOk X.N X.env.scope scope own)
    (hg : ∀ (s : Shared) (H : Hp) (C : Addr) (cl : List (Str × Addr)) (fp : List Addr), Eg K (X.blk s H scope (compEnvC scope cl C X.env) fp) (own.map (·.2)) tg g) (ht : ∀ (s : Shared) (H : Hp) (C : Addr) (cl : List (Str × Addr)) (fp : List Addr), Ets K (X.blk s H scope (compEnvC scope cl C X.env) fp) W0 ifs t)
    (he : ∀ (s : Shared) (H : Hp) (C : Addr) (cl : List (Str × Addr)) (fp : List Addr), Ev K (X.blk s H scope (compEnvC scope cl C X.env) fp) W0 elt f) (hs : ∀ x, foldedSetIterable iter X.env x = pure x := by intro _; rfl) :
    Es K X W (.Assign [.Name x pos'] (.ListComp elt [⟨tg, iter, ifs, 0⟩] scope pos) spos) (sSet i (eNew (lComp (own.map (·.2)) it g t f))) := by
  obtain ⟨wi, p1, h1⟩ := hi.run
  exact ⟨_, ps_setLc hc hN hy hyl hsw p1 ok (fun s H C cl fp => (hg s H C cl fp).canon) (fun s H C cl fp => (ht s H C cl fp).canon) (fun s H C cl fp => (he s H C cl fp).canon) hs, set_rd (new_rd (lc_rd h1))⟩
end
end
end Sh

/-! Sh0: calls where what is raised is wished for at the caller's slots. -/
namespace Sh
open PySem PySem.Spec PyProof.Rows L2 Nk StX
section
variable {X : Cx} {k j : Nat} {C f g p : Addr} {sp : Sp} {W : WX} {x m : Str} {e o : Expr} {es : List Expr} {te ta tf : TE} {t : TA} {p0 p1 pos apos : Pos}
theorem run_fnA {pins : List (Addr × Obj)} {σ : L2.St} {H : Hp} {s : Shared} {E : XK} {Q : VK} {us : List Value} {vs : List V} (F : Fs X.prog X.w X.K X.mg X.base f k sp) (hr : Room k X.A) (hx : PassesAt (L2.CX X.prog X.w) X σ E) (I : Inv X pins σ H s) (r : Vals vs us) (h : sp vs H Q E) :
    codeAny (model X.prog X.w) X.A (.call (.ref f) ⟨us, []⟩) (fun r s' => match r with | .ok (.ret v) => EP X pins σ Q v s' | .ok _ => False | .error e => X.xe e s') s := by
  refine codeAny_mono (F X.A X.stack s H us vs Q E hr I.env0 r h) fun r s' hq => ?_
  cases r with
  | error e => exact hx pins H s e s' I hq
  | ok fl =>
    cases fl with
    | ret u => exact I.after hq
    | next => exact False.elim hq
    | brk => exact False.elim hq
    | cont => exact False.elim hq
theorem run_makeA {pins : List (Addr × Obj)} {σ : L2.St} {H : Hp} {s : Shared} {E : XK} {Q : VK} {us : List Value} {vs : List V} (M : Mk X.K C f) (F : Fs X.prog X.w X.K X.mg X.base f k sp) (hr : Room (k + 1) X.A) (hx : PassesAt (L2.CX X.prog X.w) X σ E) (I : Inv X pins σ H s) (r : Vals vs us)
    (h : ∀ x dx, H x = Option.none → H dx = Option.none → dx ≠ x → sp (V.ref x :: vs) (upd (upd H dx (.own x)) x (.ins C dx [])) (fun v H2 => v = .non ∧ Q (.ref x) H2) E) :
    wpAny (model X.prog X.w) X.A (call (.ref C) us) (EP X pins σ Q) X.xe s := by
  have hq := h (s.heap.objs.size + 1) s.heap.objs.size (I.hok.fresh (Nat.le_succ _)) (I.hok.fresh (Nat.le_refl _)) (Nat.ne_of_lt (Nat.lt_succ_self _))
  have I2 := Inv.made (C := C) I
  have r2 : Vals (V.ref (s.heap.objs.size + 1) :: vs) (Value.ref (s.heap.objs.size + 1) :: us) := .cons rfl r
  refine wpAny_call (make_map (f := f) I.kIn M.makes M.init (beq_iff_eq.mp M.fn) (codeAny_mono (F _ X.stack _ _ (Value.ref (s.heap.objs.size + 1) :: us) _ _ E (hr.make C us []) (I2.env0.make C us []) r2 hq) fun r s' hq' => ?_))
  cases r with
  | error e => exact hx pins _ _ e s' I2 hq'
  | ok fl =>
    cases fl with
    | ret u =>
      obtain ⟨v, H', I3, rv, ev, q3⟩ := I2.after hq'
      subst ev
      exact ⟨rv, ⟨V.ref (s.heap.objs.size + 1), H', I3, rfl, q3⟩⟩
    | next => exact False.elim hq'
    | brk => exact False.elim hq'
    | cont => exact False.elim hq'
def tMkW (C : Addr) (sp : Sp) (W : WX) (tf : TE) (t : TA) : TE := fun σ H Q => tf σ H fun y H1 => y = .ref C ∧ t σ H1 fun vs H2 => ∀ x dx, H2 x = none → H2 dx = none → dx ≠ x →
  sp (.ref x :: vs) (upd (upd H2 dx (.own x)) x (.ins C dx [])) (fun v H3 => v = .non ∧ Q (.ref x) H3) (WE W σ)
theorem pe_clsW (hf : PE X (.Name x p1) tf) (M : Mk X.K C f) (F : Fs X.prog X.w X.K X.mg X.base f k sp) (hr : Room j X.A) (hk : k + 1 ≤ j) (tk : Takes X W) (ha : PA X (e :: es) t)
    (he : starEach (e :: es) X.env = (false, eval e X.env) :: starEach es X.env := by rfl) (hpl : (backTo pos (starEach es X.env)).any (·.1) = false := by rfl) : PE X (.Call (.Name x p1) (e :: es) [] pos) (tMkW C sp W tf t) := by
  refine ⟨fun pins s σ H Q I h => wpAny_Call_Name_kw (thn (hf.run pins s σ H _ I h) fun u s1 ⟨y, H1, I1, ry, ey, q⟩ => ?_)⟩
  subst ey
  obtain rfl : u = Value.ref C := ry
  refine PySem.W.callWith_K (h₀ := X.base) I.ok.mod.kin M.kp (thn (ha.run pos pins s1 σ H1 _ I1 q) fun us s2 ⟨vs, H2, I2, r, q2⟩ => ⟨I2.kIn, ?_⟩) he hpl
  exact run_makeA M F (hr.mono hk) (passAt tk σ) I2 r q2
theorem pe_clsW0 (hf : PE X (.Name x p1) tf) (M : Mk X.K C f) (F : Fs X.prog X.w X.K X.mg X.base f k sp) (hr : Room j X.A) (hk : k + 1 ≤ j) (tk : Takes X W) : PE X (.Call (.Name x p1) [] [] pos) (tMkW C sp W tf tNil) := by
  refine ⟨fun pins s σ H Q I h => wpAny_Call_Name_kw (thn (hf.run pins s σ H _ I h) fun u s1 ⟨y, H1, I1, ry, ey, q⟩ => ?_)⟩
  subst ey
  obtain rfl : u = Value.ref C := ry
  exact PySem.W.callWith_K0 I1.kIn M.kp (run_makeA (us := []) M F (hr.mono hk) (passAt tk σ) I1 .nil q)
theorem pe_clsWS (hf : PE X (.Name x p1) tf) (M : Mk X.K C f) (F : Fs X.prog X.w X.K X.mg X.base f k sp) (hr : Room j X.A) (hk : k + 1 ≤ j) (tk : Takes X W) (he : PE X e te)
    (hst : starEach [.Starred e p0] X.env = [(true, eval e X.env)] := by rfl) : PE X (.Call (.Name x p1) [.Starred e p0] [] pos) (tMkW C sp W tf (tStar X.K te tNil)) := by
  refine ⟨fun pins s σ H Q I h => wpAny_Call_Name_kw (thn (hf.run pins s σ H _ I h) fun u s1 ⟨y, H1, I1, ry, ey, q⟩ => ?_)⟩
  subst ey
  obtain rfl : u = Value.ref C := ry
  refine PySem.W.callWith_S (h₀ := X.base) I.ok.mod.kin M.kp (thn (he.run pins s1 σ H1 _ I1 q) fun v s2 ⟨z, H2, I2, rz, a, xs, ez, hxs, q2⟩ => ?_) hst
  subst ez
  obtain rfl : v = Value.ref a := rz
  refine star_any I2 hxs fun us s3 I3 rv => ⟨I3.kIn, ?_⟩
  have q3 : ∀ x dx, H2 x = none → H2 dx = none → dx ≠ x → sp (.ref x :: (xs ++ [])) (upd (upd H2 dx (.own x)) x (.ins C dx [])) (fun v H3 => v = .non ∧ Q (.ref x) H3) (WE W σ) := q2
  rw [List.append_nil] at q3
  exact run_makeA M F (hr.mono hk) (passAt tk σ) I3 rv q3
theorem pe_clsWS2 {e2 : Expr} (hf : PE X (.Name x p1) tf) (M : Mk X.K C f) (F : Fs X.prog X.w X.K X.mg X.base f k sp) (hr : Room j X.A) (hk : k + 1 ≤ j) (tk : Takes X W) (ha : PA X (e :: e2 :: es) t)
    (hst : ((backTo pos (starEach (e :: e2 :: es) X.env)).any (·.1) = true) := by rfl) (hne : ∃ a b r, backTo pos (starEach (e :: e2 :: es) X.env) = a :: b :: r := by exact ⟨_, _, _, rfl⟩) : PE X (.Call (.Name x p1) (e :: e2 :: es) [] pos) (tMkW C sp W tf t) := by
  refine ⟨fun pins s σ H Q I h => wpAny_Call_Name_kw (thn (hf.run pins s σ H _ I h) fun u s1 ⟨y, H1, I1, ry, ey, q⟩ => ?_)⟩
  subst ey
  obtain rfl : u = Value.ref C := ry
  obtain ⟨a, b, r, e3⟩ := hne
  have z := ha.run pos pins s1 σ H1 _ I1 q
  show wpAny _ _ (callWith pos (.ref C) [] (backTo pos (starEach (e :: e2 :: es) X.env)) []) _ _ _
  rw [e3] at z hst ⊢
  refine PySem.W.ks_call hst (PySem.W.keeps_K M.kp) (nk_evalArgs2 (thn z fun us s2 ⟨vs, H2, I2, r, q2⟩ => ⟨I2.kIn, ?_⟩))
  exact run_makeA M F (hr.mono hk) (passAt tk σ) I2 r q2
/-- x(e, ..), x a def of the module, by a promise over its whole list -/
def tFnW (sp : Sp) (W : WX) (t : TA) : TE := fun σ H Q => t σ H fun vs H1 => sp vs H1 Q (WE W σ)
theorem pe_fnW (F : Fs X.prog X.w X.K X.mg X.base f k sp) (hkp : PySem.W.keepIn X.K (.ref f) = true) (hg : Gl X x) (hm : X.mg x = some (.ref f)) (hr : Room j X.A) (hk : k ≤ j) (tk : Takes X W) (ha : PA X (e :: es) t) (hd : (x == ("__debug__" : Str)) = false := by decide)
    (he : starEach (e :: es) X.env = (false, eval e X.env) :: starEach es X.env := by rfl) (hpl : (backTo pos (starEach es X.env)).any (·.1) = false := by rfl) : PE X (.Call (.Name x p1) (e :: es) [] pos) (tFnW sp W t) := by
  refine ⟨fun pins s σ H Q I h => wpAny_Call_Name_kw (ld_glob I hg hm ?_ hd)⟩
  refine PySem.W.callWith_K (h₀ := X.base) I.ok.mod.kin hkp (thn (ha.run pos pins s σ H _ I h) fun us s1 ⟨vs, H1, I1, r, q⟩ => ⟨I1.kIn, ?_⟩) he hpl
  exact wpAny_call (run_fnA F (hr.mono hk) (passAt tk σ) I1 r q)
theorem pe_fnW0 (F : Fs X.prog X.w X.K X.mg X.base f k sp) (hkp : PySem.W.keepIn X.K (.ref f) = true) (hg : Gl X x) (hm : X.mg x = some (.ref f)) (hr : Room j X.A) (hk : k ≤ j) (tk : Takes X W) (hd : (x == ("__debug__" : Str)) = false := by decide) : PE X (.Call (.Name x p1) [] [] pos) (tFnW sp W tNil) := by
  refine ⟨fun pins s σ H Q I h => wpAny_Call_Name_kw (ld_glob I hg hm ?_ hd)⟩
  exact PySem.W.callWith_K0 I.kIn hkp (wpAny_call (run_fnA (us := []) F (hr.mono hk) (passAt tk σ) I .nil h))
/-- o.m(e, ..) -/
def tMeW (C : Addr) (m : Str) (sp : Sp) (W : WX) (ta : TE) (t : TA) : TE := fun σ H Q => ta σ H fun x H1 => ∃ a dx fs, x = .ref a ∧ H1 a = some (.ins C dx fs) ∧ fs.lookup m = none ∧ t σ H1 fun vs H2 => sp (x :: vs) H2 Q (WE W σ)
theorem pe_meW {pl : Sem Bool} (he : PE X o ta) (c : Cls X.K C) (hm : Meth X.K C m f) (F : Fs X.prog X.w X.K X.mg X.base f k sp) (hr : Room j X.A) (hk : k ≤ j) (tk : Takes X W) (ha : PA X (e :: es) t)
    (hst : starEach (e :: es) X.env = (false, eval e X.env) :: starEach es X.env := by rfl) (hpl : (backTo pos (starEach es X.env)).any (·.1) = false := by rfl)
    (ht : eval (.Call (.Attribute o m apos) (e :: es) [] pos) X.env = (do
      let ov ← eval o X.env
      standAt apos.atName
      let (f, first) ← holding [ov] (getMethod ov m pl)
      callWith pos f first (backTo pos (starEach (e :: es) X.env)) (backToKw pos (keywordEach [] X.env))) := by rfl) :
    PE X (.Call (.Attribute o m apos) (e :: es) [] pos) (tMeW C m sp W ta t) := by
  refine ⟨fun pins s σ H Q I h => ?_⟩
  refine PySem.W.methodCall_KW (pl := pl) (thn (he.run pins s σ H _ I h) fun u s1 ⟨x, H1, I1, rx, a, dx, fs, ex, ea, l, q⟩ => ?_) ht
  subst ex
  obtain rfl : u = Value.ref a := rx
  refine getmeth_ok I1 ea c hm l ?_
  refine PySem.W.callWith_K (first := [.ref a]) (h₀ := X.base) I.ok.mod.kin hm.kp (thn (ha.run pos pins s1 σ H1 _ I1 q) fun us s2 ⟨vs, H2, I2, r, q2⟩ => ⟨I2.kIn, ?_⟩) hst hpl
  exact wpAny_call (run_fnA (us := .ref a :: us) (vs := .ref a :: vs) F (hr.mono hk) (passAt tk σ) I2 (.cons rfl r) q2)
theorem pe_meW0 {pl : Sem Bool} (he : PE X o ta) (c : Cls X.K C) (hm : Meth X.K C m f) (F : Fs X.prog X.w X.K X.mg X.base f k sp) (hr : Room j X.A) (hk : k ≤ j) (tk : Takes X W)
    (ht : eval (.Call (.Attribute o m apos) [] [] pos) X.env = (do
      let ov ← eval o X.env
      standAt apos.atName
      let (f, first) ← holding [ov] (getMethod ov m pl)
      callWith pos f first (backTo pos (starEach [] X.env)) (backToKw pos (keywordEach [] X.env))) := by rfl) :
    PE X (.Call (.Attribute o m apos) [] [] pos) (tMeW C m sp W ta tNil) := by
  refine ⟨fun pins s σ H Q I h => ?_⟩
  refine PySem.W.methodCall_KW (pl := pl) (thn (he.run pins s σ H _ I h) fun u s1 ⟨x, H1, I1, rx, a, dx, fs, ex, ea, l, q⟩ => ?_) ht
  subst ex
  obtain rfl : u = Value.ref a := rx
  refine getmeth_ok I1 ea c hm l ?_
  exact PySem.W.callWith_K0 (first := [.ref a]) I1.kIn hm.kp (wpAny_call (run_fnA (us := [Value.ref a]) (vs := [V.ref a]) F (hr.mono hk) (passAt tk σ) I1 (.cons rfl .nil) q))
/-- e.f, a property that may raise -/
theorem relV_on {v : V} {u : Value} {Q : Value → Shared → Prop} {s : Shared} (r : RelV v u) (q : Q u s) : PySem.W.CmpBack Q u s := relV_back r q
/-- x op y by x's own method -/
def tBinW (K : PySem.W.Frag) (C : Addr) (nm : String) (sp : Sp) (W : WX) (ta tb : TE) : TE := fun σ H Q => ta σ H fun x H1 => tb σ H1 fun y H2 => ∃ a dx fs tb, x = .ref a ∧ H2 a = some (.ins C dx fs) ∧ TyX K H2 y tb ∧ PySem.W.nkRight K C nm tb = true ∧ sp [x, y] H2 Q (WE W σ)
theorem pe_binW {op : Operator} {a b : Expr} {tb : TE} {m : Str} (hm : m = PySem.dunder op.info.2) (T : OwnM X.K C m f) (hc : PySem.W.selfFirst X.K C = true) (F : Fs X.prog X.w X.K X.mg X.base f k sp) (hr : Room j X.A) (hk : k ≤ j) (tk : Takes X W)
    (ha : PE X a ta) (hb : PE X b tb) : PE X (.BinOp a op b pos) (tBinW X.K C op.info.2 sp W ta tb) := by
  subst hm
  refine ⟨fun pins s σ H Q I h => ?_⟩
  refine wpAny_BinOp (binT ha hb I (R := fun x y H2 => ∃ a dx fs tb, x = .ref a ∧ H2 a = some (.ins C dx fs) ∧ TyX X.K H2 y tb ∧ PySem.W.nkRight X.K C op.info.2 tb = true ∧ sp [x, y] H2 Q (WE W σ)) h fun v u s2 x y H2 I2 rx ry q => ?_)
  obtain ⟨a, dx, fs, tb, rfl, ea, ty, hn, hsp⟩ := q
  cases rx
  obtain ⟨mA, O, _⟩ := ins_get I2.hok ea
  obtain ⟨od, J, _⟩ := O.look
  obtain ⟨φ, Z, p, _⟩ := kit_of I2 ry ty
  refine PySem.W.nk_binop I2.kIn J (Z.ty _ _ I2.kIn p) hc hn T.at_ T.fn ?_
  refine wpAny_mono (wpAny_call (run_fnA (us := [Value.ref a, u]) (vs := [.ref a, y]) F (hr.mono hk) (passAt tk σ) I2 (.cons rfl (.cons ry .nil)) hsp)) (fun v s' hv => ?_) fun _ _ z => z
  obtain ⟨z, H', I', rz, q⟩ := hv
  exact relV_back rz ⟨z, H', I', rz, q⟩
end
end Sh
namespace Sh
open PySem PySem.Spec PyProof.Rows L2 Nk StX
section
variable {X : Cx} {k j : Nat} {C f g p : Addr} {sp : Sp} {W : WX} {x m : Str} {e o : Expr} {es : List Expr} {te ta tf : TE} {t : TA} {p0 p1 pos apos : Pos} {mc : Value} {pl : Sem Bool}
theorem run_cmA {pins : List (Addr × Obj)} {σ : L2.St} {H : Hp} {s : Shared} {q : Addr} {E : XK} {Q : VK} {us : List Value} {vs : List V} (F : Fs X.prog X.w X.K X.mg X.base g k sp) (hr : Room k X.A) (hx : PassesAt (L2.CX X.prog X.w) X σ E) (I : Inv X ((q, PySem.W.methodObj (.ref g) (.ref C)) :: pins) σ H s)
    (r : Vals vs us) (h : sp (.ref C :: vs) H Q E) : wpAny (model X.prog X.w) X.A (call (.ref q) us) (EP X pins σ Q) X.xe s := by
  have z : wpAny (model X.prog X.w) X.A (call (.ref q) us) (EP X ((q, PySem.W.methodObj (.ref g) (.ref C)) :: pins) σ Q) X.xe s :=
    wpAny_call (PySem.W.method_call (ClX.pin_at I) (run_fnA (us := .ref C :: us) (vs := .ref C :: vs) F hr hx I (.cons rfl r) h))
  exact thn z fun _ _ y => ClX.unpinE y
/-- C.m(e, ..), a classmethod -/
def tCmW (C : Addr) (sp : Sp) (W : WX) (ta : TE) (t : TA) : TE := fun σ H Q => ta σ H fun x H1 => x = .ref C ∧ t σ H1 fun vs H2 => sp (.ref C :: vs) H2 Q (WE W σ)
theorem pe_cmW (he : PE X o ta) (r : ClX.CRead X.K C mc) (c : ClX.CMet X.K C mc m p g) (F : Fs X.prog X.w X.K X.mg X.base g k sp) (hr : Room j X.A) (hk : k ≤ j) (tk : Takes X W) (ha : PA X (e :: es) t)
    (hst : starEach (e :: es) X.env = (false, eval e X.env) :: starEach es X.env := by rfl) (hpl : (backTo pos (starEach es X.env)).any (·.1) = false := by rfl)
    (ht : eval (.Call (.Attribute o m apos) (e :: es) [] pos) X.env = (do
      let ov ← eval o X.env
      standAt apos.atName
      let (f, first) ← holding [ov] (getMethod ov m pl)
      callWith pos f first (backTo pos (starEach (e :: es) X.env)) (backToKw pos (keywordEach [] X.env))) := by rfl) :
    PE X (.Call (.Attribute o m apos) (e :: es) [] pos) (tCmW C sp W ta t) := by
  refine ⟨fun pins s σ H Q I h => ?_⟩
  refine PySem.W.methodCall_KW (pl := pl) (thn (he.run pins s σ H _ I h) fun u s1 ⟨x, H1, I1, rx, ex, q⟩ => ?_) ht
  subst ex
  obtain rfl : u = Value.ref C := rx
  refine ClX.getmethcm_ok I1 r c fun s2 I2 => ?_
  refine ClX.callwith_cm I2 (ClX.base_none I1 (Nat.le_refl _)) c.fi (thn (ha.run pos _ s2 σ H1 _ I2 q) fun us s3 ⟨vs, H2, I3, rv, q2⟩ => ⟨⟨ClX.pin_at I3, I3.kIn⟩, ?_⟩) hst hpl
  exact run_cmA F (hr.mono hk) (passAt tk σ) I3 rv q2
end
end Sh

/-! Sh8: defs and their calls, fields, methods, properties, own things changed. -/
namespace Sh
open PySem PySem.Spec PyProof.Rows L2 Nk StX
variable [TabSet] [BasePred]

/-- a promise by a picture -/
def spSh (K : PySem.W.Frag) (f : List D → Store → R D) : Sp := fun vs H Q E => ∃ B m S ds, Cells K B m [] H S ∧ Reps (wo K B m [] H) ds vs ∧ Post K B [] m H Rep E Q (f ds S)
/-- a promise holds wherever the picture is right -/
def Shp (K : PySem.W.Frag) (sp : Sp) (f : List D → Store → R D) : Prop := ∀ B m S ds vs H Q E, Cells K B m [] H S → Reps (wo K B m [] H) ds vs → Post K B [] m H Rep E Q (f ds S) → sp vs H Q E
theorem shp_sh {K : PySem.W.Frag} {f : List D → Store → R D} : Shp K (spSh K f) f := fun B m S ds vs H Q E c r q => ⟨B, m, S, ds, c, r, q⟩
section
variable {K : PySem.W.Frag} {B : Addr → Prop} {m m' : List Addr} {ow : List (Option Addr)} {H H' : Hp} {S S' : Store}
def hidB (B : Addr → Prop) (ow : List (Option Addr)) : Addr → Prop := fun a => B a ∨ some a ∈ ow
theorem zf_hid : zf (hidB B ow) m [] = zf B m ow := by
  funext a
  unfold zf hidB
  apply propext
  constructor
  · rintro ((h | h) | h | h)
    · exact .inl h
    · exact .inr (.inr h)
    · exact .inr (.inl h)
    · exact (List.not_mem_nil h).elim
  · rintro (h | h | h)
    · exact .inl (.inl h)
    · exact .inr (.inl h)
    · exact .inl (.inr h)
theorem wo_hid : wo K (hidB B ow) m [] H = wo K B m ow H := by
  show (⟨K, zf (hidB B ow) m [], m, H⟩ : Wo) = ⟨K, zf B m ow, m, H⟩
  rw [zf_hid]
theorem Cells.toHid (c : Cells K B m ow H S) : Cells K (hidB B ow) m [] H S :=
  ⟨fun a h => h.elim (c.hB a) (c.oh a), c.nd, fun _ _ h => (List.not_mem_nil h).elim, fun a h q => h.elim (fun h => q.elim (c.nB a (.inl h)) (c.no a h)) fun h => (List.not_mem_nil h).elim, fun i j a h => by simp at h, fun a h => (List.not_mem_nil h).elim, c.len,
    fun n a x h1 h2 => by rw [wo_hid]; exact c.cs n a x h1 h2, c.tb⟩
theorem Cells.ofHid (c0 : Cells K B m ow H S) (c : Cells K (hidB B ow) m' [] H' S') : Cells K B m' ow H' S' :=
  ⟨fun a h => c.hB a (.inl h), c.nd, fun a h q => c.nB a (.inl h) (.inr q), fun a h q => h.elim (fun h => c.nB a (.inl h) (.inl q)) fun h => c0.nB a (.inr h) q, c0.od, fun a h => c.hB a (.inr h), c.len,
    fun n a x h1 h2 => by rw [← wo_hid]; exact c.cs n a x h1 h2, c.tb⟩
theorem Post.toHid {α β : Type} {RP : Wo → β → α → Prop} {W : Value → Option Addr → Hp → Prop} {Q : α → Hp → Prop} {r : R β} (c0 : Cells K B m ow H S) (h : Post K B ow m H RP W Q r) : Post K (hidB B ow) [] m H RP W Q r := by
  cases r with
  | ok y S1 => exact fun a m1 H1 f1 c1 r1 => h a m1 H1 f1 (c0.ofHid c1) (by rw [← wo_hid]; exact r1)
  | er x S1 => exact fun a d m1 H1 f1 c1 r1 => h a d m1 H1 f1 (c0.ofHid c1) (by rw [← wo_hid]; exact r1)
  | no => exact h
/-- the call of what keeps a promise, at a point of a def -/
theorem Shp.at {sp : Sp} {f : List D → Store → R D} {vs : List V} {ds : List D} {Q : VK} {E : XK} (h : Shp K sp f) (c : Cells K B m ow H S) (r : Reps (wo K B m ow H) ds vs) (q : Post K B ow m H Rep E Q (f ds S)) : sp vs H Q E :=
  h (hidB B ow) m S ds vs H Q E c.toHid (by rw [wo_hid]; exact r) (q.toHid c)
end
/-- the picture of a def's run -/
def RS.res : RS → R D
  | .nx _ S => .ok .non S
  | .rt d S => .ok d S
  | .er x _ S => .er x S
  | _ => .no
@[simp] theorem res_nx {e : En} {S : Store} : (RS.nx e S).res = .ok .non S := rfl
@[simp] theorem res_rt {d : D} {S : Store} : (RS.rt d S).res = .ok d S := rfl
@[simp] theorem res_er {x : Exn} {e : En} {S : Store} : (RS.er x e S).res = .er x S := rfl
@[simp] theorem res_no : RS.no.res = .no := rfl
@[simp] theorem ite_res {c : Prop} [Decidable c] {r s : RS} : (if c then r else s).res = if c then r.res else s.res := by split <;> rfl
@[simp] theorem run_res {α : Type} {r : R α} {e : En} {k : α → Store → RS} : (r.run e k).res = r.bind fun a S => (k a S).res := by cases r <;> rfl
/-- n parameters, k other names -/
def runD (n k : Nat) (f : Sy) (ds : List D) (S : Store) : R D := if ds.length = n then (f (ds.map Sl.val ++ List.replicate k .no) S).res else .no
section
variable {K : PySem.W.Frag} {P : Program} {w : World} {mg : Str → Option Value} {base : Heap}
theorem start_at {N : List Str} {B : Addr → Prop} {m : List Addr} {H : Hp} {S : Store} {ds : List D} {vs : List V} {n k : Nat} (hφ : BasePred.Φ ⟨B, m, H, none⟩) (hN : N.length = n + k) (hn : ds.length = n) (c : Cells K B m [] H S) (r : Reps (wo K B m [] H) ds vs) :
    At K ⟨B, m, H, none⟩ m (List.replicate (n + k) none) H (L2.start N vs) (ds.map Sl.val ++ List.replicate k .no) S := by
  have hv := reps_len r
  have none_mem : ∀ a : Addr, some a ∉ List.replicate (n + k) (none : Option Addr) := fun a h => by
    have := (List.mem_replicate.mp h).2
    cases this
  have none_get : ∀ (i : Nat) (a : Addr), (List.replicate (n + k) (none : Option Addr))[i]? ≠ some (some a) := fun i a h => none_mem a (List.mem_of_getElem? h)
  have ze : wo K B m (List.replicate (n + k) none) H = wo K B m [] H := by
    show (⟨K, zf B m (List.replicate (n + k) none), m, H⟩ : Wo) = ⟨K, zf B m [], m, H⟩
    congr 1
    funext a
    unfold zf
    apply propext
    constructor
    · rintro (h | h | h)
      · exact .inl h
      · exact .inr (.inl h)
      · exact (none_mem a h).elim
    · rintro (h | h | h)
      · exact .inl h
      · exact .inr (.inl h)
      · exact (List.not_mem_nil h).elim
  refine ⟨⟨c.hB, c.nd, fun a _ h => none_mem a h, fun a h => h.elim (fun h => c.nB a (.inl h)) fun h => (none_mem a h).elim, fun i j a h => (none_get i a h).elim, fun a h => (none_mem a h).elim, c.len, fun n a x h1 h2 => by rw [ze]; exact c.cs n a x h1 h2, c.tb⟩, ?_, fun i s hs => ?_, Fut.refl m H, fun a h => (none_mem a h).elim, fun i a h => (none_get i a h).elim, (fun a h => by cases h), hφ⟩
  · unfold L2.start
    simp
    omega
  · rw [ze]
    by_cases l : i < ds.length
    · rw [List.getElem?_append_left (by simpa using l), List.getElem?_map] at hs
      rw [List.getElem?_eq_getElem l] at hs
      cases hs
      obtain ⟨v, h1, h2⟩ := reps_get r (List.getElem?_eq_getElem l)
      refine ⟨v, ?_, h2⟩
      unfold L2.start
      rw [List.getElem?_append_left (by simp; omega), List.getElem?_map, h1]
      rfl
    · rw [List.getElem?_append_right (by simpa using l)] at hs
      have := List.mem_of_getElem? hs
      rw [(List.mem_replicate.mp this).2]
      exact True.intro
/-- a def's body as a picture: what the hand layer asks of a body -/
theorem body_of {X : Cx} {N : List Str} {body : List Stmt} {f : Sy} {E : XK} {n k : Nat} (hφ : ∀ b, BasePred.Φ b) (hN : N.length = n + k) (h : Ess K X (fun c d _ H => E c d H) body f) {vs : List V} {H : Hp} {Q : VK} (hsp : spSh K (runD n k f) vs H Q E) :
    ∃ t, PSs X body t ∧ t { nx := fun _ H' => Q .non H', rt := Q } (L2.start N vs) H := by
  obtain ⟨ts, p1, h1⟩ := h.run
  refine ⟨ts, p1, ?_⟩
  obtain ⟨B, m, S, ds, c, r, q⟩ := hsp
  unfold runD at q
  split at q
  · rename_i hn
    refine h1 ⟨B, m, H, none⟩ m (List.replicate (n + k) none) H _ (ds.map Sl.val ++ List.replicate k .no) S _ (start_at (hφ _) hN hn c r) ?_
    have none_mem : ∀ a : Addr, some a ∉ ([] : List (Option Addr)) := fun a h => List.not_mem_nil h
    have drop : ∀ {m' : List Addr} {ow' : List (Option Addr)} {H' : Hp} {S' : Store}, Cells K B m' ow' H' S' → Cells K B m' [] H' S' := fun c => c.sub (fun a h => (none_mem a h).elim) fun i j a h => by simp at h
    generalize f (ds.map Sl.val ++ List.replicate k .no) S = rs at q ⊢
    cases rs with
    | nx e' S' => exact fun σ' m' ow' H' t l => q .non m' H' t.fut (drop t.cells) rep_non
    | rt d S' => exact fun v m' ow' H' c' f' _ r' => q v m' H' f' (drop c') (Rep.le (le_ow fun a h => (none_mem a h).elim) d r')
    | er x e' S' => exact fun c d σ' m' ow' H' t l rx => q c d m' H' t.fut (drop t.cells) (ExR.le (le_ow fun a h => (none_mem a h).elim) rx)
    | bk e' S' => exact q.elim
    | ct e' S' => exact q.elim
    | no => exact q.elim
  · exact q.elim
theorem spSh_len {n k : Nat} {f : Sy} {vs : List V} {H : Hp} {Q : VK} {E : XK} (h : spSh K (runD n k f) vs H Q E) : vs.length = n := by
  obtain ⟨B, m, S, ds, c, r, q⟩ := h
  unfold runD at q
  split at q
  · rw [reps_len r]; assumption
  · exact q.elim
/-- a def: its picture -/
theorem fo_sh {x qual : Str} {st : Stmt} {fa : Addr} {N ps : List Str} {lv n k : Nat} {f : Sy} (F : ∃ fd, FunD K x qual (defArgs st) (defBody st) (defScope st) [] [] fa fd) (S : FnScope N ps (defScope st))
    (hb : ∀ (kV doc pm : Value) (an : Option Addr) (cdv ct : Value) (us : List Value), us.length = ps.length → bindArgs (PySem.W.fnOf x qual (defArgs st) (defBody st) (defScope st) .none kV doc pm an cdv ct) ⟨us, []⟩ = pure (ps.zip us)) (hn : ps.length = n) (hN : N.length = n + k) (hφ : ∀ b, BasePred.Φ b)
    (hbody : ∀ (cdv : Value) (A : Around) (outer : List Env) (s : Shared) (H : Hp) (E : XK), Room lv (A.deeper (envOfC qual (defScope st) s.heap.objs.size fa cdv)) →
      Ess K (cxOf (L2.CX P w) P w K mg base N qual (defScope st) fa cdv A outer s H E) (fun c d _ H => E c d H) (defBody st) f) : Fo P w K mg base fa (lv + 1) ps (spSh K (runD n k f)) :=
  fo_mk F S hb (fun vs H Q E h => by rw [spSh_len h, hn]) fun cdv A outer s H vs Q E hr hsp => body_of hφ hN (hbody cdv A outer s H E hr) hsp
theorem df_sh {x qual : Str} {st : Stmt} {fa : Addr} {N ps : List Str} {lv n k : Nat} {f : Sy} (F : ∃ fd, FunD K x qual (defArgs st) (defBody st) (defScope st) [] [] fa fd) (hm : mg x = some (.ref fa)) (S : FnScope N ps (defScope st))
    (hb : ∀ (kV doc pm : Value) (an : Option Addr) (cdv ct : Value) (us : List Value), us.length = ps.length → bindArgs (PySem.W.fnOf x qual (defArgs st) (defBody st) (defScope st) .none kV doc pm an cdv ct) ⟨us, []⟩ = pure (ps.zip us)) (hn : ps.length = n) (hN : N.length = n + k) (hφ : ∀ b, BasePred.Φ b)
    (hbody : ∀ (cdv : Value) (A : Around) (outer : List Env) (s : Shared) (H : Hp) (E : XK), Room lv (A.deeper (envOfC qual (defScope st) s.heap.objs.size fa cdv)) →
      Ess K (cxOf (L2.CX P w) P w K mg base N qual (defScope st) fa cdv A outer s H E) (fun c d _ H => E c d H) (defBody st) f) : Df P w K mg base x (lv + 1) ps (spSh K (runD n k f)) :=
  df_mk F hm S hb (fun vs H Q E h => by rw [spSh_len h, hn]) fun cdv A outer s H vs Q E hr hsp => body_of hφ hN (hbody cdv A outer s H E hr) hsp
end
/-! ### calls -/
def eDf (f : List D → Store → R D) (a : Sx (List D)) (e : En) (S : Store) : R D := (a e S).bind fun ds S1 => f ds S1
/-- the field of an own object whose class is one of some -/
def D.fld (cs : List String) (f : Str) (S : Store) : D → Option D
  | .obj c fs => if c ∈ cs then fs.lookup f else none
  | .ref n => match S[n]? with
    | some (.ins c fs) => if c ∈ cs then fs.lookup f else none
    | _ => none
  | _ => none
def eFd (cs : List String) (f : Str) (g : Sx D) (e : En) (S : Store) : R D := (g e S).bind fun x S1 => R.of S1 (x.fld cs f S1)
/-- the class of an own object that has no such field -/
def D.isC (c : String) (m : Str) (S : Store) : D → Bool
  | .obj c' fs => c' == c && (fs.lookup m).isNone
  | .ref n => match S[n]? with
    | some (.ins c' fs) => c' == c && (fs.lookup m).isNone
    | _ => false
  | _ => false
def eMe (c : String) (m : Str) (f : List D → Store → R D) (g : Sx D) (a : Sx (List D)) (e : En) (S : Store) : R D := (g e S).bind fun x S1 => if x.isC c m S1 then (a e S1).bind fun ds S2 => f (x :: ds) S2 else .no
def R.orE {α : Type} : R α → R α → R α
  | .no, s => s
  | r, _ => r
@[simp] theorem orE_no {α : Type} {s : R α} : (R.no : R α).orE s = s := rfl
@[simp] theorem orE_ok {α : Type} {a : α} {S : Store} {s : R α} : (R.ok a S).orE s = .ok a S := rfl
@[simp] theorem orE_er {α : Type} {x : Exn} {S : Store} {s : R α} : (R.er x S : R α).orE s = .er x S := rfl
/-- one of two pictures -/
def eAlt (f g : Sx D) (e : En) (S : Store) : R D := (f e S).orE (g e S)
/-- facts of some classes for the reading of a field -/
def FldOk (K : PySem.W.Frag) (f : Str) (cs : List String) : Prop := ∀ c ∈ cs, Cls K (He.ga K c) ∧ NoAttr K (He.ga K c) f
theorem fk_nil {K : PySem.W.Frag} {f : Str} : FldOk K f [] := fun _ h => nomatch h
theorem fk_cons {K : PySem.W.Frag} {f : Str} {c : String} {cs : List String} (h1 : Cls K (He.ga K c)) (h2 : NoAttr K (He.ga K c) f) (h : FldOk K f cs) : FldOk K f (c :: cs) := fun d hd => by
  rcases List.mem_cons.mp hd with rfl | hd
  · exact ⟨h1, h2⟩
  · exact h d hd
theorem cell_ins {K : PySem.W.Frag} {B : Addr → Prop} {m : List Addr} {ow : List (Option Addr)} {H : Hp} {S : Store} {n : Nat} {a : Addr} {c : String} {fs : List (Str × D)} (t : Cells K B m ow H S) (hm : m[n]? = some a) (hS : S[n]? = some (.ins c fs)) : ∃ dx gs, H a = some (.ins (He.ga K c) dx gs) ∧ RepF (wo K B m ow H) fs gs := t.cs n a _ hm hS
section
variable {K : PySem.W.Frag} {X : Cx} {W : WX} {ex ex2 : Expr} {es : List Expr} {f g : Sx D} {a : Sx (List D)} {pos p apos : Pos} {i lv j : Nat} {x m : Str} {ps : List Str} {sp : Sp} {F : List D → Store → R D} {cs : List String} {c : String}
theorem x_df (hd : Df X.prog X.w X.K X.mg X.base x lv ps sp) (hs : Shp K sp F) (hr : Room j X.A) (hk : lv ≤ j) (hg : Gl X x) (tk : Takes X W) (ha : Ea K X W (ex :: es) a)
    (hdb : (x == ("__debug__" : Str)) = false := by decide) (he : starEach (ex :: es) X.env = (false, eval ex X.env) :: starEach es X.env := by rfl) (hpl : (backTo pos (starEach es X.env)).any (·.1) = false := by rfl) : Ev K X W (.Call (.Name x p) (ex :: es) [] pos) (eDf F a) := by
  obtain ⟨ta, p1, h1⟩ := ha.run
  exact ⟨_, pe_df hd hr hk hg tk p1 hdb he hpl, fun b m ow H σ e S Q t q => h1 b m ow H σ e S _ t (Post.bind q fun ds S1 vs m1 H1 f1 c1 rx q => hs.at c1 rx q)⟩
theorem x_alt (h : Ev K X W ex f) (k : Ev K X W ex g) : Ev K X W ex (eAlt f g) := by
  obtain ⟨ta, p1, h1⟩ := h.run
  obtain ⟨tb, p2, h2⟩ := k.run
  refine ⟨_, pe_alt p1 p2, fun b m ow H σ e S Q t q => ?_⟩
  unfold eAlt at q
  cases r : f e S with
  | no => rw [r] at q; exact .inr (h2 b m ow H σ e S Q t q)
  | ok d S1 => rw [r] at q; exact .inl (h1 b m ow H σ e S Q t (by rw [r]; exact q))
  | er d S1 => rw [r] at q; exact .inl (h1 b m ow H σ e S Q t (by rw [r]; exact q))
theorem x_fld {fd : Str} (hK : X.K = K) (hc : FldOk K fd cs) (hf : Ev K X W ex f) (hb : attributeBase ex fd X.env (eval ex X.env) = eval ex X.env := by rfl) : Ev K X W (.Attribute ex fd pos) (eFd cs fd f) := by
  subst hK
  obtain ⟨ta, p1, h1⟩ := hf.run
  refine ⟨_, pe_fld p1 hb, fun b m ow H σ e S Q t q => h1 b m ow H σ e S _ t (Post.bind q fun d S1 v m1 H1 f1 c1 rx q => ?_)⟩
  cases d <;> try exact q.elim
  · rename_i c fs
    unfold Rep at rx
    obtain ⟨a, dx, gs, rfl, _, hH, r⟩ := rx
    unfold D.fld at q
    dsimp only at q
    split at q
    · rename_i hm
      cases l : fs.lookup fd with
      | none => rw [l] at q; exact q.elim
      | some d =>
        rw [l] at q
        obtain ⟨u, h2, h3⟩ := repF_get r l
        exact ⟨a, _, dx, gs, u, rfl, hH, (hc c hm).1, (hc c hm).2, h2, q.val c1 h3⟩
    · exact q.elim
  · rename_i n
    unfold Rep at rx
    obtain ⟨a, rfl, hm⟩ := rx
    unfold D.fld at q
    dsimp only at q
    cases s : S1[n]? with
    | none => rw [s] at q; exact q.elim
    | some x =>
      rw [s] at q
      cases x <;> try exact q.elim
      rename_i c fs
      dsimp only at q
      split at q
      · rename_i hmc
        cases l : fs.lookup fd with
        | none => rw [l] at q; exact q.elim
        | some d =>
          rw [l] at q
          obtain ⟨dx, gs, hH, r⟩ := cell_ins c1 hm s
          obtain ⟨u, h2, h3⟩ := repF_get r l
          exact ⟨a, _, dx, gs, u, rfl, hH, (hc c hmc).1, (hc c hmc).2, h2, q.val c1 h3⟩
      · exact q.elim
/-- an object of a class, without such a field -/
theorem isC_at {b : Bs} {ow : List (Option Addr)} {m1 : List Addr} {H : Hp} {S : Store} {d : D} {v : V} (t : Cells K b.B m1 ow H S) (r : Rep (wo K b.B m1 ow H) d v) (h : d.isC c m S = true) : ∃ a dx fs, v = .ref a ∧ H a = some (.ins (He.ga K c) dx fs) ∧ fs.lookup m = none := by
  cases d <;> unfold D.isC at h <;> try cases h
  · rename_i c' fs
    simp only [Bool.and_eq_true, beq_iff_eq, Option.isNone_iff_eq_none] at h
    unfold Rep at r
    obtain ⟨a, dx, gs, rfl, _, hH, r⟩ := r
    exact ⟨a, dx, gs, rfl, h.1 ▸ hH, repF_none r h.2⟩
  · rename_i n
    unfold Rep at r
    obtain ⟨a, rfl, hm⟩ := r
    cases s : S[n]? with
    | none => simp only [s] at h; cases h
    | some x =>
      cases x <;> simp only [s] at h <;> try cases h
      rename_i c' fs
      simp only [Bool.and_eq_true, beq_iff_eq, Option.isNone_iff_eq_none] at h
      obtain ⟨dx, gs, hH, r⟩ := cell_ins t hm s
      exact ⟨a, dx, gs, rfl, h.1 ▸ hH, repF_none r h.2⟩
theorem x_me {fa : Addr} {pl : Sem Bool} (hK : X.K = K) (ho : Ev K X W ex2 g) (hc : Cls K (He.ga K c)) (hm : Meth K (He.ga K c) m fa) (hF : Fs X.prog X.w K X.mg X.base fa lv sp) (hs : Shp K sp F) (hr : Room j X.A) (hk : lv ≤ j) (tk : Takes X W) (ha : Ea K X W (ex :: es) a)
    (hst : starEach (ex :: es) X.env = (false, eval ex X.env) :: starEach es X.env := by rfl) (hpl : (backTo pos (starEach es X.env)).any (·.1) = false := by rfl)
    (ht : eval (.Call (.Attribute ex2 m apos) (ex :: es) [] pos) X.env = (do
      let ov ← eval ex2 X.env
      standAt apos.atName
      let (f, first) ← holding [ov] (getMethod ov m pl)
      callWith pos f first (backTo pos (starEach (ex :: es) X.env)) (backToKw pos (keywordEach [] X.env))) := by rfl) : Ev K X W (.Call (.Attribute ex2 m apos) (ex :: es) [] pos) (eMe c m F g a) := by
  subst hK
  obtain ⟨tb, p2, h2⟩ := ho.run
  obtain ⟨ta, p1, h1⟩ := ha.run
  refine ⟨_, pe_meW p2 hc hm hF hr hk tk p1 hst hpl ht, fun b m ow H σ e S Q t q => h2 b m ow H σ e S _ t (Post.bind q fun d S1 v m1 H1 f1 c1 rx q => ?_)⟩
  split at q
  · rename_i hi
    obtain ⟨a, dx, fs, rfl, hH, hl⟩ := isC_at c1 rx hi
    refine ⟨a, dx, fs, rfl, hH, hl, h1 b m1 ow H1 σ e S1 _ (t.go f1 c1) (Post.bind q fun ds S2 vs m2 H2 f2 c2 ry q => hs.at c2 (reps_cons (Rep.le f2.le d rx) ry) q)⟩
  · exact q.elim
theorem x_me0 {fa : Addr} {pl : Sem Bool} (hK : X.K = K) (ho : Ev K X W ex2 g) (hc : Cls K (He.ga K c)) (hm : Meth K (He.ga K c) m fa) (hF : Fs X.prog X.w K X.mg X.base fa lv sp) (hs : Shp K sp F) (hr : Room j X.A) (hk : lv ≤ j) (tk : Takes X W)
    (ht : eval (.Call (.Attribute ex2 m apos) [] [] pos) X.env = (do
      let ov ← eval ex2 X.env
      standAt apos.atName
      let (f, first) ← holding [ov] (getMethod ov m pl)
      callWith pos f first (backTo pos (starEach [] X.env)) (backToKw pos (keywordEach [] X.env))) := by rfl) : Ev K X W (.Call (.Attribute ex2 m apos) [] [] pos) (eMe c m F g aNil) := by
  subst hK
  obtain ⟨tb, p2, h2⟩ := ho.run
  refine ⟨_, pe_meW0 p2 hc hm hF hr hk tk ht, fun b m ow H σ e S Q t q => h2 b m ow H σ e S _ t (Post.bind q fun d S1 v m1 H1 f1 c1 rx q => ?_)⟩
  split at q
  · rename_i hi
    obtain ⟨a, dx, fs, rfl, hH, hl⟩ := isC_at c1 rx hi
    exact ⟨a, dx, fs, rfl, hH, hl, hs.at c1 (reps_cons rx reps_nil) q⟩
  · exact q.elim
/-- C.m(e, ..), a classmethod -/
def eCm (c : String) (f : List D → Store → R D) (g : Sx D) (a : Sx (List D)) (e : En) (S : Store) : R D := (g e S).bind fun x S1 => match x with
  | .cls c' => if c' = c then (a e S1).bind fun ds S2 => f (.cls c :: ds) S2 else .no
  | _ => .no
theorem x_cm {mc : Value} {fp fa : Addr} {pl : Sem Bool} (hK : X.K = K) (ho : Ev K X W ex2 g) (r : ClX.CRead K (He.ga K c) mc) (hc : ClX.CMet K (He.ga K c) mc m fp fa) (hF : Fs X.prog X.w K X.mg X.base fa lv sp) (hs : Shp K sp F) (hr : Room j X.A) (hk : lv ≤ j) (tk : Takes X W) (ha : Ea K X W (ex :: es) a)
    (hst : starEach (ex :: es) X.env = (false, eval ex X.env) :: starEach es X.env := by rfl) (hpl : (backTo pos (starEach es X.env)).any (·.1) = false := by rfl)
    (ht : eval (.Call (.Attribute ex2 m apos) (ex :: es) [] pos) X.env = (do
      let ov ← eval ex2 X.env
      standAt apos.atName
      let (f, first) ← holding [ov] (getMethod ov m pl)
      callWith pos f first (backTo pos (starEach (ex :: es) X.env)) (backToKw pos (keywordEach [] X.env))) := by rfl) : Ev K X W (.Call (.Attribute ex2 m apos) (ex :: es) [] pos) (eCm c F g a) := by
  subst hK
  obtain ⟨tb, p2, h2⟩ := ho.run
  obtain ⟨ta, p1, h1⟩ := ha.run
  refine ⟨_, pe_cmW p2 r hc hF hr hk tk p1 hst hpl ht, fun b m ow H σ e S Q t q => h2 b m ow H σ e S _ t (Post.bind q fun d S1 v m1 H1 f1 c1 rx q => ?_)⟩
  cases d <;> try exact q.elim
  rename_i c'
  dsimp only at q
  split at q
  · rename_i hi
    subst hi
    have rx0 := rx
    unfold Rep at rx
    subst rx
    exact ⟨rfl, h1 b m1 ow H1 σ e S1 _ (t.go f1 c1) (Post.bind q fun ds S2 vs m2 H2 f2 c2 ry q => hs.at c2 (reps_cons (Rep.le f2.le _ rx0) ry) q)⟩
  · exact q.elim
/-- e.f, a property (that raises nothing) -/
def ePr (c : String) (f : List D → Store → R D) (g : Sx D) (e : En) (S : Store) : R D := (g e S).bind fun x S1 => if x.isC c "" S1 then (f [x] S1).clean else .no
theorem Post.clean {α β : Type} {B : Addr → Prop} {ow : List (Option Addr)} {m : List Addr} {H : Hp} {RP : Wo → β → α → Prop} {W W' : Value → Option Addr → Hp → Prop} {Q : α → Hp → Prop} {r : R β} (h : Post K B ow m H RP W Q r.clean) : Post K B ow m H RP W' Q r := by
  cases r with
  | ok y S => exact h
  | er x S => exact h.elim
  | no => exact h.elim
theorem x_pr {pp pg : Addr} (hK : X.K = K) (hf : Ev K X W ex g) (hc : Cls K (He.ga K c)) (hp : PropOf K (He.ga K c) m pp pg) (hF : Fo X.prog X.w K X.mg X.base pg lv ps sp) (hs : Shp K sp F) (hr : Room j X.A) (hk : lv + 1 ≤ j) (hab : attributeBase ex m X.env (eval ex X.env) = eval ex X.env := by rfl) : Ev K X W (.Attribute ex m pos) (ePr c F g) := by
  subst hK
  obtain ⟨tb, p2, h2⟩ := hf.run
  refine ⟨_, pe_pr p2 hc hp hF hr hk hab, fun b m ow H σ e S Q t q => h2 b m ow H σ e S _ t (Post.bind q fun d S1 v m1 H1 f1 c1 rx q => ?_)⟩
  split at q
  · rename_i hi
    obtain ⟨a, dx, fs, rfl, hH, hl⟩ := isC_at c1 rx hi
    exact ⟨a, dx, fs, rfl, hH, hs.at c1 (reps_cons rx reps_nil) q.clean⟩
  · exact q.elim
end
/-! ### __init__ -/
def off (a : Addr) (H : Hp) : Hp := fun x => if x = a then none else H x
theorem off_ne {a x : Addr} {H : Hp} (h : x ≠ a) : off a H x = H x := by unfold off; rw [if_neg h]
theorem off_self {a : Addr} {H : Hp} : off a H a = none := by unfold off; rw [if_pos rfl]
section
variable (K : PySem.W.Frag) (B : Addr → Prop) (m : List Addr) (a : Addr)
def PostN (H : Hp) (E : XK) (Q : VK) : R Cell → Prop
  | .ok c' S' => ∀ m' H', Fut m (off a H) m' H' → Cells K (fun x => B x ∨ x = a) m' [] H' S' → CRep (wo K (fun x => B x ∨ x = a) m' [] H') a c' → Q .non H'
  | .er x S' => ∀ c d m' H', Fut m (off a H) m' H' → Cells K (fun x => B x ∨ x = a) m' [] H' S' → ExR (wo K (fun x => B x ∨ x = a) m' [] H') x c d → E c d H'
  | .no => False
end
def spIn (K : PySem.W.Frag) (f : Cell → List D → Store → R Cell) : Sp := fun vs H Q E => ∃ B m S c ds a us, vs = .ref a :: us ∧ ¬ zf B m [] a ∧ Cells K (fun x => B x ∨ x = a) m [] H S ∧ CRep (wo K (fun x => B x ∨ x = a) m [] H) a c ∧ (∃ k fs, c = .ins k fs) ∧ Reps (wo K (fun x => B x ∨ x = a) m [] H) ds us ∧ PostN K B m a H E Q (f c ds S)
def RS.resI : RS → R Cell
  | .nx e S => match (e[0]? : Option Sl) with
    | some (Sl.own c) => .ok c S
    | _ => .no
  | .er x _ S => .er x S
  | _ => .no
@[simp] theorem resI_er {x : Exn} {e : En} {S : Store} : (RS.er x e S).resI = .er x S := rfl
@[simp] theorem resI_nx {c : Cell} {e : En} {S : Store} : (RS.nx (.own c :: e) S).resI = .ok c S := rfl
@[simp] theorem resI_no : RS.no.resI = .no := rfl
@[simp] theorem ite_resI {c : Prop} [Decidable c] {r s : RS} : (if c then r else s).resI = if c then r.resI else s.resI := by split <;> rfl
@[simp] theorem run_resI {α : Type} {r : R α} {e : En} {k : α → Store → RS} : (r.run e k).resI = r.bind fun a S => (k a S).resI := by cases r <;> rfl
def runI (n k : Nat) (f : Sy) (c : Cell) (ds : List D) (S : Store) : R Cell := if ds.length + 1 = n then (f (.own c :: (ds.map Sl.val ++ List.replicate k .no)) S).resI else .no
theorem zf_a {B : Addr → Prop} {m : List Addr} {n : Nat} {a : Addr} : zf (fun x => B x ∨ x = a) m [] = zf B m (some a :: List.replicate n none) := by
  funext x
  unfold zf
  apply propext
  constructor
  · rintro ((h | h) | h | h)
    · exact .inl h
    · exact .inr (.inr (h ▸ List.mem_cons_self))
    · exact .inr (.inl h)
    · exact (List.not_mem_nil h).elim
  · rintro (h | h | h)
    · exact .inl (.inl h)
    · exact .inr (.inl h)
    · rcases List.mem_cons.mp h with h | h
      · exact .inl (.inr (Option.some.inj h))
      · cases (List.mem_replicate.mp h).2
section
variable {K : PySem.W.Frag} {P : Program} {w : World} {mg : Str → Option Value} {base : Heap}
theorem spIn_len {n k : Nat} {f : Sy} {vs : List V} {H : Hp} {Q : VK} {E : XK} (h : spIn K (runI n k f) vs H Q E) : vs.length = n := by
  obtain ⟨B, m, S, c, ds, a, us, rfl, _, _, _, _, r, q⟩ := h
  unfold runI at q
  split at q
  · rw [List.length_cons, reps_len r]; assumption
  · exact q.elim
theorem bodyI_of {X : Cx} {N : List Str} {body : List Stmt} {f : Sy} {E : XK} {n k : Nat} (hφ : ∀ b, BasePred.Φ b) (hN : N.length = n + k) (h : Ess K X (fun c d _ H => E c d H) body f) {vs : List V} {H : Hp} {Q : VK} (hsp : spIn K (runI n k f) vs H Q E) :
    ∃ t, PSs X body t ∧ t { nx := fun _ H' => Q .non H', rt := Q } (L2.start N vs) H := by
  obtain ⟨ts, p1, h1⟩ := h.run
  refine ⟨ts, p1, ?_⟩
  have hl := spIn_len hsp
  obtain ⟨B, m, S, c, ds, a, us, rfl, hz, cl, cr, ⟨k0, fs0, rfl⟩, r, q⟩ := hsp
  have hus := reps_len r
  unfold runI at q
  split at q
  · rename_i hn
    have ze : ∀ {m' : List Addr} {H' : Hp} {n : Nat}, wo K (fun x => B x ∨ x = a) m' [] H' = wo K B m' (some a :: List.replicate n none) H' := by
      intro m' H' n
      show (⟨K, zf (fun x => B x ∨ x = a) m' [], m', H'⟩ : Wo) = ⟨K, zf B m' (some a :: List.replicate n none), m', H'⟩
      rw [zf_a]
    have mem1 : ∀ {x : Addr} {n : Nat}, some x ∈ (some a :: List.replicate n (none : Option Addr)) → x = a := fun {x n} h => by
      rcases List.mem_cons.mp h with h | h
      · exact Option.some.inj h
      · cases (List.mem_replicate.mp h).2
    have get1 : ∀ {i n : Nat} {x : Addr}, (some a :: List.replicate n (none : Option Addr))[i]? = some (some x) → i = 0 ∧ x = a := fun {i n x} h => by
      cases i with
      | zero => simp at h; exact ⟨rfl, h.symm⟩
      | succ i =>
        rw [List.getElem?_cons_succ] at h
        cases (List.mem_replicate.mp (List.mem_of_getElem? h)).2
    have oa : ¬ Fr H a := by
      obtain ⟨dx, gs, e, _⟩ := cr
      exact fun z => z.no e fun _ z => by cases z
    refine h1 ⟨B, m, off a H, some a⟩ m (some a :: List.replicate (ds.length + k) none) H _ (.own (.ins k0 fs0) :: (ds.map Sl.val ++ List.replicate k .no)) S _ ⟨⟨fun x hx => cl.hB x (.inl hx), cl.nd, fun x hx z => cl.nB x (.inl hx) (.inr (mem1 z)), fun x hx z => ?_, fun i j x h1 h2 => (get1 h1).1.trans (get1 h2).1.symm, fun x hx => ?_, cl.len, fun n x c h1 h2 => by rw [← ze]; exact cl.cs n x c h1 h2, cl.tb⟩, ?_, fun i s hs => ?_, ?_, fun x hx => ?_, fun i x hx => ?_, fun x hx => ?_, hφ _⟩ ?_
    · rcases hx with hx | hx
      · exact cl.nB x (.inl hx) (.inl z)
      · rw [mem1 hx] at z
        exact hz (.inl z)
    · rw [mem1 hx]; exact oa
    · unfold L2.start
      simp
      omega
    · rw [← ze]
      cases i with
      | zero =>
        simp at hs
        subst hs
        exact ⟨a, by simp [L2.start], by simp, cr⟩
      | succ i =>
        rw [List.getElem?_cons_succ] at hs
        by_cases l : i < ds.length
        · rw [List.getElem?_append_left (by simpa using l), List.getElem?_map, List.getElem?_eq_getElem l] at hs
          cases hs
          obtain ⟨v, h1, h2⟩ := reps_get r (List.getElem?_eq_getElem l)
          refine ⟨v, ?_, h2⟩
          unfold L2.start
          rw [List.map_cons, List.cons_append, List.getElem?_cons_succ, List.getElem?_append_left (by simp; omega), List.getElem?_map, h1]
          rfl
        · rw [List.getElem?_append_right (by simpa using l)] at hs
          have := List.mem_of_getElem? hs
          rw [(List.mem_replicate.mp this).2]
          exact True.intro
    · refine ⟨⟨[], by simp, by simp⟩, fun x o e _ _ => ?_, fun x e => ?_⟩
      · by_cases z : x = a
        · have e : off a H x = some o := e
          rw [z, off_self] at e; cases e
        · have e : off a H x = some o := e
          rwa [off_ne z] at e
      · intro o eo
        by_cases z : x = a
        · have eo : off a H x = some o := eo
          rw [z, off_self] at eo; cases eo
        · have eo : off a H x = some o := eo
          rw [off_ne z] at eo; exact e o eo
    · rw [mem1 hx]; exact .none off_self
    · rw [(get1 hx).1]
      exact ⟨_, rfl⟩
    · cases hx
      exact ⟨by simp [L2.start], by simp, k0, fs0, by simp⟩
    · generalize f (.own (.ins k0 fs0) :: (ds.map Sl.val ++ List.replicate k .no)) S = rs at q ⊢
      have back : ∀ {m' : List Addr} {ow' : List (Option Addr)} {H' : Hp} {S' : Store}, some a ∈ ow' → Cells K B m' ow' H' S' → Cells K (fun x => B x ∨ x = a) m' [] H' S' ∧ Le (wo K B m' ow' H') (wo K (fun x => B x ∨ x = a) m' [] H') := fun {m' ow' H' S'} ha c => by
        have l : Le (wo K B m' ow' H') (wo K (fun x => B x ∨ x = a) m' [] H') := ⟨rfl, fun x o _ _ z => by
          rintro ((h | h) | h | h)
          · exact z (.inl h)
          · exact z (.inr (.inr (h ▸ ha)))
          · exact z (.inr (.inl h))
          · exact (List.not_mem_nil h).elim, fun _ _ e => e, fun _ _ e _ _ => e⟩
        refine ⟨⟨fun x hx => hx.elim (c.hB x) fun h => h ▸ c.oh a ha, c.nd, fun x _ h => (List.not_mem_nil h).elim, fun x hx z => ?_, fun i j x h => by simp at h, fun x h => (List.not_mem_nil h).elim, c.len, fun n x y h1 h2 => (c.cs n x y h1 h2).le l fun o e _ => e, c.tb⟩, l⟩
        rcases hx with hx | hx
        · rcases z with z | z
          · exact c.nB x (.inl hx) z
          · exact c.no x hx (z ▸ ha)
        · exact (List.not_mem_nil hx).elim
      cases rs with
      | nx e' S' =>
        intro σ' m' ow' H' t l
        obtain ⟨g1, g2, k1, fs1, g3⟩ := t.sf a rfl
        unfold RS.resI at q
        simp only [g3] at q
        obtain ⟨c2, l2⟩ := back (List.mem_of_getElem? g2) t.cells
        obtain ⟨a', h1, h2, h3⟩ := t.slots 0 _ g3
        rw [g1] at h1
        cases h1
        exact q m' H' t.fut c2 (h3.le l2 fun o e _ => e)
      | er x e' S' =>
        intro c d σ' m' ow' H' t l rx
        obtain ⟨g1, g2, k1, fs1, g3⟩ := t.sf a rfl
        obtain ⟨c2, l2⟩ := back (List.mem_of_getElem? g2) t.cells
        exact q c d m' H' t.fut c2 (ExR.le l2 rx)
      | rt d S' => exact q.elim
      | bk e' S' => exact q.elim
      | ct e' S' => exact q.elim
      | no => exact q.elim
  · exact q.elim
theorem fo_in {x qual : Str} {st : Stmt} {fa : Addr} {N ps : List Str} {lv n k : Nat} {f : Sy} (F : ∃ fd, FunD K x qual (defArgs st) (defBody st) (defScope st) [] [] fa fd) (S : FnScope N ps (defScope st))
    (hb : ∀ (kV doc pm : Value) (an : Option Addr) (cdv ct : Value) (us : List Value), us.length = ps.length → bindArgs (PySem.W.fnOf x qual (defArgs st) (defBody st) (defScope st) .none kV doc pm an cdv ct) ⟨us, []⟩ = pure (ps.zip us)) (hn : ps.length = n) (hN : N.length = n + k) (hφ : ∀ b, BasePred.Φ b)
    (hbody : ∀ (cdv : Value) (A : Around) (outer : List Env) (s : Shared) (H : Hp) (E : XK), Room lv (A.deeper (envOfC qual (defScope st) s.heap.objs.size fa cdv)) →
      Ess K (cxOf (L2.CX P w) P w K mg base N qual (defScope st) fa cdv A outer s H E) (fun c d _ H => E c d H) (defBody st) f) : Fo P w K mg base fa (lv + 1) ps (spIn K (runI n k f)) :=
  fo_mk F S hb (fun vs H Q E h => by rw [spIn_len h, hn]) fun cdv A outer s H vs Q E hr hsp => bodyI_of hφ hN (hbody cdv A outer s H E hr) hsp
end
end Sh

/-! Sh9: objects made, their fields set, errors raised, stars, defaults, own lists and cells changed. -/
namespace Sh
open PySem PySem.Spec PyProof.Rows L2 Nk StX
variable [TabSet] [BasePred]

def Shi (K : PySem.W.Frag) (sp : Sp) (f : Cell → List D → Store → R Cell) : Prop := ∀ B m S c ds a us H Q E, ¬ zf B m [] a → Cells K (fun x => B x ∨ x = a) m [] H S → CRep (wo K (fun x => B x ∨ x = a) m [] H) a c → (∃ k fs, c = .ins k fs) → Reps (wo K (fun x => B x ∨ x = a) m [] H) ds us → PostN K B m a H E Q (f c ds S) → sp (.ref a :: us) H Q E
theorem shi_in {K : PySem.W.Frag} {f : Cell → List D → Store → R Cell} : Shi K (spIn K f) f := fun B m S c ds a us H Q E h1 h2 h3 h4 h5 h6 => ⟨B, m, S, c, ds, a, us, rfl, h1, h2, h3, h4, h5, h6⟩
/-- def f(a, .., *v): the written arguments -/
def starF (n : Nat) (f : List D → Store → R D) (ds : List D) (S : Store) : R D := if n ≤ ds.length ∧ ds.length ≤ sizeLine then f (ds.take n ++ [.tup (ds.drop n)]) S else .no
def starI (n : Nat) (f : Cell → List D → Store → R Cell) (c : Cell) (ds : List D) (S : Store) : R Cell := if n ≤ ds.length ∧ ds.length ≤ sizeLine then f c (ds.take n ++ [.tup (ds.drop n)]) S else .no
def dflF (dv : List D) (f : List D → Store → R D) (ds : List D) (S : Store) : R D := f (ds ++ dv) S
def dflI (dv : List D) (f : Cell → List D → Store → R Cell) (c : Cell) (ds : List D) (S : Store) : R Cell := f c (ds ++ dv) S
section
variable {K : PySem.W.Frag}
theorem Cells.grow {B : Addr → Prop} {m : List Addr} {ow : List (Option Addr)} {H H' : Hp} {S : Store} (c : Cells K B m ow H S) (s : Same H H') : Cells K B m ow H' S := c.same s
theorem shp_star {sp : Sp} {f : List D → Store → R D} (n : Nat) (h : Shp K sp f) : Shp K (starSp n sp) (starF n f) := by
  intro B m S ds vs H Q E c r q
  unfold starF at q
  split at q
  · rename_i hn
    have hl := reps_len r
    refine ⟨vs.take n, vs.drop n, (List.take_append_drop n vs).symm, by rw [List.length_take]; omega, by rw [List.length_drop]; omega, fun p hp => ?_⟩
    have s : Same H (upd H p (.tup (vs.drop n))) := same_mut (Same.refl _) hp
    refine h B m S _ _ _ Q E (c.same s) (reps_app (Reps.le (Fut.same s).le _ (reps_take n r)) (reps_cons (rep_tup c.full hp (by rw [List.length_drop]; omega) (reps_drop n r)) reps_nil)) (q.go (Fut.same s))
  · exact q.elim
theorem fut_off {m m' : List Addr} {a : Addr} {H H1 H' : Hp} (s : Same H H1) (f : Fut m (off a H1) m' H') : Fut m (off a H) m' H' := by
  obtain ⟨⟨r, e, hr⟩, k, d⟩ := f
  have g : ∀ x, Fr (off a H1) x → Fr (off a H) x := fun x h o e => by
    by_cases z : x = a
    · rw [z, off_self] at e; cases e
    · rw [off_ne z] at e
      exact h o (by rw [off_ne z]; exact s _ _ e)
  refine ⟨⟨r, e, fun x hx => g x (hr x hx)⟩, fun x o h n hm => k x o ?_ n hm, fun x h => g x (d x h)⟩
  by_cases z : x = a
  · rw [z, off_self] at h; cases h
  · rw [off_ne z] at h ⊢
    exact s _ _ h
theorem PostN.same {B : Addr → Prop} {m : List Addr} {a : Addr} {H H1 : Hp} {E : XK} {Q : VK} {r : R Cell} (h : PostN K B m a H E Q r) (s : Same H H1) : PostN K B m a H1 E Q r := by
  cases r with
  | ok y S => exact fun m' H' f => h m' H' (fut_off s f)
  | er x S => exact fun c d m' H' f => h c d m' H' (fut_off s f)
  | no => exact h
theorem shi_star {sp : Sp} {f : Cell → List D → Store → R Cell} (n : Nat) (h : Shi K sp f) : Shi K (starSp (n + 1) sp) (starI n f) := by
  intro B m S c ds a us H Q E hz cl cr hk r q
  unfold starI at q
  split at q
  · rename_i hn
    have hl := reps_len r
    refine ⟨.ref a :: us.take n, us.drop n, by rw [List.cons_append, List.take_append_drop], by rw [List.length_cons, List.length_take]; omega, by rw [List.length_drop]; omega, fun p hp => ?_⟩
    have s : Same H (upd H p (.tup (us.drop n))) := same_mut (Same.refl _) hp
    exact h B m S c _ a _ _ Q E hz (cl.same s) (cr.le (Fut.same s).le fun o e _ => s _ _ e) hk (reps_app (Reps.le (Fut.same s).le _ (reps_take n r)) (reps_cons (rep_tup cl.full hp (by rw [List.length_drop]; omega) (reps_drop n r)) reps_nil)) (q.same s)
  · exact q.elim
theorem shp_dfl {sp : Sp} {f : List D → Store → R D} {dv : List D} {vv : List V} (hd : ∀ w, Reps w dv vv) (h : Shp K sp f) : Shp K (fun vs H Q E => sp (vs ++ vv) H Q E) (dflF dv f) := fun B m S ds vs H Q E c r q => h B m S _ _ H Q E c (reps_app r (hd _)) q
theorem shi_dfl {sp : Sp} {f : Cell → List D → Store → R Cell} {dv : List D} {vv : List V} (hd : ∀ w, Reps w dv vv) (h : Shi K sp f) : Shi K (fun vs H Q E => sp (vs ++ vv) H Q E) (dflI dv f) := fun B m S c ds a us H Q E h1 h2 h3 h4 r q => h B m S c _ a _ H Q E h1 h2 h3 h4 (reps_app r (hd _)) q
/-- an object made: what the caller sees -/
theorem made_post {B : Addr → Prop} {ow : List (Option Addr)} {m : List Addr} {H : Hp} {S : Store} {W : Value → Option Addr → Hp → Prop} {Q : VK} {r : R Cell} {a dx : Addr} {C : Addr} (cl : Cells K B m ow H S) (ha : H a = none) (hd : H dx = none) (hne : dx ≠ a)
    (q : Post K B ow m H Rep W Q (r.bind fun c S => .ok c.tree S)) : PostN K (hidB B ow) m a (upd (upd H dx (.own a)) a (.ins C dx [])) (fun c d => W c d) (fun v H3 => v = .non ∧ Q (.ref a) H3) r := by
  have s : Same H (upd (upd H dx (.own a)) a (.ins C dx [])) := fun b o hb => by
    rw [upd_ne (ne_of_none hb ha), upd_ne (ne_of_none hb hd)]
    exact hb
  have fut : ∀ {m' : List Addr} {H' : Hp}, Fut m (off a (upd (upd H dx (.own a)) a (.ins C dx []))) m' H' → Fut m H m' H' := fun {m' H'} f => by
    have f2 := fut_off s f
    obtain ⟨⟨r, e, hr⟩, k, d⟩ := f2
    have g : ∀ x, Fr (off a H) x → Fr H x := fun x h o e => by
      by_cases z : x = a
      · rw [z, ha] at e; cases e
      · exact h o (by rw [off_ne z]; exact e)
    refine ⟨⟨r, e, fun x hx => g x (hr x hx)⟩, fun x o h n hm => k x o ?_ n hm, fun x h => g x (d x h)⟩
    rw [off_ne (ne_of_none h ha)]
    exact h
  have cells : ∀ {m' : List Addr} {H' : Hp} {S' : Store}, Cells K (fun x => hidB B ow x ∨ x = a) m' [] H' S' → Cells K B m' ow H' S' := fun c => cl.ofHid c.unhide
  have le : ∀ {m' : List Addr} {H' : Hp}, Le (wo K (fun x => hidB B ow x ∨ x = a) m' [] H') (wo K B m' ow H') := fun {m' H'} => by
    rw [← wo_hid (B := B) (ow := ow)]
    exact le_hid
  cases r with
  | no => exact q
  | er x S => exact fun c d m' H' f c' rx => q c d m' H' (fut f) (cells c') (ExR.le le rx)
  | ok c S =>
    intro m' H' f c' rc
    refine ⟨rfl, q _ m' H' (fut f) (cells c') (crep_tree (rc.le le fun o e _ => e) ?_)⟩
    rintro (z | z | z)
    · exact cl.hB a z (.none ha)
    · exact c'.nB a (.inl z) (.inr rfl)
    · exact cl.oh a z (.none ha)
end
def eMk (c : String) (f : Cell → List D → Store → R Cell) (g : Sx D) (a : Sx (List D)) (e : En) (S : Store) : R D := (g e S).bind fun x S1 => match x with
  | .cls c' => if c' = c then (a e S1).bind fun ds S2 => (f (.ins c []) ds S2).bind fun c' S3 => .ok c'.tree S3 else .no
  | _ => .no
section
variable {K : PySem.W.Frag} {X : Cx} {W : WX} {ex ex2 : Expr} {es : List Expr} {f g : Sx D} {a : Sx (List D)} {pos p p0 apos : Pos} {i lv j : Nat} {x m : Str} {ps : List Str} {sp : Sp} {F : Cell → List D → Store → R Cell} {cs : List String} {c : String} {fa : Addr}
theorem mk_rd {tf : TE} {ta : TA} (h2 : ∀ b m ow H σ e S Q, At K b m ow H σ e S → Post K b.B ow m H Rep (fun c d => W c d σ) Q (g e S) → tf σ H Q) (h1 : ∀ b m ow H σ e S Q, At K b m ow H σ e S → Post K b.B ow m H Reps (fun c d => W c d σ) Q (a e S) → ta σ H Q) (hs : Shi K sp F) :
    ∀ b m ow H σ e S Q, At K b m ow H σ e S → Post K b.B ow m H Rep (fun c d => W c d σ) Q (eMk c F g a e S) → tMkW (He.ga K c) sp W tf ta σ H Q := by
  refine fun b m ow H σ e S Q t q => h2 b m ow H σ e S _ t (Post.bind q fun d S1 v m1 H1 f1 c1 rx q => ?_)
  cases d <;> try exact q.elim
  rename_i c'
  dsimp only at q
  split at q
  · rename_i hi
    subst hi
    unfold Rep at rx
    subst rx
    refine ⟨rfl, h1 b m1 ow H1 σ e S1 _ (t.go f1 c1) (Post.bind q fun ds S2 vs m2 H2 f2 c2 ry q => fun x dx hx hd hne => ?_)⟩
    have s : Same H2 (upd (upd H2 dx (.own x)) x (.ins (He.ga K c') dx [])) := fun b o hb => by
      rw [upd_ne (ne_of_none hb hx), upd_ne (ne_of_none hb hd)]
      exact hb
    have hz : ¬ zf (hidB b.B ow) m2 [] x := by
      rw [zf_hid]
      exact fun z => c2.full x z (.none hx)
    have ch := c2.toHid.same s
    have le : Le (wo K (hidB b.B ow) m2 [] H2) (wo K (fun y => hidB b.B ow y ∨ y = x) m2 [] (upd (upd H2 dx (.own x)) x (.ins (He.ga K c') dx []))) := ⟨rfl, fun y o e _ z => by
      rintro ((h | h) | h | h)
      · exact z (.inl h)
      · have e : H2 y = some o := e
        rw [h, hx] at e; cases e
      · exact z (.inr (.inl h))
      · exact z (.inr (.inr h)), fun _ _ e => e, fun y o e _ _ => s _ _ e⟩
    refine hs (hidB b.B ow) m2 S2 (.ins c' []) ds x vs _ _ _ hz ⟨fun y hy z => ?_, ch.nd, fun y _ h => (List.not_mem_nil h).elim, fun y hy z => ?_, fun i j y h => by simp at h, fun y h => (List.not_mem_nil h).elim, ch.len, fun n y cc h1 h2 => ?_, ch.tb⟩ ⟨dx, [], upd_same, by unfold RepF; rfl⟩ ⟨_, _, rfl⟩ (Reps.le le ds (by rw [wo_hid]; exact ry)) (made_post c2 hx hd hne q)
    · rcases hy with hy | hy
      · exact ch.hB y hy z
      · exact (hy ▸ z : Fr _ x).no upd_same fun _ z => by cases z
    · rcases hy with hy | hy
      · rcases z with z | z
        · exact ch.nB y (.inl hy) z
        · rw [z] at hy; exact hz (.inr (.inl hy))
      · exact (List.not_mem_nil hy).elim
    · have := c2.toHid.cs n y cc h1 h2
      exact this.le le fun o e _ => s _ _ e
  · exact q.elim
theorem x_mk (hK : X.K = K) (hf : Ev K X W (.Name x p) g) (M : Mk K (He.ga K c) fa) (hF : Fs X.prog X.w K X.mg X.base fa lv sp) (hs : Shi K sp F) (hr : Room j X.A) (hk : lv + 1 ≤ j) (tk : Takes X W) (ha : Ea K X W (ex :: es) a)
    (he : starEach (ex :: es) X.env = (false, eval ex X.env) :: starEach es X.env := by rfl) (hpl : (backTo pos (starEach es X.env)).any (·.1) = false := by rfl) : Ev K X W (.Call (.Name x p) (ex :: es) [] pos) (eMk c F g a) := by
  subst hK
  obtain ⟨tb, p2, h2⟩ := hf.run
  obtain ⟨ta, p1, h1⟩ := ha.run
  exact ⟨_, pe_clsW p2 M hF hr hk tk p1 he hpl, mk_rd h2 h1 hs⟩
theorem x_mk0 (hK : X.K = K) (hf : Ev K X W (.Name x p) g) (M : Mk K (He.ga K c) fa) (hF : Fs X.prog X.w K X.mg X.base fa lv sp) (hs : Shi K sp F) (hr : Room j X.A) (hk : lv + 1 ≤ j) (tk : Takes X W) : Ev K X W (.Call (.Name x p) [] [] pos) (eMk c F g aNil) := by
  subst hK
  obtain ⟨tb, p2, h2⟩ := hf.run
  exact ⟨_, pe_clsW0 p2 M hF hr hk tk, mk_rd h2 (fun b m ow H σ e S Q t q => q [] m H (Fut.refl _ _) t.cells reps_nil) hs⟩
theorem star_rd {te : TE} {t : TA} (h1 : ∀ b m ow H σ e S Q, At K b m ow H σ e S → Post K b.B ow m H Rep (fun c d => W c d σ) Q (g e S) → te σ H Q) (h2 : ∀ b m ow H σ e S Q, At K b m ow H σ e S → Post K b.B ow m H Reps (fun c d => W c d σ) Q (a e S) → t σ H Q) :
    ∀ b m ow H σ e S Q, At K b m ow H σ e S → Post K b.B ow m H Reps (fun c d => W c d σ) Q (aStar g a e S) → StX.tStar K te t σ H Q := by
  refine fun b m ow H σ e S Q t q => h1 b m ow H σ e S _ t (Post.bind q fun d S1 v m1 H1 f1 c1 rx q => ?_)
  cases d <;> try exact q.elim
  · unfold Rep at rx
    obtain ⟨p, xs, rfl, tr, r⟩ := rx
    exact ⟨p, xs, rfl, .inl tr.sq, h2 b m1 ow H1 σ e S1 _ (t.go f1 c1) (Post.bind q fun ys S2 us m2 H2 f2 c2 ry q => q _ m2 H2 (Fut.refl _ _) c2 (reps_app (Reps.le f2.le _ r) ry))⟩
  · unfold Rep at rx
    obtain ⟨p, xs, rfl, tr, r⟩ := rx
    exact ⟨p, xs, rfl, .inr tr.sq, h2 b m1 ow H1 σ e S1 _ (t.go f1 c1) (Post.bind q fun ys S2 us m2 H2 f2 c2 ry q => q _ m2 H2 (Fut.refl _ _) c2 (reps_app (Reps.le f2.le _ r) ry))⟩
theorem a_star (hK : X.K = K) (hf : Ev K X W ex g) (ha : Ea K X W es a) : Ea K X W (.Starred ex p0 :: es) (aStar g a) := by
  subst hK
  obtain ⟨te, p1, h1⟩ := hf.run
  obtain ⟨ta, p2, h2⟩ := ha.run
  exact ⟨_, StX.pa_star p1 p2, star_rd h1 h2⟩
theorem x_mkS (hK : X.K = K) (hf : Ev K X W (.Name x p) g) (M : Mk K (He.ga K c) fa) (hF : Fs X.prog X.w K X.mg X.base fa lv sp) (hs : Shi K sp F) (hr : Room j X.A) (hk : lv + 1 ≤ j) (tk : Takes X W) (ha : Ev K X W ex f)
    (hst : starEach [.Starred ex p0] X.env = [(true, eval ex X.env)] := by rfl) : Ev K X W (.Call (.Name x p) [.Starred ex p0] [] pos) (eMk c F g (aStar f aNil)) := by
  subst hK
  obtain ⟨tb, p2, h2⟩ := hf.run
  obtain ⟨ta, p1, h1⟩ := ha.run
  exact ⟨_, pe_clsWS p2 M hF hr hk tk p1 hst, mk_rd h2 (star_rd h1 fun b m ow H σ e S Q t q => q [] m H (Fut.refl _ _) t.cells reps_nil) hs⟩
theorem x_mkS2 {e2 : Expr} (hK : X.K = K) (hf : Ev K X W (.Name x p) g) (M : Mk K (He.ga K c) fa) (hF : Fs X.prog X.w K X.mg X.base fa lv sp) (hs : Shi K sp F) (hr : Room j X.A) (hk : lv + 1 ≤ j) (tk : Takes X W) (ha : Ea K X W (ex :: e2 :: es) a)
    (hst : ((backTo pos (starEach (ex :: e2 :: es) X.env)).any (·.1) = true) := by rfl) (hne : ∃ a b r, backTo pos (starEach (ex :: e2 :: es) X.env) = a :: b :: r := by exact ⟨_, _, _, rfl⟩) : Ev K X W (.Call (.Name x p) (ex :: e2 :: es) [] pos) (eMk c F g a) := by
  subst hK
  obtain ⟨tb, p2, h2⟩ := hf.run
  obtain ⟨ta, p1, h1⟩ := ha.run
  exact ⟨_, pe_clsWS2 p2 M hF hr hk tk p1 hst hne, mk_rd h2 h1 hs⟩
end
/-! ### self.f = e in an __init__; fields of what it makes -/
def putD (f : Str) (d : D) : List (Str × D) → List (Str × D)
  | [] => [(f, d)]
  | (g, x) :: r => if f = g then (g, d) :: r else (g, x) :: putD f d r
def sFdO (c : String) (fd : Str) (f : Sx D) (e : En) (S : Store) : RS := (f e S).run e fun d S1 => match (e[0]? : Option Sl) with
  | some (Sl.own (.ins c' fs)) => if c' = c ∧ fs.length < 999 then .nx (e.set 0 (.own (.ins c' (putD fd d fs)))) S1 else .no
  | _ => .no
def eFdO (c : String) (fd : Str) (e : En) (S : Store) : R D := match (e[0]? : Option Sl) with
  | some (Sl.own (.ins c' fs)) => if c' = c then R.of S (fs.lookup fd) else .no
  | _ => .no
end Sh

/-! Sh10: fields set, errors raised, lists changed, built-ins, subscripts, slices. -/
namespace Sh
open PySem PySem.Spec PyProof.Rows L2 Nk StX
variable [TabSet] [BasePred]

theorem repF_put {w : Wo} {f : Str} {d : D} {v : V} (r : Rep w d v) : ∀ {fs : List (Str × D)} {gs : List (Str × V)}, RepF w fs gs → RepF w (putD f d fs) (putF f v gs)
  | [], _, h => by unfold RepF at h; rw [h]; unfold putD putF RepF; exact ⟨v, [], rfl, r, by unfold RepF; rfl⟩
  | (g, x) :: fs, _, h => by
    unfold RepF at h
    obtain ⟨u, k, rfl, a, h⟩ := h
    unfold putD putF
    by_cases e : f = g
    · rw [if_pos e, if_pos e.symm]
      unfold RepF
      exact ⟨v, k, rfl, r, h⟩
    · rw [if_neg e, if_neg (fun z => e z.symm)]
      unfold RepF
      exact ⟨u, _, rfl, a, repF_put r h⟩
theorem putF_len {f : Str} {v : V} : ∀ gs : List (Str × V), (putF f v gs).length ≤ gs.length + 1
  | [] => Nat.le_refl _
  | (g, x) :: r => by
    unfold putF
    split
    · simp
    · simp only [List.length_cons]
      have := putF_len (f := f) (v := v) r
      omega
section
variable {K : PySem.W.Frag} {X : Cx} {W : WX} {ex ex2 value : Expr} {es : List Expr} {f g : Sx D} {a : Sx (List D)} {pos p p0 apos pos' : Pos} {i lv j : Nat} {x m fd : Str} {ps : List Str} {sp : Sp} {cs : List String} {c : String} {fa : Addr}
theorem s_fdO (hK : X.K = K) (hN : X.N[0]? = some x) (hv : Vis X.env.scope x) (hc : Cls K (He.ga K c)) (hn : NoAttr K (He.ga K c) fd) (hf : Ev K X W value f) (hs : swapsWith value (some (.Attribute (.Name x p) fd pos')) pos.line X.env = pure false := by rfl)
    (hd : (x == ("__debug__" : Str)) = false := by decide) (hcd : (x == ("__classdict__" : Str)) = false := by decide) : Es K X W (.Assign [.Attribute (.Name x p) fd pos'] value pos) (sFdO c fd f) := by
  subst hK
  obtain ⟨te, p1, h1⟩ := hf.run
  refine ⟨_, ps_fld (pe_var hN hv hd hcd) p1 hs, fun b m ow H σ e S D t z => h1 b m ow H σ e S _ t (PostS.run t z fun d S1 v m1 H1 t1 f1 r y => ?_)⟩
  split at y
  · rename_i c' fs q
    split at y
    · rename_i hi
      obtain ⟨rfl, hl⟩ := hi
      obtain ⟨a, h2, h3, dx, gs, hH, rf⟩ := t1.slots 0 _ q
      have hH : H1 a = some (.ins (He.ga X.K c') dx gs) := hH
      have hgl := repF_len rf
      refine ⟨.ref a, h2, a, _, dx, gs, rfl, hH, hc, hn, by omega, ?_⟩
      have keep : ∀ x o, x ≠ a → H1 x = some o → upd H1 a (.ins (He.ga X.K c') dx (putF fd v gs)) x = some o := fun x o n h => by rw [upd_ne n]; exact h
      have dom : ∀ x, Fr (upd H1 a (.ins (He.ga X.K c') dx (putF fd v gs))) x → Fr H1 x := fun x h => h.upd fun _ z => by cases z
      have le : Le (wo X.K b.B m1 ow H1) (wo X.K b.B m1 ow (upd H1 a (.ins (He.ga X.K c') dx (putF fd v gs)))) := ⟨rfl, fun _ _ _ _ h => h, fun _ _ h => h, fun x o h _ z => keep x o (fun q => z (by rw [q]; exact .inr (.inr (List.mem_of_getElem? h3)))) h⟩
      obtain ⟨t2, l2⟩ := t1.own_upd (c' := .ins c' (putD fd d fs)) h3 q h2 keep dom ⟨dx, _, upd_same, repF_put (Rep.le le d r) (RepF.le le fs rf)⟩ fun _ _ _ => ⟨_, _, rfl⟩
      exact y _ m1 _ _ t2 l2
    · exact y.elim
  · exact y.elim
theorem x_fdO (hK : X.K = K) (hN : X.N[0]? = some x) (hv : Vis X.env.scope x) (hc : Cls K (He.ga K c)) (hn : NoAttr K (He.ga K c) fd) (hb : attributeBase (.Name x p) fd X.env (eval (.Name x p) X.env) = eval (.Name x p) X.env := by rfl)
    (hd : (x == ("__debug__" : Str)) = false := by decide) (hcd : (x == ("__classdict__" : Str)) = false := by decide) : Ev K X W (.Attribute (.Name x p) fd pos) (eFdO c fd) := by
  subst hK
  refine ⟨_, pe_fld (pe_var hN hv hd hcd) hb, fun b m ow H σ e S Q t q => ?_⟩
  unfold eFdO at q
  split at q
  · rename_i c' fs q0
    split at q
    · rename_i hi
      subst hi
      obtain ⟨a, h2, h3, dx, gs, hH, rf⟩ := t.slots 0 _ q0
      cases l : fs.lookup fd with
      | none => rw [l] at q; exact q.elim
      | some d =>
        rw [l] at q
        obtain ⟨u, h4, h5⟩ := repF_get rf l
        exact ⟨.ref a, h2, a, _, dx, gs, u, rfl, hH, hc, hn, h4, q.val t.cells h5⟩
    · exact q.elim
  · exact q.elim
/-- o.f = e, o an instance in a cell -/
def sFdC (cs : List String) (fd : Str) (g f : Sx D) (e : En) (S : Store) : RS := (f e S).run e fun d S1 => (g e S1).run e fun o S2 => match o with
  | .ref n => match S2[n]? with
    | some (.ins c fs) => if c ∈ cs ∧ fs.length < 999 then .nx e (S2.set n (.ins c (putD fd d fs))) else .no
    | _ => .no
  | _ => .no
theorem cell_put {b : Bs} {m : List Addr} {ow : List (Option Addr)} {H H' : Hp} {σ : L2.St} {e : En} {S : Store} {n : Nat} {a : Addr} {c' : Cell} (t : At K b m ow H σ e S) (hm : m[n]? = some a) (keep : ∀ x o, x ≠ a → H x = some o → H' x = some o) (dom : ∀ x, Fr H' x → Fr H x) (r : CRep (wo K b.B m ow H') a c') :
    At K b m ow H' σ e (S.set n c') ∧ Fut m H m H' := by
  obtain ⟨c, f⟩ := t.cells.put hm keep dom r
  exact ⟨t.go f c, f⟩
theorem upd_keep {H : Hp} {a : Addr} {o : HO} : ∀ x u, x ≠ a → H x = some u → L2.upd H a o x = some u := fun x u n h => by rw [upd_ne n]; exact h
theorem le_put {B : Addr → Prop} {m : List Addr} {ow : List (Option Addr)} {H : Hp} {a : Addr} {o : HO} (h : zf B m ow a) : Le (wo K B m ow H) (wo K B m ow (L2.upd H a o)) := ⟨rfl, fun _ _ _ _ h => h, fun _ _ h => h, fun x u e _ z => upd_keep x u (fun q => z (q ▸ h)) e⟩
theorem s_fdC (hK : X.K = K) (hc : FldOk K fd cs) (ho : Ev K X W ex g) (hf : Ev K X W value f) (hs : swapsWith value (some (.Attribute ex fd pos')) pos.line X.env = pure false := by rfl) : Es K X W (.Assign [.Attribute ex fd pos'] value pos) (sFdC cs fd g f) := by
  subst hK
  obtain ⟨te, p1, h1⟩ := hf.run
  obtain ⟨to, p2, h2⟩ := ho.run
  refine ⟨_, ps_fld p2 p1 hs, fun b m ow H σ e S D t z => h1 b m ow H σ e S _ t (PostS.run t z fun d S1 v m1 H1 t1 f1 r z => h2 b m1 ow H1 σ e S1 _ t1 (PostS.run t1 z fun o S2 u m2 H2 t2 f2 ro z => ?_))⟩
  cases o <;> try exact z.elim
  rename_i n
  unfold Rep at ro
  obtain ⟨a, rfl, hm⟩ := ro
  dsimp only at z
  cases q : S2[n]? with
  | none => rw [q] at z; exact z.elim
  | some cc =>
    rw [q] at z
    cases cc <;> try exact z.elim
    rename_i c fs
    dsimp only at z
    split at z
    · rename_i hi
      obtain ⟨dx, gs, hH, rf⟩ := cell_ins t2.cells hm q
      have hgl := repF_len rf
      refine ⟨a, _, dx, gs, rfl, hH, (hc c hi.1).1, (hc c hi.1).2, by omega, ?_⟩
      have am : zf b.B m2 ow a := .inr (.inl (List.mem_of_getElem? hm))
      obtain ⟨t3, f3⟩ := cell_put (c' := .ins c (putD fd d fs)) t2 hm (upd_keep (o := .ins (He.ga X.K c) dx (putF fd v gs))) (fun x h => h.upd fun _ z => by cases z) ⟨dx, _, upd_same, repF_put (Rep.le (le_put am) d (Rep.le f2.le d r)) (RepF.le (le_put am) fs rf)⟩
      exact z _ m2 _ _ t3 f3.le
    · exact z.elim
/-- o.f op= e for whole numbers -/
def sFdA (cs : List String) (fd : Str) (k : Int → Int → Int) (g f : Sx D) (e : En) (S : Store) : RS := (g e S).run e fun o S1 => match o with
  | .ref n => match S1[n]? with
    | some (.ins c fs) => if c ∈ cs then (match fs.lookup fd with
      | some (.int i) => (f e S1).run e fun d S2 => match d, S2[n]? with
        | .int l, some (.ins c2 fs2) => if c2 = c ∧ fs2.length < 999 then .nx e (S2.set n (.ins c (putD fd (.int (k i l)) fs2))) else .no
        | _, _ => .no
      | _ => .no) else .no
    | _ => .no
  | _ => .no
theorem s_fdA {op : Operator} {k : Int → Int → Int} (hop : InOp X op fun x y H Q => ∃ i j, x = .int i ∧ y = .int j ∧ Q (.int (k i j)) H) (hK : X.K = K) (hc : FldOk K fd cs) (ho : Ev K X W ex g) (hf : Ev K X W value f) : Es K X W (.AugAssign (.Attribute ex fd pos') op value pos) (sFdA cs fd k g f) := by
  subst hK
  obtain ⟨te, p1, h1⟩ := hf.run
  obtain ⟨to, p2, h2⟩ := ho.run
  refine ⟨_, ps_fldaug p2 p1 hop, fun b m ow H σ e S D t z => h2 b m ow H σ e S _ t (PostS.run t z fun o S1 u m1 H1 t1 f1 ro z => ?_)⟩
  cases o <;> try exact z.elim
  rename_i n
  unfold Rep at ro
  obtain ⟨a, rfl, hm⟩ := ro
  dsimp only at z
  cases q : S1[n]? with
  | none => rw [q] at z; exact z.elim
  | some cc =>
    rw [q] at z
    cases cc <;> try exact z.elim
    rename_i c fs
    dsimp only at z
    split at z
    · rename_i hi
      obtain ⟨dx, gs, hH, rf⟩ := cell_ins t1.cells hm q
      cases l : fs.lookup fd with
      | none => rw [l] at z; exact z.elim
      | some d0 =>
        rw [l] at z
        cases d0 <;> try exact z.elim
        rename_i i0
        dsimp only at z
        obtain ⟨v0, hl, rv⟩ := repF_get rf l
        unfold Rep at rv
        subst rv
        refine ⟨a, _, dx, gs, _, rfl, hH, (hc c hi).1, (hc c hi).2, hl, h1 b m1 ow H1 σ e S1 _ t1 (PostS.run t1 z fun d S2 v m2 H2 t2 f2 r z => ?_)⟩
        cases d <;> try exact z.elim
        rename_i l0
        unfold Rep at r
        subst r
        cases q2 : S2[n]? with
        | none => rw [q2] at z; exact z.elim
        | some cc =>
          rw [q2] at z
          cases cc <;> try exact z.elim
          rename_i c2 fs2
          dsimp only at z
          split at z
          · rename_i hi2
            obtain ⟨rfl, hl2⟩ := hi2
            have hm2 : m2[n]? = some a := f2.le (K := X.K) (B := b.B) (ow := ow) |>.m n a hm
            obtain ⟨dx2, gs2, hH2, rf2⟩ := cell_ins t2.cells hm2 q2
            have hgl := repF_len rf2
            refine ⟨_, _, rfl, rfl, dx2, gs2, hH2, by omega, ?_⟩
            have am : zf b.B m2 ow a := .inr (.inl (List.mem_of_getElem? hm2))
            obtain ⟨t3, f3⟩ := cell_put (c' := .ins c2 (putD fd (.int (k i0 l0)) fs2)) t2 hm2 (upd_keep (o := .ins (He.ga X.K c2) dx2 (putF fd (.int (k i0 l0)) gs2))) (fun x h => h.upd fun _ z => by cases z) ⟨dx2, _, upd_same, repF_put rep_int (RepF.le (le_put am) fs2 rf2)⟩
            exact z _ m2 _ _ t3 f3.le
          · exact z.elim
    · exact z.elim
/-! ### errors -/
/-- raise C(e, ..) -/
def sRs (c : String) (fs : List Str) (a : Sx (List D)) (e : En) (S : Store) : RS := (a e S).run e fun ds S1 => if ds.length = fs.length then .er ⟨c, (fs.zip ds).reverse⟩ e S1 else .no
theorem mkO1 {C : Addr} {fld : Str} {v : V} {H : Hp} {Q : XK} (h : ∀ d H', Same H H' → H d = none → H' d = some (.xd [(fld, v)]) → Q (.ref C) (some d) H') : [v].length ≤ 1000 ∧ ∀ a, H a = none → spExc1 C fld (.ref a :: ([v] ++ [])) (L2.upd H a (exo a C none))
    (fun u H2 => u = .non ∧ ∃ (d : Addr) (fs : List (Str × V)), H2 a = some (exo a C (some d)) ∧ H2 d = some (exd d fs) ∧ H d = none ∧ Q (.ref C) (some d) (L2.upd (del H2 a) d (.xd fs))) (fun _ _ _ => False) := by
  refine ⟨by simp, fun a ha => ⟨a, v, rfl, upd_same, fun dx hd hne => ⟨rfl, dx, [(fld, v)], upd_same, by rw [upd_ne hne, upd_same], ?_, ?_⟩⟩⟩
  · rw [upd_ne hne] at hd
    exact hd
  · have hd' : H dx = none := by rw [upd_ne hne] at hd; exact hd
    refine h dx _ (fun b o hb => ?_) hd' upd_same
    have h1 : b ≠ dx := ne_of_none hb hd'
    have h2 : b ≠ a := ne_of_none hb ha
    rw [upd_ne h1, del_ne h2, upd_ne h2, upd_ne h1, upd_ne h2]
    exact hb
theorem mkO2 {C : Addr} {f g : Str} {v u : V} {H : Hp} {Q : XK} (h : ∀ d H', Same H H' → H d = none → H' d = some (.xd [(g, u), (f, v)]) → Q (.ref C) (some d) H') : [v, u].length ≤ 1000 ∧ ∀ a, H a = none → spExc2 C f g (.ref a :: ([v, u] ++ [])) (L2.upd H a (exo a C none))
    (fun z H2 => z = .non ∧ ∃ (d : Addr) (fs : List (Str × V)), H2 a = some (exo a C (some d)) ∧ H2 d = some (exd d fs) ∧ H d = none ∧ Q (.ref C) (some d) (L2.upd (del H2 a) d (.xd fs))) (fun _ _ _ => False) := by
  refine ⟨by simp, fun a ha => ⟨a, v, u, rfl, upd_same, fun dx hd hne => ⟨rfl, dx, [(g, u), (f, v)], by rw [upd_ne (Ne.symm hne), upd_same], upd_same, ?_, ?_⟩⟩⟩
  · rw [upd_ne hne] at hd
    exact hd
  · have hd' : H dx = none := by rw [upd_ne hne] at hd; exact hd
    refine h dx _ (fun b o hb => ?_) hd' upd_same
    have h1 : b ≠ dx := ne_of_none hb hd'
    have h2 : b ≠ a := ne_of_none hb ha
    rw [upd_ne h1, del_ne h2, upd_ne h1, upd_ne h2, upd_ne h1, upd_ne h2]
    exact hb
theorem exr_new {B : Addr → Prop} {m : List Addr} {ow : List (Option Addr)} {H H' : Hp} {S : Store} {c : String} {fs : List (Str × D)} {gs : List (Str × V)} {d : Addr} (cl : Cells K B m ow H S) (s : Same H H') (hd : H d = none) (h : H' d = some (.xd gs)) (r : RepF (wo K B m ow H) fs gs) : ExR (wo K B m ow H') ⟨c, fs⟩ (.ref (He.ga K c)) (some d) :=
  ⟨rfl, d, gs, rfl, fun z => cl.full d z (.none hd), h, RepF.le (Fut.same s).le fs r⟩
theorem s_rs1 {g1 : Str} {fI : Addr} (hK : X.K = K) (hc : X.calm = true) (tk : Takes X W) (T : OexC K (He.ga K c)) (iC : PySem.W.findIn K (.ref (He.ga K c)) "__init__" = some (some (.ref fI))) (tI : PySem.W.typeIn K (.ref fI) = some (.type "function")) (hF : Fo X.prog X.w K X.mg X.base fI lv ps (spExc1 (He.ga K c) g1)) (hr : Room j X.A) (hk : lv + 1 ≤ j) (hg : Gl X x) (hm : X.mg x = some (.ref (He.ga K c))) (ha : Ea K X W (ex :: es) a)
    (hdb : (x == ("__debug__" : Str)) = false := by decide) (he : starEach (ex :: es) X.env = (false, eval ex X.env) :: starEach es X.env := by rfl) (hpl : (backTo pos (starEach es X.env)).any (·.1) = false := by rfl) : Es K X W (.Raise (some (.Call (.Name x p) (ex :: es) [] pos)) none pos') (sRs c [g1] a) := by
  subst hK
  obtain ⟨ta, p1, h1⟩ := ha.run
  refine ⟨_, ps_raise hc tk (pmk_ex T iC tI hF hr hk hg hm p1 hdb he hpl), fun b m ow H σ e S D t z => h1 b m ow H σ e S _ t (PostS.run t z fun ds S1 vs m1 H1 t1 f1 r z => ?_)⟩
  split at z
  · rename_i hl
    match ds, hl with
    | [d], _ =>
      unfold Reps at r
      obtain ⟨v, us, rfl, rv, r⟩ := r
      unfold Reps at r
      subst r
      refine mkO1 (Q := fun c d H' => W c d σ H') fun dd H' s hd e => z _ _ _ _ _ _ (t1.same s) (Fut.same s).le (exr_new t1.cells s hd e ?_)
      show RepF _ [(g1, d)] _
      unfold RepF RepF
      exact ⟨v, [], rfl, rv, rfl⟩
  · exact z.elim
theorem s_rs2 {g1 g2 : Str} {fI : Addr} (hK : X.K = K) (hc : X.calm = true) (tk : Takes X W) (T : OexC K (He.ga K c)) (iC : PySem.W.findIn K (.ref (He.ga K c)) "__init__" = some (some (.ref fI))) (tI : PySem.W.typeIn K (.ref fI) = some (.type "function")) (hF : Fo X.prog X.w K X.mg X.base fI lv ps (spExc2 (He.ga K c) g1 g2)) (hr : Room j X.A) (hk : lv + 1 ≤ j) (hg : Gl X x) (hm : X.mg x = some (.ref (He.ga K c))) (ha : Ea K X W (ex :: es) a)
    (hdb : (x == ("__debug__" : Str)) = false := by decide) (he : starEach (ex :: es) X.env = (false, eval ex X.env) :: starEach es X.env := by rfl) (hpl : (backTo pos (starEach es X.env)).any (·.1) = false := by rfl) : Es K X W (.Raise (some (.Call (.Name x p) (ex :: es) [] pos)) none pos') (sRs c [g1, g2] a) := by
  subst hK
  obtain ⟨ta, p1, h1⟩ := ha.run
  refine ⟨_, ps_raise hc tk (pmk_ex T iC tI hF hr hk hg hm p1 hdb he hpl), fun b m ow H σ e S D t z => h1 b m ow H σ e S _ t (PostS.run t z fun ds S1 vs m1 H1 t1 f1 r z => ?_)⟩
  split at z
  · rename_i hl
    match ds, hl with
    | [d, d2], _ =>
      unfold Reps at r
      obtain ⟨v, us, rfl, rv, r⟩ := r
      unfold Reps at r
      obtain ⟨v2, us, rfl, rv2, r⟩ := r
      unfold Reps at r
      subst r
      refine mkO2 (Q := fun c d H' => W c d σ H') fun dd H' s hd e => z _ _ _ _ _ _ (t1.same s) (Fut.same s).le (exr_new t1.cells s hd e ?_)
      show RepF _ [(g2, d2), (g1, d)] _
      unfold RepF RepF RepF
      exact ⟨v2, _, rfl, rv2, v, [], rfl, rv, rfl⟩
  · exact z.elim
end
end Sh

/-! Sh11: built-ins called, f-strings, subscripts, slices, lists and cells changed, isinstance, methods of texts. -/
namespace Sh
open PySem PySem.Spec PyProof.Rows L2 Nk StX
variable [TabSet] [BasePred]
section
variable {K : PySem.W.Frag} {X : Cx}
/-! ### built-ins -/
def dLen : List D → Option D
  | [.str x] => some (.int x.length)
  | [.lst xs] => some (.int xs.length)
  | [.tup xs] => some (.int xs.length)
  | _ => none
theorem reps1 {w : Wo} {ds : List D} {vs : List V} {d : D} (r : Reps w ds vs) (e : ds = [d]) : ∃ v, vs = [v] ∧ Rep w d v := by
  subst e
  unfold Reps at r
  obtain ⟨v, us, rfl, a, r⟩ := r
  unfold Reps at r
  subst r
  exact ⟨v, rfl, a⟩
theorem reps2 {w : Wo} {ds : List D} {vs : List V} {d d2 : D} (r : Reps w ds vs) (e : ds = [d, d2]) : ∃ v u, vs = [v, u] ∧ Rep w d v ∧ Rep w d2 u := by
  subst e
  unfold Reps at r
  obtain ⟨v, us, rfl, a, r⟩ := r
  obtain ⟨u, rfl, b⟩ := reps1 r rfl
  exact ⟨v, u, rfl, a, b⟩
theorem rep_tree {w : Wo} {ds : List D} {v : V} (h : Rep w (.tup ds) v) : ∃ a vs, v = .ref a ∧ TrT w a vs ∧ Reps w ds vs := by unfold Rep at h; exact h
theorem rep_list {w : Wo} {ds : List D} {v : V} (h : Rep w (.lst ds) v) : ∃ a vs, v = .ref a ∧ TrL w a vs ∧ Reps w ds vs := by unfold Rep at h; exact h
theorem rep_strD {w : Wo} {x : Str} {v : V} (h : Rep w (.str x) v) : v = .str x ∧ x.length ≤ sizeLine := by unfold Rep at h; exact h
theorem rep_intD {w : Wo} {x : Int} {v : V} (h : Rep w (.int x) v) : v = .int x := by unfold Rep at h; exact h
theorem rep_blD {w : Wo} {x : Bool} {v : V} (h : Rep w (.bl x) v) : v = .bl x := by unfold Rep at h; exact h
theorem calls_len (hK : X.K = K) : CallS K X (.builtin "len") dLen := by
  subst hK
  refine ⟨_, call_len, fun w hw hf xs ds Q r q => ?_⟩
  unfold dLen at q
  split at q
  · obtain ⟨v, rfl, r1⟩ := reps1 r rfl
    obtain ⟨rfl, hl⟩ := rep_strD r1
    exact ⟨_, _, rfl, ⟨hl, rfl⟩, q.here rep_int⟩
  · obtain ⟨v, rfl, r1⟩ := reps1 r rfl
    obtain ⟨a, vs, rfl, t, r2⟩ := rep_list r1
    rw [← reps_len r2] at q
    exact ⟨_, _, rfl, .inl ⟨vs, hw ▸ t.sq, rfl⟩, q.here rep_int⟩
  · obtain ⟨v, rfl, r1⟩ := reps1 r rfl
    obtain ⟨a, vs, rfl, t, r2⟩ := rep_tree r1
    rw [← reps_len r2] at q
    exact ⟨_, _, rfl, .inr ⟨vs, hw ▸ t.sq, rfl⟩, q.here rep_int⟩
  · exact (q : False).elim
def dInt : List D → Option D
  | [.int i] => some (.int i)
  | [.bl b] => some (.int (if b then 1 else 0))
  | _ => none
theorem calls_int : CallS K X (.type "int") dInt := by
  refine ⟨_, call_int1, fun w hw hf xs ds Q r q => ?_⟩
  unfold dInt at q
  split at q
  · obtain ⟨v, rfl, r1⟩ := reps1 r rfl
    cases rep_intD r1
    exact .inl ⟨_, rfl, q.here rep_int⟩
  · obtain ⟨v, rfl, r1⟩ := reps1 r rfl
    cases rep_blD r1
    exact .inr ⟨_, rfl, q.here rep_int⟩
  · exact (q : False).elim
def dIntS : List D → Option D
  | [.str a] => if a.length ≤ 640 then (PySem.intText? a).map .int else none
  | _ => none
theorem calls_intS : CallS K X (.type "int") dIntS := by
  refine ⟨_, call_int_str, fun w hw hf xs ds Q r q => ?_⟩
  unfold dIntS at q
  split at q
  · obtain ⟨v, rfl, r1⟩ := reps1 r rfl
    obtain ⟨rfl, hl⟩ := rep_strD r1
    split at q
    · rename_i h6
      rename_i a
      cases e : PySem.intText? a with
      | none => rw [e] at q; exact (q : False).elim
      | some n => rw [e] at q; exact ⟨_, n, rfl, e, h6, q.here rep_int⟩
    · exact (q : False).elim
  · exact (q : False).elim
def dAbs : List D → Option D
  | [.int i] => some (.int (if i < 0 then -i else i))
  | _ => none
theorem calls_abs : CallS K X (.builtin "abs") dAbs := by
  refine ⟨_, call_abs, fun w hw hf xs ds Q r q => ?_⟩
  unfold dAbs at q
  split at q
  · obtain ⟨v, rfl, r1⟩ := reps1 r rfl
    cases rep_intD r1
    exact ⟨_, rfl, q.here rep_int⟩
  · exact (q : False).elim
def dList : List D → Option D
  | [.lst xs] => some (.lst xs)
  | [.tup xs] => some (.lst xs)
  | _ => none
theorem calls_list (hK : X.K = K) : CallS K X (.type "list") dList := by
  subst hK
  refine ⟨_, call_list_of, fun w hw hf xs ds Q r q => ?_⟩
  unfold dList at q
  split at q
  · obtain ⟨v, rfl, r1⟩ := reps1 r rfl
    obtain ⟨a, vs, rfl, t, r2⟩ := rep_list r1
    exact ⟨a, vs, rfl, .inl (hw ▸ t.sq), fun l hl => q _ _ (same_mut (Same.refl _) hl) (rep_lst hf hl t.2.2 r2)⟩
  · obtain ⟨v, rfl, r1⟩ := reps1 r rfl
    obtain ⟨a, vs, rfl, t, r2⟩ := rep_tree r1
    exact ⟨a, vs, rfl, .inr (hw ▸ t.sq), fun l hl => q _ _ (same_mut (Same.refl _) hl) (rep_lst hf hl t.2 r2)⟩
  · exact (q : False).elim
def dTuple : List D → Option D
  | [.lst xs] => some (.tup xs)
  | [.tup xs] => some (.tup xs)
  | _ => none
theorem calls_tuple (hK : X.K = K) : CallS K X (.type "tuple") dTuple := by
  subst hK
  refine ⟨_, call_tuple_of, fun w hw hf xs ds Q r q => ?_⟩
  unfold dTuple at q
  split at q
  · obtain ⟨v, rfl, r1⟩ := reps1 r rfl
    obtain ⟨a, vs, rfl, t, r2⟩ := rep_list r1
    exact ⟨a, vs, rfl, .inl ⟨hw ▸ t.sq, fun l hl => q _ _ (same_mut (Same.refl _) hl) (rep_tup hf hl t.2.2 r2)⟩⟩
  · obtain ⟨v, rfl, r1⟩ := reps1 r rfl
    have r0 := r1
    obtain ⟨a, vs, rfl, t, r2⟩ := rep_tree r1
    exact ⟨a, vs, rfl, .inr ⟨hw ▸ t.sq, q.here r0⟩⟩
  · exact (q : False).elim
/-- a list of bools -/
def D.bs : List D → Option (List Bool)
  | [] => some []
  | d :: ds => match d.b, D.bs ds with
    | some b, some bs => some (b :: bs)
    | _, _ => none
theorem reps_bs {w : Wo} : ∀ {ds : List D} {vs : List V} {bs : List Bool}, Reps w ds vs → D.bs ds = some bs → vs = bs.map V.bl
  | [], vs, bs, r, e => by unfold Reps at r; unfold D.bs at e; cases e; rw [r]; rfl
  | d :: ds, vs, bs, r, e => by
    unfold Reps at r
    obtain ⟨v, us, rfl, a, r⟩ := r
    unfold D.bs at e
    cases h1 : d.b with
    | none => rw [h1] at e; cases e
    | some b =>
      cases h2 : D.bs ds with
      | none => rw [h1, h2] at e; cases e
      | some bs' =>
        rw [h1, h2] at e
        cases e
        rw [rep_b a h1, reps_bs r h2]
        rfl
def dAll : List D → Option D
  | [.lst xs] => (D.bs xs).map fun bs => .bl (bs.all id)
  | _ => none
def dAny : List D → Option D
  | [.lst xs] => (D.bs xs).map fun bs => .bl (bs.any id)
  | _ => none
theorem calls_all (hK : X.K = K) (hc : X.calm = true) : CallS K X (.builtin "all") dAll := by
  subst hK
  refine ⟨_, cr_all hc, fun w hw hf xs ds Q r q => ?_⟩
  unfold dAll at q
  split at q
  · obtain ⟨v, rfl, r1⟩ := reps1 r rfl
    obtain ⟨a, vs, rfl, t, r2⟩ := rep_list r1
    rename_i ys
    cases e : D.bs ys with
    | none => rw [e] at q; exact (q : False).elim
    | some bs =>
      rw [e] at q
      have := reps_bs r2 e
      subst this
      exact ⟨a, bs, rfl, hw ▸ t.sq, Pz.here q rep_bl⟩
  · exact (q : False).elim
theorem calls_any (hK : X.K = K) (hc : X.calm = true) : CallS K X (.builtin "any") dAny := by
  subst hK
  refine ⟨_, cr_any hc, fun w hw hf xs ds Q r q => ?_⟩
  unfold dAny at q
  split at q
  · obtain ⟨v, rfl, r1⟩ := reps1 r rfl
    obtain ⟨a, vs, rfl, t, r2⟩ := rep_list r1
    rename_i ys
    cases e : D.bs ys with
    | none => rw [e] at q; exact (q : False).elim
    | some bs =>
      rw [e] at q
      have := reps_bs r2 e
      subst this
      exact ⟨a, bs, rfl, hw ▸ t.sq, Pz.here q rep_bl⟩
  · exact (q : False).elim
def dStrI : List D → Option D
  | [.int i] => if i.natAbs.log2 < 1920 then some (.str (toString i)) else none
  | _ => none
/-! ### isinstance -/
/-- the answers for a class T: bi: the built-in types that are under it, own: the own classes and whether they are -/
def isiF (bi : List String) (own : List (String × Bool)) : D → Option Bool
  | .non => some (bi.contains "NoneType")
  | .bl _ => some (bi.contains "bool")
  | .int _ => some (bi.contains "int")
  | .str _ => some (bi.contains "str")
  | .lst _ => some (bi.contains "list")
  | .scr _ => some (bi.contains "list")
  | .tup _ => some (bi.contains "tuple")
  | .dk _ => some (bi.contains "dict")
  | .dt _ => some (bi.contains "dict")
  | .obj c _ => own.lookup c
  | _ => none
def BT : List String := ["NoneType", "bool", "int", "str", "list", "tuple", "dict"]
structure IsiOk (K : PySem.W.Frag) (T : Value) (bi : List String) (own : List (String × Bool)) : Prop where
  b : ∀ t ∈ BT, PySem.W.kitOne K (.type t) T = some (bi.contains t)
  o : ∀ p ∈ own, Cls K (He.ga K p.1) ∧ InsC K (He.ga K p.1) ∧ PySem.W.kitOne K (.ref (He.ga K p.1)) T = some p.2
theorem io_b {n : String} {bi : List String} (h : (BT.all fun t => decide (kitB t n = some (bi.contains t))) = true) : ∀ t ∈ BT, PySem.W.kitOne K (.type t) (.type n) = some (bi.contains t) := fun t ht => kit_ty (of_decide_eq_true (List.all_eq_true.mp h t ht))
theorem io_own {C : Addr} (h : ∀ t ∈ BT, PySem.W.kitOne K (.type t) (.ref C) = some false) : ∀ t ∈ BT, PySem.W.kitOne K (.type t) (.ref C) = some (([] : List String).contains t) := fun t ht => by rw [h t ht]; rfl
theorem oo_nil {T : Value} : ∀ p ∈ ([] : List (String × Bool)), Cls K (He.ga K p.1) ∧ InsC K (He.ga K p.1) ∧ PySem.W.kitOne K (.ref (He.ga K p.1)) T = some p.2 := fun _ h => nomatch h
theorem oo_cons {T : Value} {c : String} {b : Bool} {r : List (String × Bool)} (h1 : Cls K (He.ga K c)) (h2 : InsC K (He.ga K c)) (h3 : PySem.W.kitOne K (.ref (He.ga K c)) T = some b) (h : ∀ p ∈ r, Cls K (He.ga K p.1) ∧ InsC K (He.ga K p.1) ∧ PySem.W.kitOne K (.ref (He.ga K p.1)) T = some p.2) :
    ∀ p ∈ (c, b) :: r, Cls K (He.ga K p.1) ∧ InsC K (He.ga K p.1) ∧ PySem.W.kitOne K (.ref (He.ga K p.1)) T = some p.2 := fun p hp => by
  rcases List.mem_cons.mp hp with rfl | hp
  · exact ⟨h1, h2, h3⟩
  · exact h p hp
theorem lookup_mem {own : List (String × Bool)} {c : String} {b : Bool} (h : own.lookup c = some b) : (c, b) ∈ own := by
  induction own with
  | nil => cases h
  | cons p r ih =>
    rw [List.lookup_cons] at h
    cases e : c == p.1 with
    | true =>
      rw [e] at h
      cases h
      rw [beq_iff_eq.mp e]
      exact List.mem_cons_self
    | false => rw [e] at h; exact List.mem_cons_of_mem _ (ih h)
theorem isi_at {w : Wo} {T : Value} {bi : List String} {own : List (String × Bool)} (ok : IsiOk K T bi own) (hw : w.K = K) {d : D} {v : V} {b : Bool} (r : Rep w d v) (h : isiF bi own d = some b) : ∃ t, TyX K w.H v t ∧ PySem.W.kitOne K t T = some b := by
  subst hw
  cases d <;> unfold isiF at h <;> try cases h
  case non => unfold Rep at r; subst r; exact ⟨_, .base .non, ok.b _ (by decide)⟩
  case bl => cases rep_blD r; exact ⟨_, .base (.bl _), ok.b _ (by decide)⟩
  case int => cases rep_intD r; exact ⟨_, .base (.int _), ok.b _ (by decide)⟩
  case str => obtain ⟨rfl, _⟩ := rep_strD r; exact ⟨_, .base (.str _), ok.b _ (by decide)⟩
  case tup =>
    obtain ⟨a, vs, rfl, t, _⟩ := rep_tree r
    obtain ⟨t, _⟩ := t
    rcases t with ⟨_, t | ⟨o, t⟩⟩ | ⟨o, its, n, t, c, _⟩
    · exact ⟨_, .base (.tup t), ok.b _ (by decide)⟩
    · exact ⟨_, .fTuple t, ok.b _ (by decide)⟩
    · exact ⟨_, .kTuple t c, ok.b _ (by decide)⟩
  case lst => obtain ⟨a, vs, rfl, t, _⟩ := rep_list r; exact ⟨_, .base (.lst t.2.1), ok.b _ (by decide)⟩
  case scr =>
    unfold Rep at r
    obtain ⟨a, vs, rfl, ⟨t, _⟩, _⟩ := r
    rcases t with ⟨_, t | ⟨o, t⟩⟩ | ⟨o, its, n, t, c, _⟩
    · exact ⟨_, .base (.lst t), ok.b _ (by decide)⟩
    · exact ⟨_, .base (.frz t), ok.b _ (by decide)⟩
    · exact ⟨_, .kList t c, ok.b _ (by decide)⟩
  case dk => unfold Rep at r; obtain ⟨a, vs, rfl, _, t, _⟩ := r; exact ⟨_, .base (.dK t), ok.b _ (by decide)⟩
  case dt => unfold Rep at r; obtain ⟨a, vs, rfl, _, t, _⟩ := r; exact ⟨_, .base (.dT t), ok.b _ (by decide)⟩
  case obj c fs =>
    unfold Rep at r
    obtain ⟨a, dx, gs, rfl, _, t, _⟩ := r
    obtain ⟨h1, h2, h3⟩ := ok.o _ (lookup_mem h)
    exact ⟨_, .base (.ins t h1 h2.ha h2.hn h2.ht h2.hm), h3⟩
end
def dIsi (bi : List String) (own : List (String × Bool)) : List D → Option D
  | [x, _] => (isiF bi own x).map .bl
  | _ => none
/-- isinstance(e, T) -/
def eIsi (bi : List String) (own : List (String × Bool)) (f : Sx D) (e : En) (S : Store) : R D := (f e S).bind fun x S1 => R.of S1 ((isiF bi own x).map .bl)
section
variable {K : PySem.W.Frag} {X : Cx} {W : WX} {ex ex2 value : Expr} {es : List Expr} {f g : Sx D} {a : Sx (List D)} {pos p p0 apos pos' : Pos} {i lv j : Nat} {x m fd : Str} {ps : List Str} {sp : Sp} {cs : List String} {c : String} {fa : Addr}
theorem x_isi {T : Value} {vT : V} {bi : List String} {own : List (String × Bool)} (hK : X.K = K) (hg : Gl X "isinstance") (hm : X.mg "isinstance" = none) (hf : Ev K X W ex f) (hT : PE X ex2 (tC vT)) (ok : IsiOk K T bi own) (hv : ClsV vT T)
    (he : starEach [ex, ex2] X.env = (false, eval ex X.env) :: starEach [ex2] X.env := by rfl) (he2 : starEach [ex2] X.env = (false, eval ex2 X.env) :: starEach [] X.env := by rfl) (hpl : (backTo pos (starEach [ex2] X.env)).any (·.1) = false := by rfl) : Ev K X W (.Call (.Name "isinstance" p) [ex, ex2] [] pos) (eIsi bi own f) := by
  subst hK
  obtain ⟨te, p1, h1⟩ := hf.run
  refine ⟨_, pe_callB call_isi hg hm (by decide +kernel) (pa_cons p1 (pa_cons hT pa_nil he2) he) (by decide) (by decide) he hpl, fun b m ow H σ e S Q t q => h1 b m ow H σ e S _ t (Post.bind q fun d S1 v m1 H1 f1 c1 rx q => ?_)⟩
  cases e : isiF bi own d with
  | none => rw [e] at q; exact q.elim
  | some r =>
    rw [e] at q
    obtain ⟨t, h2, h3⟩ := isi_at ok (w := wo X.K b.B m1 ow H1) rfl rx e
    exact ⟨v, vT, t, T, r, rfl, hv, h2, h3, q.val c1 rep_bl⟩
/-! ### f-strings -/
def fmtD : D → Option D
  | .str y => some (.str y)
  | .int i => if i.natAbs.log2 < 1920 then some (.str (toString i)) else none
  | _ => none
def eFmt (f : Sx D) (e : En) (S : Store) : R D := (f e S).bind fun x S1 => R.of S1 (fmtD x)
theorem x_fmt (hf : Ev K X W ex f) : Ev K X W (.FormattedValue ex (-1) none pos) (eFmt f) := by
  obtain ⟨te, p1, h1⟩ := hf.run
  refine ⟨_, pe_fmt p1, fun b m ow H σ e S Q t q => h1 b m ow H σ e S _ t (Post.bind q fun d S1 v m1 H1 f1 c1 rx q => ?_)⟩
  cases d <;> try exact q.elim
  · rename_i i
    cases rep_intD rx
    have q : Post K b.B ow m1 H1 Rep (fun c d => W c d σ) Q (R.of S1 (if i.natAbs.log2 < 1920 then some (.str (toString i)) else none)) := q
    split at q
    · rename_i h
      exact .inr ⟨i, rfl, h, q.val c1 (rep_str (int_text_fits h))⟩
    · exact q.elim
  · obtain ⟨rfl, hl⟩ := rep_strD rx
    exact .inl ⟨_, rfl, hl, q.val c1 (rep_str hl)⟩
def eJs : List (Sx D) → Str → Sx D
  | [], acc, _, S => .ok (.str acc) S
  | f :: fs, acc, e, S => (f e S).bind fun x S1 => match x with
    | .str y => if (acc ++ y).length ≤ sizeLine then eJs fs (acc ++ y) e S1 else .no
    | _ => .no
inductive Ejs (K : PySem.W.Frag) (X : Cx) (W : WX) : List Expr → List (Sx D) → Prop
  | nil : Ejs K X W [] []
  | cons {ex : Expr} {f : Sx D} {es : List Expr} {fs : List (Sx D)} (h : Ev K X W ex f) (r : Ejs K X W es fs) : Ejs K X W (ex :: es) (f :: fs)
theorem js_rd {es : List Expr} {fs : List (Sx D)} (h : Ejs K X W es fs) : ∃ ts, PJ X es ts ∧ ∀ b m ow H σ e S acc (Q : Str → Hp → Prop), At K b m ow H σ e S → acc.length ≤ sizeLine → Post K b.B ow m H Rep (fun c d => W c d σ) (fun v H => ∃ z, v = .str z ∧ Q z H) (eJs fs acc e S) → tJs ts acc σ H Q := by
  induction h with
  | nil => exact ⟨[], .nil, fun b m ow H σ e S acc Q t hl q => by
      obtain ⟨z, e1, q⟩ := q.val t.cells (rep_str hl)
      cases e1
      exact q⟩
  | cons h r ih =>
    obtain ⟨te, p1, h1⟩ := h.run
    obtain ⟨ts, p2, h2⟩ := ih
    refine ⟨te :: ts, .cons p1 p2, fun b m ow H σ e S acc Q t hl q => ?_⟩
    unfold tJs
    refine h1 b m ow H σ e S _ t (Post.bind q fun d S1 v m1 H1 f1 c1 rx q => ?_)
    cases d <;> try exact q.elim
    rename_i y
    obtain ⟨rfl, hy⟩ := rep_strD rx
    dsimp only at q
    split at q
    · rename_i hc
      exact ⟨y, rfl, hc, h2 b m1 ow H1 σ e S1 _ Q (t.go f1 c1) hc q⟩
    · exact q.elim
theorem js_imp {B : Addr → Prop} {ow : List (Option Addr)} {m : List Addr} {H : Hp} {Wp : Value → Option Addr → Hp → Prop} {Q : VK} {e : En} : ∀ {fs : List (Sx D)} {acc : Str} {S : Store}, Post K B ow m H Rep Wp Q (eJs fs acc e S) → Post K B ow m H Rep Wp (fun v H => ∃ z, v = .str z ∧ Q (.str z) H) (eJs fs acc e S)
  | [], acc, S, q => fun v m' H' f c r => by
    obtain ⟨rfl, hl⟩ := rep_strD r
    exact ⟨_, rfl, q _ m' H' f c r⟩
  | f :: fs, acc, S, q => by
    unfold eJs at q ⊢
    cases r : f e S with
    | no => rw [r] at q; exact q
    | er x S1 => rw [r] at q; exact q
    | ok d S1 =>
      rw [r, ok_bind] at q
      rw [ok_bind]
      cases d <;> try exact q.elim
      dsimp only at q ⊢
      split
      · rename_i h
        rw [if_pos h] at q
        exact js_imp q
      · rename_i h
        rw [if_neg h] at q
        exact q
theorem x_js {v1 v2 : Expr} {rest : List Expr} {fs : List (Sx D)} (h : Ejs K X W (v1 :: v2 :: rest) fs) : Ev K X W (.JoinedStr (v1 :: v2 :: rest) pos) (eJs fs Str.empty) := by
  obtain ⟨ts, p1, h1⟩ := js_rd h
  exact ⟨_, pe_joined p1, fun b m ow H σ e S Q t q => h1 b m ow H σ e S _ _ t (Nat.zero_le _) (js_imp q)⟩
theorem x_js1 (hf : Ev K X W ex f) : Ev K X W (.JoinedStr [ex] pos) f := by
  obtain ⟨te, p1, h1⟩ := hf.run
  exact ⟨_, pe_joined1 p1, h1⟩
end
end Sh

/-! Sh12: subscripts, slices, methods of texts, own lists and cells changed. -/
namespace Sh
open PySem PySem.Spec PyProof.Rows L2 Nk StX
variable [TabSet] [BasePred]
section
variable {K : PySem.W.Frag} {X : Cx} {W : WX} {ex ex2 value : Expr} {es : List Expr} {f g h : Sx D} {a : Sx (List D)} {pos p p0 apos pos' : Pos} {i lv j : Nat} {x m fd : Str} {ps : List Str} {sp : Sp} {cs : List String} {c : String} {fa : Addr}
theorem atI_map {α β : Type} {xs : List α} {ys : List β} {k : Int} {x : α} (hl : ys.length = xs.length) (h : atI xs k = some x) : ∃ j : Nat, xs[j]? = some x ∧ ∀ y, ys[j]? = some y → atI ys k = some y := by
  unfold atI at h ⊢
  rw [hl]
  cases e : ixN xs.length k with
  | none => rw [e] at h; cases h
  | some j => rw [e] at h; exact ⟨j, h, fun y hy => hy⟩
theorem reps_at {w : Wo} {ds : List D} {vs : List V} {k : Int} {d : D} (r : Reps w ds vs) (h : atI ds k = some d) : ∃ v, atI vs k = some v ∧ Rep w d v := by
  obtain ⟨j, h1, h2⟩ := atI_map (reps_len r) h
  obtain ⟨v, h3, h4⟩ := reps_get r h1
  exact ⟨v, h2 v h3, h4⟩
theorem x_ix (hK : X.K = K) (hf : Ev K X W ex f) (hg : Ev K X W ex2 g) (hs : PlainIx ex2) : Ev K X W (.Subscript ex ex2 pos) (eIx f g) := by
  subst hK
  obtain ⟨ta, p1, h1⟩ := hf.run
  obtain ⟨tb, p2, h2⟩ := hg.run
  refine ⟨_, pe_ix ix_seq p1 p2 hs, fun b m ow H σ e S Q t q => h1 b m ow H σ e S _ t (Post.bind q fun x S1 v m1 H1 f1 c1 rx q => h2 b m1 ow H1 σ e S1 _ (t.go f1 c1) (Post.bind q fun y S2 u m2 H2 f2 c2 ry q => ?_))⟩
  have rx := Rep.le f2.le x rx
  cases x with
  | ref n =>
    unfold Rep at rx
    obtain ⟨a, rfl, hm⟩ := rx
    dsimp only at q
    cases hS : S2[n]? with
    | none => rw [hS] at q; exact q.elim
    | some cc =>
      cases cc with
      | lst xs =>
        cases y with
        | int i =>
          rw [hS] at q
          dsimp only at q
          cases rep_intD ry
          obtain ⟨vs, hH, hl, r⟩ := c2.cs n a _ hm hS
          cases e : atI xs i with
          | none => rw [e] at q; exact q.elim
          | some d =>
            rw [e] at q
            obtain ⟨u, h3, h4⟩ := reps_at r e
            exact .inl ⟨a, vs, i, u, rfl, rfl, .inl (.inl hH), h3, q.val c2 h4⟩
        | _ => rw [hS] at q; exact q.elim
      | _ => rw [hS] at q; exact q.elim
  | lst xs =>
    cases y with
    | int k =>
      cases rep_intD ry
      obtain ⟨a, vs, rfl, t, r⟩ := rep_list rx
      cases e : atI xs k with
      | none =>
        have q : Post X.K b.B ow m2 H2 Rep (fun c d => W c d σ) Q (R.of S2 (match atI xs k with | some d => some d | none => none)) := q
        rw [e] at q; exact q.elim
      | some d =>
        have q : Post X.K b.B ow m2 H2 Rep (fun c d => W c d σ) Q (R.of S2 (match atI xs k with | some d => some d | none => none)) := q
        rw [e] at q
        obtain ⟨u, h3, h4⟩ := reps_at r e
        exact .inl ⟨a, vs, k, u, rfl, rfl, t.sq, h3, q.val c2 h4⟩
    | _ => exact q.elim
  | tup xs =>
    cases y with
    | int k =>
      cases rep_intD ry
      obtain ⟨a, vs, rfl, t, r⟩ := rep_tree rx
      cases e : atI xs k with
      | none =>
        have q : Post X.K b.B ow m2 H2 Rep (fun c d => W c d σ) Q (R.of S2 (match atI xs k with | some d => some d | none => none)) := q
        rw [e] at q; exact q.elim
      | some d =>
        have q : Post X.K b.B ow m2 H2 Rep (fun c d => W c d σ) Q (R.of S2 (match atI xs k with | some d => some d | none => none)) := q
        rw [e] at q
        obtain ⟨u, h3, h4⟩ := reps_at r e
        exact .inr (.inl ⟨a, vs, k, u, rfl, rfl, t.sq, h3, q.val c2 h4⟩)
    | _ => exact q.elim
  | str z =>
    cases y with
    | int k =>
      cases rep_intD ry
      obtain ⟨rfl, hl⟩ := rep_strD rx
      cases e : atI z.cps.toList k with
      | none =>
        have q : Post X.K b.B ow m2 H2 Rep (fun c d => W c d σ) Q (R.of S2 ((atI z.cps.toList k).map fun c => .str ⟨#[c]⟩)) := q
        rw [e] at q; exact q.elim
      | some c =>
        have q : Post X.K b.B ow m2 H2 Rep (fun c d => W c d σ) Q (R.of S2 ((atI z.cps.toList k).map fun c => .str ⟨#[c]⟩)) := q
        rw [e] at q; exact .inr (.inr ⟨z, k, c, rfl, rfl, hl, e, q.val c2 (rep_str (show (1 : Nat) ≤ sizeLine by decide))⟩)
    | _ => exact q.elim
  | _ => exact q.elim
/-! ### slices -/
def cutD {α : Type} (xs : List α) (lo hi : Option Int) : List α := (xs.drop (HT.sIx xs.length 0 lo)).take (HT.sIx xs.length xs.length hi - HT.sIx xs.length 0 lo)
def D.sl (lo hi : Option Int) : D → Option D
  | .lst xs => some (.lst (cutD xs lo hi))
  | .tup xs => some (.tup (cutD xs lo hi))
  | .str z => some (.str (cutS z lo hi))
  | .scr xs => some (.lst (cutD xs lo hi))
  | _ => none
def pNo (_ : En) (S : Store) : R (Option Int) := .ok none S
def pSo (f : Sx D) (e : En) (S : Store) : R (Option Int) := (f e S).bind fun x S1 => match x with
  | .int i => .ok (some i) S1
  | _ => .no
def eSl (f : Sx D) (lo hi : Sx (Option Int)) (e : En) (S : Store) : R D := (f e S).bind fun x S1 => (lo e S1).bind fun l S2 => (hi e S2).bind fun u S3 => R.of S3 (x.sl l u)
def RO : Wo → Option Int → Option Int → Prop := fun _ x y => y = x
structure Ep (K : PySem.W.Frag) (X : Cx) (W : WX) (e : Option Expr) (f : Sx (Option Int)) : Prop where
  run : ∃ t, PO X e t ∧ ∀ b m ow H σ e S Q, At K b m ow H σ e S → Post K b.B ow m H RO (fun c d => W c d σ) Q (f e S) → t σ H Q
theorem p_no : Ep K X W none pNo := ⟨_, po_none, fun b m ow H σ e S Q t q => q none m H (Fut.refl _ _) t.cells rfl⟩
theorem p_so (hf : Ev K X W ex f) : Ep K X W (some ex) (pSo f) := by
  obtain ⟨te, p1, h1⟩ := hf.run
  refine ⟨_, po_some p1, fun b m ow H σ e S Q t q => h1 b m ow H σ e S _ t (Post.bind q fun x S1 v m1 H1 f1 c1 rx q => ?_)⟩
  cases x <;> try exact q.elim
  cases rep_intD rx
  exact ⟨_, rfl, q _ m1 H1 (Fut.refl _ _) c1 rfl⟩
theorem cutD_len {α : Type} (xs : List α) (lo hi : Option Int) : (cutD xs lo hi).length ≤ xs.length := by
  unfold cutD
  rw [List.length_take, List.length_drop]
  omega
theorem reps_cut {w : Wo} {ds : List D} {vs : List V} (r : Reps w ds vs) (lo hi : Option Int) : Reps w (cutD ds lo hi) (cutV vs lo hi) := by
  unfold cutD cutV
  rw [reps_len r]
  exact reps_take _ (reps_drop _ r)
theorem slr_or3 {r r' r2 : V → Option Int → Option Int → Hp → VK → Prop} (h : L2.SlR X r) (h' : L2.SlR X r') (h2 : L2.SlR X r2) : L2.SlR X (fun x lo hi H Q => r x lo hi H Q ∨ r' x lo hi H Q ∨ r2 x lo hi H Q) := L2.SlR.or h (L2.SlR.or h' h2)
theorem x_sl {lo hi : Option Expr} {p2 : Pos} {l u : Sx (Option Int)} (hK : X.K = K) (hf : Ev K X W ex f) (hl : Ep K X W lo l) (hu : Ep K X W hi u) : Ev K X W (.Subscript ex (.Slice lo hi none p2) pos) (eSl f l u) := by
  subst hK
  obtain ⟨ta, p1, h1⟩ := hf.run
  obtain ⟨tl, pl, h2⟩ := hl.run
  obtain ⟨tu, pu, h3⟩ := hu.run
  refine ⟨_, pe_slice (slr_or3 sl_list sl_tupA sl_str) p1 pl pu, fun b m ow H σ e S Q t q => h1 b m ow H σ e S _ t (Post.bind q fun x S1 v m1 H1 f1 c1 rx q => h2 b m1 ow H1 σ e S1 _ (t.go f1 c1) (Post.bind q fun y S2 y' m2 H2 f2 c2 ry q => h3 b m2 ow H2 σ e S2 _ ((t.go f1 c1).go f2 c2) (Post.bind q fun z S3 z' m3 H3 f3 c3 rz q => ?_)))⟩
  obtain rfl : y' = y := ry
  obtain rfl : z' = z := rz
  have rx := Rep.le (f2.trans f3).le x rx
  cases x with
  | str s =>
    obtain ⟨rfl, hz⟩ := rep_strD rx
    exact .inr (.inr ⟨_, rfl, hz, q.val c3 (rep_str (Nat.le_trans (cutS_length _ _ _) hz))⟩)
  | tup ds =>
    have rx0 := rx
    obtain ⟨a, vs, rfl, t, r⟩ := rep_tree rx
    have hl := reps_len r
    refine .inr (.inl ⟨a, vs, rfl, t.sq, fun hw => ?_, fun _ p hp => (q.pz c3) _ _ (same_mut (Same.refl _) hp) (rep_tup c3.full hp (Nat.le_trans (cutV_length _ _ _) t.2) (reps_cut r y' z'))⟩)
    have e : cutD ds y' z' = ds := by
      unfold cutD
      rw [← hl, hw.1, hw.2]
      simp [hl]
    have q : Post X.K b.B ow m3 H3 Rep (fun c d => W c d σ) Q (.ok (.tup (cutD ds y' z')) S3) := q
    rw [e] at q
    exact q.val c3 rx0
  | lst ds =>
    obtain ⟨a, vs, rfl, t, r⟩ := rep_list rx
    exact .inl ⟨a, vs, rfl, t.sq, fun p hp => (q.pz c3) _ _ (same_mut (Same.refl _) hp) (rep_lst c3.full hp (Nat.le_trans (cutV_length _ _ _) t.2.2) (reps_cut r y' z'))⟩
  | scr ds =>
    unfold Rep at rx
    obtain ⟨a, vs, rfl, t, r⟩ := rx
    exact .inl ⟨a, vs, rfl, t.sq, fun p hp => (q.pz c3) _ _ (same_mut (Same.refl _) hp) (rep_lst c3.full hp (Nat.le_trans (cutV_length _ _ _) t.2) (reps_cut r y' z'))⟩
  | _ => exact q.elim
/-! ### methods of texts -/
structure MtS (K : PySem.W.Frag) (X : Cx) (id : String) (o : Str → D → Option D) : Prop where
  run : ∃ r, MtR X id r ∧ ∀ (w : Wo), w.K = K → w.Full → ∀ z y dy Q, z.length ≤ sizeLine → Rep w dy y → Pz w Q (o z dy) → r (.str z) [y] w.H Q
def eM1 (o : Str → D → Option D) (f g : Sx D) (e : En) (S : Store) : R D := (f e S).bind fun x S1 => match x with
  | .str z => (g e S1).bind fun y S2 => R.of S2 (o z y)
  | _ => .no
theorem x_m1 {id : String} {name : Str} {o : Str → D → Option D} (slot : Slot "str" name id) (ty : typeOf (.builtin id) = pure (.type "method_descriptor")) (ho : MtS K X id o) (hf : Ev K X W ex f) (hg : Ev K X W ex2 g)
    (hs : starEach [ex2] X.env = [(false, eval ex2 X.env)] := by rfl) (hbase : attributeBase ex name X.env (eval ex X.env) = eval ex X.env := by rfl) (hline : (apos.endLine == pos.line) = true := by rfl) : Ev K X W (.Call (.Attribute ex name apos) [ex2] [] pos) (eM1 o f g) := by
  obtain ⟨ta, p1, h1⟩ := hf.run
  obtain ⟨tb, p2, h2⟩ := hg.run
  obtain ⟨r, p3, h3⟩ := ho.run
  refine ⟨_, pe_m1 slot ty p3 p1 p2 hs hbase hline, fun b m ow H σ e S Q t q => h1 b m ow H σ e S _ t (Post.bind q fun x S1 v m1 H1 f1 c1 rx q => ?_)⟩
  cases x with
  | str z =>
    obtain ⟨rfl, hz⟩ := rep_strD rx
    exact ⟨⟨z, rfl⟩, h2 b m1 ow H1 σ e S1 _ (t.go f1 c1) (Post.bind q fun y S2 u m2 H2 f2 c2 ry q => h3 _ rfl c2.full z u y Q hz ry (q.pz c2))⟩
  | _ => exact q.elim
def D.strs : List D → Option (List Str)
  | [] => some []
  | .str x :: ds => (D.strs ds).map (x :: ·)
  | _ => none
theorem reps_strs {w : Wo} : ∀ {ds : List D} {vs : List V} {ys : List Str}, Reps w ds vs → D.strs ds = some ys → vs = ys.map V.str
  | [], vs, ys, r, e => by unfold Reps at r; unfold D.strs at e; cases e; rw [r]; rfl
  | d :: ds, vs, ys, r, e => by
    unfold Reps at r
    obtain ⟨v, us, rfl, a, r⟩ := r
    cases d <;> unfold D.strs at e <;> try cases e
    rename_i x
    cases h2 : D.strs ds with
    | none => rw [h2] at e; cases e
    | some zs =>
      rw [h2] at e
      cases e
      rw [(rep_strD a).1, reps_strs r h2]
      rfl
theorem reps_ofStrs {w : Wo} : ∀ {ys : List Str}, (∀ y ∈ ys, y.length ≤ sizeLine) → Reps w (ys.map D.str) (ys.map V.str)
  | [], _ => reps_nil
  | y :: ys, h => reps_cons (rep_str (h y List.mem_cons_self)) (reps_ofStrs fun z hz => h z (List.mem_cons_of_mem _ hz))
def dJoin (z : Str) : D → Option D
  | .lst ds => match D.strs ds with
    | some ys => if (ys.map (·.length)).sum + ys.length * z.length ≤ 16777216 then some (.str (Txt.join z ys)) else none
    | none => none
  | .tup ds => match D.strs ds with
    | some ys => if (ys.map (·.length)).sum + ys.length * z.length ≤ 16777216 then some (.str (Txt.join z ys)) else none
    | none => none
  | _ => none
theorem join_len (z : Str) (ys : List Str) : (Txt.join z ys).length ≤ (ys.map (·.length)).sum + ys.length * z.length := by
  have h : ∀ (l : List (List Nat)) (s : List Nat), (TL.joinL s l).length ≤ (l.map (·.length)).sum + l.length * s.length := by
    intro l s
    induction l with
    | nil => exact Nat.zero_le _
    | cons p r ih =>
      cases r with
      | nil => show p.length ≤ _; simp
      | cons q r =>
        show (p ++ (s ++ TL.joinL s (q :: r))).length ≤ _
        rw [List.length_append, List.length_append]
        simp only [List.map_cons, List.sum_cons, List.length_cons] at ih ⊢
        rw [Nat.add_mul (r.length + 1) 1 s.length]
        omega
  have e : (Txt.join z ys).length = (TL.joinL (TL.tl z) (ys.map TL.tl)).length := by
    rw [TL.join_eq, ← TL.tl_join]
    unfold TL.tl Str.length
    simp
  have tlen : ∀ y : Str, (TL.tl y).length = y.length := fun y => by unfold TL.tl Str.length; simp
  rw [e]
  refine Nat.le_trans (h _ _) ?_
  rw [List.map_map, List.length_map, tlen]
  have : (ys.map ((·.length) ∘ TL.tl)) = ys.map (·.length) := List.map_congr_left fun y _ => tlen y
  rw [this]
  exact Nat.le_refl _
theorem mts_join (hK : X.K = K) : MtS K X "str.join" dJoin := by
  subst hK
  refine ⟨_, mt_join, fun w hw hf z y dy Q hz ry q => ?_⟩
  cases dy <;> try exact (q : False).elim
  · rename_i ds
    obtain ⟨a, vs, rfl, t, r⟩ := rep_tree ry
    unfold dJoin at q
    cases e : D.strs ds with
    | none => simp only [e] at q; exact (q : False).elim
    | some ys =>
      simp only [e] at q
      obtain ⟨h, q⟩ := Pz.ite q
      have := reps_strs r e
      subst this
      exact ⟨z, a, ys, rfl, rfl, .inr (hw ▸ t.sq), h, q.here (rep_str (Nat.le_trans (join_len z ys) h))⟩
  · rename_i ds
    obtain ⟨a, vs, rfl, t, r⟩ := rep_list ry
    unfold dJoin at q
    cases e : D.strs ds with
    | none => simp only [e] at q; exact (q : False).elim
    | some ys =>
      simp only [e] at q
      obtain ⟨h, q⟩ := Pz.ite q
      have := reps_strs r e
      subst this
      exact ⟨z, a, ys, rfl, rfl, .inl (hw ▸ t.sq), h, q.here (rep_str (Nat.le_trans (join_len z ys) h))⟩
def dSplit (z : Str) : D → Option D
  | .str y => if (y.length == 0) = false ∧ z.length + 2 ≤ sizeLine then some (.lst ((Txt.split z y).map .str)) else none
  | _ => none
theorem mts_split : MtS K X "str.split" dSplit := by
  refine ⟨_, mt_split, fun w hw hf z y dy Q hz ry q => ?_⟩
  cases dy <;> try exact (q : False).elim
  rename_i s
  obtain ⟨rfl, hs⟩ := rep_strD ry
  obtain ⟨h, q⟩ := Pz.ite q
  refine ⟨z, s, rfl, rfl, h.1, h.2, fun p hp => q _ _ (same_mut (Same.refl _) hp) (rep_lst hf hp ?_ (reps_ofStrs fun y hy => Nat.le_trans (PyProof.Rows.part_short hy) hz))⟩
  rw [List.length_map]
  exact Nat.le_trans (PyProof.Rows.split_le z s) h.2
/-! ### lists that slots own, lists in cells -/
def sApp (i : Nat) (f : Sx D) (e : En) (S : Store) : RS := match e[i]? with
  | some (Sl.own (.lst ds)) => (f e S).run e fun d S1 => if ds.length < sizeLine then .nx (e.set i (.own (.lst (ds ++ [d])))) S1 else .no
  | _ => .no
theorem s_app (hN : X.N[i]? = some x) (hv : Vis X.env.scope x) (hf : Ev K X W ex f) (hd : (x == ("__debug__" : Str)) = false := by decide) (hcd : (x == ("__classdict__" : Str)) = false := by decide)
    (hbase : attributeBase (.Name x p) "append" X.env (eval (.Name x p) X.env) = eval (.Name x p) X.env := by rfl)
    (hfew : ((backTo pos (starEach [ex] X.env)).all (fun x => !x.1) && (backToKw pos (keywordEach [] X.env)).all (fun x => x.1.isSome)
      && decide ([ex].length + ([] : List Keyword).length + (if ([] : List Keyword).isEmpty then 0 else 1) < 30)) = true := by rfl)
    (hline : (apos.endLine == pos.line) = true := by rfl) (hs : starEach [ex] X.env = (false, eval ex X.env) :: starEach [] X.env := by rfl) (hplain : (backTo pos (starEach [] X.env)).any (·.1) = false := by rfl)
    (hsw : swapsWith (.Call (.Attribute (.Name x p) "append" apos) [ex] [] pos) none pos'.line X.env = pure false := by rfl) : Es K X W (.Expr (.Call (.Attribute (.Name x p) "append" apos) [ex] [] pos) pos') (sApp i f) := by
  obtain ⟨te, p1, h1⟩ := hf.run
  refine ⟨_, ps_expr (pe_bm PySem.F.plainAttrs_list PySem.F.slot_list_append PySem.F.type_list_append mt_append (pe_var hN hv hd hcd) (pa_cons p1 pa_nil hs) hbase hfew hline hs hplain) hsw, fun b m ow H σ e S D t z => ?_⟩
  unfold sApp at z
  split at z
  · rename_i ds q
    obtain ⟨a, h2, h3, vs, hH, hl, r⟩ := t.slots i _ q
    refine ⟨.ref a, h2, .inl ⟨rfl, vs, .inl (.inl hH)⟩, h1 b m ow H σ e S _ t (PostS.run t z fun d S1 v m1 H1 t1 f1 rv y => ?_)⟩
    split at y
    · rename_i hlt
      have hH1 : H1 a = some (.lst vs) := f1.keep a _ hH (fun _ z => by cases z) fun hm => t.cells.no a hm (List.mem_of_getElem? h3)
      have r1 := Reps.le f1.le _ r
      have hvl := reps_len r
      refine ⟨a, vs, v, rfl, rfl, hH1, by omega, ?_⟩
      have am : zf b.B m1 ow a := .inr (.inr (List.mem_of_getElem? h3))
      obtain ⟨t2, l2⟩ := t1.own_upd (c' := .lst (ds ++ [d])) h3 q h2 (upd_keep (o := .lst (vs ++ [v]))) (fun x h => h.upd fun _ z => by cases z) ⟨_, upd_same, by rw [List.length_append]; simp; omega, reps_app (Reps.le (le_put am) _ r1) (reps_cons (Rep.le (le_put am) d rv) reps_nil)⟩ fun _ _ z => by cases z
      exact y _ m1 _ _ t2 l2
    · exact y.elim
  · exact z.elim
/-- o[i] = e, o a list in a cell -/
def sIxC (g k f : Sx D) (e : En) (S : Store) : RS := (f e S).run e fun d S1 => (g e S1).run e fun o S2 => (k e S2).run e fun y S3 => match o, y with
  | .ref n, .int l => match S3[n]? with
    | some (.lst ds) => match ixN ds.length l with
      | some j => .nx e (S3.set n (.lst (ds.set j d)))
      | none => .no
    | _ => .no
  | _, _ => .no
theorem s_ixC {ex3 : Expr} {p2 : Pos} (ho : Ev K X W ex g) (hk : Ev K X W ex2 h) (hf : Ev K X W ex3 f) (hs : swapsWithSole [.Subscript ex ex2 p2] ex3 pos.line X.env = pure false := by rfl) (hw : swappedStores [.Subscript ex ex2 p2] ex3 X.env = pure none := by rfl) (h1 : (assignEach [.Subscript ex ex2 p2] X.env).map (·.2) = [assign (.Subscript ex ex2 p2) X.env] := by rfl)
    (ha : ∀ v, assign (.Subscript ex ex2 p2) X.env v = (do
      let ov ← holding [v] (eval ex X.env)
      let iv ← holding [v, ov] (eval ex2 X.env)
      standAt p2
      holding [v, ov, iv] (setItem ov iv v)
      release [v, ov, iv] []) := by intro _; rfl) : Es K X W (.Assign [.Subscript ex ex2 p2] ex3 pos) (sIxC g h f) := by
  obtain ⟨te, p1, h2⟩ := hf.run
  obtain ⟨to, p3, h3⟩ := ho.run
  obtain ⟨tk, p4, h4⟩ := hk.run
  refine ⟨_, ps_asg p1 (pg_sub p3 p4 set_list ha) hs hw h1, fun b m ow H σ e S D t z => h2 b m ow H σ e S _ t (PostS.run t z fun d S1 v m1 H1 t1 f1 r z => h3 b m1 ow H1 σ e S1 _ t1 (PostS.run t1 z fun o S2 u m2 H2 t2 f2 ro z => h4 b m2 ow H2 σ e S2 _ t2 (PostS.run t2 z fun y S3 u3 m3 H3 t3 f3 ry z => ?_)))⟩
  cases o with
  | ref n =>
    cases y with
    | int l =>
      dsimp only at z
      cases rep_intD ry
      unfold Rep at ro
      obtain ⟨a, rfl, hm⟩ := ro
      have hm3 : m3[n]? = some a := f3.le (K := K) (B := b.B) (ow := ow) |>.m n a hm
      cases hS : S3[n]? with
      | none => rw [hS] at z; exact z.elim
      | some cc =>
        cases cc with
        | lst ds =>
          rw [hS] at z
          dsimp only at z
          obtain ⟨vs, hH, hl, rr⟩ := t3.cells.cs n a _ hm3 hS
          cases e1 : ixN ds.length l with
          | none => rw [e1] at z; exact z.elim
          | some j =>
            rw [e1] at z
            have am : zf b.B m3 ow a := .inr (.inl (List.mem_of_getElem? hm3))
            have rv := Rep.le (f2.trans f3).le d r
            refine ⟨a, vs, l, j, rfl, rfl, hH, by rw [reps_len rr]; exact e1, ?_⟩
            obtain ⟨t4, f4⟩ := cell_put (c' := .lst (ds.set j d)) t3 hm3 (upd_keep (o := .lst (vs.set j v))) (fun x h => h.upd fun _ z => by cases z) ⟨_, upd_same, by simpa using hl, reps_set (Rep.le (le_put am) d rv) j (Reps.le (le_put am) _ rr)⟩
            exact z _ m3 _ _ t4 f4.le
        | _ => rw [hS] at z; exact z.elim
    | _ => exact z.elim
  | _ => exact z.elim
end
end Sh

/-! Sh13: try .. except C as n, lambdas handed to a def that calls them. -/
namespace Sh
open PySem PySem.Spec PyProof.Rows L2 Nk StX
variable [TabSet] [BasePred]
section
variable {K : PySem.W.Frag} {b : Bs} {m : List Addr} {ow : List (Option Addr)} {H H1 : Hp} {σ : L2.St} {e : En} {S : Store}
theorem fut_ext (x : LamX.ExtN H H1) : Fut m H m H1 := ⟨⟨[], by simp, by simp⟩, fun a o h n _ => x a o h n, fun a f o h => Classical.byContradiction fun z => f.no (x a o h fun ps q => z ⟨ps, q⟩) fun ps q => z ⟨ps, q⟩⟩
theorem Cells.ext {B : Addr → Prop} (c : Cells K B m ow H S) (x : LamX.ExtN H H1) (tb : LamX.Tabs (TabSet.TS K) H1) : Cells K B m ow H1 S := by
  have f : Fut m H m H1 := fut_ext x
  exact ⟨fun a h z => c.hB a h (f.dom a z), c.nd, c.no, c.nB, c.od, fun a h z => c.oh a h (f.dom a z), c.len, fun n a y h1 h2 => (c.cs n a y h1 h2).le f.le fun o e n => x a o e n, tb⟩
theorem At.ext (t : At K b m ow H σ e S) (x : LamX.ExtN H H1) (tb : LamX.Tabs (TabSet.TS K) H1) : At K b m ow H1 σ e S := t.go (fut_ext x) (t.cells.ext x tb)
end
def tsOf (K : PySem.W.Frag) (W : WX) (f : Sy) : TS := fun D σ H => ∃ b m ow e S, At K b m ow H σ e S ∧ PostS K b (wo K b.B m ow H) W D (f e S)
theorem Ess.canon {K : PySem.W.Frag} {X : Cx} {W : WX} {st : List Stmt} {f : Sy} (h : Ess K X W st f) : PSs X st (tsOf K W f) := by
  obtain ⟨ts, p1, h1⟩ := h.run
  exact ⟨fun pins s σ H D I ⟨b, m, ow, e, S, t, q⟩ => p1.run pins s σ H D I (h1 b m ow H σ e S D t q)⟩
/-! ### try -/
/-- which own errors the clause takes -/
def sTry (isa : List (String × Bool)) (i : Nat) (body suite : Sy) (e : En) (S : Store) : RS := match body e S with
  | .er x e1 S1 => match isa.lookup x.c with
    | some true => if notOwn i e1 then (match suite (e1.set i (.val (.exc x.c x.fs))) S1 with
      | .nx e2 S2 => if notOwn i e2 then .nx (e2.set i .no) S2 else .no
      | .rt d S2 => .rt d S2
      | _ => .no) else .no
    | some false => .er x e1 S1
    | none => .no
  | r => r
def ExmOk (K : PySem.W.Frag) (T : Value) (isa : List (String × Bool)) : Prop := ∀ p ∈ isa, PySem.W.exmOne K (.ref (He.ga K p.1)) T = some p.2
theorem eo_nil {K : PySem.W.Frag} {T : Value} : ExmOk K T [] := fun _ h => nomatch h
theorem eo_cons {K : PySem.W.Frag} {T : Value} {c : String} {b : Bool} {r : List (String × Bool)} (h : PySem.W.exmOne K (.ref (He.ga K c)) T = some b) (g : ExmOk K T r) : ExmOk K T ((c, b) :: r) := fun p hp => by
  rcases List.mem_cons.mp hp with rfl | hp
  · exact h
  · exact g p hp
section
variable {K : PySem.W.Frag} {X : Cx} {W : WX} {x n : Str} {c : Value} {i : Nat} {body suite : List Stmt} {b₀ : Stmt} {np pos pos' : Pos} {fb fs : Sy} {isa : List (String × Bool)}
theorem s_try (hK : X.K = K) (hex : X.ex = []) (hs : X.stack = X.env :: X.outer) (hf : X.env.frame = some X.env.locals) (hN : X.N.Nodup) (hi : X.N[i]? = some n) (hln : X.env.kindOf n = some .local) (hc : Names X x c) (ok : ExmOk K c isa) (tk : Takes X W)
    (hb : ∀ (W' : WX) (pn : List (Addr × Obj)) (xe : Value → Shared → Prop), Takes (X.tr pn xe) W' → PassesOwn (model X.prog X.w) X.A X.env xe → Ess K (X.tr pn xe) W' body fb)
    (hsu : ∀ (a : Addr) (pn : List (Addr × Obj)), Ess K (X.suite a pn) W0 (b₀ :: suite) fs) :
    Es K X W (.Try body [.ExceptHandler (some (.Name x np)) (some n) (b₀ :: suite) pos'] [] [] pos) (sTry isa i fb fs) := by
  subst hK
  refine ⟨_, ps_try_tr (tb := fun W' => tsOf X.K W' fb) hex hs hf hN hi hln hc tk (fun W' pn xe tk' po => (hb W' pn xe tk' po).canon) (fun a pn => (hsu a pn).canon), fun b m ow H σ e S D t z => ?_⟩
  refine ⟨b, m, ow, e, S, t, ?_⟩
  unfold sTry at z
  cases r : fb e S with
  | nx e' S' => rw [r] at z; exact z
  | rt d S' => rw [r] at z; exact z
  | bk e' S' => rw [r] at z; exact z
  | ct e' S' => rw [r] at z; exact z
  | no => rw [r] at z; exact z
  | er ex e1 S1 =>
    rw [r] at z
    dsimp only at z
    intro cls d σ' m' ow' H' t' l rx
    cases q : isa.lookup ex.c with
    | none => rw [q] at z; exact z.elim
    | some bb =>
      rw [q] at z
      have hx := ok _ (lookup_mem q)
      obtain ⟨ec, a0, gs, ed, hz0, hH0, rF⟩ := rx
      subst ec
      cases bb with
      | false => exact ⟨false, hx, (fun z => nomatch z), fun _ => z _ d σ' m' ow' H' t' l ⟨rfl, a0, gs, ed, hz0, hH0, rF⟩⟩
      | true =>
        refine ⟨true, hx, fun _ a ha => ?_, fun z => nomatch z⟩
        dsimp only at z
        split at z
        · rename_i hno
          have s : Same H' (L2.upd H' a (exK (.ref (He.ga X.K ex.c)) d a)) := same_mut (Same.refl _) ha
          have t2 := t'.same s
          have rE : Rep (wo X.K b.B m' ow' (L2.upd H' a (exK (.ref (He.ga X.K ex.c)) d a))) (.exc ex.c ex.fs) (.ref a) := by
            unfold Rep
            subst ed
            exact ⟨a, a0, gs, rfl, fun z => t'.cells.full a z (.none ha), upd_same, hz0, s _ _ hH0, RepF.le (Fut.same s).le _ rF⟩
          refine ⟨b, m', ow', _, S1, t2.set' hno rE, ?_⟩
          have l2 := l.trans (Fut.same s).le
          cases r2 : fs (e1.set i (.val (.exc ex.c ex.fs))) S1 with
          | nx e2 S2 =>
            rw [r2] at z
            dsimp only at z
            split at z
            · rename_i hno2
              exact fun σ3 m3 ow3 H3 t3 l3 => z _ m3 ow3 H3 (t3.clear' hno2 none) (l2.trans l3)
            · exact z.elim
          | rt d S2 => rw [r2] at z; exact z
          | bk e' S' => rw [r2] at z; exact z.elim
          | ct e' S' => rw [r2] at z; exact z.elim
          | er x' e' S' => rw [r2] at z; exact z.elim
          | no => rw [r2] at z; exact z.elim
        · exact z.elim
end
/-! ### lambdas handed to a def that calls them -/
section
variable {X : Cx}
/-- a() in the def that got the lambda, what is raised wished for at that def's slots -/
theorem pe_actW {pins : List (Addr × Obj)} {σ : L2.St} {H : Hp} {s : Shared} {CXg : CXT} {Eg : XK} {Ng : List Str} {qg : Str} {sg : Scope} {g f c' : Addr} {cdg pm ctv : Value} {params : Arguments} {body : Expr} {scope : Scope} {k i : Nat} {a : Str} {pn : List (Addr × Obj)} {xe : Value → Shared → Prop} {W : WX} {tb : XK → TE} {p1 p2 : Pos}
    (I : Inv X pins σ H s) (L : LamX.LamS X.env.scope scope) (hf : s.heap.get? f = some (PySem.W.kla_obj "<lambda>" (X.env.qual ++ "<lambda>") params body scope (cloFrom X.env.cells scope.names []) pm c' ctv)) (hfn : H f = none) (hfr : f ∉ frs X.stack)
    (hbind : bindArgs (PySem.W.kla_fn "<lambda>" (X.env.qual ++ "<lambda>") params body scope (cloFrom X.env.cells scope.names []) pm (.ref c') ctv) ⟨[], []⟩ = pure [])
    (tk : Takes ((cxOf CXg X.prog X.w X.K X.mg X.base Ng qg sg g cdg X.A X.stack s H Eg).tr pn xe) W) (hr : Room (k + 1) (X.A.deeper (envOfC qg sg s.heap.objs.size g cdg)))
    (hbody : ∀ (A : Around) (outer : List Env) (s : Shared) (H : Hp) (E : XK), Room k (A.deeper (LamX.lamEnv X scope s.heap.objs.size f c')) → PE (LamX.lamCx X A outer s H E scope f c') body (tb E))
    (hN : Ng[i]? = some a) (hv : Vis sg a) (hd : (a == ("__debug__" : Str)) = false := by decide) (hcd : (a == ("__classdict__" : Str)) = false := by decide) :
    PE ((cxOf CXg X.prog X.w X.K X.mg X.base Ng qg sg g cdg X.A X.stack s H Eg).tr pn xe) (.Call (.Name a p1) [] [] p2)
      (fun σZ HZ Q => σZ[i]? = some (some (.ref f)) ∧ HZ c' = some (LamX.CodeO c' (X.env.qual ++ "<lambda>")) ∧ tb (WE W σZ) σ HZ Q) := by
  refine ⟨fun pinsZ sZ σZ HZ Q IZ ⟨hs, hc, ht⟩ => wpAny_Call_Name_kw (thn ((pe_var (pos := p1) (i := i) hN hv hd hcd).run pinsZ sZ σZ HZ (fun v H1 => v = .ref f ∧ H1 = HZ) IZ ⟨.ref f, hs, rfl, rfl⟩) ?_)⟩
  rintro u s1 ⟨v, H1, I1, r1, rfl, rfl⟩
  obtain rfl : u = Value.ref f := r1
  have of1 := I1.base.keep f _ hf hfn hfr (List.not_mem_nil)
  obtain ⟨⟨oc, vs, t, hoc, hdc, hvc⟩, _, _⟩ := I1.hok c' _ hc
  have here : codeAny (model X.prog X.w) (X.A.deeper (envOfC qg sg s.heap.objs.size g cdg)) (.call (.ref f) ⟨[], []⟩) (CR (L2.CX X.prog X.w) (envOfC qg sg s.heap.objs.size g cdg :: X.stack) X.prog X.w H1 s1 Q (WE W σZ)) s1 := by
    refine PySem.W.kla_callFunE hr.depth of1 rfl L.co L.gen rfl ⟨c', oc, vs, t, rfl, hoc, hdc, hvc⟩ ?_
    rw [hbind]
    refine wpAny_pure (wpAny_newFunctionEnv (fun y hy => (L.own y hy).2) (fun y hy => absurd hy (by simp)) (fun h₁ hns hsb => ⟨I1.nolimit.fresh _ hsb, ?_⟩) L.kind)
    have J : Inv (LamX.lamCx X (X.A.deeper (envOfC qg sg s.heap.objs.size g cdg)) (envOfC qg sg s.heap.objs.size g cdg :: X.stack) s1 H1 (WE W σZ) scope f c') [] σ H1 { s1 with heap := h₁, toks := s1.toks + ([] : List (Str × Value)).length } :=
      LamX.lam_start2 I L I1.env0 hr.hd I1.base hns fun b o e => hsb.extBut b o (Nat.ne_of_lt (Heap.lt_size e)) (Heap.get?_push_of_some _ e)
    show codeAny _ _ (.expr body (LamX.lamEnv X scope s1.heap.objs.size f c')) _ _
    refine PySem.W.kla_codeExpr (wpAny_mono ((hbody _ _ s1 H1 (WE W σZ) (hr.deeper _)).run [] _ _ H1 Q J ht) ?_ fun e s' hq => hq)
    rintro v s' ⟨w', H', J', rv, q⟩
    exact ⟨w', H', J'.os, J'.bare, J'.base, J'.hok, rv, q⟩
  refine PySem.W.callWith_F0 ⟨_, _, _, _, of1⟩ (wpAny_call (codeAny_mono here fun r s' hq => ?_))
  match r, hq with
  | .error e, hq => exact passAt tk σZ pinsZ _ s1 e s' I1 hq
  | .ok (.ret u), hq => exact I1.after hq
  | .ok .next, hq => exact False.elim hq
  | .ok .brk, hq => exact False.elim hq
  | .ok .cont, hq => exact False.elim hq
/-- a def that calls the lambda it got; TT: what it makes of the lambda's reading -/
def GivesW (X : Cx) (Ng : List Str) (x : Str) (sg : Scope) (g : Addr) (cdg : Value) (bg : List Stmt) (a : Str) (q : Str) (TT : (XK → Hp → VK → Prop) → Hp → VK → Prop) : Prop :=
  ∀ (f c' : Addr) (s : Shared) (H : Hp) (Q : VK) (tl : XK → Hp → VK → Prop),
    (∀ (W : WX) (pn : List (Addr × Obj)) (xe : Value → Shared → Prop) (p1 p2 : Pos), Takes ((cxOf C8.CX0 X.prog X.w X.K X.mg X.base Ng x sg g cdg X.A X.stack s H C8.E0).tr pn xe) W →
      PE ((cxOf C8.CX0 X.prog X.w X.K X.mg X.base Ng x sg g cdg X.A X.stack s H C8.E0).tr pn xe) (.Call (.Name a p1) [] [] p2) (fun σZ HZ Q => σZ[0]? = some (some (.ref f)) ∧ HZ c' = some (LamX.CodeO c' q) ∧ tl (WE W σZ) HZ Q)) →
    H c' = some (LamX.CodeO c' q) → TT tl H Q →
    ∃ t, PSs (cxOf C8.CX0 X.prog X.w X.K X.mg X.base Ng x sg g cdg X.A X.stack s H C8.E0).nox bg t ∧ t { nx := fun _ H' => Q .non H', rt := Q } (L2.start Ng [.ref f]) H
theorem pe_lamW {T : List (Addr × Str)} {TT : (XK → Hp → VK → Prop) → Hp → VK → Prop} {x a : Str} {g c P : Addr} {k : Nat} {pg : Arguments} {bg : List Stmt} {sg : Scope} {dV kV doc pm cdv ct oc : Value} {an od : Option Addr} {osl : Array (Option Value)} {Ng : List Str}
    {params : Arguments} {body : Expr} {scope : Scope} {t : XK → TE} {p lpos pos : Pos} (hg : Gl X x) (hm : X.mg x = some (.ref g)) (hk : PySem.W.keepIn X.K (.ref g) = true)
    (lk : X.K.lookup g = some ⟨oc, od, .func (PySem.W.fnOf x x pg bg sg dV kV doc pm an cdv ct), osl⟩) (hcg : PySem.W.codeIn X.K cdv x = true) (hb : L2.Binds X.K (PySem.W.fnOf x x pg bg sg dV kV doc pm an cdv ct) [a] []) (Sg : FnScope Ng [a] sg) (hNg : Ng[0]? = some a) (hva : Vis sg a)
    (hG : GivesW X Ng x sg g cdv bg a (X.env.qual ++ "<lambda>") TT)
    (TB : LamX.TabB X.base X.mg c P) (hcode : X.env.code = .ref c) (hmT : (P, X.env.qual ++ "<lambda>") ∈ T) (hu : ∀ p ∈ T, p.1 = P → p.2 = X.env.qual ++ "<lambda>") (hr : Room (k + 2) X.A) (L : LamX.LamS X.env.scope scope) (hdef : defaultsOf params X.env = ([], []))
    (hbind : ∀ (q : Str) (cl : List (Str × Addr)) (pm cv ctv : Value), bindArgs (PySem.W.kla_fn "<lambda>" q params body scope cl pm cv ctv) ⟨[], []⟩ = pure [])
    (hbody : ∀ (A : Around) (outer : List Env) (s : Shared) (H : Hp) (E : XK) (f c' : Addr), Room k (A.deeper (LamX.lamEnv X scope s.heap.objs.size f c')) → PE (LamX.lamCx X A outer s H E scope f c') body (t E))
    (hdb : (x == ("__debug__" : Str)) = false := by decide) (hd : (a == ("__debug__" : Str)) = false := by decide) (hcd : (a == ("__classdict__" : Str)) = false := by decide) :
    PE X (.Call (.Name x p) [.Lambda params body scope lpos] [] pos) (LamX.tLam T TT t) := by
  refine ⟨fun pins s σ H Q I ⟨hT, h⟩ => wpAny_Call_Name_kw (ld_glob I hg hm (PySem.W.callWith_K (h₀ := X.base) I.ok.mod.kin hk ?_ (by rfl) (by rfl)) hdb)⟩
  show wpAny _ _ (spliced ((false, eval (.Lambda params body scope lpos) X.env) :: backTo pos (starEach [] X.env))) _ _ s
  refine Calls.spliced_cons (LamX.lam_make2 I TB hcode hmT hu hT hdef (L.has I.ok) fun f c' pm' ctv H1 s' I1 eN T1 hf hfn hfr hco => Calls.spliced_nil ⟨I1.kIn, wpAny_call (codeAny_mono (R := CR C8.CX0 X.stack X.prog X.w H1 s' Q C8.E0) ?_ fun r s2 hq => ?_)⟩)
  · refine LamX.run_ofS (N := Ng) (ps := [a]) (us := [.ref f]) (vs := [.ref f]) lk hcg Sg hr I1.env0 (hb s' [.ref f] I1.kIn rfl) (.cons rfl .nil) rfl fun hr' => ?_
    obtain ⟨t', ht', hq'⟩ := hG f c' s' H1 Q (fun E H' Q' => t E σ H' Q') (fun W pn xe p1 p2 tk => pe_actW (i := 0) I1 L hf hfn hfr (hbind _ _ _ _ _) tk hr' (fun A outer s H E hr2 => hbody A outer s H E f c' hr2) hNg hva hd hcd) hco (h H1 eN T1)
    exact ⟨t', ht'.nox, hq'⟩
  · match r, hq with
    | .error e, hq => exact (show False from hq).elim
    | .ok (.ret u), hq => exact I1.after hq
    | .ok .next, hq => exact False.elim hq
    | .ok .brk, hq => exact False.elim hq
    | .ok .cont, hq => exact False.elim hq
end
/-! ### .. as pictures -/
def noOwn (e : En) : Bool := e.all fun s => match s with
  | .own _ => false
  | _ => true
/-- the lambda's call -/
def eAct (f : Addr) (th : Store → R D) (e : En) (S : Store) : R D := match (e[0]? : Option Sl) with
  | some (Sl.val (.adr g)) => if g = f ∧ noOwn e = true then th S else .no
  | _ => .no
/-- x(lambda: f) -/
def eLam (heard : Addr → (Store → R D) → Store → R D) (f : Sx D) (e : En) (S : Store) : R D := (heard 0 (fun S1 => f e S1) S).clean
/-- what a def makes of a lambda -/
def runL (k : Nat) (f : Addr → (Store → R D) → Sy) (a : Addr) (th : (Store → R D)) (S : Store) : R D := (f a th (.val (.adr a) :: List.replicate k .no) S).res
def TTsh (K : PySem.W.Frag) (heard : Addr → (Store → R D) → Store → R D) : (XK → Hp → VK → Prop) → Hp → VK → Prop := fun tl H Q => ∃ B m S th, Cells K B m [] H S ∧
  (∀ (E : XK) (B' : Addr → Prop) m' H' S' Q', (∀ a, B a → B' a) → (∀ a, B' a → B a ∨ Fr H a) → Fut m H m' H' → Cells K B' m' [] H' S' → Post K B' [] m' H' Rep (fun c d => E c d) Q' (th S') → tl E H' Q') ∧ ∀ f, Post K B [] m H Rep (fun _ _ _ => False) Q (heard f th S)
section
variable {K : PySem.W.Frag} {B1 B2 : Addr → Prop} {m : List Addr} {o1 o2 : List (Option Addr)} {H : Hp} {S : Store}
/-- the same addresses, hidden or owned in another way -/
structure Swap (B1 : Addr → Prop) (o1 : List (Option Addr)) (B2 : Addr → Prop) (o2 : List (Option Addr)) : Prop where
  eq : ∀ a, (B1 a ∨ some a ∈ o1) ↔ (B2 a ∨ some a ∈ o2)
  dis : ∀ a, some a ∈ o2 → ¬ B2 a
  od : ∀ (i j : Nat) (a : Addr), o2[i]? = some (some a) → o2[j]? = some (some a) → i = j
theorem Swap.zf (w : Swap B1 o1 B2 o2) : zf B1 m o1 = zf B2 m o2 := by
  funext a
  unfold Sh.zf
  have := w.eq a
  apply propext
  constructor
  · rintro (h | h | h)
    · rcases this.mp (.inl h) with h | h
      · exact .inl h
      · exact .inr (.inr h)
    · exact .inr (.inl h)
    · rcases this.mp (.inr h) with h | h
      · exact .inl h
      · exact .inr (.inr h)
  · rintro (h | h | h)
    · rcases this.mpr (.inl h) with h | h
      · exact .inl h
      · exact .inr (.inr h)
    · exact .inr (.inl h)
    · rcases this.mpr (.inr h) with h | h
      · exact .inl h
      · exact .inr (.inr h)
theorem Swap.wo (w : Swap B1 o1 B2 o2) : wo K B1 m o1 H = wo K B2 m o2 H := by
  show (⟨K, Sh.zf B1 m o1, m, H⟩ : Wo) = ⟨K, Sh.zf B2 m o2, m, H⟩
  rw [w.zf]
theorem Cells.swap (c : Cells K B1 m o1 H S) (w : Swap B1 o1 B2 o2) : Cells K B2 m o2 H S :=
  ⟨fun a h => ((w.eq a).mpr (.inl h)).elim (c.hB a) (c.oh a), c.nd, fun a h q => ((w.eq a).mpr (.inr q)).elim (c.nB a (.inl h)) (c.no a h), fun a h q => h.elim (fun h => ((w.eq a).mpr (.inl q)).elim (c.nB a (.inl h)) (c.no a h)) fun h => w.dis a h q, w.od, fun a h => ((w.eq a).mpr (.inr h)).elim (c.hB a) (c.oh a), c.len,
    fun n a x h1 h2 => by rw [← w.wo]; exact c.cs n a x h1 h2, c.tb⟩
theorem Post.swap {α β : Type} {RP : Wo → β → α → Prop} {W : Value → Option Addr → Hp → Prop} {Q : α → Hp → Prop} {r : R β} (h : Post K B1 o1 m H RP W Q r) (w : Swap B1 o1 B2 o2) (w' : Swap B2 o2 B1 o1) : Post K B2 o2 m H RP W Q r := by
  cases r with
  | ok y S1 => exact fun a m1 H1 f1 c1 r1 => h a m1 H1 f1 (c1.swap w') (by rw [w.wo]; exact r1)
  | er x S1 => exact fun a d m1 H1 f1 c1 r1 => h a d m1 H1 f1 (c1.swap w') (by rw [w.wo]; exact r1)
  | no => exact h
end
theorem no_own {K : PySem.W.Frag} {b : Bs} {m : List Addr} {ow : List (Option Addr)} {H : Hp} {σ : L2.St} {e : En} {S : Store} (t : At K b m ow H σ e S) (h : noOwn e = true) : ∀ a, some a ∉ ow := fun a ha => by
  obtain ⟨i, hi⟩ := List.mem_iff_getElem?.mp ha
  obtain ⟨c, hc⟩ := t.oe i a hi
  have := List.all_eq_true.mp h _ (List.mem_of_getElem? hc)
  cases this
theorem swap_nil {B : Addr → Prop} {ow : List (Option Addr)} (h : ∀ a, some a ∉ ow) : Swap B ow B [] ∧ Swap B [] B ow :=
  ⟨⟨fun a => ⟨fun q => q.elim .inl fun q => (h a q).elim, fun q => q.elim .inl fun q => (List.not_mem_nil q).elim⟩, fun a q => (List.not_mem_nil q).elim, fun i j a q => by simp at q⟩,
    ⟨fun a => ⟨fun q => q.elim .inl fun q => (List.not_mem_nil q).elim, fun q => q.elim .inl fun q => (h a q).elim⟩, fun a q => (h a q).elim, fun i j a q => (h a (List.mem_of_getElem? q)).elim⟩⟩
theorem x_act [ib : BasePred] {X : Cx} {W : WX} {f c' : Addr} {q : Str} {th : Store → R D} {K : PySem.W.Frag} {B : Addr → Prop} {m : List Addr} {H : Hp} {S : Store} {tl : XK → Hp → VK → Prop} {a : Str} {p1 p2 : Pos} (c : Cells K B m [] H S) (hc : H c' = some (LamX.CodeO c' q))
    (ok : ∀ (E : XK) (B' : Addr → Prop) m' H' S' Q', (∀ a, B a → B' a) → (∀ a, B' a → B a ∨ Fr H a) → Fut m H m' H' → Cells K B' m' [] H' S' → Post K B' [] m' H' Rep (fun c d => E c d) Q' (th S') → tl E H' Q')
    (hΦ : ∀ b, ib.Φ b → b.m0 = m ∧ b.H0 = H ∧ (∀ a, B a → b.B a) ∧ ∀ a, b.B a → B a ∨ Fr H a)
    (pe : PE X (.Call (.Name a p1) [] [] p2) (fun σZ HZ Q => σZ[0]? = some (some (.ref f)) ∧ HZ c' = some (LamX.CodeO c' q) ∧ tl (WE W σZ) HZ Q)) : Ev K X W (.Call (.Name a p1) [] [] p2) (eAct f th) := by
  refine ⟨_, pe, fun b m' ow H' σ e S' Q t z => ?_⟩
  unfold eAct at z
  split at z
  · rename_i g he
    split at z
    · rename_i hg
      obtain ⟨rfl, hno⟩ := hg
      obtain ⟨v, h1, h2⟩ := t.slots 0 _ he
      unfold Rep at h2
      subst h2
      obtain ⟨e1, e2, e3, e4⟩ := hΦ b t.ph
      have fut := t.fut
      rw [e1, e2] at fut
      obtain ⟨w1, w2⟩ := swap_nil (B := b.B) (no_own t hno)
      refine ⟨h1, fut.keep c' _ hc (fun ps z => by unfold LamX.CodeO at z; cases z) fun hm => ?_, ok _ b.B m' H' S' Q e3 e4 fut (t.cells.swap w1) (z.swap w1 w2)⟩
      obtain ⟨n, hn⟩ := List.mem_iff_getElem?.mp hm
      obtain ⟨o, ho, _, n2⟩ := (c.cs n c' _ hn (List.getElem?_eq_getElem (by rw [← c.len]; exact (List.getElem?_eq_some_iff.mp hn).1))).some
      have ho : H c' = some o := ho
      rw [hc] at ho
      exact n2 _ (Option.some.inj ho).symm
    · exact z.elim
  · exact z.elim
/-- a def that calls the lambda it got, by its picture -/
theorem gives_sh {X : Cx} {Ng : List Str} {x a q : Str} {sg : Scope} {g : Addr} {cdg : Value} {bg : List Stmt} {k : Nat} {fb : Addr → (Store → R D) → Sy} (hN : Ng.length = 1 + k)
    (hb : ∀ [BasePred] (f : Addr) (th : Store → R D) (s : Shared) (H : Hp), (∀ (W : WX) (pn : List (Addr × Obj)) (xe : Value → Shared → Prop) (p1 p2 : Pos), Takes ((cxOf C8.CX0 X.prog X.w X.K X.mg X.base Ng x sg g cdg X.A X.stack s H C8.E0).tr pn xe) W →
        Ev X.K ((cxOf C8.CX0 X.prog X.w X.K X.mg X.base Ng x sg g cdg X.A X.stack s H C8.E0).tr pn xe) W (.Call (.Name a p1) [] [] p2) (eAct f th)) →
      Ess X.K (cxOf C8.CX0 X.prog X.w X.K X.mg X.base Ng x sg g cdg X.A X.stack s H C8.E0).nox W0 bg (fb f th)) : GivesW X Ng x sg g cdg bg a q (TTsh X.K (runL k fb)) := by
  intro f c' s H Q tl act hc ⟨B, m, S, th, c, ok, h⟩
  let ib : BasePred := ⟨fun b => b.m0 = m ∧ b.H0 = H ∧ (∀ a, B a → b.B a) ∧ ∀ a, b.B a → B a ∨ Fr H a, fun b p hp ⟨e1, e2, e3, e4⟩ => ⟨e1, e2, fun a h => .inl (e3 a h), fun a h => h.elim (e4 a) fun h => .inr (by rw [h, ← e2]; exact hp)⟩⟩
  obtain ⟨ts, p1, h1⟩ := (@hb ib f th s H fun W pn xe p1 p2 tk => x_act (ib := ib) c hc ok (fun b h => h) (act W pn xe p1 p2 tk)).run
  refine ⟨ts, p1, ?_⟩
  have q := h f
  have st := start_at (N := Ng) (n := 1) (k := k) (ds := [.adr f]) (vs := [.ref f]) (show ib.Φ ⟨B, m, H, none⟩ from ⟨rfl, rfl, fun _ h => h, fun _ h => .inl h⟩) hN rfl c (reps_cons (by unfold Rep; rfl) reps_nil)
  refine h1 ⟨B, m, H, none⟩ m (List.replicate (1 + k) none) H _ _ S _ st ?_
  unfold runL at q
  have none_mem : ∀ a : Addr, some a ∉ ([] : List (Option Addr)) := fun a h => List.not_mem_nil h
  have drop : ∀ {m' : List Addr} {ow' : List (Option Addr)} {H' : Hp} {S' : Store}, Cells X.K B m' ow' H' S' → Cells X.K B m' [] H' S' := fun c => c.sub (fun a h => (none_mem a h).elim) fun i j a h => by simp at h
  show PostS X.K _ _ W0 _ (fb f th (.val (.adr f) :: List.replicate k .no) S)
  generalize fb f th (.val (.adr f) :: List.replicate k .no) S = rs at q ⊢
  cases rs with
  | nx e' S' => exact fun σ' m' ow' H' t l => q .non m' H' t.fut (drop t.cells) rep_non
  | rt d S' => exact fun v m' ow' H' c' f' _ r' => q v m' H' f' (drop c') (Rep.le (le_ow fun a h => (none_mem a h).elim) d r')
  | er x e' S' => exact fun c d σ' m' ow' H' t l rx => q c d m' H' t.fut (drop t.cells) (ExR.le (le_ow fun a h => (none_mem a h).elim) rx)
  | bk e' S' => exact q.elim
  | ct e' S' => exact q.elim
  | no => exact q.elim
theorem x_lam {X : Cx} {W : WX} {K : PySem.W.Frag} {heard : Addr → (Store → R D) → Store → R D} {fb : Sx D} {x a : Str} {g c P : Addr} {k : Nat} {pg : Arguments} {bg : List Stmt} {sg : Scope} {dV kV doc pm cdv ct oc : Value} {an od : Option Addr} {osl : Array (Option Value)} {Ng : List Str}
    {params : Arguments} {body : Expr} {scope : Scope} {p lpos pos : Pos} (hK : X.K = K) (hφ : ∀ b, BasePred.Φ b) (hpar : ∀ f th S, heard f th S = heard 0 th S) (hg : Gl X x) (hm : X.mg x = some (.ref g)) (hk : PySem.W.keepIn X.K (.ref g) = true)
    (lk : X.K.lookup g = some ⟨oc, od, .func (PySem.W.fnOf x x pg bg sg dV kV doc pm an cdv ct), osl⟩) (hcg : PySem.W.codeIn X.K cdv x = true) (hb : L2.Binds X.K (PySem.W.fnOf x x pg bg sg dV kV doc pm an cdv ct) [a] []) (Sg : FnScope Ng [a] sg) (hNg : Ng[0]? = some a) (hva : Vis sg a)
    (hG : GivesW X Ng x sg g cdv bg a (X.env.qual ++ "<lambda>") (TTsh X.K heard))
    (TB : LamX.TabB X.base X.mg c P) (hcode : X.env.code = .ref c) (hmT : (P, X.env.qual ++ "<lambda>") ∈ TabSet.TS K) (hu : ∀ p ∈ TabSet.TS K, p.1 = P → p.2 = X.env.qual ++ "<lambda>") (hr : Room (k + 2) X.A) (L : LamX.LamS X.env.scope scope) (hdef : defaultsOf params X.env = ([], []))
    (hbind : ∀ (q : Str) (cl : List (Str × Addr)) (pm cv ctv : Value), bindArgs (PySem.W.kla_fn "<lambda>" q params body scope cl pm cv ctv) ⟨[], []⟩ = pure [])
    (hbody : ∀ (A : Around) (outer : List Env) (s : Shared) (H : Hp) (E : XK) (f c' : Addr), Room k (A.deeper (LamX.lamEnv X scope s.heap.objs.size f c')) → Ev K (LamX.lamCx X A outer s H E scope f c') (fun c d _ H => E c d H) body fb)
    (hdb : (x == ("__debug__" : Str)) = false := by decide) (hd : (a == ("__debug__" : Str)) = false := by decide) (hcd : (a == ("__classdict__" : Str)) = false := by decide) :
    Ev K X W (.Call (.Name x p) [.Lambda params body scope lpos] [] pos) (eLam heard fb) := by
  subst hK
  refine ⟨_, pe_lamW (T := TabSet.TS X.K) (t := fun E => teOf X.K (fun c d _ H => E c d H) fb) hg hm hk lk hcg hb Sg hNg hva hG TB hcode hmT hu hr L hdef hbind (fun A outer s H E f c' hr' => (hbody A outer s H E f c' hr').canon) hdb hd hcd, fun b m ow H σ e S Q t q => ⟨t.cells.tb, fun H1 x1 tb1 => ?_⟩⟩
  have t1 := t.ext x1 tb1
  unfold eLam at q
  refine ⟨hidB b.B ow, m, S, fun S1 => fb e S1, t1.cells.toHid, fun E B' m' H' S' Q' h1 h2 f' c' q' => ?_, fun f => ?_⟩
  · have mem : ∀ a, some a ∈ ow → B' a := fun a h => h1 a (.inr h)
    have w1 : Swap B' [] (fun a => B' a ∧ some a ∉ ow) ow := ⟨fun a => ⟨fun h => h.elim (fun h => (Classical.em (some a ∈ ow)).elim .inr fun n => .inl ⟨h, n⟩) fun h => (List.not_mem_nil h).elim, fun h => h.elim (fun h => .inl h.1) fun h => .inl (mem a h)⟩, fun a h z => z.2 h, t1.cells.od⟩
    have w2 : Swap (fun a => B' a ∧ some a ∉ ow) ow B' [] := ⟨fun a => (w1.eq a).symm, fun a h => (List.not_mem_nil h).elim, fun i j a h => by simp at h⟩
    have le : Le (wo X.K b.B m ow H1) (wo X.K (fun a => B' a ∧ some a ∉ ow) m' ow H') := by
      have l0 : Le (wo X.K b.B m ow H1) (wo X.K b.B m' ow H') := f'.le
      refine ⟨rfl, fun y o ey n z => ?_, l0.m, l0.keep⟩
      rintro (⟨h, h3⟩ | h | h)
      · rcases h2 y h with (h | h) | h
        · exact z (.inl h)
        · exact h3 h
        · exact h.no ey n
      · exact l0.z y o ey n z (.inr (.inl h))
      · exact z (.inr (.inr h))
    refine ⟨⟨fun a => B' a ∧ some a ∉ ow, b.m0, b.H0, b.sf⟩, m', ow, e, S', ⟨c'.swap w1, t1.len, fun i s hs => ?_, t1.fut.trans f', t1.new, t1.oe, t1.sf, hφ _⟩, q'.swap w1 w2⟩
    have h := t1.slots i s hs
    cases s with
    | no => exact True.intro
    | val d => obtain ⟨v, g1, g2⟩ := h; exact ⟨v, g1, Rep.le le d g2⟩
    | own y =>
      obtain ⟨a, g1, g2, g3⟩ := h
      exact ⟨a, g1, g2, g3.le le fun o eo n => f'.keep a o eo n fun hm => t1.cells.no a hm (List.mem_of_getElem? g2)⟩
  · rw [hpar f]
    have q2 := (q.go (fut_ext (m := m) x1)).toHid t1.cells
    exact q2.clean
end Sh

/-! Sh14: operators, len, str of own objects; fields and classes of caught errors; what is made as a cell. -/
namespace Sh
open PySem PySem.Spec PyProof.Rows L2 Nk StX
variable [TabSet] [BasePred]
/-! ### types of values -/
def D.tyIn (bi cs : List String) (S : Store) : D → Bool
  | .non => bi.contains "NoneType"
  | .bl _ => bi.contains "bool"
  | .int _ => bi.contains "int"
  | .str _ => bi.contains "str"
  | .lst _ => bi.contains "list"
  | .scr _ => bi.contains "list"
  | .tup _ => bi.contains "tuple"
  | .dk _ => bi.contains "dict"
  | .dt _ => bi.contains "dict"
  | .obj c _ => cs.contains c
  | .ref n => match S[n]? with
    | some (.ins c _) => cs.contains c
    | _ => false
  | _ => false
structure TyOk (K : PySem.W.Frag) (P : Value → Prop) (bi cs : List String) : Prop where
  b : ∀ t ∈ bi, P (.type t)
  o : ∀ c ∈ cs, Cls K (He.ga K c) ∧ InsC K (He.ga K c) ∧ P (.ref (He.ga K c))
theorem to_nil {K : PySem.W.Frag} {P : Value → Prop} : ∀ c ∈ ([] : List String), Cls K (He.ga K c) ∧ InsC K (He.ga K c) ∧ P (.ref (He.ga K c)) := fun _ h => nomatch h
theorem to_cons {K : PySem.W.Frag} {P : Value → Prop} {c : String} {cs : List String} (h1 : Cls K (He.ga K c)) (h2 : InsC K (He.ga K c)) (h3 : P (.ref (He.ga K c))) (h : ∀ c ∈ cs, Cls K (He.ga K c) ∧ InsC K (He.ga K c) ∧ P (.ref (He.ga K c))) : ∀ x ∈ c :: cs, Cls K (He.ga K x) ∧ InsC K (He.ga K x) ∧ P (.ref (He.ga K x)) := fun d hd => by
  rcases List.mem_cons.mp hd with rfl | hd
  · exact ⟨h1, h2, h3⟩
  · exact h d hd
section
variable {K : PySem.W.Frag} {B : Addr → Prop} {m : List Addr} {ow : List (Option Addr)} {H : Hp} {S : Store}
theorem ty_at {P : Value → Prop} {bi cs : List String} {d : D} {v : V} (ok : TyOk K P bi cs) (t : Cells K B m ow H S) (r : Rep (wo K B m ow H) d v) (h : d.tyIn bi cs S = true) : ∃ T, TyX K H v T ∧ P T := by
  cases d <;> unfold D.tyIn at h <;> try cases h
  case non => unfold Rep at r; subst r; exact ⟨_, .base .non, ok.b _ (by simpa using h)⟩
  case bl => cases rep_blD r; exact ⟨_, .base (.bl _), ok.b _ (by simpa using h)⟩
  case int => cases rep_intD r; exact ⟨_, .base (.int _), ok.b _ (by simpa using h)⟩
  case str => obtain ⟨rfl, _⟩ := rep_strD r; exact ⟨_, .base (.str _), ok.b _ (by simpa using h)⟩
  case tup =>
    obtain ⟨a, vs, rfl, t, _⟩ := rep_tree r
    obtain ⟨t, _⟩ := t
    rcases t with ⟨_, t | ⟨o, t⟩⟩ | ⟨o, its, n, t, c, _⟩
    · exact ⟨_, .base (.tup t), ok.b _ (by simpa using h)⟩
    · exact ⟨_, .fTuple t, ok.b _ (by simpa using h)⟩
    · exact ⟨_, .kTuple t c, ok.b _ (by simpa using h)⟩
  case lst => obtain ⟨a, vs, rfl, t, _⟩ := rep_list r; exact ⟨_, .base (.lst t.2.1), ok.b _ (by simpa using h)⟩
  case scr =>
    unfold Rep at r
    obtain ⟨a, vs, rfl, ⟨t, _⟩, _⟩ := r
    rcases t with ⟨_, t | ⟨o, t⟩⟩ | ⟨o, its, n, t, c, _⟩
    · exact ⟨_, .base (.lst t), ok.b _ (by simpa using h)⟩
    · exact ⟨_, .base (.frz t), ok.b _ (by simpa using h)⟩
    · exact ⟨_, .kList t c, ok.b _ (by simpa using h)⟩
  case dk => unfold Rep at r; obtain ⟨a, vs, rfl, _, t, _⟩ := r; exact ⟨_, .base (.dK t), ok.b _ (by simpa using h)⟩
  case dt => unfold Rep at r; obtain ⟨a, vs, rfl, _, t, _⟩ := r; exact ⟨_, .base (.dT t), ok.b _ (by simpa using h)⟩
  case obj c fs =>
    unfold Rep at r
    obtain ⟨a, dx, gs, rfl, _, t, _⟩ := r
    obtain ⟨h1, h2, h3⟩ := ok.o c (by simpa using h)
    exact ⟨_, .base (.ins t h1 h2.ha h2.hn h2.ht h2.hm), h3⟩
  case ref n =>
    unfold Rep at r
    obtain ⟨a, rfl, hm⟩ := r
    cases s : S[n]? with
    | none => simp only [s] at h; cases h
    | some x =>
      cases x <;> simp only [s] at h <;> try cases h
      rename_i c fs
      obtain ⟨dx, gs, hH, r⟩ := cell_ins t hm s
      obtain ⟨h1, h2, h3⟩ := ok.o c (by simpa using h)
      exact ⟨_, .base (.ins hH h1 h2.ha h2.hn h2.ht h2.hm), h3⟩
def D.isO (c : String) (S : Store) : D → Bool
  | .obj c' _ => c' == c
  | .ref n => match S[n]? with
    | some (.ins c' _) => c' == c
    | _ => false
  | _ => false
theorem isO_at {c : String} {d : D} {v : V} (t : Cells K B m ow H S) (r : Rep (wo K B m ow H) d v) (h : d.isO c S = true) : ∃ a dx fs, v = .ref a ∧ H a = some (.ins (He.ga K c) dx fs) := by
  cases d <;> unfold D.isO at h <;> try cases h
  · rename_i c' fs
    simp only [beq_iff_eq] at h
    unfold Rep at r
    obtain ⟨a, dx, gs, rfl, _, hH, r⟩ := r
    exact ⟨a, dx, gs, rfl, h ▸ hH⟩
  · rename_i n
    unfold Rep at r
    obtain ⟨a, rfl, hm⟩ := r
    cases s : S[n]? with
    | none => simp only [s] at h; cases h
    | some x =>
      cases x <;> simp only [s] at h <;> try cases h
      rename_i c' fs
      simp only [beq_iff_eq] at h
      obtain ⟨dx, gs, hH, r⟩ := cell_ins t hm s
      exact ⟨a, dx, gs, rfl, h ▸ hH⟩
end
/-! ### x op y by an own method -/
def eBo (c : String) (bi cs : List String) (F : List D → Store → R D) (f g : Sx D) (e : En) (S : Store) : R D := (f e S).bind fun x S1 => (g e S1).bind fun y S2 => if x.isO c S2 = true ∧ y.tyIn bi cs S2 = true then F [x, y] S2 else .no
section
variable {K : PySem.W.Frag} {X : Cx} {W : WX} {ex ex2 value : Expr} {es : List Expr} {f g h : Sx D} {a : Sx (List D)} {pos p p0 apos pos' : Pos} {i lv j : Nat} {x m fd : Str} {ps : List Str} {sp : Sp} {F : List D → Store → R D} {bi cs : List String} {c : String} {fa : Addr}
theorem x_bo {op : Operator} (hm : m = PySem.dunder op.info.2) (hK : X.K = K) (T : OwnM K (He.ga K c) m fa) (hc : PySem.W.selfFirst K (He.ga K c) = true) (ok : TyOk K (fun t => PySem.W.nkRight K (He.ga K c) op.info.2 t = true) bi cs) (hF : Fs X.prog X.w K X.mg X.base fa lv sp) (hs : Shp K sp F) (hr : Room j X.A) (hk : lv ≤ j) (tk : Takes X W)
    (hf : Ev K X W ex f) (hg : Ev K X W ex2 g) : Ev K X W (.BinOp ex op ex2 pos) (eBo c bi cs F f g) := by
  subst hK
  obtain ⟨ta, p1, h1⟩ := hf.run
  obtain ⟨tb, p2, h2⟩ := hg.run
  refine ⟨_, pe_binW hm T hc hF hr hk tk p1 p2, fun b m ow H σ e S Q t q => h1 b m ow H σ e S _ t (Post.bind q fun x S1 v m1 H1 f1 c1 rx q => h2 b m1 ow H1 σ e S1 _ (t.go f1 c1) (Post.bind q fun y S2 u m2 H2 f2 c2 ry q => ?_))⟩
  split at q
  · rename_i hi
    have rx := Rep.le f2.le x rx
    obtain ⟨a, dx, fs, rfl, hH⟩ := isO_at c2 rx hi.1
    obtain ⟨T, hT, hP⟩ := ty_at ok c2 ry hi.2
    exact ⟨a, dx, fs, T, rfl, hH, hT, hP, hs.at c2 (reps_cons rx (reps_cons ry reps_nil)) q⟩
  · exact q.elim
end
/-! ### operators and built-ins that may call own methods (which raise nothing) -/
structure OpE (K : PySem.W.Frag) (X : Cx) (f : Value → Value → Sem Value) (o : D → D → Store → R D) : Prop where
  run : ∃ r, OpR X f r ∧ ∀ B m ow H S x y dx dy Q (W : Value → Option Addr → Hp → Prop), Cells K B m ow H S → Rep (wo K B m ow H) dx x → Rep (wo K B m ow H) dy y → Post K B ow m H Rep W Q (o dx dy S).clean → r x y H Q
structure CallE (K : PySem.W.Frag) (X : Cx) (f : Value) (o : List D → Store → R D) : Prop where
  run : ∃ r, CallR X f r ∧ ∀ B m ow H S xs ds Q (W : Value → Option Addr → Hp → Prop), Cells K B m ow H S → Reps (wo K B m ow H) ds xs → Post K B ow m H Rep W Q (o ds S).clean → r xs H Q
def oOf (o : D → D → Option D) (x : D) (y : D) (S : Store) : R D := R.of S (o x y)
def cOf (o : List D → Option D) (x : List D) (S : Store) : R D := R.of S (o x)
def oOr (o p : D → D → Store → R D) (x : D) (y : D) (S : Store) : R D := (o x y S).orE (p x y S)
def cOr (o p : List D → Store → R D) (x : List D) (S : Store) : R D := (o x S).orE (p x S)
def oOwn (neg : Bool) (c : String) (bi cs : List String) (F : List D → Store → R D) (x : D) (y : D) (S : Store) : R D := if x.isO c S = true ∧ y.tyIn bi cs S = true then (F [x, y] S).clean.bind fun z S1 => R.of S1 (z.b.map fun b => .bl (if neg then !b else b)) else .no
/-- what len may give -/
def okLen (n : Int) : Bool := match n with
  | .ofNat k => Nat.ble k 9223372036854775807
  | .negSucc k => false
theorem of_okLen {n : Int} (h : okLen n = true) : 0 ≤ n ∧ n < 2 ^ 63 := by
  cases n with
  | ofNat k =>
    have h2 : k ≤ 9223372036854775807 := Nat.le_of_ble_eq_true h
    exact ⟨by simp only [Int.ofNat_eq_natCast]; omega, by simp only [Int.ofNat_eq_natCast]; omega⟩
  | negSucc k => cases h
theorem okLen_of {n : Int} (h : 0 ≤ n) (h2 : n < 2 ^ 63) : okLen n = true := by
  cases n with
  | ofNat k =>
    simp only [Int.ofNat_eq_natCast] at h2
    exact Nat.ble_eq_true_of_le (by omega)
  | negSucc k => rw [Int.negSucc_eq] at h; omega
def cLen (c : String) (F : List D → Store → R D) : List D → Store → R D
  | [x], S => if x.isO c S = true then (F [x] S).clean.bind fun z S1 => match z with
    | .int n => if okLen n = true then .ok (.int n) S1 else .no
    | _ => .no else .no
  | _, _ => .no
def cStr (c : String) (F : List D → Store → R D) : List D → Store → R D
  | [x], S => if x.isO c S = true then (F [x] S).clean.bind fun z S1 => match z with
    | .str n => .ok (.str n) S1
    | _ => .no else .no
  | _, _ => .no
def eBinE (o : D → D → Store → R D) (f g : Sx D) (e : En) (S : Store) : R D := (f e S).bind fun x S1 => (g e S1).bind fun y S2 => (o x y S2).clean
def eCallE (o : List D → Store → R D) (g : Sx (List D)) (e : En) (S : Store) : R D := (g e S).bind fun xs S1 => (o xs S1).clean
section
variable {α : Type}
@[simp] theorem clean_of {o : Option α} {S : Store} : (R.of S o).clean = R.of S o := by cases o <;> rfl
@[simp] theorem ite_clean {c : Prop} [Decidable c] {r s : R α} : (if c then r else s).clean = if c then r.clean else s.clean := by split <;> rfl
theorem post_clean {β : Type} {K : PySem.W.Frag} {B : Addr → Prop} {ow : List (Option Addr)} {m : List Addr} {H : Hp} {RP : Wo → β → α → Prop} {W : Value → Option Addr → Hp → Prop} {Q : α → Hp → Prop} {r : R β} (h : Post K B ow m H RP W Q r.clean) : Post K B ow m H RP W Q r := by
  cases r with
  | ok y S => exact h
  | er x S => exact h.elim
  | no => exact h.elim
end
section
variable {K : PySem.W.Frag} {X : Cx}
theorem OpS.e {f : Value → Value → Sem Value} {o : D → D → Option D} (h : OpS K X f o) : OpE K X f (oOf o) := by
  obtain ⟨r, a, b⟩ := h.run
  refine ⟨r, a, fun B m ow H S x y dx dy Q W c rx ry q => b _ rfl c.full x y dx dy Q rx ry ?_⟩
  unfold oOf at q
  rw [clean_of] at q
  exact q.pz c
theorem CallS.e {f : Value} {o : List D → Option D} (h : CallS K X f o) : CallE K X f (cOf o) := by
  obtain ⟨r, a, b⟩ := h.run
  refine ⟨r, a, fun B m ow H S x dx Q W c rx q => b _ rfl c.full x dx Q rx ?_⟩
  unfold cOf at q
  rw [clean_of] at q
  exact q.pz c
theorem OpE.or {f : Value → Value → Sem Value} {o p : D → D → Store → R D} (h : OpE K X f o) (g : OpE K X f p) : OpE K X f (oOr o p) := by
  obtain ⟨r1, a1, b1⟩ := h.run
  obtain ⟨r2, a2, b2⟩ := g.run
  refine ⟨_, op_alt a1 a2, fun B m ow H S x y dx dy Q W c rx ry q => ?_⟩
  unfold oOr at q
  cases e : o dx dy S with
  | ok d S1 => rw [e] at q; exact .inl (b1 B m ow H S x y dx dy Q W c rx ry (by rw [e]; exact q))
  | er d S1 => rw [e] at q; exact q.elim
  | no => rw [e] at q; exact .inr (b2 B m ow H S x y dx dy Q W c rx ry q)
theorem CallE.or {f : Value} {o p : List D → Store → R D} (h : CallE K X f o) (g : CallE K X f p) : CallE K X f (cOr o p) := by
  obtain ⟨r1, a1, b1⟩ := h.run
  obtain ⟨r2, a2, b2⟩ := g.run
  refine ⟨fun xs H Q => r1 xs H Q ∨ r2 xs H Q, fun pins s σ H xs us Q I r h => h.elim (a1 pins s σ H xs us Q I r) (a2 pins s σ H xs us Q I r), fun B m ow H S x dx Q W c rx q => ?_⟩
  unfold cOr at q
  cases e : o dx S with
  | ok d S1 => rw [e] at q; exact .inl (b1 B m ow H S x dx Q W c rx (by rw [e]; exact q))
  | er d S1 => rw [e] at q; exact q.elim
  | no => rw [e] at q; exact .inr (b2 B m ow H S x dx Q W c rx q)
theorem own_at {neg : Bool} {bi cs : List String} {c : String} {sp : Sp} {F : List D → Store → R D} {B : Addr → Prop} {m : List Addr} {ow : List (Option Addr)} {H : Hp} {S : Store} {x y : V} {dx dy : D} {Q : VK} {W : Value → Option Addr → Hp → Prop} (ok : TyOk K (fun t => PySem.W.notFirst K (He.ga K c) t = true) bi cs) (hs : Shp K sp F) (cl : Cells K B m ow H S) (rx : Rep (wo K B m ow H) dx x) (ry : Rep (wo K B m ow H) dy y) (q : Post K B ow m H Rep W Q (oOwn neg c bi cs F dx dy S).clean) : rOwn neg K (He.ga K c) sp x y H Q := by
  have q := post_clean q
  unfold oOwn at q
  split at q
  · rename_i hi
    obtain ⟨a, dx', fs, rfl, hH⟩ := isO_at cl rx hi.1
    obtain ⟨T, hT, hP⟩ := ty_at ok cl ry hi.2
    refine ⟨a, dx', fs, T, rfl, hH, hT, hP, hs.at cl (reps_cons rx (reps_cons ry reps_nil)) ((Post.bind q fun z S1 v m1 H1 f1 c1 rz q => ?_ : Post K B ow m H Rep W _ _).clean)⟩
    cases e : z.b with
    | none => rw [e] at q; exact q.elim
    | some b => rw [e] at q; exact ⟨b, rep_b rz e, q.val c1 rep_bl⟩
  · exact q.elim
variable {bi cs : List String} {c : String} {sp : Sp} {F : List D → Store → R D} {fa : Addr} {lv j : Nat} {ps : List Str}
theorem oe_eq (hK : X.K = K) (T : EqC K (He.ga K c) fa) (hF : Fo X.prog X.w K X.mg X.base fa lv ps sp) (hs : Shp K sp F) (ok : TyOk K (fun t => PySem.W.notFirst K (He.ga K c) t = true) bi cs) (hr : Room j X.A) (hk : lv ≤ j) : OpE K X (compareOp .Eq) (oOwn false c bi cs F) := by
  subst hK
  exact ⟨_, op_eqF T hF hr hk, fun B m ow H S x y dx dy Q W cl rx ry q => own_at ok hs cl rx ry q⟩
theorem oe_ne (hK : X.K = K) (T : EqC K (He.ga K c) fa) (hF : Fo X.prog X.w K X.mg X.base fa lv ps sp) (hs : Shp K sp F) (ok : TyOk K (fun t => PySem.W.notFirst K (He.ga K c) t = true) bi cs) (hr : Room j X.A) (hk : lv + 1 ≤ j) : OpE K X (compareOp .NotEq) (oOwn true c bi cs F) := by
  subst hK
  exact ⟨_, op_neF T hF hr hk, fun B m ow H S x y dx dy Q W cl rx ry q => own_at ok hs cl rx ry q⟩
theorem ce_len (hK : X.K = K) (T : OwnM K (He.ga K c) "__len__" fa) (hF : Fo X.prog X.w K X.mg X.base fa lv ps sp) (hs : Shp K sp F) (hr : Room j X.A) (hk : lv + 1 ≤ j) : CallE K X (.builtin "len") (cLen c F) := by
  subst hK
  refine ⟨_, call_lenO T hF hr hk, fun B m ow H S xs ds Q W cl r q => ?_⟩
  have q := post_clean q
  unfold cLen at q
  split at q
  · obtain ⟨v, rfl, r1⟩ := reps1 r rfl
    split at q
    · rename_i hi
      obtain ⟨a, dx', fs, rfl, hH⟩ := isO_at cl r1 hi
      refine ⟨a, dx', fs, rfl, hH, hs.at cl (reps_cons r1 reps_nil) ((Post.bind q fun z S1 v m1 H1 f1 c1 rz q => ?_ : Post X.K B ow m H Rep W _ _).clean)⟩
      cases z <;> try exact q.elim
      rename_i n
      cases rep_intD rz
      dsimp only at q
      split at q
      · rename_i hn
        exact ⟨n, rfl, (of_okLen hn).1, (of_okLen hn).2, q.val c1 rep_int⟩
      · exact q.elim
    · exact q.elim
  · exact q.elim
theorem ce_str (hK : X.K = K) (hs' : PySem.W.findIn K (.ref (He.ga K c)) "__str__" = some (some (.ref fa))) (hf : PySem.W.isFn K (.ref fa) = true) (hF : Fo X.prog X.w K X.mg X.base fa lv ps sp) (hs : Shp K sp F) (hr : Room j X.A) (hk : lv + 2 ≤ j) : CallE K X (.type "str") (cStr c F) := by
  subst hK
  refine ⟨_, call_strF hs' hf hF hr hk, fun B m ow H S xs ds Q W cl r q => ?_⟩
  have q := post_clean q
  unfold cStr at q
  split at q
  · obtain ⟨v, rfl, r1⟩ := reps1 r rfl
    split at q
    · rename_i hi
      obtain ⟨a, dx', fs, rfl, hH⟩ := isO_at cl r1 hi
      refine ⟨a, dx', fs, rfl, hH, hs.at cl (reps_cons r1 reps_nil) ((Post.bind q fun z S1 v m1 H1 f1 c1 rz q => ?_ : Post X.K B ow m H Rep W _ _).clean)⟩
      cases z <;> try exact q.elim
      rename_i n
      have rz0 := rz
      obtain ⟨rfl, hl⟩ := rep_strD rz
      exact ⟨n, rfl, q.val c1 rz0⟩
    · exact q.elim
  · exact q.elim
end
section
variable {K : PySem.W.Frag} {X : Cx} {W : WX} {ex ex2 value : Expr} {es : List Expr} {f g h : Sx D} {a : Sx (List D)} {pos p p0 apos pos' : Pos} {i lv j : Nat} {x m fd : Str} {ps : List Str} {sp : Sp} {F : List D → Store → R D} {bi cs : List String} {c : String} {fa : Addr}
theorem x_cmpE {op : CmpOp} {o : D → D → Store → R D} (ho : OpE K X (compareOp op) o) (hf : Ev K X W ex f) (hg : Ev K X W ex2 g) (hm : behindInMarks op ex2 = false) : Ev K X W (.Compare ex [op] [ex2] pos) (eBinE o f g) := by
  obtain ⟨ta, p1, h1⟩ := hf.run
  obtain ⟨tb, p2, h2⟩ := hg.run
  obtain ⟨r, p3, h3⟩ := ho.run
  refine ⟨_, pe_cmpR p3 p1 p2 hm, fun b m ow H σ e S Q t q => h1 b m ow H σ e S _ t (Post.bind q fun x S1 v m1 H1 f1 c1 rx q => h2 b m1 ow H1 σ e S1 _ (t.go f1 c1) (Post.bind q fun y S2 u m2 H2 f2 c2 ry q => ?_))⟩
  exact h3 _ _ _ _ _ v u x y Q _ c2 (Rep.le f2.le x rx) ry q
theorem t_cmpE {op : CmpOp} {o : D → D → Store → R D} (ho : OpE K X (compareOp op) o) (hf : Ev K X W ex f) (hg : Ev K X W ex2 g) (hm : behindInMarks op ex2 = false) : Et K X W (.Compare ex [op] [ex2] pos) (tVal (eBinE o f g)) := by
  obtain ⟨ta, p1, h1⟩ := hf.run
  obtain ⟨tb, p2, h2⟩ := hg.run
  obtain ⟨r, p3, h3⟩ := ho.run
  refine ⟨_, pt_cmpR p3 p1 p2 hm, fun b m ow H σ e S Q t q => ?_⟩
  unfold tVal eBinE at q
  simp only [bind_bind] at q
  refine h1 b m ow H σ e S _ t (Post.bind q fun x S1 v m1 H1 f1 c1 rx q => h2 b m1 ow H1 σ e S1 _ (t.go f1 c1) (Post.bind q fun y S2 u m2 H2 f2 c2 ry q => ?_))
  refine h3 _ _ _ _ _ v u x y _ (fun c d => W c d σ) c2 (Rep.le f2.le x rx) ry ?_
  exact Post.bind q fun z S3 v3 m3 H3 f3 c3 rz q => q.tst c3 rz
theorem x_callBE {id : String} {o : List D → Store → R D} (hc : CallE K X (.builtin id) o) (hg : Gl X x) (hm : X.mg x = none) (hv : bootBuiltins x = some (.builtin id)) (ha : Ea K X W (ex :: es) a) (hn : x ≠ "__name__" := by decide) (hdb : (x == ("__debug__" : Str)) = false := by decide)
    (he : starEach (ex :: es) X.env = (false, eval ex X.env) :: starEach es X.env := by rfl) (hpl : (backTo pos (starEach es X.env)).any (·.1) = false := by rfl) : Ev K X W (.Call (.Name x p) (ex :: es) [] pos) (eCallE o a) := by
  obtain ⟨ta, p1, h1⟩ := ha.run
  obtain ⟨r, p2, h2⟩ := hc.run
  exact ⟨_, pe_callB p2 hg hm hv p1 hn hdb he hpl, fun b m ow H σ e S Q t q => h1 b m ow H σ e S _ t (Post.bind q fun x S1 v m1 H1 f1 c1 rx q => h2 _ _ _ _ _ v x Q _ c1 rx q)⟩
theorem x_callTE {T : String} {o : List D → Store → R D} (hc : CallE K X (.type T) o) (hg : Gl X x) (hm : X.mg x = none) (hv : bootBuiltins x = some (.type T)) (ha : Ea K X W (ex :: es) a) (hn : x ≠ "__name__" := by decide) (hdb : (x == ("__debug__" : Str)) = false := by decide)
    (he : starEach (ex :: es) X.env = (false, eval ex X.env) :: starEach es X.env := by rfl) (hpl : (backTo pos (starEach es X.env)).any (·.1) = false := by rfl) : Ev K X W (.Call (.Name x p) (ex :: es) [] pos) (eCallE o a) := by
  obtain ⟨ta, p1, h1⟩ := ha.run
  obtain ⟨r, p2, h2⟩ := hc.run
  exact ⟨_, pe_callTy p2 hg hm hv p1 hn hdb he hpl, fun b m ow H σ e S Q t q => h1 b m ow H σ e S _ t (Post.bind q fun x S1 v m1 H1 f1 c1 rx q => h2 _ _ _ _ _ v x Q _ c1 rx q)⟩
/-! ### caught errors -/
def XfOk (K : PySem.W.Frag) (f : Str) (cs : List String) : Prop := ∀ c ∈ cs, XfC K (He.ga K c) ∧ PySem.W.findIn K (.ref (He.ga K c)) f = some none
theorem xk_nil {f : Str} : XfOk K f [] := fun _ h => nomatch h
theorem xk_cons {f : Str} {c : String} {cs : List String} (h1 : XfC K (He.ga K c)) (h2 : PySem.W.findIn K (.ref (He.ga K c)) f = some none) (h : XfOk K f cs) : XfOk K f (c :: cs) := fun d hd => by
  rcases List.mem_cons.mp hd with rfl | hd
  · exact ⟨h1, h2⟩
  · exact h d hd
def eXf (cs : List String) (fd : Str) (g : Sx D) (e : En) (S : Store) : R D := (g e S).bind fun x S1 => match x with
  | .exc c fs => if c ∈ cs then R.of S1 (fs.lookup fd) else .no
  | _ => .no
theorem x_xf {fd : Str} (hK : X.K = K) (hc : XfOk K fd cs) (hf : Ev K X W ex f) (hb : attributeBase ex fd X.env (eval ex X.env) = eval ex X.env := by rfl) : Ev K X W (.Attribute ex fd pos) (eXf cs fd f) := by
  subst hK
  obtain ⟨ta, p1, h1⟩ := hf.run
  refine ⟨_, pe_xe p1 hb, fun b m ow H σ e S Q t q => h1 b m ow H σ e S _ t (Post.bind q fun d S1 v m1 H1 f1 c1 rx q => ?_)⟩
  cases d <;> try exact q.elim
  rename_i c fs
  unfold Rep at rx
  obtain ⟨a, d, gs, rfl, _, hH, _, hD, r⟩ := rx
  dsimp only at q
  split at q
  · rename_i hm
    cases l : fs.lookup fd with
    | none => rw [l] at q; exact q.elim
    | some y =>
      rw [l] at q
      obtain ⟨u, h2, h3⟩ := repF_get r l
      exact ⟨a, _, d, gs, u, rfl, hH, (hc c hm).1, (hc c hm).2, hD, h2, q.val c1 h3⟩
  · exact q.elim
structure IsxOk (K : PySem.W.Frag) (C : Addr) (own : List (String × Bool)) : Prop where
  o : ∀ p ∈ own, L2.ExcC K (He.ga K p.1) ∧ PySem.W.kitOne K (.ref (He.ga K p.1)) (.ref C) = some p.2
theorem ix_nil {C : Addr} : ∀ p ∈ ([] : List (String × Bool)), L2.ExcC K (He.ga K p.1) ∧ PySem.W.kitOne K (.ref (He.ga K p.1)) (.ref C) = some p.2 := fun _ h => nomatch h
theorem ix_cons {C : Addr} {c : String} {b : Bool} {r : List (String × Bool)} (h1 : L2.ExcC K (He.ga K c)) (h2 : PySem.W.kitOne K (.ref (He.ga K c)) (.ref C) = some b) (h : ∀ p ∈ r, L2.ExcC K (He.ga K p.1) ∧ PySem.W.kitOne K (.ref (He.ga K p.1)) (.ref C) = some p.2) : ∀ p ∈ (c, b) :: r, L2.ExcC K (He.ga K p.1) ∧ PySem.W.kitOne K (.ref (He.ga K p.1)) (.ref C) = some p.2 := fun p hp => by
  rcases List.mem_cons.mp hp with rfl | hp
  · exact ⟨h1, h2⟩
  · exact h p hp
def eIsx (own : List (String × Bool)) (f : Sx D) (e : En) (S : Store) : R D := (f e S).bind fun x S1 => match x with
  | .exc c _ => R.of S1 ((own.lookup c).map .bl)
  | _ => .no
theorem x_isx {C : Addr} {own : List (String × Bool)} (hK : X.K = K) (hg : Gl X "isinstance") (hm : X.mg "isinstance" = none) (hf : Ev K X W ex f) (hT : PE X ex2 (tC (.ref C))) (ok : IsxOk K C own)
    (he : starEach [ex, ex2] X.env = (false, eval ex X.env) :: starEach [ex2] X.env := by rfl) (he2 : starEach [ex2] X.env = (false, eval ex2 X.env) :: starEach [] X.env := by rfl) (hpl : (backTo pos (starEach [ex2] X.env)).any (·.1) = false := by rfl) : Ev K X W (.Call (.Name "isinstance" p) [ex, ex2] [] pos) (eIsx own f) := by
  subst hK
  obtain ⟨te, p1, h1⟩ := hf.run
  refine ⟨_, pe_callB call_isX hg hm (by decide +kernel) (pa_cons p1 (pa_cons hT pa_nil he2) he) (by decide) (by decide) he hpl, fun b m ow H σ e S Q t q => h1 b m ow H σ e S _ t (Post.bind q fun d S1 v m1 H1 f1 c1 rx q => ?_)⟩
  cases d <;> try exact q.elim
  rename_i c fs
  unfold Rep at rx
  obtain ⟨a, d, gs, rfl, _, hH, _, hD, r⟩ := rx
  dsimp only at q
  cases l : own.lookup c with
  | none => rw [l] at q; exact q.elim
  | some k =>
    rw [l] at q
    obtain ⟨h2, h3⟩ := ok.o _ (lookup_mem l)
    exact ⟨a, _, C, d, gs, k, rfl, hH, hD, h2, h3, q.val c1 rep_bl⟩
end
/-! ### what is made as a cell -/
section
variable {K : PySem.W.Frag} {B : Addr → Prop} {m : List Addr} {ow : List (Option Addr)} {H H' : Hp} {S : Store} {c : Cell} {a : Addr}
/-- an address that only the frame knows becomes a cell -/
theorem Cells.pub (cl : Cells K (fun x => B x ∨ x = a) m ow H S) (hB : ¬ B a) (ho : some a ∉ ow) (ham : a ∉ m) (r : CRep (wo K (fun x => B x ∨ x = a) m ow H) a c) : Cells K B (m ++ [a]) ow H (S ++ [c]) ∧ Le (wo K (fun x => B x ∨ x = a) m ow H) (wo K B (m ++ [a]) ow H) := by
  have le : Le (wo K (fun x => B x ∨ x = a) m ow H) (wo K B (m ++ [a]) ow H) := by
    refine ⟨rfl, fun x o e n z => ?_, fun n x e => ?_, fun _ _ e _ _ => e⟩
    · rintro (h | h | h)
      · exact z (.inl (.inl h))
      · rcases List.mem_append.mp h with h | h
        · exact z (.inr (.inl h))
        · exact z (.inl (.inr (List.mem_singleton.mp h)))
      · exact z (.inr (.inr h))
    · show (m ++ [a])[n]? = some x
      have e : m[n]? = some x := e
      rw [List.getElem?_append_left (List.getElem?_eq_some_iff.mp e).1]
      exact e
  refine ⟨⟨fun x hx => cl.hB x (.inl hx), ?_, fun x hx => ?_, fun x hx z => ?_, cl.od, cl.oh, by simp [cl.len], fun n x y h1 h2 => ?_, cl.tb⟩, le⟩
  · rw [List.nodup_append]
    exact ⟨cl.nd, by simp, fun x hx y hy => by rw [List.mem_singleton.mp hy]; exact fun z => ham (z ▸ hx)⟩
  · rcases List.mem_append.mp hx with hx | hx
    · exact cl.no x hx
    · rw [List.mem_singleton.mp hx]; exact ho
  · rcases hx with hx | hx
    · rcases List.mem_append.mp hx with hx | hx
      · exact cl.nB x (.inl hx) (.inl z)
      · rw [List.mem_singleton.mp hx] at z; exact hB z
    · exact cl.nB x (.inr hx) (.inl z)
  · by_cases l : n < m.length
    · rw [List.getElem?_append_left l] at h1
      rw [List.getElem?_append_left (by rw [← cl.len]; exact l)] at h2
      exact (cl.cs n x y h1 h2).le le fun o e _ => e
    · rw [List.getElem?_append_right (by omega)] at h1
      rw [List.getElem?_append_right (by rw [← cl.len]; omega)] at h2
      rw [cl.len] at h1
      cases n' : n - S.length with
      | zero =>
        rw [n'] at h1 h2
        simp at h1 h2
        subst h1 h2
        exact r.le le fun o e _ => e
      | succ k => rw [n'] at h1; simp at h1
end
/-- the number of the new cell -/
def pubC (c : Cell) (S : Store) : R D := .ok (.ref S.length) (S ++ [c])
def eMkC (c : String) (f : Cell → List D → Store → R Cell) (g : Sx D) (a : Sx (List D)) (e : En) (S : Store) : R D := (g e S).bind fun x S1 => match x with
  | .cls c' => if c' = c then (a e S1).bind fun ds S2 => (f (.ins c []) ds S2).bind fun c' S3 => pubC c' S3 else .no
  | _ => .no
def eLstC (a : Sx (List D)) (e : En) (S : Store) : R D := (a e S).bind fun xs S1 => if xs.length ≤ sizeLine then pubC (.lst xs) S1 else .no
theorem made_postC {K : PySem.W.Frag} {B : Addr → Prop} {ow : List (Option Addr)} {m : List Addr} {H : Hp} {S : Store} {W : Value → Option Addr → Hp → Prop} {Q : VK} {r : R Cell} {a dx : Addr} {C : Addr} (cl : Cells K B m ow H S) (ha : H a = none) (hd : H dx = none) (hne : dx ≠ a)
    (q : Post K B ow m H Rep W Q (r.bind fun c S => pubC c S)) : PostN K (hidB B ow) m a (L2.upd (L2.upd H dx (.own a)) a (.ins C dx [])) (fun c d => W c d) (fun v H3 => v = .non ∧ Q (.ref a) H3) r := by
  have s : Same H (L2.upd (L2.upd H dx (.own a)) a (.ins C dx [])) := fun b o hb => by
    rw [upd_ne (ne_of_none hb ha), upd_ne (ne_of_none hb hd)]
    exact hb
  have fut : ∀ {m' : List Addr} {H' : Hp}, Fut m (off a (L2.upd (L2.upd H dx (.own a)) a (.ins C dx []))) m' H' → Fut m H m' H' := fun {m' H'} f => by
    have f2 := fut_off s f
    obtain ⟨⟨r, e, hr⟩, k, d⟩ := f2
    have g : ∀ x, Fr (off a H) x → Fr H x := fun x h o e => by
      by_cases z : x = a
      · rw [z, ha] at e; cases e
      · exact h o (by rw [off_ne z]; exact e)
    refine ⟨⟨r, e, fun x hx => g x (hr x hx)⟩, fun x o h n hm => k x o ?_ n hm, fun x h => g x (d x h)⟩
    rw [off_ne (ne_of_none h ha)]
    exact h
  cases r with
  | no => exact q
  | er x S =>
    intro c d m' H' f c' rx
    have le : Le (wo K (fun x => hidB B ow x ∨ x = a) m' [] H') (wo K B m' ow H') := by
      rw [← wo_hid (B := B) (ow := ow)]
      exact le_hid
    exact q c d m' H' (fut f) (cl.ofHid c'.unhide) (ExR.le le rx)
  | ok c S =>
    intro m' H' f c' rc
    have hB : ¬ hidB B ow a := fun z => z.elim (fun z => cl.hB a z (.none ha)) fun z => cl.oh a z (.none ha)
    obtain ⟨c2, le⟩ := c'.pub hB (List.not_mem_nil) (fun z => c'.nB a (.inl z) (.inr rfl)) rc
    obtain ⟨⟨r, e, hr⟩, k, d⟩ := fut f
    refine ⟨rfl, q _ (m' ++ [a]) H' ⟨⟨r ++ [a], by rw [e, List.append_assoc], fun x hx => ?_⟩, k, d⟩ (cl.ofHid c2) ?_⟩
    · rcases List.mem_append.mp hx with hx | hx
      · exact hr x hx
      · rw [List.mem_singleton.mp hx]; exact .none ha
    · unfold Rep
      refine ⟨a, rfl, ?_⟩
      show (m' ++ [a])[S.length]? = some a
      rw [← c'.len]
      simp
section
variable {K : PySem.W.Frag} {X : Cx} {W : WX} {ex ex2 : Expr} {es : List Expr} {f g : Sx D} {a : Sx (List D)} {pos p p0 apos : Pos} {i lv j : Nat} {x m : Str} {ps : List Str} {sp : Sp} {F : Cell → List D → Store → R Cell} {cs : List String} {c : String} {fa : Addr}
theorem mk_rdC {tf : TE} {ta : TA} (h2 : ∀ b m ow H σ e S Q, At K b m ow H σ e S → Post K b.B ow m H Rep (fun c d => W c d σ) Q (g e S) → tf σ H Q) (h1 : ∀ b m ow H σ e S Q, At K b m ow H σ e S → Post K b.B ow m H Reps (fun c d => W c d σ) Q (a e S) → ta σ H Q) (hs : Shi K sp F) :
    ∀ b m ow H σ e S Q, At K b m ow H σ e S → Post K b.B ow m H Rep (fun c d => W c d σ) Q (eMkC c F g a e S) → tMkW (He.ga K c) sp W tf ta σ H Q := by
  refine fun b m ow H σ e S Q t q => h2 b m ow H σ e S _ t (Post.bind q fun d S1 v m1 H1 f1 c1 rx q => ?_)
  cases d <;> try exact q.elim
  rename_i c'
  dsimp only at q
  split at q
  · rename_i hi
    subst hi
    unfold Rep at rx
    subst rx
    refine ⟨rfl, h1 b m1 ow H1 σ e S1 _ (t.go f1 c1) (Post.bind q fun ds S2 vs m2 H2 f2 c2 ry q => fun x dx hx hd hne => ?_)⟩
    have s : Same H2 (L2.upd (L2.upd H2 dx (.own x)) x (.ins (He.ga K c') dx [])) := fun b o hb => by
      rw [upd_ne (ne_of_none hb hx), upd_ne (ne_of_none hb hd)]
      exact hb
    have hz : ¬ zf (hidB b.B ow) m2 [] x := by
      rw [zf_hid]
      exact fun z => c2.full x z (.none hx)
    have ch := c2.toHid.same s
    have le : Le (wo K (hidB b.B ow) m2 [] H2) (wo K (fun y => hidB b.B ow y ∨ y = x) m2 [] (L2.upd (L2.upd H2 dx (.own x)) x (.ins (He.ga K c') dx []))) := ⟨rfl, fun y o e _ z => by
      rintro ((h | h) | h | h)
      · exact z (.inl h)
      · have e : H2 y = some o := e
        rw [h, hx] at e; cases e
      · exact z (.inr (.inl h))
      · exact z (.inr (.inr h)), fun _ _ e => e, fun y o e _ _ => s _ _ e⟩
    refine hs (hidB b.B ow) m2 S2 (.ins c' []) ds x vs _ _ _ hz ⟨fun y hy z => ?_, ch.nd, fun y _ h => (List.not_mem_nil h).elim, fun y hy z => ?_, fun i j y h => by simp at h, fun y h => (List.not_mem_nil h).elim, ch.len, fun n y cc h1 h2 => ?_, ch.tb⟩ ⟨dx, [], upd_same, by unfold RepF; rfl⟩ ⟨_, _, rfl⟩ (Reps.le le ds (by rw [wo_hid]; exact ry)) (made_postC c2 hx hd hne q)
    · rcases hy with hy | hy
      · exact ch.hB y hy z
      · exact (hy ▸ z : Fr _ x).no upd_same fun _ z => by cases z
    · rcases hy with hy | hy
      · rcases z with z | z
        · exact ch.nB y (.inl hy) z
        · rw [z] at hy; exact hz (.inr (.inl hy))
      · exact (List.not_mem_nil hy).elim
    · have := c2.toHid.cs n y cc h1 h2
      exact this.le le fun o e _ => s _ _ e
  · exact q.elim
theorem x_mkC (hK : X.K = K) (hf : Ev K X W (.Name x p) g) (M : Mk K (He.ga K c) fa) (hF : Fs X.prog X.w K X.mg X.base fa lv sp) (hs : Shi K sp F) (hr : Room j X.A) (hk : lv + 1 ≤ j) (tk : Takes X W) (ha : Ea K X W (ex :: es) a)
    (he : starEach (ex :: es) X.env = (false, eval ex X.env) :: starEach es X.env := by rfl) (hpl : (backTo pos (starEach es X.env)).any (·.1) = false := by rfl) : Ev K X W (.Call (.Name x p) (ex :: es) [] pos) (eMkC c F g a) := by
  subst hK
  obtain ⟨tb, p2, h2⟩ := hf.run
  obtain ⟨ta, p1, h1⟩ := ha.run
  exact ⟨_, pe_clsW p2 M hF hr hk tk p1 he hpl, mk_rdC h2 h1 hs⟩
theorem x_mkC0 (hK : X.K = K) (hf : Ev K X W (.Name x p) g) (M : Mk K (He.ga K c) fa) (hF : Fs X.prog X.w K X.mg X.base fa lv sp) (hs : Shi K sp F) (hr : Room j X.A) (hk : lv + 1 ≤ j) (tk : Takes X W) : Ev K X W (.Call (.Name x p) [] [] pos) (eMkC c F g aNil) := by
  subst hK
  obtain ⟨tb, p2, h2⟩ := hf.run
  exact ⟨_, pe_clsW0 p2 M hF hr hk tk, mk_rdC h2 (fun b m ow H σ e S Q t q => q [] m H (Fut.refl _ _) t.cells reps_nil) hs⟩
/-- a list display whose list will change -/
theorem x_lstC (ha : Ea K X W es a) : Ev K X W (.List es pos) (eLstC a) := by
  obtain ⟨ta, p1, h1⟩ := ha.run
  refine ⟨_, pe_lst p1, fun b m ow H σ e S Q t q => h1 b m ow H σ e S _ t (Post.bind q fun x S1 v m1 H1 f1 c1 rx q => ?_)⟩
  split at q
  · rename_i hl
    have hvl := reps_len rx
    rw [← hvl] at hl
    refine ⟨hl, fun p hp => ?_⟩
    have s : Same H1 (L2.upd H1 p (.lst v)) := same_mut (Same.refl _) hp
    have cs := c1.same s
    have nB : ¬ b.B p := fun z => c1.hB p z (.none hp)
    have no : some p ∉ ow := fun z => c1.oh p z (.none hp)
    have nm : p ∉ m1 := fun z => c1.full p (.inr (.inl z)) (.none hp)
    have le : Le (wo K b.B m1 ow (L2.upd H1 p (.lst v))) (wo K (fun x => b.B x ∨ x = p) m1 ow (L2.upd H1 p (.lst v))) → True := fun _ => True.intro
    have l1 : Le (wo K b.B m1 ow H1) (wo K (fun x => b.B x ∨ x = p) m1 ow (L2.upd H1 p (.lst v))) := le_hide hp
    have ch : Cells K (fun x => b.B x ∨ x = p) m1 ow (L2.upd H1 p (.lst v)) S1 := ⟨fun x hx z => hx.elim (fun h => cs.hB x h z) fun h => (h ▸ z : Fr _ p).no upd_same fun _ z => (by cases z), cs.nd, cs.no, fun x hx z => z.elim (cs.nB x hx) fun h => hx.elim (fun q => nm (h ▸ q)) fun q => no (h ▸ q), cs.od, cs.oh, cs.len, fun n y cc h1 h2 => (c1.cs n y cc h1 h2).le l1 fun o e _ => s _ _ e, cs.tb⟩
    obtain ⟨c2, l2⟩ := ch.pub (c := .lst x) nB no nm ⟨v, upd_same, hl, Reps.le l1 x rx⟩
    refine q _ (m1 ++ [p]) _ ⟨⟨[p], rfl, fun x hx => by rw [List.mem_singleton.mp hx]; exact .none hp⟩, fun x o h n _ => s _ _ h, fun x h => h.same s⟩ c2 ?_
    unfold Rep
    refine ⟨p, rfl, ?_⟩
    show (m1 ++ [p])[S1.length]? = some p
    rw [← c1.len]
    simp
  · exact q.elim
end
end Sh

/-! Sh15: == of tuples and lists of own objects (the answer True); small terms for the printed texts. -/
namespace Sh
open PySem PySem.Spec PyProof.Rows L2 Nk StX
variable [TabSet] [BasePred]
theorem room64 {k : Nat} {A : Around} (h : Room k A) : A.units + 64 < cLine := h.units
theorem room65 {k : Nat} {A : Around} (h : Room k A) : A.units + 65 < cLine := by have := h.un; omega
/-- everything hidden -/
def allB (B : Addr → Prop) (m : List Addr) (ow : List (Option Addr)) : Addr → Prop := fun a => B a ∨ a ∈ m ∨ some a ∈ ow
section
variable {K : PySem.W.Frag} {B : Addr → Prop} {m : List Addr} {ow : List (Option Addr)} {H H' : Hp} {S : Store}
theorem zf_all : zf (allB B m ow) [] [] = zf B m ow := by
  funext a
  unfold zf allB
  apply propext
  constructor
  · rintro (h | h | h)
    · exact h
    · exact (List.not_mem_nil h).elim
    · exact (List.not_mem_nil h).elim
  · exact fun h => .inl h
theorem le_all : Le (wo K B m ow H) (wo K (allB B m ow) [] [] H) → True := fun _ => True.intro
theorem Cells.all (c : Cells K B m ow H S) : Cells K (allB B m ow) [] [] H [] :=
  ⟨fun a h => c.full a h, List.nodup_nil, fun _ h => (List.not_mem_nil h).elim, fun a h => h.elim (fun h => (List.not_mem_nil h).elim) fun h => (List.not_mem_nil h).elim, fun i j a h => by simp at h, fun a h => (List.not_mem_nil h).elim, rfl, fun n a x h1 h2 => by simp at h1, c.tb⟩
theorem fut_pure (f : Fut [] H [] H') : Fut m H m H' := ⟨⟨[], by simp, by simp⟩, fun a o h n _ => f.keep a o h n List.not_mem_nil, f.dom⟩
/-- nothing has changed -/
theorem Cells.pure (c : Cells K B m ow H S) (f : Fut [] H [] H') (c' : Cells K (allB B m ow) [] [] H' []) : Cells K B m ow H' S := by
  have f2 : Fut m H m H' := fut_pure f
  exact ⟨fun a h z => c.hB a h (f.dom a z), c.nd, c.no, c.nB, c.od, fun a h z => c.oh a h (f.dom a z), c.len, fun n a x h1 h2 => (c.cs n a x h1 h2).le f2.le fun o e n => f.keep a o e n List.not_mem_nil, c'.tb⟩
mutual
/-- a tree without numbers of cells -/
def D.pureD : D → Bool
  | .tup ds => D.puresD ds
  | .lst ds => D.puresD ds
  | .scr ds => D.puresD ds
  | .obj _ fs => D.puresF fs
  | .exc _ fs => D.puresF fs
  | .dk _ => false
  | .dt _ => false
  | .ref _ => false
  | _ => true
def D.puresD : List D → Bool
  | [] => true
  | d :: ds => d.pureD && D.puresD ds
def D.puresF : List (Str × D) → Bool
  | [] => true
  | d :: ds => d.2.pureD && D.puresF ds
end
structure LeP (w w' : Wo) : Prop where
  K : w'.K = w.K
  z : ∀ a, ¬ w.Z a → ¬ w'.Z a
  H : w'.H = w.H
theorem TrT.leP {w w' : Wo} {a : Addr} {xs : List V} (l : LeP w w') (h : TrT w a xs) : TrT w' a xs := by
  obtain ⟨h, n⟩ := h
  refine ⟨?_, n⟩
  rcases h with ⟨z, h⟩ | h
  · exact .inl ⟨l.z _ z, by rw [l.H]; exact h⟩
  · exact .inr (l.K ▸ h)
theorem TrS.leP {w w' : Wo} {a : Addr} {xs : List V} (l : LeP w w') (h : TrS w a xs) : TrS w' a xs := by
  obtain ⟨h, n⟩ := h
  refine ⟨?_, n⟩
  rcases h with ⟨z, h⟩ | h
  · exact .inl ⟨l.z _ z, by rw [l.H]; exact h⟩
  · exact .inr (l.K ▸ h)
theorem TrL.leP {w w' : Wo} {a : Addr} {xs : List V} (l : LeP w w') (h : TrL w a xs) : TrL w' a xs := ⟨l.z _ h.1, by rw [l.H]; exact h.2.1, h.2.2⟩
mutual
theorem Rep.leP {w w' : Wo} (l : LeP w w') : ∀ (d : D) {v : V}, d.pureD = true → Rep w d v → Rep w' d v
  | .non, _, _, h => by unfold Rep at h ⊢; exact h
  | .bl _, _, _, h => by unfold Rep at h ⊢; exact h
  | .int _, _, _, h => by unfold Rep at h ⊢; exact h
  | .str _, _, _, h => by unfold Rep at h ⊢; exact h
  | .ty _, _, _, h => by unfold Rep at h ⊢; exact h
  | .cls _, _, _, h => by unfold Rep at h ⊢; rw [l.K]; exact h
  | .tup ds, _, p, h => by unfold Rep at h ⊢; unfold D.pureD at p; obtain ⟨a, vs, e, t, r⟩ := h; exact ⟨a, vs, e, t.leP l, Reps.leP l ds p r⟩
  | .lst ds, _, p, h => by unfold Rep at h ⊢; unfold D.pureD at p; obtain ⟨a, vs, e, t, r⟩ := h; exact ⟨a, vs, e, t.leP l, Reps.leP l ds p r⟩
  | .scr ds, _, p, h => by unfold Rep at h ⊢; unfold D.pureD at p; obtain ⟨a, vs, e, t, r⟩ := h; exact ⟨a, vs, e, t.leP l, Reps.leP l ds p r⟩
  | .obj c fs, _, p, h => by
    unfold Rep at h ⊢; unfold D.pureD at p
    obtain ⟨a, dx, gs, e, z, t, r⟩ := h
    exact ⟨a, dx, gs, e, l.z _ z, by rw [l.K, l.H]; exact t, RepF.leP l fs p r⟩
  | .exc c fs, _, p, h => by
    unfold Rep at h ⊢; unfold D.pureD at p
    obtain ⟨a, d, gs, e, z, t, z2, t2, r⟩ := h
    exact ⟨a, d, gs, e, l.z _ z, by rw [l.K, l.H]; exact t, l.z _ z2, by rw [l.H]; exact t2, RepF.leP l fs p r⟩
  | .dk _, _, p, h => by unfold D.pureD at p; cases p
  | .dt _, _, p, h => by unfold D.pureD at p; cases p
  | .ref n, _, p, h => by unfold D.pureD at p; cases p
  | .adr _, _, _, h => by unfold Rep at h ⊢; exact h
theorem Reps.leP {w w' : Wo} (l : LeP w w') : ∀ (ds : List D) {vs : List V}, D.puresD ds = true → Reps w ds vs → Reps w' ds vs
  | [], _, _, h => by unfold Reps at h ⊢; exact h
  | d :: ds, _, p, h => by
    unfold Reps at h ⊢; unfold D.puresD at p
    obtain ⟨v, r, e, a, b⟩ := h
    exact ⟨v, r, e, Rep.leP l d (Bool.and_eq_true_iff.mp p).1 a, Reps.leP l ds (Bool.and_eq_true_iff.mp p).2 b⟩
theorem RepF.leP {w w' : Wo} (l : LeP w w') : ∀ (ds : List (Str × D)) {vs : List (Str × V)}, D.puresF ds = true → RepF w ds vs → RepF w' ds vs
  | [], _, _, h => by unfold RepF at h ⊢; exact h
  | (f, d) :: ds, _, p, h => by
    unfold RepF at h ⊢; unfold D.puresF at p
    obtain ⟨v, r, e, a, b⟩ := h
    exact ⟨v, r, e, Rep.leP l d (Bool.and_eq_true_iff.mp p).1 a, RepF.leP l ds (Bool.and_eq_true_iff.mp p).2 b⟩
end
theorem leP_all : LeP (wo K B m ow H) (wo K (allB B m ow) [] [] H) := ⟨rfl, fun a z => by
  show ¬ zf (allB B m ow) [] [] a
  rw [zf_all]; exact z, rfl⟩
end
/-- two objects of one class that its own == finds equal -/
def eqO (Fs : List (String × (List D → Store → R D))) : D → D → Bool
  | .obj c fs, .obj c' gs => c == c' && (D.obj c fs).pureD && (D.obj c gs).pureD && match Fs.lookup c with
    | some F => match F [.obj c fs, .obj c gs] [] with
      | .ok (.bl true) [] => true
      | _ => false
    | none => false
  | _, _ => false
def eqOs (Fs : List (String × (List D → Store → R D))) : List D → List D → Bool
  | [], [] => true
  | x :: xs, y :: ys => eqO Fs x y && eqOs Fs xs ys
  | _, _ => false
def oTupO (Fs : List (String × (List D → Store → R D))) (x : D) (y : D) (S : Store) : R D := match x, y with
  | .tup xs, .tup ys => if eqOs Fs xs ys = true then .ok (.bl true) S else .no
  | _, _ => .no
/-- what is known of the classes' own == -/
def EqsOk (K : PySem.W.Frag) (X : Cx) (n : Nat) (Fs : List (String × (List D → Store → R D))) : Prop := ∀ p ∈ Fs, ∃ fa ps sp lv, EqC K (He.ga K p.1) fa ∧ Fo X.prog X.w X.K X.mg X.base fa lv ps sp ∧ Shp K sp p.2 ∧ lv ≤ n
section
variable {K : PySem.W.Frag} {X : Cx} {n : Nat} {Fs : List (String × (List D → Store → R D))}
theorem eq_nil : EqsOk K X n [] := fun _ h => nomatch h
theorem eq_cons {c : String} {F : List D → Store → R D} {fa : Addr} {ps : List Str} {sp : Sp} {lv : Nat} (T : EqC K (He.ga K c) fa) (hF : Fo X.prog X.w X.K X.mg X.base fa lv ps sp) (hs : Shp K sp F) (hl : lv ≤ n) (h : EqsOk K X n Fs) : EqsOk K X n ((c, F) :: Fs) := fun p hp => by
  rcases List.mem_cons.mp hp with rfl | hp
  · exact ⟨fa, ps, sp, lv, T, hF, hs, hl⟩
  · exact h p hp
theorem lookup_memF {c : String} {F : List D → Store → R D} : ∀ {Fs : List (String × (List D → Store → R D))}, Fs.lookup c = some F → (c, F) ∈ Fs
  | [], h => by cases h
  | p :: r, h => by
    rw [List.lookup_cons] at h
    cases e : c == p.1 with
    | true =>
      rw [e] at h
      cases h
      rw [beq_iff_eq.mp e]
      exact List.mem_cons_self
    | false => rw [e] at h; exact List.mem_cons_of_mem _ (lookup_memF h)
theorem eqO_wp (ok : EqsOk X.K X n Fs) {A : Around} {pins : List (Addr × Obj)} {s : Shared} {σ : L2.St} {H : Hp} {Bz : Addr → Prop} {dx dy : D} {x y : V} {u v : Value} (sb : Sub X n A) (I : Inv X pins σ H s) (cl : Cells X.K Bz [] [] H []) (rx : Rep (wo X.K Bz [] [] H) dx x) (ry : Rep (wo X.K Bz [] [] H) dy y) (ru : RelV x u) (rv : RelV y v) (h : eqO Fs dx dy = true) :
    wpAny (model X.prog X.w) A (eqBool u v) (fun r s' => r = true ∧ ∃ H', Inv X pins σ H' s' ∧ Fut [] H [] H' ∧ Cells X.K Bz [] [] H' []) X.xe s := by
  unfold eqO at h
  split at h
  · rename_i c fs c' gs
    simp only [Bool.and_eq_true, beq_iff_eq] at h
    obtain ⟨⟨⟨rfl, _⟩, _⟩, h⟩ := h
    split at h
    · rename_i F hF
      split at h
      · rename_i hr
        obtain ⟨fa, ps, sp, lv, T, Fo', hs, hl⟩ := ok _ (lookup_memF hF)
        have rx0 := rx
        have ry0 := ry
        unfold Rep at rx ry
        obtain ⟨a, ax, gx, rfl, _, ea, _⟩ := rx
        obtain ⟨b, bx, gy, rfl, _, eb, _⟩ := ry
        obtain rfl : u = Value.ref a := ru
        obtain rfl : v = Value.ref b := rv
        by_cases hab : a = b
        · subst hab
          exact SeqAt.EqAt.same (A := A) (s := s) (.ref a) X.prog X.w X.xe _ ⟨rfl, H, I, Fut.refl _ _, cl⟩
        · obtain ⟨mA, J, _⟩ := ins_get I.hok ea
          obtain ⟨mB, J', _⟩ := ins_get I.hok eb
          obtain ⟨od, J, _⟩ := J.look
          obtain ⟨od', J', _⟩ := J'.look
          obtain ⟨mf, hFr⟩ := I.fr
          obtain ⟨fd, FF, hb⟩ := Fo'
          refine GQ.eqBool_refG hab (PySem.W.cmp_K (op := .Eq) (tb := .ref (He.ga X.K c)) sb.room.units0 hFr I.ok.mod.kin J J'.type (by simp [PySem.W.notFirst]) T.eq T.fn ?_)
          refine wpAny_mono (own_run (vs := [.ref a, .ref b]) FF hb (sb.room.mono hl) sb.fr I (.cons rfl (.cons rfl .nil)) (Q := fun v H' => v = .bl true ∧ Fut [] H [] H' ∧ Cells X.K Bz [] [] H' []) (hs Bz [] [] [.obj c fs, .obj c gs] _ H _ _ cl (reps_cons rx0 (reps_cons ry0 reps_nil)) ?_)) (fun v s' hv => ?_) fun _ _ z => z
          · show Post X.K Bz [] [] H Rep _ _ (F [.obj c fs, .obj c gs] [])
            rw [hr]
            intro w m' H' f c' r
            have : m' = [] := List.length_eq_zero_iff.mp c'.len
            subst this
            exact ⟨rep_blD r, f, c'⟩
          · obtain ⟨z, H', I', rz, rfl, f, c'⟩ := hv
            cases rz
            exact ⟨true, rfl, rfl, H', I', f, c'⟩
      · cases h
    · cases h
  · cases h
theorem eqOs_len : ∀ {xs ys : List D}, eqOs Fs xs ys = true → xs.length = ys.length
  | [], [], _ => rfl
  | x :: xs, y :: ys, h => by
    unfold eqOs at h
    simp [eqOs_len (Bool.and_eq_true_iff.mp h).2]
  | [], y :: ys, h => by unfold eqOs at h; cases h
  | x :: xs, [], h => by unfold eqOs at h; cases h
theorem eqOs_get : ∀ {xs ys : List D} {i : Nat} {x y : D}, eqOs Fs xs ys = true → xs[i]? = some x → ys[i]? = some y → eqO Fs x y = true
  | x :: xs, y :: ys, 0, _, _, h, e1, e2 => by
    unfold eqOs at h
    simp at e1 e2
    subst e1 e2
    exact (Bool.and_eq_true_iff.mp h).1
  | x :: xs, y :: ys, i + 1, _, _, h, e1, e2 => by
    unfold eqOs at h
    exact eqOs_get (Bool.and_eq_true_iff.mp h).2 (by simpa using e1) (by simpa using e2)
  | [], [], _, _, _, _, e1, _ => by simp at e1
  | [], y :: ys, _, _, _, h, e1, e2 => by unfold eqOs at h; cases h
  | x :: xs, [], _, _, _, h, e1, e2 => by unfold eqOs at h; cases h
theorem eqO_pure {x y : D} (h : eqO Fs x y = true) : x.pureD = true ∧ y.pureD = true := by
  unfold eqO at h
  split at h
  · rename_i c fs c' gs
    simp only [Bool.and_eq_true, beq_iff_eq] at h
    obtain ⟨⟨⟨rfl, h1⟩, h2⟩, h⟩ := h
    exact ⟨h1, h2⟩
  · cases h
theorem eqOs_pure : ∀ {xs ys : List D}, eqOs Fs xs ys = true → D.puresD xs = true ∧ D.puresD ys = true
  | [], [], _ => ⟨rfl, rfl⟩
  | x :: xs, y :: ys, h => by
    unfold eqOs at h
    obtain ⟨h1, h2⟩ := Bool.and_eq_true_iff.mp h
    obtain ⟨a, b⟩ := eqO_pure h1
    obtain ⟨c, d⟩ := eqOs_pure h2
    unfold D.puresD
    rw [a, b, c, d]
    exact ⟨rfl, rfl⟩
  | [], y :: ys, h => by unfold eqOs at h; cases h
  | x :: xs, [], h => by unfold eqOs at h; cases h
theorem oe_tup (hK : X.K = K) (ok : EqsOk K X n Fs) (hr : Room (n + 1) X.A) : OpE K X (compareOp .Eq) (oTupO Fs) := by
  subst hK
  refine ⟨fun x y H Q => ∃ B m ow S xs ys, Cells X.K B m ow H S ∧ Rep (wo X.K B m ow H) (.tup xs) x ∧ Rep (wo X.K B m ow H) (.tup ys) y ∧ eqOs Fs xs ys = true ∧ ∀ H', Fut [] H [] H' → Cells X.K (allB B m ow) [] [] H' [] → Q (.bl true) H', ?_, ?_⟩
  · intro pins s σ H x y v u Q I rx ry ⟨B, m, ow, S, xs, ys, cl, r1, r2, he, q⟩
    obtain ⟨px, py⟩ := eqOs_pure he
    have r1 := Rep.leP (leP_all (K := X.K)) (.tup xs) (by unfold D.pureD; exact px) r1
    have r2 := Rep.leP (leP_all (K := X.K)) (.tup ys) (by unfold D.pureD; exact py) r2
    have ca := cl.all
    obtain ⟨a, vs, rfl, t1, r1⟩ := rep_tree r1
    obtain ⟨b, us, rfl, t2, r2⟩ := rep_tree r2
    cases rx
    cases ry
    obtain ⟨its, rv, e, z⟩ := I.tuple t1.sq
    obtain ⟨its2, rv2, e2, z2⟩ := I.tuple t2.sq
    have l1 := reps_len r1
    have l2 := reps_len r2
    have hsz : its.toArray.size = its2.toArray.size := by rw [List.size_toArray, List.size_toArray, ← rv.length, ← rv2.length, l1, l2]; exact eqOs_len he
    show wpAny (model X.prog X.w) X.A (richCompare .Eq (.ref a) (.ref b)) (EP X pins σ Q) X.xe s
    have go : wpAny (model X.prog X.w) X.A (richCompare .Eq (.ref a) (.ref b)) (fun r s' => r = .bool true ∧ ∃ H', Inv X pins σ H' s' ∧ Fut [] H [] H' ∧ Cells X.K (allB B m ow) [] [] H' []) X.xe s := by
      refine GQ.rc_tupG hsz hr.units0 (fun _ s' => ∃ H', Inv X pins σ H' s' ∧ Fut [] H [] H' ∧ Cells X.K (allB B m ow) [] [] H' []) e e2 (fun i h1 h2 s' hq => ?_) (fun s' q => ⟨rfl, q⟩) ⟨H, I, Fut.refl _ _, ca⟩
      obtain ⟨H1, I1, f1, c1⟩ := hq
      have g1 : its[i]? = some its.toArray[i] := by
        have h1' : i < its.length := by simpa using h1
        rw [List.getElem?_eq_getElem h1'] <;> simp
      have g2 : its2[i]? = some its2.toArray[i] := by
        have h2' : i < its2.length := by simpa using h2
        rw [List.getElem?_eq_getElem h2'] <;> simp
      have k1 : i < xs.length := by rw [← l1, rv.length]; simpa using h1
      have k2 : i < ys.length := by rw [← l2, rv2.length]; simpa using h2
      obtain ⟨x1, gx, qx⟩ := reps_get r1 (List.getElem?_eq_getElem k1)
      obtain ⟨y1, gy, qy⟩ := reps_get r2 (List.getElem?_eq_getElem k2)
      obtain ⟨u1, hu, ru⟩ := rv.get gx
      obtain ⟨v1, hv, rw1⟩ := rv2.get gy
      rw [g1] at hu
      rw [g2] at hv
      rw [Option.some.inj hu, Option.some.inj hv]
      refine wpAny_mono (eqO_wp ok (A := X.A.in1) (n := n) ⟨hr.in1, rfl⟩ I1 c1 (Rep.le (f1.le (K := X.K) (B := allB B m ow) (ow := [])) _ qx) (Rep.le f1.le _ qy) ru rw1 (eqOs_get he (List.getElem?_eq_getElem k1) (List.getElem?_eq_getElem k2))) (fun r s2 hz => ?_) fun _ _ z => z
      obtain ⟨hr', H2, I2, f2, c2⟩ := hz
      exact ⟨hr', H2, I2, f1.trans f2, c2⟩
    refine wpAny_mono go (fun r s' hz => ?_) fun _ _ z => z
    obtain ⟨rfl, H', I', f', c'⟩ := hz
    exact ⟨.bl true, H', I', rfl, q H' f' c'⟩
  · intro B m ow H S x y dx dy Q W cl rx ry q
    have q := post_clean q
    unfold oTupO at q
    split at q
    · split at q
      · rename_i he
        exact ⟨B, m, ow, S, _, _, cl, rx, ry, he, fun H' f c' => q _ m H' (fut_pure f) (cl.pure f c') rep_bl⟩
      · exact q.elim
    · exact q.elim
end
end Sh

/-! Sh16: pictures run: rules for simp. -/
namespace Sh
open PySem
theorem sz_le {n : Nat} (h : n ≤ 1000) : (n ≤ sizeLine) = True := eq_true (Nat.le_trans h (by decide))
theorem sz_lt {n : Nat} (h : n ≤ 1000) : (n < sizeLine) = True := eq_true (Nat.lt_of_le_of_lt h (by decide))
def Sl.free : Sl → Bool
  | .own _ => false
  | _ => true
theorem notOwn_free {i : Nat} {e : En} : notOwn i e = (match e[i]? with | some s => s.free | none => true) := by
  unfold notOwn
  cases e[i]? with
  | none => rfl
  | some s => cases s <;> rfl
theorem free_no : Sl.no.free = true := rfl
theorem free_val {d : D} : (Sl.val d).free = true := rfl
theorem free_own {c : Cell} : (Sl.own c).free = false := rfl
theorem ofStr_inj {a b : String} (h : Str.ofString a = Str.ofString b) : a = b := by
  rw [Str.ofString_eq_toList, Str.ofString_eq_toList] at h
  have h1 : (a.toList.map Char.toNat).toArray = (b.toList.map Char.toNat).toArray := Str.mk.inj h
  have h2 : a.toList.map Char.toNat = b.toList.map Char.toNat := by simpa using h1
  have inj : ∀ (xs ys : List Char), xs.map Char.toNat = ys.map Char.toNat → xs = ys := by
    intro xs
    induction xs with
    | nil => intro ys h; cases ys with
      | nil => rfl
      | cons y r => cases h
    | cons x xs ih => intro ys h; cases ys with
      | nil => cases h
      | cons y r =>
        have h := List.cons.inj h
        rw [ih r h.2, show x = y from Char.ext (UInt32.toNat_inj.mp h.1)]
  have h3 : a.toList = b.toList := inj _ _ h2
  exact String.toList_inj.mp h3
/-- texts of the program compared -/
theorem ofStr_beq {a b : String} : (Str.ofString a == Str.ofString b) = (a == b) := by
  by_cases h : a = b
  · subst h; simp
  · have h2 : Str.ofString a ≠ Str.ofString b := fun z => h (ofStr_inj z)
    rw [beq_eq_false_iff_ne.mpr h, beq_eq_false_iff_ne.mpr h2]
theorem ofStr_eq {a b : String} : (Str.ofString a = Str.ofString b) = (a = b) := propext ⟨ofStr_inj, fun h => h ▸ rfl⟩
end Sh
local macro_rules | `(tactic| simp_all_arith!) => `(tactic| simp only [Sh.runD, Sh.runI, Sh.runL, Sh.sSeq, Sh.sNil, Sh.sSet, Sh.sAsg, Sh.sDrop, Sh.sRet, Sh.sRetN, Sh.sIf, Sh.sBk, Sh.sCt, Sh.sFor, Sh.sFrz, Sh.freeze, Sh.sTry, Sh.sOwn, Sh.sApp, Sh.sRs, Sh.sFdO, Sh.eFdO, Sh.sFdC, Sh.sFdA, Sh.sIxC, Sh.eVar, Sh.eC, Sh.eBin, Sh.eUn, Sh.tVal, Sh.tNt, Sh.tAd, Sh.tOo, Sh.eNt, Sh.eAd, Sh.eOo, Sh.eIf, Sh.eChain, Sh.aNil, Sh.aCons, Sh.aStar, Sh.eTup, Sh.eLst, Sh.eCall, Sh.eIx, Sh.eDf, Sh.eFd, Sh.eMe, Sh.eCm, Sh.ePr, Sh.eAlt, Sh.eMk, Sh.eMkC, Sh.eLstC, Sh.pubC, Sh.eIsi, Sh.eFmt, Sh.eJs, Sh.eSl, Sh.pNo, Sh.pSo, Sh.eM1, Sh.eAct, Sh.eLam, Sh.eXf, Sh.eIsx, Sh.eBinE, Sh.eCallE, Sh.eBo, Sh.eNew, Sh.lDisp, Sh.lComp, Sh.clr, Sh.iSq, Sh.iRng1, Sh.iRng2, Sh.iEnu, Sh.tYesD, Sh.gN, Sh.gT, Sh.gsNil, Sh.gsCons, Sh.notOwn_free, Sh.free_no, Sh.free_val, Sh.free_own, Sh.noOwn, Sh.starF, Sh.starI, Sh.dflF, Sh.dflI, Sh.cOf, Sh.oOf, Sh.seq_nx, Sh.seq_rt, Sh.seq_bk, Sh.seq_ct, Sh.seq_er, Sh.seq_no, Sh.run_ok, Sh.run_er, Sh.run_no, Sh.ok_bind, Sh.er_bind, Sh.no_bind, Sh.of_some, Sh.of_none, Sh.res_nx, Sh.res_rt, Sh.res_er, Sh.res_no, Sh.resI_nx, Sh.resI_er, Sh.resI_no, Sh.orE_no, Sh.orE_ok, Sh.orE_er, Sh.clean_ok, Sh.clean_er, Sh.clean_no, Sh.clean_of, Option.map_some, Option.map_none, Option.bind_some, Option.bind_none, List.getElem?_cons_zero, List.getElem?_cons_succ, List.set_cons_zero, List.set_cons_succ, List.length_cons, List.length_nil, List.map_cons, List.map_nil, List.cons_append, List.nil_append, List.append_nil, List.replicate_succ, List.replicate_zero, List.all_cons, List.all_nil, Nat.zero_add, Nat.reduceAdd, Nat.reduceLeDiff, Nat.reduceLT, Nat.reduceEqDiff, Sh.sz_le, Sh.sz_lt, if_true, if_false, ite_true, ite_false, reduceIte, Bool.and_true, Bool.true_and, and_true, true_and, and_self, decide_true, decide_false, Bool.not_true, Bool.not_false, Bool.false_eq_true, reduceCtorEq, Sh.dIs, Sh.dNot, Sh.D.isN, Sh.D.b, cond_true, cond_false, List.lookup_nil, Sh.ofStr_beq, Sh.ofStr_eq, String.reduceBEq, String.reduceEq, beq_self_eq_true, List.mem_cons, List.not_mem_nil, or_false, false_or, or_true, true_or, or_self])
local macro_rules | `(tactic| simp_all_arith! [$ts,*]) => `(tactic| simp only [Sh.runD, Sh.runI, Sh.runL, Sh.sSeq, Sh.sNil, Sh.sSet, Sh.sAsg, Sh.sDrop, Sh.sRet, Sh.sRetN, Sh.sIf, Sh.sBk, Sh.sCt, Sh.sFor, Sh.sFrz, Sh.freeze, Sh.sTry, Sh.sOwn, Sh.sApp, Sh.sRs, Sh.sFdO, Sh.eFdO, Sh.sFdC, Sh.sFdA, Sh.sIxC, Sh.eVar, Sh.eC, Sh.eBin, Sh.eUn, Sh.tVal, Sh.tNt, Sh.tAd, Sh.tOo, Sh.eNt, Sh.eAd, Sh.eOo, Sh.eIf, Sh.eChain, Sh.aNil, Sh.aCons, Sh.aStar, Sh.eTup, Sh.eLst, Sh.eCall, Sh.eIx, Sh.eDf, Sh.eFd, Sh.eMe, Sh.eCm, Sh.ePr, Sh.eAlt, Sh.eMk, Sh.eMkC, Sh.eLstC, Sh.pubC, Sh.eIsi, Sh.eFmt, Sh.eJs, Sh.eSl, Sh.pNo, Sh.pSo, Sh.eM1, Sh.eAct, Sh.eLam, Sh.eXf, Sh.eIsx, Sh.eBinE, Sh.eCallE, Sh.eBo, Sh.eNew, Sh.lDisp, Sh.lComp, Sh.clr, Sh.iSq, Sh.iRng1, Sh.iRng2, Sh.iEnu, Sh.tYesD, Sh.gN, Sh.gT, Sh.gsNil, Sh.gsCons, Sh.notOwn_free, Sh.free_no, Sh.free_val, Sh.free_own, Sh.noOwn, Sh.starF, Sh.starI, Sh.dflF, Sh.dflI, Sh.cOf, Sh.oOf, Sh.seq_nx, Sh.seq_rt, Sh.seq_bk, Sh.seq_ct, Sh.seq_er, Sh.seq_no, Sh.run_ok, Sh.run_er, Sh.run_no, Sh.ok_bind, Sh.er_bind, Sh.no_bind, Sh.of_some, Sh.of_none, Sh.res_nx, Sh.res_rt, Sh.res_er, Sh.res_no, Sh.resI_nx, Sh.resI_er, Sh.resI_no, Sh.orE_no, Sh.orE_ok, Sh.orE_er, Sh.clean_ok, Sh.clean_er, Sh.clean_no, Sh.clean_of, Option.map_some, Option.map_none, Option.bind_some, Option.bind_none, List.getElem?_cons_zero, List.getElem?_cons_succ, List.set_cons_zero, List.set_cons_succ, List.length_cons, List.length_nil, List.map_cons, List.map_nil, List.cons_append, List.nil_append, List.append_nil, List.replicate_succ, List.replicate_zero, List.all_cons, List.all_nil, Nat.zero_add, Nat.reduceAdd, Nat.reduceLeDiff, Nat.reduceLT, Nat.reduceEqDiff, Sh.sz_le, Sh.sz_lt, if_true, if_false, ite_true, ite_false, reduceIte, Bool.and_true, Bool.true_and, and_true, true_and, and_self, decide_true, decide_false, Bool.not_true, Bool.not_false, Bool.false_eq_true, reduceCtorEq, Sh.dIs, Sh.dNot, Sh.D.isN, Sh.D.b, cond_true, cond_false, List.lookup_nil, Sh.ofStr_beq, Sh.ofStr_eq, String.reduceBEq, String.reduceEq, beq_self_eq_true, List.mem_cons, List.not_mem_nil, or_false, false_or, or_true, true_or, or_self, $ts,*])
local macro_rules | `(tactic| simp_arith) => `(tactic| simp only [Sh.runD, Sh.runI, Sh.runL, Sh.sSeq, Sh.sNil, Sh.sSet, Sh.sAsg, Sh.sDrop, Sh.sRet, Sh.sRetN, Sh.sIf, Sh.sBk, Sh.sCt, Sh.sFor, Sh.sFrz, Sh.freeze, Sh.sTry, Sh.sOwn, Sh.sApp, Sh.sRs, Sh.sFdO, Sh.eFdO, Sh.sFdC, Sh.sFdA, Sh.sIxC, Sh.eVar, Sh.eC, Sh.eBin, Sh.eUn, Sh.tVal, Sh.tNt, Sh.tAd, Sh.tOo, Sh.eNt, Sh.eAd, Sh.eOo, Sh.eIf, Sh.eChain, Sh.aNil, Sh.aCons, Sh.aStar, Sh.eTup, Sh.eLst, Sh.eCall, Sh.eIx, Sh.eDf, Sh.eFd, Sh.eMe, Sh.eCm, Sh.ePr, Sh.eAlt, Sh.eMk, Sh.eMkC, Sh.eLstC, Sh.pubC, Sh.eIsi, Sh.eFmt, Sh.eJs, Sh.eSl, Sh.pNo, Sh.pSo, Sh.eM1, Sh.eAct, Sh.eLam, Sh.eXf, Sh.eIsx, Sh.eBinE, Sh.eCallE, Sh.eBo, Sh.eNew, Sh.lDisp, Sh.lComp, Sh.clr, Sh.iSq, Sh.iRng1, Sh.iRng2, Sh.iEnu, Sh.tYesD, Sh.gN, Sh.gT, Sh.gsNil, Sh.gsCons, Sh.notOwn_free, Sh.free_no, Sh.free_val, Sh.free_own, Sh.noOwn, Sh.starF, Sh.starI, Sh.dflF, Sh.dflI, Sh.cOf, Sh.oOf, Sh.seq_nx, Sh.seq_rt, Sh.seq_bk, Sh.seq_ct, Sh.seq_er, Sh.seq_no, Sh.run_ok, Sh.run_er, Sh.run_no, Sh.ok_bind, Sh.er_bind, Sh.no_bind, Sh.of_some, Sh.of_none, Sh.res_nx, Sh.res_rt, Sh.res_er, Sh.res_no, Sh.resI_nx, Sh.resI_er, Sh.resI_no, Sh.orE_no, Sh.orE_ok, Sh.orE_er, Sh.clean_ok, Sh.clean_er, Sh.clean_no, Sh.clean_of, Option.map_some, Option.map_none, Option.bind_some, Option.bind_none, List.getElem?_cons_zero, List.getElem?_cons_succ, List.set_cons_zero, List.set_cons_succ, List.length_cons, List.length_nil, List.map_cons, List.map_nil, List.cons_append, List.nil_append, List.append_nil, List.replicate_succ, List.replicate_zero, List.all_cons, List.all_nil, Nat.zero_add, Nat.reduceAdd, Nat.reduceLeDiff, Nat.reduceLT, Nat.reduceEqDiff, Sh.sz_le, Sh.sz_lt, if_true, if_false, ite_true, ite_false, reduceIte, Bool.and_true, Bool.true_and, and_true, true_and, and_self, decide_true, decide_false, Bool.not_true, Bool.not_false, Bool.false_eq_true, reduceCtorEq, Sh.dIs, Sh.dNot, Sh.D.isN, Sh.D.b, cond_true, cond_false, List.lookup_nil, Sh.ofStr_beq, Sh.ofStr_eq, String.reduceBEq, String.reduceEq, beq_self_eq_true, List.mem_cons, List.not_mem_nil, or_false, false_or, or_true, true_or, or_self, Sh.run_seq, Sh.run_res, Sh.run_resI, Sh.ite_run, Sh.ite_res, Sh.ite_resI, Sh.ite_seq, Sh.bind_bind, Sh.bind_run])
local macro_rules | `(tactic| simp_arith [$ts,*]) => `(tactic| simp only [Sh.runD, Sh.runI, Sh.runL, Sh.sSeq, Sh.sNil, Sh.sSet, Sh.sAsg, Sh.sDrop, Sh.sRet, Sh.sRetN, Sh.sIf, Sh.sBk, Sh.sCt, Sh.sFor, Sh.sFrz, Sh.freeze, Sh.sTry, Sh.sOwn, Sh.sApp, Sh.sRs, Sh.sFdO, Sh.eFdO, Sh.sFdC, Sh.sFdA, Sh.sIxC, Sh.eVar, Sh.eC, Sh.eBin, Sh.eUn, Sh.tVal, Sh.tNt, Sh.tAd, Sh.tOo, Sh.eNt, Sh.eAd, Sh.eOo, Sh.eIf, Sh.eChain, Sh.aNil, Sh.aCons, Sh.aStar, Sh.eTup, Sh.eLst, Sh.eCall, Sh.eIx, Sh.eDf, Sh.eFd, Sh.eMe, Sh.eCm, Sh.ePr, Sh.eAlt, Sh.eMk, Sh.eMkC, Sh.eLstC, Sh.pubC, Sh.eIsi, Sh.eFmt, Sh.eJs, Sh.eSl, Sh.pNo, Sh.pSo, Sh.eM1, Sh.eAct, Sh.eLam, Sh.eXf, Sh.eIsx, Sh.eBinE, Sh.eCallE, Sh.eBo, Sh.eNew, Sh.lDisp, Sh.lComp, Sh.clr, Sh.iSq, Sh.iRng1, Sh.iRng2, Sh.iEnu, Sh.tYesD, Sh.gN, Sh.gT, Sh.gsNil, Sh.gsCons, Sh.notOwn_free, Sh.free_no, Sh.free_val, Sh.free_own, Sh.noOwn, Sh.starF, Sh.starI, Sh.dflF, Sh.dflI, Sh.cOf, Sh.oOf, Sh.seq_nx, Sh.seq_rt, Sh.seq_bk, Sh.seq_ct, Sh.seq_er, Sh.seq_no, Sh.run_ok, Sh.run_er, Sh.run_no, Sh.ok_bind, Sh.er_bind, Sh.no_bind, Sh.of_some, Sh.of_none, Sh.res_nx, Sh.res_rt, Sh.res_er, Sh.res_no, Sh.resI_nx, Sh.resI_er, Sh.resI_no, Sh.orE_no, Sh.orE_ok, Sh.orE_er, Sh.clean_ok, Sh.clean_er, Sh.clean_no, Sh.clean_of, Option.map_some, Option.map_none, Option.bind_some, Option.bind_none, List.getElem?_cons_zero, List.getElem?_cons_succ, List.set_cons_zero, List.set_cons_succ, List.length_cons, List.length_nil, List.map_cons, List.map_nil, List.cons_append, List.nil_append, List.append_nil, List.replicate_succ, List.replicate_zero, List.all_cons, List.all_nil, Nat.zero_add, Nat.reduceAdd, Nat.reduceLeDiff, Nat.reduceLT, Nat.reduceEqDiff, Sh.sz_le, Sh.sz_lt, if_true, if_false, ite_true, ite_false, reduceIte, Bool.and_true, Bool.true_and, and_true, true_and, and_self, decide_true, decide_false, Bool.not_true, Bool.not_false, Bool.false_eq_true, reduceCtorEq, Sh.dIs, Sh.dNot, Sh.D.isN, Sh.D.b, cond_true, cond_false, List.lookup_nil, Sh.ofStr_beq, Sh.ofStr_eq, String.reduceBEq, String.reduceEq, beq_self_eq_true, List.mem_cons, List.not_mem_nil, or_false, false_or, or_true, true_or, or_self, Sh.run_seq, Sh.run_res, Sh.run_resI, Sh.ite_run, Sh.ite_res, Sh.ite_resI, Sh.ite_seq, Sh.bind_bind, Sh.bind_run, $ts,*])

/-! Sh17: what the operators give on data that are written out. -/
namespace Sh
open PySem PyProof.Rows L2
theorem dMul_L {a b : Int} (h : -(2 ^ 64) < a ∧ a < 2 ^ 64) : dMul (.int a) (.int b) = some (.int (a * b)) := by
  show alt2 (oI CMul _) _ (.int a) (.int b) = _
  unfold alt2 oI
  dsimp only
  rw [if_pos (show CMul a b from .inl h)]
theorem dMul_R {a b : Int} (h : -(2 ^ 64) < b ∧ b < 2 ^ 64) : dMul (.int a) (.int b) = some (.int (a * b)) := by
  show alt2 (oI CMul _) _ (.int a) (.int b) = _
  unfold alt2 oI
  dsimp only
  rw [if_pos (show CMul a b from .inr h)]
theorem dAdd_I {a b : Int} : dAdd (.int a) (.int b) = some (.int (a + b)) := rfl
theorem dSub_I {a b : Int} : dSub (.int a) (.int b) = some (.int (a - b)) := rfl
theorem dMod_I {a b : Int} (h : 0 < b) : dMod (.int a) (.int b) = some (.int (a % b)) := by
  unfold dMod oI
  dsimp only
  rw [if_pos h]
theorem dFdiv_I {a b : Int} (h : 0 < b) (hb : b < 2 ^ 64) : dFdiv (.int a) (.int b) = some (.int (a / b)) := by
  unfold dFdiv oI
  dsimp only
  rw [if_pos (show CDivW a b from Nk.c_divW h (by omega))]
theorem dPow_I {a b : Int} (h : 0 ≤ b ∧ b ≤ 1000000) (ha : -(2 ^ 63) ≤ a ∧ a < 2 ^ 63) : dPow (.int a) (.int b) = some (.int (a ^ b.toNat)) := by
  unfold dPow oI
  dsimp only
  rw [if_pos (show CPow a b from Nk.c_pow h ha)]
theorem dLt_I {a b : Int} : dLt (.int a) (.int b) = some (.bl (decide (a < b))) := rfl
theorem dLe_I {a b : Int} : dLe (.int a) (.int b) = some (.bl (decide (a ≤ b))) := rfl
theorem dGt_I {a b : Int} : dGt (.int a) (.int b) = some (.bl (decide (b < a))) := rfl
theorem dGe_I {a b : Int} : dGe (.int a) (.int b) = some (.bl (decide (b ≤ a))) := rfl
theorem dInt_I {a : Int} : dInt [.int a] = some (.int a) := rfl
theorem dInt_B {a : Bool} : dInt [.bl a] = some (.int (if a then 1 else 0)) := rfl
theorem dAbs_I {a : Int} : dAbs [.int a] = some (.int (if a < 0 then -a else a)) := rfl
theorem dLen_L {xs : List D} : dLen [.lst xs] = some (.int xs.length) := rfl
theorem pys_ints (xs : List Int) : D.pys (xs.map D.int) = some (xs.map PyData.int) := by
  induction xs with
  | nil => rfl
  | cons x r ih => simp only [List.map_cons, D.pys, D.py, ih]
theorem ix_L {xs : List D} {k : Int} : D.ix (.lst xs) (.int k) = atI xs k := by
  show (match atI xs k with | some d => some d | none => _) = _
  cases atI xs k <;> rfl
theorem at0 {a b c : D} : atI [a, b, c] 0 = some a := rfl
theorem at1 {a b c : D} : atI [a, b, c] 1 = some b := rfl
theorem at2 {a b c : D} : atI [a, b, c] 2 = some c := rfl
theorem ixN0 : ixN 3 0 = some 0 := rfl
theorem ixN1 : ixN 3 1 = some 1 := rfl
theorem ixN2 : ixN 3 2 = some 2 := rfl
end Sh

/-! Sh18: the law's entry: from the plain law to its promise. -/
namespace Sh
open PySem PySem.Spec PyProof.Rows L2 Nk StX
variable [TabSet]
theorem entry {K : PySem.W.Frag} {H : Hp} {a : Addr} {ns : List Int} {f : List D → Store → R D} (hT : LamX.Tabs (TabSet.TS K) H) (hS : SqL K H a (ns.map V.int)) (hl : ns.length ≤ 63) (h : ∃ S, f [.scr (ns.map D.int)] [] = .ok (.bl true) S) : spSh K f [.ref a] H (fun v _ => v = .bl true) (fun _ _ _ => False) := by
  obtain ⟨S, e⟩ := h
  refine ⟨fun _ => False, [], [], [.scr (ns.map D.int)], ⟨fun _ h => h.elim, List.nodup_nil, fun _ h => (List.not_mem_nil h).elim, fun _ h => h.elim (fun h => (List.not_mem_nil h).elim) fun h => (List.not_mem_nil h).elim, fun i j x h => by simp at h, fun _ h => (List.not_mem_nil h).elim, rfl, fun n x c h1 h2 => by simp at h1, hT⟩, reps_cons ?_ reps_nil, ?_⟩
  · unfold Rep
    refine ⟨a, ns.map V.int, rfl, ⟨?_, by rw [List.length_map]; exact Nat.le_trans hl (by decide)⟩, reps_ints ns⟩
    rcases hS with h | h
    · refine .inl ⟨?_, h⟩
      rintro (z | z | z)
      · exact z
      · exact List.not_mem_nil z
      · exact List.not_mem_nil z
    · exact .inr h
  · rw [e]
    intro v m' H' f c r
    unfold Rep at r
    exact r
end Sh

/-! Sh19: loops of pictures. -/
namespace Sh
open PySem L2
theorem forD_cons {g : Tg} {b : Sy} {d : D} {ds : List D} {e : En} {S : Store} : forD g b (d :: ds) e S = match g d e with | none => .no | some e1 => (b e1 S).turn (forD g b ds) := rfl
theorem forD_nil {g : Tg} {b : Sy} {e : En} {S : Store} : forD g b [] e S = .nx e S := rfl
theorem mapA_cons {g : Tg} {t : Sx Bool} {f : Sx D} {acc : List D} {d : D} {ds : List D} {e : En} {S : Store} : mapA g t f acc (d :: ds) e S = match g d e with | none => .no | some e1 => (t e1 S).bind fun c S1 => if c = true then (f e1 S1).bind fun y S2 => mapA g t f (acc ++ [y]) ds e S2 else mapA g t f acc ds e S1 := rfl
theorem mapA_nil {g : Tg} {t : Sx Bool} {f : Sx D} {acc : List D} {e : En} {S : Store} : mapA g t f acc [] e S = .ok acc S := rfl
/-- a comprehension without tests, by what each turn does to the store -/
theorem mapA_inv {g : Tg} {f : Sx D} {e : En} (P : D → Prop) (I : Nat → Store → Prop) (h : ∀ d n S, I n S → ∃ e1 y S', g d e = some e1 ∧ f e1 S = .ok y S' ∧ P y ∧ I (n + 1) S') :
    ∀ (ds acc : List D) (n : Nat) (S : Store), I n S → ∃ ys S', mapA g tYesD f acc ds e S = .ok (acc ++ ys) S' ∧ ys.length = ds.length ∧ (∀ y ∈ ys, P y) ∧ I (n + ds.length) S'
  | [], acc, n, S, i => ⟨[], S, by rw [mapA_nil, List.append_nil], rfl, (fun _ h => nomatch h), i⟩
  | d :: ds, acc, n, S, i => by
    obtain ⟨e1, y, S1, h1, h2, h3, h4⟩ := h d n S i
    obtain ⟨ys, S2, k1, k2, k3, k4⟩ := mapA_inv P I h ds (acc ++ [y]) (n + 1) S1 h4
    refine ⟨y :: ys, S2, ?_, by simp [k2], fun z hz => ?_, by rw [List.length_cons]; rw [show n + (ds.length + 1) = n + 1 + ds.length from by omega]; exact k4⟩
    · rw [mapA_cons, h1]
      show (tYesD e1 S).bind _ = _
      show (R.ok true S).bind _ = _
      rw [ok_bind, if_pos rfl, h2, ok_bind, k1, List.append_assoc]
      rfl
    · rcases List.mem_cons.mp hz with rfl | hz
      · exact h3
      · exact k3 z hz
/-- .. that changes nothing -/
theorem mapA_map {g : Tg} {f : Sx D} {e : En} {S : Store} (k : D → D) : ∀ (ds acc : List D), (∀ d ∈ ds, ∃ e1, g d e = some e1 ∧ f e1 S = .ok (k d) S) → mapA g tYesD f acc ds e S = .ok (acc ++ ds.map k) S
  | [], acc, _ => by rw [mapA_nil, List.map_nil, List.append_nil]
  | d :: ds, acc, h => by
    obtain ⟨e1, h1, h2⟩ := h d List.mem_cons_self
    rw [mapA_cons, h1]
    show (R.ok true S).bind _ = _
    rw [ok_bind, if_pos rfl, h2, ok_bind, mapA_map k ds (acc ++ [k d]) fun d hd => h d (List.mem_cons_of_mem _ hd), List.append_assoc]
    rfl
end Sh

/-! Sh20: cells at the end of the store, loops with bounds, words joined. -/
namespace Sh
open PySem L2
theorem app_get {S : Store} {c : Cell} : (S ++ [c])[S.length]? = some c := by simp
theorem app_set {S : Store} {c c' : Cell} : (S ++ [c]).set S.length c' = S ++ [c'] := by simp
/-- a comprehension without tests, by what each turn does to the store; with a bound -/
theorem mapA_invN {g : Tg} {f : Sx D} {e : En} (N : Nat) (P : D → Prop) (I : Nat → Store → Prop) (h : ∀ d n S, n < N → I n S → ∃ e1 y S', g d e = some e1 ∧ f e1 S = .ok y S' ∧ P y ∧ I (n + 1) S') :
    ∀ (ds acc : List D) (n : Nat) (S : Store), n + ds.length ≤ N → I n S → ∃ ys S', mapA g tYesD f acc ds e S = .ok (acc ++ ys) S' ∧ ys.length = ds.length ∧ (∀ y ∈ ys, P y) ∧ I (n + ds.length) S'
  | [], acc, n, S, _, i => ⟨[], S, by rw [mapA_nil, List.append_nil], rfl, (fun _ h => nomatch h), i⟩
  | d :: ds, acc, n, S, hn, i => by
    rw [List.length_cons] at hn
    obtain ⟨e1, y, S1, h1, h2, h3, h4⟩ := h d n S (by omega) i
    obtain ⟨ys, S2, k1, k2, k3, k4⟩ := mapA_invN N P I h ds (acc ++ [y]) (n + 1) S1 (by omega) h4
    refine ⟨y :: ys, S2, ?_, by simp [k2], fun z hz => ?_, by rw [List.length_cons]; rw [show n + (ds.length + 1) = n + 1 + ds.length from by omega]; exact k4⟩
    · rw [mapA_cons, h1]
      show (R.ok true S).bind _ = _
      rw [ok_bind, if_pos rfl, h2, ok_bind, k1, List.append_assoc]
      rfl
    · rcases List.mem_cons.mp hz with rfl | hz
      · exact h3
      · exact k3 z hz
theorem joinL_app (s : List Nat) : ∀ (a b : List (List Nat)), a ≠ [] → b ≠ [] → TL.joinL s (a ++ b) = TL.joinL s a ++ (s ++ TL.joinL s b)
  | [], _, h, _ => (h rfl).elim
  | [p], [], _, h => (h rfl).elim
  | [p], q :: r, _, _ => rfl
  | p :: q :: r, b, _, hb => by
    show p ++ (s ++ TL.joinL s ((q :: r) ++ b)) = p ++ (s ++ TL.joinL s (q :: r)) ++ (s ++ TL.joinL s b)
    rw [joinL_app s (q :: r) b (by simp) hb]
    simp only [List.append_assoc]
/-- rows of words with a word between -/
def glue {α : Type} (m : α) : List (List α) → List α
  | [] => []
  | [w] => w
  | w :: r => w ++ m :: glue m r
theorem glue_ne {α : Type} {m : α} : ∀ {l : List (List α)}, l ≠ [] → (∀ x ∈ l, x ≠ []) → glue m l ≠ []
  | [], h, _ => (h rfl).elim
  | [w], _, h => h w List.mem_cons_self
  | w :: x :: r, _, h => by
    show w ++ m :: glue m (x :: r) ≠ []
    simp
theorem joinL_glue (s m : List Nat) : ∀ (l : List (List (List Nat))), (∀ x ∈ l, x ≠ []) → TL.joinL (s ++ m ++ s) (l.map (TL.joinL s)) = TL.joinL s (glue m l)
  | [], _ => rfl
  | [w], _ => rfl
  | w :: x :: r, h => by
    have ih := joinL_glue s m (x :: r) fun y hy => h y (List.mem_cons_of_mem _ hy)
    show TL.joinL s w ++ ((s ++ m ++ s) ++ TL.joinL (s ++ m ++ s) ((x :: r).map (TL.joinL s))) = TL.joinL s (w ++ m :: glue m (x :: r))
    rw [ih, joinL_app s w _ (h w List.mem_cons_self) (by simp)]
    have hne : glue m (x :: r) ≠ [] := glue_ne (by simp) fun y hy => h y (List.mem_cons_of_mem _ hy)
    rw [show m :: glue m (x :: r) = [m] ++ glue m (x :: r) from rfl, joinL_app s [m] _ (by simp) hne]
    simp only [TL.joinL, List.append_assoc]
theorem map_glue {α β : Type} (f : α → β) (m : α) : ∀ (l : List (List α)), (glue m l).map f = glue (f m) (l.map (·.map f))
  | [] => rfl
  | [w] => rfl
  | w :: x :: r => by
    show (w ++ m :: glue m (x :: r)).map f = w.map f ++ f m :: glue (f m) ((x :: r).map (·.map f))
    rw [List.map_append, List.map_cons, map_glue f m (x :: r)]
end Sh

/-! Sh21: what the operators give, as rules for simp; the tactic pix: pictures run on data. -/
--NOPV mapA_enc bind_cg run_cg seq_cg turn_cg obind_cg eqv_qe eqvs_qe dat_py dats_py depth_le depths_le qe_self qes_self okR_t dEq_of dNe_of at0' mapA_one join_le
namespace Sh
open PySem PyProof.Rows L2
theorem mapA_enc {α : Type} {g : Tg} {f : Sx D} {e : En} {S : Store} (enc : α → D) (k : α → D) (xs : List α) (acc : List D) (h : ∀ x ∈ xs, ∃ e1, g (enc x) e = some e1 ∧ f e1 S = .ok (k x) S) : mapA g tYesD f acc (xs.map enc) e S = .ok (acc ++ xs.map k) S := by
  induction xs generalizing acc with
  | nil => rw [List.map_nil, mapA_nil, List.map_nil, List.append_nil]
  | cons x r ih =>
    obtain ⟨e1, h1, h2⟩ := h x List.mem_cons_self
    rw [List.map_cons, mapA_cons, h1]
    show (R.ok true S).bind _ = _
    rw [ok_bind, if_pos rfl, h2, ok_bind, ih (acc ++ [k x]) (fun y hy => h y (List.mem_cons_of_mem _ hy)), List.append_assoc]
    rfl
theorem szl {n : Nat} (h : n ≤ 16777216) : (n ≤ sizeLine) = True := eq_true h
theorem szt {n : Nat} (h : n < 16777216) : (n < sizeLine) = True := eq_true h
theorem b_bl {b : Bool} : D.b (.bl b) = some b := rfl
/-- data: numbers, texts, tuples, lists, at most n deep -/
def isDat : Nat → D → Bool
  | _, .non => true
  | _, .bl _ => true
  | _, .int _ => true
  | _, .str _ => true
  | 0, _ => false
  | n + 1, .tup xs => xs.all (isDat n)
  | n + 1, .lst xs => xs.all (isDat n)
  | _, _ => false
mutual
def D.qe : D → D → Bool
  | .non, .non => true
  | .bl a, .bl b => a == b
  | .bl a, .int j => (if a then 1 else 0) == j
  | .int i, .bl b => i == (if b then 1 else 0)
  | .int i, .int j => i == j
  | .str x, .str y => x == y
  | .lst xs, .lst ys => D.qes xs ys
  | .tup xs, .tup ys => D.qes xs ys
  | _, _ => false
def D.qes : List D → List D → Bool
  | [], [] => true
  | x :: xs, y :: ys => D.qe x y && D.qes xs ys
  | _, _ => false
end
mutual
theorem eqv_qe : ∀ (x y : D) {p q : PyData}, x.py = some p → y.py = some q → PyData.eqv p q = D.qe x y
  | .lst xs, y, p, q, e, e2 => by
    unfold D.py at e
    cases h : D.pys xs with
    | none => rw [h] at e; cases e
    | some ps =>
      rw [h] at e; cases e
      cases y <;> unfold D.py at e2 <;> try cases e2
      all_goals try (unfold D.qe; rfl)
      all_goals
        rename_i ys
        cases h2 : D.pys ys with
        | none => rw [h2] at e2; cases e2
        | some qs =>
          rw [h2] at e2; cases e2
          unfold D.qe PyData.eqv
          first | exact eqvs_qe xs ys h h2 | rfl
  | .tup xs, y, p, q, e, e2 => by
    unfold D.py at e
    cases h : D.pys xs with
    | none => rw [h] at e; cases e
    | some ps =>
      rw [h] at e; cases e
      cases y <;> unfold D.py at e2 <;> try cases e2
      all_goals try (unfold D.qe; rfl)
      all_goals
        rename_i ys
        cases h2 : D.pys ys with
        | none => rw [h2] at e2; cases e2
        | some qs =>
          rw [h2] at e2; cases e2
          unfold D.qe PyData.eqv
          first | exact eqvs_qe xs ys h h2 | rfl
  | .non, y, p, q, e, e2 => by
    cases e
    cases y <;> unfold D.py at e2 <;> try cases e2
    all_goals try (unfold D.qe; rfl)
    all_goals
      rename_i ys
      cases h2 : D.pys ys with
      | none => rw [h2] at e2; cases e2
      | some qs => rw [h2] at e2; cases e2; unfold D.qe; rfl
  | .bl b, y, p, q, e, e2 => by
    cases e
    cases y <;> unfold D.py at e2 <;> try cases e2
    all_goals try (unfold D.qe; rfl)
    all_goals
      rename_i ys
      cases h2 : D.pys ys with
      | none => rw [h2] at e2; cases e2
      | some qs => rw [h2] at e2; cases e2; unfold D.qe; rfl
  | .int i, y, p, q, e, e2 => by
    cases e
    cases y <;> unfold D.py at e2 <;> try cases e2
    all_goals try (unfold D.qe; rfl)
    all_goals
      rename_i ys
      cases h2 : D.pys ys with
      | none => rw [h2] at e2; cases e2
      | some qs => rw [h2] at e2; cases e2; unfold D.qe; rfl
  | .str i, y, p, q, e, e2 => by
    cases e
    cases y <;> unfold D.py at e2 <;> try cases e2
    all_goals try (unfold D.qe; rfl)
    all_goals
      rename_i ys
      cases h2 : D.pys ys with
      | none => rw [h2] at e2; cases e2
      | some qs => rw [h2] at e2; cases e2; unfold D.qe; rfl
  | .ty _, _, _, _, e, _ => by unfold D.py at e; cases e
  | .cls _, _, _, _, e, _ => by unfold D.py at e; cases e
  | .obj _ _, _, _, _, e, _ => by unfold D.py at e; cases e
  | .exc _ _, _, _, _, e, _ => by unfold D.py at e; cases e
  | .dk _, _, _, _, e, _ => by unfold D.py at e; cases e
  | .dt _, _, _, _, e, _ => by unfold D.py at e; cases e
  | .ref _, _, _, _, e, _ => by unfold D.py at e; cases e
  | .scr _, _, _, _, e, _ => by unfold D.py at e; cases e
  | .adr _, _, _, _, e, _ => by unfold D.py at e; cases e
theorem eqvs_qe : ∀ (xs ys : List D) {ps qs : List PyData}, D.pys xs = some ps → D.pys ys = some qs → PyData.eqvAll ps qs = D.qes xs ys
  | [], ys, ps, qs, e, e2 => by
    cases e
    cases ys with
    | nil => cases e2; unfold D.qes; rfl
    | cons y r =>
      unfold D.pys at e2
      cases h : y.py <;> cases h2 : D.pys r <;> simp only [h, h2] at e2 <;> cases e2
      unfold D.qes; rfl
  | x :: xs, ys, ps, qs, e, e2 => by
    unfold D.pys at e
    cases h : x.py <;> cases h2 : D.pys xs <;> simp only [h, h2] at e <;> cases e
    cases ys with
    | nil => cases e2; unfold D.qes; rfl
    | cons y r =>
      unfold D.pys at e2
      cases h3 : y.py <;> cases h4 : D.pys r <;> simp only [h3, h4] at e2 <;> cases e2
      unfold D.qes PyData.eqvAll
      rw [eqv_qe x y h h3, eqvs_qe xs r h2 h4]
end
mutual
theorem dat_py : ∀ (n : Nat) (x : D), isDat n x = true → ∃ p, x.py = some p ∧ p.depth ≤ n + 1
  | n, .non, _ => ⟨_, by unfold D.py; rfl, by simp only [PyData.depth]; omega⟩
  | n, .bl _, _ => ⟨_, by unfold D.py; rfl, by simp only [PyData.depth]; omega⟩
  | n, .int _, _ => ⟨_, by unfold D.py; rfl, by simp only [PyData.depth]; omega⟩
  | n, .str _, _ => ⟨_, by unfold D.py; rfl, by simp only [PyData.depth]; omega⟩
  | n + 1, .tup xs, h => by
    unfold isDat at h
    obtain ⟨ps, e, d⟩ := dats_py n xs h
    exact ⟨.tuple ps, by unfold D.py; rw [e]; rfl, by simp only [PyData.depth]; omega⟩
  | n + 1, .lst xs, h => by
    unfold isDat at h
    obtain ⟨ps, e, d⟩ := dats_py n xs h
    exact ⟨.list ps, by unfold D.py; rw [e]; rfl, by simp only [PyData.depth]; omega⟩
  | 0, .tup xs, h => by unfold isDat at h; cases h
  | 0, .lst xs, h => by unfold isDat at h; cases h
  | n, .ty _, h => by unfold isDat at h; cases n <;> cases h
  | n, .cls _, h => by unfold isDat at h; cases n <;> cases h
  | n, .obj _ _, h => by unfold isDat at h; cases n <;> cases h
  | n, .exc _ _, h => by unfold isDat at h; cases n <;> cases h
  | n, .dk _, h => by unfold isDat at h; cases n <;> cases h
  | n, .dt _, h => by unfold isDat at h; cases n <;> cases h
  | n, .ref _, h => by unfold isDat at h; cases n <;> cases h
  | n, .scr _, h => by unfold isDat at h; cases n <;> cases h
  | n, .adr _, h => by unfold isDat at h; cases n <;> cases h
theorem dats_py : ∀ (n : Nat) (xs : List D), xs.all (isDat n) = true → ∃ ps, D.pys xs = some ps ∧ PyData.depthAll ps ≤ n + 1
  | n, [], _ => ⟨[], rfl, by simp only [PyData.depthAll]; omega⟩
  | n, x :: xs, h => by
    rw [List.all_cons, Bool.and_eq_true] at h
    obtain ⟨p, e, d⟩ := dat_py n x h.1
    obtain ⟨ps, e2, d2⟩ := dats_py n xs h.2
    exact ⟨p :: ps, by unfold D.pys; rw [e, e2], by simp only [PyData.depthAll]; omega⟩
end
theorem dEq_of {x y : D} {b : Bool} (hx : isDat 9 x = true) (hy : isDat 9 y = true) (h : D.qe x y = b) : dEq x y = some (.bl b) := by
  obtain ⟨p, e, d⟩ := dat_py 9 x hx
  obtain ⟨q, e2, _⟩ := dat_py 9 y hy
  unfold dEq dEqP
  rw [e, e2]
  dsimp only
  rw [if_pos (by omega), eqv_qe x y e e2, h]
  rfl
theorem dNe_of {x y : D} {b : Bool} (hx : isDat 9 x = true) (hy : isDat 9 y = true) (h : D.qe x y = b) : dNe x y = some (.bl (!b)) := by
  obtain ⟨p, e, d⟩ := dat_py 9 x hx
  obtain ⟨q, e2, _⟩ := dat_py 9 y hy
  unfold dNe dEqP
  rw [e, e2]
  dsimp only
  rw [if_pos (by omega), eqv_qe x y e e2, h]
  rfl
theorem dEq_q {x y : D} (hx : isDat 9 x = true) (hy : isDat 9 y = true) : dEq x y = some (.bl (D.qe x y)) := dEq_of hx hy rfl
theorem dNe_q {x y : D} (hx : isDat 9 x = true) (hy : isDat 9 y = true) : dNe x y = some (.bl (!D.qe x y)) := dNe_of hx hy rfl
theorem isDat_non {n : Nat} : isDat n .non = true := by unfold isDat; rfl
theorem isDat_bl {n : Nat} {b : Bool} : isDat n (.bl b) = true := by unfold isDat; rfl
theorem isDat_int {n : Nat} {b : Int} : isDat n (.int b) = true := by unfold isDat; rfl
theorem isDat_str {n : Nat} {b : Str} : isDat n (.str b) = true := by unfold isDat; rfl
theorem isDat_t9 {xs : List D} : isDat 9 (.tup xs) = xs.all (isDat 8) := by rw [isDat]
theorem isDat_l9 {xs : List D} : isDat 9 (.lst xs) = xs.all (isDat 8) := by rw [isDat]
theorem isDat_t8 {xs : List D} : isDat 8 (.tup xs) = xs.all (isDat 7) := by rw [isDat]
theorem isDat_l8 {xs : List D} : isDat 8 (.lst xs) = xs.all (isDat 7) := by rw [isDat]
theorem isDat_t7 {xs : List D} : isDat 7 (.tup xs) = xs.all (isDat 6) := by rw [isDat]
theorem isDat_l7 {xs : List D} : isDat 7 (.lst xs) = xs.all (isDat 6) := by rw [isDat]
theorem isDat_t6 {xs : List D} : isDat 6 (.tup xs) = xs.all (isDat 5) := by rw [isDat]
theorem isDat_l6 {xs : List D} : isDat 6 (.lst xs) = xs.all (isDat 5) := by rw [isDat]
mutual
theorem qe_self : ∀ (n : Nat) (x : D), isDat n x = true → D.qe x x = true
  | n, .non, _ => by unfold D.qe; rfl
  | n, .bl _, _ => by unfold D.qe; simp
  | n, .int _, _ => by unfold D.qe; simp
  | n, .str _, _ => by unfold D.qe; simp
  | n + 1, .tup xs, h => by
    unfold isDat at h
    unfold D.qe
    exact qes_self n xs h
  | n + 1, .lst xs, h => by
    unfold isDat at h
    unfold D.qe
    exact qes_self n xs h
  | 0, .tup xs, h => by unfold isDat at h; cases h
  | 0, .lst xs, h => by unfold isDat at h; cases h
  | n, .ty _, h => by unfold isDat at h; cases n <;> cases h
  | n, .cls _, h => by unfold isDat at h; cases n <;> cases h
  | n, .obj _ _, h => by unfold isDat at h; cases n <;> cases h
  | n, .exc _ _, h => by unfold isDat at h; cases n <;> cases h
  | n, .dk _, h => by unfold isDat at h; cases n <;> cases h
  | n, .dt _, h => by unfold isDat at h; cases n <;> cases h
  | n, .ref _, h => by unfold isDat at h; cases n <;> cases h
  | n, .scr _, h => by unfold isDat at h; cases n <;> cases h
  | n, .adr _, h => by unfold isDat at h; cases n <;> cases h
theorem qes_self : ∀ (n : Nat) (xs : List D), xs.all (isDat n) = true → D.qes xs xs = true
  | n, [], _ => by unfold D.qes; rfl
  | n, x :: xs, h => by
    rw [List.all_cons, Bool.and_eq_true] at h
    unfold D.qes
    rw [qe_self n x h.1, qes_self n xs h.2]
    rfl
end
theorem qe_ii {a b : Int} : D.qe (.int a) (.int b) = (a == b) := by unfold D.qe; rfl
theorem qe_ss {a b : Str} : D.qe (.str a) (.str b) = (a == b) := by unfold D.qe; rfl
theorem qe_bb {a b : Bool} : D.qe (.bl a) (.bl b) = (a == b) := by unfold D.qe; rfl
theorem qe_bi {a : Bool} {b : Int} : D.qe (.bl a) (.int b) = ((if a then 1 else 0) == b) := by unfold D.qe; rfl
theorem qe_ib {a : Int} {b : Bool} : D.qe (.int a) (.bl b) = (a == (if b then 1 else 0)) := by unfold D.qe; rfl
theorem qe_nn : D.qe .non .non = true := by unfold D.qe; rfl
theorem qe_ns {b : Str} : D.qe .non (.str b) = false := by unfold D.qe; rfl
theorem qe_sn {b : Str} : D.qe (.str b) .non = false := by unfold D.qe; rfl
theorem qe_ni {b : Int} : D.qe .non (.int b) = false := by unfold D.qe; rfl
theorem qe_in {b : Int} : D.qe (.int b) .non = false := by unfold D.qe; rfl
theorem qe_is {a : Int} {b : Str} : D.qe (.int a) (.str b) = false := by unfold D.qe; rfl
theorem qe_si {a : Int} {b : Str} : D.qe (.str b) (.int a) = false := by unfold D.qe; rfl
theorem qe_bn {b : Bool} : D.qe (.bl b) .non = false := by unfold D.qe; rfl
theorem qe_nb {b : Bool} : D.qe .non (.bl b) = false := by unfold D.qe; rfl
theorem qe_bs {a : Bool} {b : Str} : D.qe (.bl a) (.str b) = false := by unfold D.qe; rfl
theorem qe_sb {a : Bool} {b : Str} : D.qe (.str b) (.bl a) = false := by unfold D.qe; rfl
theorem qe_tt {a b : List D} : D.qe (.tup a) (.tup b) = D.qes a b := by rw [D.qe]
theorem qe_ll {a b : List D} : D.qe (.lst a) (.lst b) = D.qes a b := by rw [D.qe]
theorem qe_lt {a b : List D} : D.qe (.lst a) (.tup b) = false := by rw [D.qe] <;> simp
theorem qe_tl {a b : List D} : D.qe (.tup a) (.lst b) = false := by rw [D.qe] <;> simp
theorem qe_tn {a : List D} : D.qe (.tup a) .non = false := by rw [D.qe] <;> simp
theorem qe_nt {a : List D} : D.qe .non (.tup a) = false := by rw [D.qe] <;> simp
theorem qe_ts {a : List D} {b : Str} : D.qe (.tup a) (.str b) = false := by rw [D.qe] <;> simp
theorem qe_st {a : List D} {b : Str} : D.qe (.str b) (.tup a) = false := by rw [D.qe] <;> simp
theorem qes_nil : D.qes [] [] = true := by unfold D.qes; rfl
theorem qes_cons {x y : D} {xs ys : List D} : D.qes (x :: xs) (y :: ys) = (D.qe x y && D.qes xs ys) := by rw [D.qes]
theorem qes_nc {y : D} {ys : List D} : D.qes [] (y :: ys) = false := by rw [D.qes] <;> simp
theorem qes_cn {y : D} {ys : List D} : D.qes (y :: ys) [] = false := by rw [D.qes] <;> simp
/-! ### indexes, slices, lengths -/
theorem at_z {x : D} {xs : List D} : atI (x :: xs) 0 = some x := by
  unfold atI ixN
  rw [if_pos (by decide), if_pos (by simp only [List.length_cons]; omega)]
  rfl
theorem at_1 {x y : D} {xs : List D} : atI (x :: y :: xs) 1 = some y := by
  unfold atI ixN
  rw [if_pos (by decide), if_pos (by simp only [List.length_cons]; omega)]
  rfl
theorem at_2 {x y z : D} {xs : List D} : atI (x :: y :: z :: xs) 2 = some z := by
  unfold atI ixN
  rw [if_pos (by decide), if_pos (by simp only [List.length_cons]; omega)]
  rfl
theorem at_3 {x y z u : D} {xs : List D} : atI (x :: y :: z :: u :: xs) 3 = some u := by
  unfold atI ixN
  rw [if_pos (by decide), if_pos (by simp only [List.length_cons]; omega)]
  rfl
theorem at_4 {x y z u v : D} {xs : List D} : atI (x :: y :: z :: u :: v :: xs) 4 = some v := by
  unfold atI ixN
  rw [if_pos (by decide), if_pos (by simp only [List.length_cons]; omega)]
  rfl
theorem ix_T {xs : List D} {k : Int} : D.ix (.tup xs) (.int k) = atI xs k := by
  simp only [D.ix, alt2]
  cases atI xs k <;> rfl
theorem dLen_S {x : Str} : dLen [.str x] = some (.int x.length) := rfl
theorem dLen_T {xs : List D} : dLen [.tup xs] = some (.int xs.length) := rfl
theorem sl_L {xs : List D} {a b : Option Int} : D.sl a b (.lst xs) = some (.lst (cutD xs a b)) := rfl
theorem sl_T {xs : List D} {a b : Option Int} : D.sl a b (.tup xs) = some (.tup (cutD xs a b)) := rfl
theorem sl_S {xs : List D} {a b : Option Int} : D.sl a b (.scr xs) = some (.lst (cutD xs a b)) := rfl
theorem cut_to {xs : List D} {k : Int} (h : 0 ≤ k) : cutD xs none (some k) = xs.take k.toNat := by
  unfold cutD
  rw [HT.sIx_none]
  show (xs.drop 0).take ((if k < 0 then (k + (xs.length : Int)).toNat else min k.toNat xs.length) - 0) = _
  rw [if_neg (by omega), List.drop_zero, Nat.sub_zero]
  rw [← List.take_take, List.take_length]
theorem cut_from {xs : List D} {k : Int} (h : 0 ≤ k) : cutD xs (some k) none = xs.drop k.toNat := by
  unfold cutD
  rw [HT.sIx_none]
  show (xs.drop (if k < 0 then (k + (xs.length : Int)).toNat else min k.toNat xs.length)).take (xs.length - (if k < 0 then (k + (xs.length : Int)).toNat else min k.toNat xs.length)) = _
  rw [if_neg (by omega)]
  by_cases hk : k.toNat ≤ xs.length
  · rw [Nat.min_eq_left hk, ← List.length_drop, List.take_length]
  · rw [Nat.min_eq_right (by omega), Nat.sub_self, List.take_zero, List.drop_eq_nil_of_le (by omega)]
variable [TabSet] [BasePred]
theorem dList_L {xs : List D} : dList [.lst xs] = some (.lst xs) := rfl
theorem dList_T {xs : List D} : dList [.tup xs] = some (.lst xs) := rfl
theorem dTuple_L {xs : List D} : dTuple [.lst xs] = some (.tup xs) := rfl
theorem dTuple_T {xs : List D} : dTuple [.tup xs] = some (.tup xs) := rfl
theorem okR_t {n : Int} (h : -(2 ^ 62) ≤ n) (h2 : n < 2 ^ 62) : okR n = true := okR_of h h2
theorem okRt {n : Int} (h : -4611686018427387904 ≤ n ∧ n < 4611686018427387904) : (okR n = true) = True := eq_true (okR_of (by omega) (by omega))
theorem okLent {n : Int} (h : 0 ≤ n ∧ n < 9223372036854775808) : (okLen n = true) = True := eq_true (okLen_of (by omega) (by omega))
theorem bs_bls {bs : List Bool} : D.bs (bs.map D.bl) = some bs := by
  induction bs with
  | nil => rfl
  | cons b r ih => simp only [List.map_cons, D.bs, D.b, ih]
theorem dAll_b {xs : List D} : dAll [.lst xs] = (D.bs xs).map fun bs => .bl (bs.all id) := rfl
theorem dAny_b {xs : List D} : dAny [.lst xs] = (D.bs xs).map fun bs => .bl (bs.any id) := rfl
theorem isi_non {bi : List String} {own : List (String × Bool)} : isiF bi own .non = some (bi.contains "NoneType") := rfl
theorem isi_bl {bi : List String} {own : List (String × Bool)} {b : Bool} : isiF bi own (.bl b) = some (bi.contains "bool") := rfl
theorem isi_int {bi : List String} {own : List (String × Bool)} {b : Int} : isiF bi own (.int b) = some (bi.contains "int") := rfl
theorem isi_str {bi : List String} {own : List (String × Bool)} {b : Str} : isiF bi own (.str b) = some (bi.contains "str") := rfl
theorem isi_tup {bi : List String} {own : List (String × Bool)} {b : List D} : isiF bi own (.tup b) = some (bi.contains "tuple") := rfl
theorem isi_lst {bi : List String} {own : List (String × Bool)} {b : List D} : isiF bi own (.lst b) = some (bi.contains "list") := rfl
theorem isi_scr {bi : List String} {own : List (String × Bool)} {b : List D} : isiF bi own (.scr b) = some (bi.contains "list") := rfl
theorem isi_dk {bi : List String} {own : List (String × Bool)} {b : List (Key × D)} : isiF bi own (.dk b) = some (bi.contains "dict") := rfl
theorem isi_dt {bi : List String} {own : List (String × Bool)} {b : List (List Key × D)} : isiF bi own (.dt b) = some (bi.contains "dict") := rfl
theorem isi_obj {bi : List String} {own : List (String × Bool)} {c : String} {fs : List (Str × D)} : isiF bi own (.obj c fs) = own.lookup c := rfl
theorem items_lst {xs : List D} : D.items (.lst xs) = some xs := rfl
theorem items_tup {xs : List D} : D.items (.tup xs) = some xs := rfl
theorem items_str {z : Str} : D.items (.str z) = some (z.cps.toList.map fun c => .str ⟨#[c]⟩) := rfl
theorem fmt_str {z : Str} : fmtD (.str z) = some (.str z) := rfl
theorem tree_lst {xs : List D} : Cell.tree (.lst xs) = .lst xs := rfl
theorem tree_ins {c : String} {fs : List (Str × D)} : Cell.tree (.ins c fs) = .obj c fs := rfl
theorem tree_dk {b : List (Key × D)} : Cell.tree (.dk b) = .dk b := rfl
theorem tree_dt {b : List (List Key × D)} : Cell.tree (.dt b) = .dt b := rfl
theorem seq_lst {xs : List D} : D.seq (.lst xs) = some xs := rfl
theorem seq_tup {xs : List D} : D.seq (.tup xs) = some xs := rfl
theorem isN_non : D.isN .non = true := rfl
theorem isN_bl {b : Bool} : D.isN (.bl b) = false := rfl
theorem isN_int {b : Int} : D.isN (.int b) = false := rfl
theorem isN_str {b : Str} : D.isN (.str b) = false := rfl
theorem isN_tup {b : List D} : D.isN (.tup b) = false := rfl
theorem isN_lst {b : List D} : D.isN (.lst b) = false := rfl
theorem isN_obj {c : String} {fs : List (Str × D)} : D.isN (.obj c fs) = false := rfl
theorem isN_exc {c : String} {fs : List (Str × D)} : D.isN (.exc c fs) = false := rfl
theorem isN_ref {c : Nat} : D.isN (.ref c) = false := rfl
theorem is_n {x : D} : dIs x .non = some (.bl x.isN) := by cases x <;> rfl
theorem not_n {x : D} : dNot x .non = some (.bl (!x.isN)) := by cases x <;> rfl
/-! ### objects -/
theorem fld_obj {cs : List String} {f : Str} {S : Store} {c : String} {fs : List (Str × D)} : D.fld cs f S (.obj c fs) = if c ∈ cs then fs.lookup f else none := rfl
theorem isC_obj {k : String} {f : Str} {S : Store} {c : String} {fs : List (Str × D)} : D.isC k f S (.obj c fs) = (c == k && (fs.lookup f).isNone) := rfl
theorem isO_obj {k : String} {S : Store} {c : String} {fs : List (Str × D)} : D.isO k S (.obj c fs) = (c == k) := rfl
theorem tyIn_obj {bi cs : List String} {S : Store} {c : String} {fs : List (Str × D)} : D.tyIn bi cs S (.obj c fs) = cs.contains c := rfl
/-! ### lists -/
theorem dAdd_ll {xs ys : List D} (h : xs.length + ys.length ≤ 16777216) : dAdd (.lst xs) (.lst ys) = some (.lst (xs ++ ys)) := by
  simp only [dAdd, alt2, oI0, oStr, oCatL, oCatT]
  rw [if_pos (show xs.length + ys.length ≤ sizeLine from h)]
theorem dAdd_tt {xs ys : List D} (h : xs.length + ys.length ≤ 16777216) : dAdd (.tup xs) (.tup ys) = some (.tup (xs ++ ys)) := by
  simp only [dAdd, alt2, oI0, oStr, oCatL, oCatT]
  rw [if_pos (show xs.length + ys.length ≤ sizeLine from h)]
theorem dAdd_ss {x y : Str} (h : x.length + y.length ≤ 16777216) : dAdd (.str x) (.str y) = some (.str (x ++ y)) := by
  simp only [dAdd, alt2, oI0, oStr, oCatL, oCatT]
  rw [if_pos (show x.length + y.length ≤ sizeLine from h)]
theorem dMul_r1 {x : D} {k : Int} (h : -9223372036854775808 ≤ k ∧ k ≤ 16777216) : dMul (.lst [x]) (.int k) = some (.lst (List.replicate k.toNat x)) := by
  simp only [dMul, alt2, oI, oRep]
  rw [if_pos ⟨okK_of (by omega) (by omega), show [x].length * k.toNat ≤ sizeLine by rw [List.length_singleton, Nat.one_mul]; show _ ≤ 16777216; omega⟩]
  have : ∀ n, (List.replicate n [x]).flatten = List.replicate n x := fun n => by
    induction n with
    | zero => rfl
    | succ n ih => rw [List.replicate_succ, List.flatten_cons, ih, List.replicate_succ]; rfl
  rw [this]
theorem strs_map {ys : List Str} : D.strs (ys.map D.str) = some ys := by
  induction ys with
  | nil => rfl
  | cons y r ih => simp only [List.map_cons, D.strs, ih, Option.map_some]
theorem ap_runD (n k : Nat) (f : Sy) (ds : List D) (S : Store) : runD n k f ds S = (if ds.length = n then (f (ds.map Sl.val ++ List.replicate k .no) S).res else .no) := rfl
theorem ap_runI (n k : Nat) (f : Sy) (c : Cell) (ds : List D) (S : Store) : runI n k f c ds S = (if ds.length + 1 = n then (f (.own c :: (ds.map Sl.val ++ List.replicate k .no)) S).resI else .no) := rfl
theorem ap_sSeq (f g : Sy) (e : En) (S : Store) : sSeq f g e S = ((f e S).seq g) := rfl
theorem ap_sNil (e : En) (S : Store) : sNil e S = (.nx e S) := rfl
def k_sSet_1 (i : Nat) (e : En) (d : D) (S1 : Store) : RS := if notOwn i e then .nx (e.set i (.val d)) S1 else .no
theorem ap_k_sSet_1 (i : Nat) (e : En) (d : D) (S1 : Store) : k_sSet_1 i e d S1 = (if notOwn i e then .nx (e.set i (.val d)) S1 else .no) := rfl
theorem ap_sSet (i : Nat) (f : Sx D) (e : En) (S : Store) : sSet i f e S = ((f e S).run e (k_sSet_1 i e)) := rfl
def k_sAsg_1 (g : Tg) (e : En) (d : D) (S1 : Store) : RS := match g d e with
  | some e' => .nx e' S1
  | none => .no
theorem ap_k_sAsg_1 (g : Tg) (e : En) (d : D) (S1 : Store) : k_sAsg_1 g e d S1 = (match g d e with
  | some e' => .nx e' S1
  | none => .no) := rfl
theorem ap_sAsg (g : Tg) (f : Sx D) (e : En) (S : Store) : sAsg g f e S = ((f e S).run e (k_sAsg_1 g e)) := rfl
def k_sDrop_1 (e : En) (_0 : D) (S1 : Store) : RS := .nx e S1
theorem ap_k_sDrop_1 (e : En) (_0 : D) (S1 : Store) : k_sDrop_1 e _0 S1 = (.nx e S1) := rfl
theorem ap_sDrop (f : Sx D) (e : En) (S : Store) : sDrop f e S = ((f e S).run e (k_sDrop_1 e)) := rfl
def k_sRet_1 (d : D) (S1 : Store) : RS := .rt d S1
theorem ap_k_sRet_1 (d : D) (S1 : Store) : k_sRet_1 d S1 = (.rt d S1) := rfl
theorem ap_sRet (f : Sx D) (e : En) (S : Store) : sRet f e S = ((f e S).run e (k_sRet_1)) := rfl
theorem ap_sRetN (_z : En) (S : Store) : sRetN _z S = (.rt .non S) := rfl
def k_sIf_1 (f : Sy) (g : Sy) (e : En) (b : Bool) (S1 : Store) : RS := if b then f e S1 else g e S1
theorem ap_k_sIf_1 (f : Sy) (g : Sy) (e : En) (b : Bool) (S1 : Store) : k_sIf_1 f g e b S1 = (if b then f e S1 else g e S1) := rfl
theorem ap_sIf (t : Sx Bool) (f g : Sy) (e : En) (S : Store) : sIf t f g e S = ((t e S).run e (k_sIf_1 f g e)) := rfl
theorem ap_sBk (e : En) (S : Store) : sBk e S = (.bk e S) := rfl
theorem ap_sCt (e : En) (S : Store) : sCt e S = (.ct e S) := rfl
def k_sFor_1 (g : Tg) (body : Sy) (e : En) (ds : (List D)) (S1 : Store) : RS := forD g body ds e S1
theorem ap_k_sFor_1 (g : Tg) (body : Sy) (e : En) (ds : (List D)) (S1 : Store) : k_sFor_1 g body e ds S1 = (forD g body ds e S1) := rfl
theorem ap_sFor (it : Sx (List D)) (g : Tg) (body : Sy) (e : En) (S : Store) : sFor it g body e S = ((it e S).run e (k_sFor_1 g body e)) := rfl
theorem ap_sFrz (i : Nat) (f : Sy) (e : En) (S : Store) : sFrz i f e S = (f (freeze i e) S) := rfl
theorem ap_freeze (i : Nat) (e : En) : freeze i e = (match e[i]? with
  | some (.own (.lst ds)) => e.set i (.val (.lst ds))
  | some (.own (.dk ds)) => e.set i (.val (.dk ds))
  | some (.own (.dt ds)) => e.set i (.val (.dt ds))
  | _ => e) := rfl
theorem ap_sTry (isa : List (String × Bool)) (i : Nat) (body suite : Sy) (e : En) (S : Store) : sTry isa i body suite e S = (match body e S with
  | .er x e1 S1 => match isa.lookup x.c with
    | some true => if notOwn i e1 then (match suite (e1.set i (.val (.exc x.c x.fs))) S1 with
      | .nx e2 S2 => if notOwn i e2 then .nx (e2.set i .no) S2 else .no
      | .rt d S2 => .rt d S2
      | _ => .no) else .no
    | some false => .er x e1 S1
    | none => .no
  | r => r) := rfl
def k_sOwn_1 (i : Nat) (e : En) (ds : (List D)) (S1 : Store) : RS := if i < e.length ∧ notOwn i e = true then .nx (e.set i (.own (.lst ds))) S1 else .no
theorem ap_k_sOwn_1 (i : Nat) (e : En) (ds : (List D)) (S1 : Store) : k_sOwn_1 i e ds S1 = (if i < e.length ∧ notOwn i e = true then .nx (e.set i (.own (.lst ds))) S1 else .no) := rfl
theorem ap_sOwn (i : Nat) (l : Sx (List D)) (e : En) (S : Store) : sOwn i l e S = ((l e S).run e (k_sOwn_1 i e)) := rfl
def k_sApp_1 (i : Nat) (e : En) (ds : List D) (d : D) (S1 : Store) : RS := if ds.length < sizeLine then .nx (e.set i (.own (.lst (ds ++ [d])))) S1 else .no
theorem ap_k_sApp_1 (i : Nat) (e : En) (ds : List D) (d : D) (S1 : Store) : k_sApp_1 i e ds d S1 = (if ds.length < sizeLine then .nx (e.set i (.own (.lst (ds ++ [d])))) S1 else .no) := rfl
theorem ap_sApp (i : Nat) (f : Sx D) (e : En) (S : Store) : sApp i f e S = (match e[i]? with
  | some (Sl.own (.lst ds)) => (f e S).run e (k_sApp_1 i e ds)
  | _ => .no) := rfl
def k_sRs_1 (c : String) (fs : List Str) (e : En) (ds : (List D)) (S1 : Store) : RS := if ds.length = fs.length then .er ⟨c, (fs.zip ds).reverse⟩ e S1 else .no
theorem ap_k_sRs_1 (c : String) (fs : List Str) (e : En) (ds : (List D)) (S1 : Store) : k_sRs_1 c fs e ds S1 = (if ds.length = fs.length then .er ⟨c, (fs.zip ds).reverse⟩ e S1 else .no) := rfl
theorem ap_sRs (c : String) (fs : List Str) (a : Sx (List D)) (e : En) (S : Store) : sRs c fs a e S = ((a e S).run e (k_sRs_1 c fs e)) := rfl
def k_sFdO_1 (c : String) (fd : Str) (e : En) (d : D) (S1 : Store) : RS := match (e[0]? : Option Sl) with
  | some (Sl.own (.ins c' fs)) => if c' = c ∧ fs.length < 999 then .nx (e.set 0 (.own (.ins c' (putD fd d fs)))) S1 else .no
  | _ => .no
theorem ap_k_sFdO_1 (c : String) (fd : Str) (e : En) (d : D) (S1 : Store) : k_sFdO_1 c fd e d S1 = (match (e[0]? : Option Sl) with
  | some (Sl.own (.ins c' fs)) => if c' = c ∧ fs.length < 999 then .nx (e.set 0 (.own (.ins c' (putD fd d fs)))) S1 else .no
  | _ => .no) := rfl
theorem ap_sFdO (c : String) (fd : Str) (f : Sx D) (e : En) (S : Store) : sFdO c fd f e S = ((f e S).run e (k_sFdO_1 c fd e)) := rfl
theorem ap_eFdO (c : String) (fd : Str) (e : En) (S : Store) : eFdO c fd e S = (match (e[0]? : Option Sl) with
  | some (Sl.own (.ins c' fs)) => if c' = c then R.of S (fs.lookup fd) else .no
  | _ => .no) := rfl
def k_sFdC_1 (cs : List String) (fd : Str) (e : En) (d : D) (o : D) (S2 : Store) : RS := match o with
  | .ref n => match S2[n]? with
    | some (.ins c fs) => if c ∈ cs ∧ fs.length < 999 then .nx e (S2.set n (.ins c (putD fd d fs))) else .no
    | _ => .no
  | _ => .no
theorem ap_k_sFdC_1 (cs : List String) (fd : Str) (e : En) (d : D) (o : D) (S2 : Store) : k_sFdC_1 cs fd e d o S2 = (match o with
  | .ref n => match S2[n]? with
    | some (.ins c fs) => if c ∈ cs ∧ fs.length < 999 then .nx e (S2.set n (.ins c (putD fd d fs))) else .no
    | _ => .no
  | _ => .no) := rfl
def k_sFdC_2 (cs : List String) (fd : Str) (g : Sx D) (e : En) (d : D) (S1 : Store) : RS := (g e S1).run e (k_sFdC_1 cs fd e d)
theorem ap_k_sFdC_2 (cs : List String) (fd : Str) (g : Sx D) (e : En) (d : D) (S1 : Store) : k_sFdC_2 cs fd g e d S1 = ((g e S1).run e (k_sFdC_1 cs fd e d)) := rfl
theorem ap_sFdC (cs : List String) (fd : Str) (g f : Sx D) (e : En) (S : Store) : sFdC cs fd g f e S = ((f e S).run e (k_sFdC_2 cs fd g e)) := rfl
def k_sFdA_1 (fd : Str) (k : Int → Int → Int) (e : En) (n : Nat) (c : String) (i : Int) (d : D) (S2 : Store) : RS := match d, S2[n]? with
        | .int l, some (.ins c2 fs2) => if c2 = c ∧ fs2.length < 999 then .nx e (S2.set n (.ins c (putD fd (.int (k i l)) fs2))) else .no
        | _, _ => .no
theorem ap_k_sFdA_1 (fd : Str) (k : Int → Int → Int) (e : En) (n : Nat) (c : String) (i : Int) (d : D) (S2 : Store) : k_sFdA_1 fd k e n c i d S2 = (match d, S2[n]? with
        | .int l, some (.ins c2 fs2) => if c2 = c ∧ fs2.length < 999 then .nx e (S2.set n (.ins c (putD fd (.int (k i l)) fs2))) else .no
        | _, _ => .no) := rfl
def k_sFdA_2 (cs : List String) (fd : Str) (k : Int → Int → Int) (f : Sx D) (e : En) (o : D) (S1 : Store) : RS := match o with
  | .ref n => match S1[n]? with
    | some (.ins c fs) => if c ∈ cs then (match fs.lookup fd with
      | some (.int i) => (f e S1).run e (k_sFdA_1 fd k e n c i)
      | _ => .no) else .no
    | _ => .no
  | _ => .no
theorem ap_k_sFdA_2 (cs : List String) (fd : Str) (k : Int → Int → Int) (f : Sx D) (e : En) (o : D) (S1 : Store) : k_sFdA_2 cs fd k f e o S1 = (match o with
  | .ref n => match S1[n]? with
    | some (.ins c fs) => if c ∈ cs then (match fs.lookup fd with
      | some (.int i) => (f e S1).run e (k_sFdA_1 fd k e n c i)
      | _ => .no) else .no
    | _ => .no
  | _ => .no) := rfl
theorem ap_sFdA (cs : List String) (fd : Str) (k : Int → Int → Int) (g f : Sx D) (e : En) (S : Store) : sFdA cs fd k g f e S = ((g e S).run e (k_sFdA_2 cs fd k f e)) := rfl
def k_sIxC_1 (e : En) (d : D) (o : D) (y : D) (S3 : Store) : RS := match o, y with
  | .ref n, .int l => match S3[n]? with
    | some (.lst ds) => match ixN ds.length l with
      | some j => .nx e (S3.set n (.lst (ds.set j d)))
      | none => .no
    | _ => .no
  | _, _ => .no
theorem ap_k_sIxC_1 (e : En) (d : D) (o : D) (y : D) (S3 : Store) : k_sIxC_1 e d o y S3 = (match o, y with
  | .ref n, .int l => match S3[n]? with
    | some (.lst ds) => match ixN ds.length l with
      | some j => .nx e (S3.set n (.lst (ds.set j d)))
      | none => .no
    | _ => .no
  | _, _ => .no) := rfl
def k_sIxC_2 (k : Sx D) (e : En) (d : D) (o : D) (S2 : Store) : RS := (k e S2).run e (k_sIxC_1 e d o)
theorem ap_k_sIxC_2 (k : Sx D) (e : En) (d : D) (o : D) (S2 : Store) : k_sIxC_2 k e d o S2 = ((k e S2).run e (k_sIxC_1 e d o)) := rfl
def k_sIxC_3 (g : Sx D) (k : Sx D) (e : En) (d : D) (S1 : Store) : RS := (g e S1).run e (k_sIxC_2 k e d)
theorem ap_k_sIxC_3 (g : Sx D) (k : Sx D) (e : En) (d : D) (S1 : Store) : k_sIxC_3 g k e d S1 = ((g e S1).run e (k_sIxC_2 k e d)) := rfl
theorem ap_sIxC (g k f : Sx D) (e : En) (S : Store) : sIxC g k f e S = ((f e S).run e (k_sIxC_3 g k e)) := rfl
theorem ap_eVar (i : Nat) (e : En) (S : Store) : eVar i e S = (match e[i]? with
  | some (.val d) => .ok d S
  | _ => .no) := rfl
theorem ap_eC (d : D) (_z : En) (S : Store) : eC d _z S = (.ok d S) := rfl
def k_eBin_1 (o : D → D → Option D) (x : D) (y : D) (S2 : Store) : R D := R.of S2 (o x y)
theorem ap_k_eBin_1 (o : D → D → Option D) (x : D) (y : D) (S2 : Store) : k_eBin_1 o x y S2 = (R.of S2 (o x y)) := rfl
def k_eBin_2 (o : D → D → Option D) (g : Sx D) (e : En) (x : D) (S1 : Store) : R D := (g e S1).bind (k_eBin_1 o x)
theorem ap_k_eBin_2 (o : D → D → Option D) (g : Sx D) (e : En) (x : D) (S1 : Store) : k_eBin_2 o g e x S1 = ((g e S1).bind (k_eBin_1 o x)) := rfl
theorem ap_eBin (o : D → D → Option D) (f g : Sx D) (e : En) (S : Store) : eBin o f g e S = ((f e S).bind (k_eBin_2 o g e)) := rfl
def k_eUn_1 (o : D → Option D) (x : D) (S1 : Store) : R D := R.of S1 (o x)
theorem ap_k_eUn_1 (o : D → Option D) (x : D) (S1 : Store) : k_eUn_1 o x S1 = (R.of S1 (o x)) := rfl
theorem ap_eUn (o : D → Option D) (f : Sx D) (e : En) (S : Store) : eUn o f e S = ((f e S).bind (k_eUn_1 o)) := rfl
def k_tVal_1 (x : D) (S1 : Store) : R Bool := R.of S1 x.b
theorem ap_k_tVal_1 (x : D) (S1 : Store) : k_tVal_1 x S1 = (R.of S1 x.b) := rfl
theorem ap_tVal (f : Sx D) (e : En) (S : Store) : tVal f e S = ((f e S).bind (k_tVal_1)) := rfl
def k_tNt_1 (b : Bool) (S1 : Store) : R Bool := .ok (!b) S1
theorem ap_k_tNt_1 (b : Bool) (S1 : Store) : k_tNt_1 b S1 = (.ok (!b) S1) := rfl
theorem ap_tNt (f : Sx Bool) (e : En) (S : Store) : tNt f e S = ((f e S).bind (k_tNt_1)) := rfl
def k_tAd_1 (g : Sx Bool) (e : En) (b : Bool) (S1 : Store) : R Bool := if b then g e S1 else .ok false S1
theorem ap_k_tAd_1 (g : Sx Bool) (e : En) (b : Bool) (S1 : Store) : k_tAd_1 g e b S1 = (if b then g e S1 else .ok false S1) := rfl
theorem ap_tAd (f g : Sx Bool) (e : En) (S : Store) : tAd f g e S = ((f e S).bind (k_tAd_1 g e)) := rfl
def k_tOo_1 (g : Sx Bool) (e : En) (b : Bool) (S1 : Store) : R Bool := if b then .ok true S1 else g e S1
theorem ap_k_tOo_1 (g : Sx Bool) (e : En) (b : Bool) (S1 : Store) : k_tOo_1 g e b S1 = (if b then .ok true S1 else g e S1) := rfl
theorem ap_tOo (f g : Sx Bool) (e : En) (S : Store) : tOo f g e S = ((f e S).bind (k_tOo_1 g e)) := rfl
def k_eNt_1 (b : Bool) (S1 : Store) : R D := .ok (.bl (!b)) S1
theorem ap_k_eNt_1 (b : Bool) (S1 : Store) : k_eNt_1 b S1 = (.ok (.bl (!b)) S1) := rfl
theorem ap_eNt (f : Sx D) (e : En) (S : Store) : eNt f e S = ((tVal f e S).bind (k_eNt_1)) := rfl
def k_eAd_1 (g : Sx D) (e : En) (b : Bool) (S1 : Store) : R D := if b then g e S1 else .ok (.bl false) S1
theorem ap_k_eAd_1 (g : Sx D) (e : En) (b : Bool) (S1 : Store) : k_eAd_1 g e b S1 = (if b then g e S1 else .ok (.bl false) S1) := rfl
theorem ap_eAd (f g : Sx D) (e : En) (S : Store) : eAd f g e S = ((tVal f e S).bind (k_eAd_1 g e)) := rfl
def k_eOo_1 (g : Sx D) (e : En) (b : Bool) (S1 : Store) : R D := if b then .ok (.bl true) S1 else g e S1
theorem ap_k_eOo_1 (g : Sx D) (e : En) (b : Bool) (S1 : Store) : k_eOo_1 g e b S1 = (if b then .ok (.bl true) S1 else g e S1) := rfl
theorem ap_eOo (f g : Sx D) (e : En) (S : Store) : eOo f g e S = ((tVal f e S).bind (k_eOo_1 g e)) := rfl
def k_eIf_1 (f : Sx D) (g : Sx D) (e : En) (b : Bool) (S1 : Store) : R D := if b then f e S1 else g e S1
theorem ap_k_eIf_1 (f : Sx D) (g : Sx D) (e : En) (b : Bool) (S1 : Store) : k_eIf_1 f g e b S1 = (if b then f e S1 else g e S1) := rfl
theorem ap_eIf (t : Sx Bool) (f g : Sx D) (e : En) (S : Store) : eIf t f g e S = ((t e S).bind (k_eIf_1 f g e)) := rfl
def k_eChain_1 (p : D → D → Option D) (y : D) (z : D) (S4 : Store) : R D := R.of S4 (p y z)
theorem ap_k_eChain_1 (p : D → D → Option D) (y : D) (z : D) (S4 : Store) : k_eChain_1 p y z S4 = (R.of S4 (p y z)) := rfl
def k_eChain_2 (p : D → D → Option D) (h : Sx D) (e : En) (y : D) (b : Bool) (S3 : Store) : R D := if b then (h e S3).bind (k_eChain_1 p y) else .ok (.bl false) S3
theorem ap_k_eChain_2 (p : D → D → Option D) (h : Sx D) (e : En) (y : D) (b : Bool) (S3 : Store) : k_eChain_2 p h e y b S3 = (if b then (h e S3).bind (k_eChain_1 p y) else .ok (.bl false) S3) := rfl
def k_eChain_3 (o : D → D → Option D) (p : D → D → Option D) (h : Sx D) (e : En) (x : D) (y : D) (S2 : Store) : R D := (R.of S2 ((o x y).bind D.b)).bind (k_eChain_2 p h e y)
theorem ap_k_eChain_3 (o : D → D → Option D) (p : D → D → Option D) (h : Sx D) (e : En) (x : D) (y : D) (S2 : Store) : k_eChain_3 o p h e x y S2 = ((R.of S2 ((o x y).bind D.b)).bind (k_eChain_2 p h e y)) := rfl
def k_eChain_4 (o : D → D → Option D) (p : D → D → Option D) (g : Sx D) (h : Sx D) (e : En) (x : D) (S1 : Store) : R D := (g e S1).bind (k_eChain_3 o p h e x)
theorem ap_k_eChain_4 (o : D → D → Option D) (p : D → D → Option D) (g : Sx D) (h : Sx D) (e : En) (x : D) (S1 : Store) : k_eChain_4 o p g h e x S1 = ((g e S1).bind (k_eChain_3 o p h e x)) := rfl
theorem ap_eChain (o p : D → D → Option D) (f g h : Sx D) (e : En) (S : Store) : eChain o p f g h e S = ((f e S).bind (k_eChain_4 o p g h e)) := rfl
theorem ap_aNil (_z : En) (S : Store) : aNil _z S = (.ok [] S) := rfl
def k_aCons_1 (x : D) (xs : (List D)) (S2 : Store) : R (List D) := .ok (x :: xs) S2
theorem ap_k_aCons_1 (x : D) (xs : (List D)) (S2 : Store) : k_aCons_1 x xs S2 = (.ok (x :: xs) S2) := rfl
def k_aCons_2 (g : Sx (List D)) (e : En) (x : D) (S1 : Store) : R (List D) := (g e S1).bind (k_aCons_1 x)
theorem ap_k_aCons_2 (g : Sx (List D)) (e : En) (x : D) (S1 : Store) : k_aCons_2 g e x S1 = ((g e S1).bind (k_aCons_1 x)) := rfl
theorem ap_aCons (f : Sx D) (g : Sx (List D)) (e : En) (S : Store) : aCons f g e S = ((f e S).bind (k_aCons_2 g e)) := rfl
def k_aStar_1 (xs : List D) (ys : (List D)) (S2 : Store) : R (List D) := .ok (xs ++ ys) S2
theorem ap_k_aStar_1 (xs : List D) (ys : (List D)) (S2 : Store) : k_aStar_1 xs ys S2 = (.ok (xs ++ ys) S2) := rfl
def k_aStar_2 (xs : List D) (ys : (List D)) (S2 : Store) : R (List D) := .ok (xs ++ ys) S2
theorem ap_k_aStar_2 (xs : List D) (ys : (List D)) (S2 : Store) : k_aStar_2 xs ys S2 = (.ok (xs ++ ys) S2) := rfl
def k_aStar_3 (g : Sx (List D)) (e : En) (x : D) (S1 : Store) : R (List D) := match x with
  | .tup xs => (g e S1).bind (k_aStar_1 xs)
  | .lst xs => (g e S1).bind (k_aStar_2 xs)
  | _ => .no
theorem ap_k_aStar_3 (g : Sx (List D)) (e : En) (x : D) (S1 : Store) : k_aStar_3 g e x S1 = (match x with
  | .tup xs => (g e S1).bind (k_aStar_1 xs)
  | .lst xs => (g e S1).bind (k_aStar_2 xs)
  | _ => .no) := rfl
theorem ap_aStar (f : Sx D) (g : Sx (List D)) (e : En) (S : Store) : aStar f g e S = ((f e S).bind (k_aStar_3 g e)) := rfl
def k_eTup_1 (xs : (List D)) (S1 : Store) : R D := if xs.length ≤ sizeLine then .ok (.tup xs) S1 else .no
theorem ap_k_eTup_1 (xs : (List D)) (S1 : Store) : k_eTup_1 xs S1 = (if xs.length ≤ sizeLine then .ok (.tup xs) S1 else .no) := rfl
theorem ap_eTup (g : Sx (List D)) (e : En) (S : Store) : eTup g e S = ((g e S).bind (k_eTup_1)) := rfl
def k_eLst_1 (xs : (List D)) (S1 : Store) : R D := if xs.length ≤ sizeLine then .ok (.lst xs) S1 else .no
theorem ap_k_eLst_1 (xs : (List D)) (S1 : Store) : k_eLst_1 xs S1 = (if xs.length ≤ sizeLine then .ok (.lst xs) S1 else .no) := rfl
theorem ap_eLst (g : Sx (List D)) (e : En) (S : Store) : eLst g e S = ((g e S).bind (k_eLst_1)) := rfl
def k_eCall_1 (o : List D → Option D) (xs : (List D)) (S1 : Store) : R D := R.of S1 (o xs)
theorem ap_k_eCall_1 (o : List D → Option D) (xs : (List D)) (S1 : Store) : k_eCall_1 o xs S1 = (R.of S1 (o xs)) := rfl
theorem ap_eCall (o : List D → Option D) (g : Sx (List D)) (e : En) (S : Store) : eCall o g e S = ((g e S).bind (k_eCall_1 o)) := rfl
def k_eIx_1 (x : D) (y : D) (S2 : Store) : R D := match x with
  | .ref n => match S2[n]?, y with
    | some (.lst xs), .int i => R.of S2 (atI xs i)
    | _, _ => .no
  | _ => R.of S2 (D.ix x y)
theorem ap_k_eIx_1 (x : D) (y : D) (S2 : Store) : k_eIx_1 x y S2 = (match x with
  | .ref n => match S2[n]?, y with
    | some (.lst xs), .int i => R.of S2 (atI xs i)
    | _, _ => .no
  | _ => R.of S2 (D.ix x y)) := rfl
def k_eIx_2 (g : Sx D) (e : En) (x : D) (S1 : Store) : R D := (g e S1).bind (k_eIx_1 x)
theorem ap_k_eIx_2 (g : Sx D) (e : En) (x : D) (S1 : Store) : k_eIx_2 g e x S1 = ((g e S1).bind (k_eIx_1 x)) := rfl
theorem ap_eIx (f g : Sx D) (e : En) (S : Store) : eIx f g e S = ((f e S).bind (k_eIx_2 g e)) := rfl
def k_eDf_1 (f : List D → Store → R D) (ds : (List D)) (S1 : Store) : R D := f ds S1
theorem ap_k_eDf_1 (f : List D → Store → R D) (ds : (List D)) (S1 : Store) : k_eDf_1 f ds S1 = (f ds S1) := rfl
theorem ap_eDf (f : List D → Store → R D) (a : Sx (List D)) (e : En) (S : Store) : eDf f a e S = ((a e S).bind (k_eDf_1 f)) := rfl
def k_eFd_1 (cs : List String) (f : Str) (x : D) (S1 : Store) : R D := R.of S1 (x.fld cs f S1)
theorem ap_k_eFd_1 (cs : List String) (f : Str) (x : D) (S1 : Store) : k_eFd_1 cs f x S1 = (R.of S1 (x.fld cs f S1)) := rfl
theorem ap_eFd (cs : List String) (f : Str) (g : Sx D) (e : En) (S : Store) : eFd cs f g e S = ((g e S).bind (k_eFd_1 cs f)) := rfl
def k_eMe_1 (f : List D → Store → R D) (x : D) (ds : (List D)) (S2 : Store) : R D := f (x :: ds) S2
theorem ap_k_eMe_1 (f : List D → Store → R D) (x : D) (ds : (List D)) (S2 : Store) : k_eMe_1 f x ds S2 = (f (x :: ds) S2) := rfl
def k_eMe_2 (c : String) (m : Str) (f : List D → Store → R D) (a : Sx (List D)) (e : En) (x : D) (S1 : Store) : R D := if x.isC c m S1 then (a e S1).bind (k_eMe_1 f x) else .no
theorem ap_k_eMe_2 (c : String) (m : Str) (f : List D → Store → R D) (a : Sx (List D)) (e : En) (x : D) (S1 : Store) : k_eMe_2 c m f a e x S1 = (if x.isC c m S1 then (a e S1).bind (k_eMe_1 f x) else .no) := rfl
theorem ap_eMe (c : String) (m : Str) (f : List D → Store → R D) (g : Sx D) (a : Sx (List D)) (e : En) (S : Store) : eMe c m f g a e S = ((g e S).bind (k_eMe_2 c m f a e)) := rfl
def k_eCm_1 (c : String) (f : List D → Store → R D) (ds : (List D)) (S2 : Store) : R D := f (.cls c :: ds) S2
theorem ap_k_eCm_1 (c : String) (f : List D → Store → R D) (ds : (List D)) (S2 : Store) : k_eCm_1 c f ds S2 = (f (.cls c :: ds) S2) := rfl
def k_eCm_2 (c : String) (f : List D → Store → R D) (a : Sx (List D)) (e : En) (x : D) (S1 : Store) : R D := match x with
  | .cls c' => if c' = c then (a e S1).bind (k_eCm_1 c f) else .no
  | _ => .no
theorem ap_k_eCm_2 (c : String) (f : List D → Store → R D) (a : Sx (List D)) (e : En) (x : D) (S1 : Store) : k_eCm_2 c f a e x S1 = (match x with
  | .cls c' => if c' = c then (a e S1).bind (k_eCm_1 c f) else .no
  | _ => .no) := rfl
theorem ap_eCm (c : String) (f : List D → Store → R D) (g : Sx D) (a : Sx (List D)) (e : En) (S : Store) : eCm c f g a e S = ((g e S).bind (k_eCm_2 c f a e)) := rfl
def k_ePr_1 (c : String) (f : List D → Store → R D) (x : D) (S1 : Store) : R D := if x.isC c "" S1 then (f [x] S1).clean else .no
theorem ap_k_ePr_1 (c : String) (f : List D → Store → R D) (x : D) (S1 : Store) : k_ePr_1 c f x S1 = (if x.isC c "" S1 then (f [x] S1).clean else .no) := rfl
theorem ap_ePr (c : String) (f : List D → Store → R D) (g : Sx D) (e : En) (S : Store) : ePr c f g e S = ((g e S).bind (k_ePr_1 c f)) := rfl
theorem ap_eAlt (f g : Sx D) (e : En) (S : Store) : eAlt f g e S = ((f e S).orE (g e S)) := rfl
def k_eMk_1 (c' : Cell) (S3 : Store) : R D := .ok c'.tree S3
theorem ap_k_eMk_1 (c' : Cell) (S3 : Store) : k_eMk_1 c' S3 = (.ok c'.tree S3) := rfl
def k_eMk_2 (c : String) (f : Cell → List D → Store → R Cell) (ds : (List D)) (S2 : Store) : R D := (f (.ins c []) ds S2).bind (k_eMk_1)
theorem ap_k_eMk_2 (c : String) (f : Cell → List D → Store → R Cell) (ds : (List D)) (S2 : Store) : k_eMk_2 c f ds S2 = ((f (.ins c []) ds S2).bind (k_eMk_1)) := rfl
def k_eMk_3 (c : String) (f : Cell → List D → Store → R Cell) (a : Sx (List D)) (e : En) (x : D) (S1 : Store) : R D := match x with
  | .cls c' => if c' = c then (a e S1).bind (k_eMk_2 c f) else .no
  | _ => .no
theorem ap_k_eMk_3 (c : String) (f : Cell → List D → Store → R Cell) (a : Sx (List D)) (e : En) (x : D) (S1 : Store) : k_eMk_3 c f a e x S1 = (match x with
  | .cls c' => if c' = c then (a e S1).bind (k_eMk_2 c f) else .no
  | _ => .no) := rfl
theorem ap_eMk (c : String) (f : Cell → List D → Store → R Cell) (g : Sx D) (a : Sx (List D)) (e : En) (S : Store) : eMk c f g a e S = ((g e S).bind (k_eMk_3 c f a e)) := rfl
def k_eMkC_1 (c' : Cell) (S3 : Store) : R D := pubC c' S3
theorem ap_k_eMkC_1 (c' : Cell) (S3 : Store) : k_eMkC_1 c' S3 = (pubC c' S3) := rfl
def k_eMkC_2 (c : String) (f : Cell → List D → Store → R Cell) (ds : (List D)) (S2 : Store) : R D := (f (.ins c []) ds S2).bind (k_eMkC_1)
theorem ap_k_eMkC_2 (c : String) (f : Cell → List D → Store → R Cell) (ds : (List D)) (S2 : Store) : k_eMkC_2 c f ds S2 = ((f (.ins c []) ds S2).bind (k_eMkC_1)) := rfl
def k_eMkC_3 (c : String) (f : Cell → List D → Store → R Cell) (a : Sx (List D)) (e : En) (x : D) (S1 : Store) : R D := match x with
  | .cls c' => if c' = c then (a e S1).bind (k_eMkC_2 c f) else .no
  | _ => .no
theorem ap_k_eMkC_3 (c : String) (f : Cell → List D → Store → R Cell) (a : Sx (List D)) (e : En) (x : D) (S1 : Store) : k_eMkC_3 c f a e x S1 = (match x with
  | .cls c' => if c' = c then (a e S1).bind (k_eMkC_2 c f) else .no
  | _ => .no) := rfl
theorem ap_eMkC (c : String) (f : Cell → List D → Store → R Cell) (g : Sx D) (a : Sx (List D)) (e : En) (S : Store) : eMkC c f g a e S = ((g e S).bind (k_eMkC_3 c f a e)) := rfl
def k_eLstC_1 (xs : (List D)) (S1 : Store) : R D := if xs.length ≤ sizeLine then pubC (.lst xs) S1 else .no
theorem ap_k_eLstC_1 (xs : (List D)) (S1 : Store) : k_eLstC_1 xs S1 = (if xs.length ≤ sizeLine then pubC (.lst xs) S1 else .no) := rfl
theorem ap_eLstC (a : Sx (List D)) (e : En) (S : Store) : eLstC a e S = ((a e S).bind (k_eLstC_1)) := rfl
theorem ap_pubC (c : Cell) (S : Store) : pubC c S = (.ok (.ref S.length) (S ++ [c])) := rfl
def k_eIsi_1 (bi : List String) (own : List (String × Bool)) (x : D) (S1 : Store) : R D := R.of S1 ((isiF bi own x).map .bl)
theorem ap_k_eIsi_1 (bi : List String) (own : List (String × Bool)) (x : D) (S1 : Store) : k_eIsi_1 bi own x S1 = (R.of S1 ((isiF bi own x).map .bl)) := rfl
theorem ap_eIsi (bi : List String) (own : List (String × Bool)) (f : Sx D) (e : En) (S : Store) : eIsi bi own f e S = ((f e S).bind (k_eIsi_1 bi own)) := rfl
def k_eFmt_1 (x : D) (S1 : Store) : R D := R.of S1 (fmtD x)
theorem ap_k_eFmt_1 (x : D) (S1 : Store) : k_eFmt_1 x S1 = (R.of S1 (fmtD x)) := rfl
theorem ap_eFmt (f : Sx D) (e : En) (S : Store) : eFmt f e S = ((f e S).bind (k_eFmt_1)) := rfl
def k_eSl_1 (x : D) (l : (Option Int)) (u : (Option Int)) (S3 : Store) : R D := R.of S3 (x.sl l u)
theorem ap_k_eSl_1 (x : D) (l : (Option Int)) (u : (Option Int)) (S3 : Store) : k_eSl_1 x l u S3 = (R.of S3 (x.sl l u)) := rfl
def k_eSl_2 (hi : Sx (Option Int)) (e : En) (x : D) (l : (Option Int)) (S2 : Store) : R D := (hi e S2).bind (k_eSl_1 x l)
theorem ap_k_eSl_2 (hi : Sx (Option Int)) (e : En) (x : D) (l : (Option Int)) (S2 : Store) : k_eSl_2 hi e x l S2 = ((hi e S2).bind (k_eSl_1 x l)) := rfl
def k_eSl_3 (lo : Sx (Option Int)) (hi : Sx (Option Int)) (e : En) (x : D) (S1 : Store) : R D := (lo e S1).bind (k_eSl_2 hi e x)
theorem ap_k_eSl_3 (lo : Sx (Option Int)) (hi : Sx (Option Int)) (e : En) (x : D) (S1 : Store) : k_eSl_3 lo hi e x S1 = ((lo e S1).bind (k_eSl_2 hi e x)) := rfl
theorem ap_eSl (f : Sx D) (lo hi : Sx (Option Int)) (e : En) (S : Store) : eSl f lo hi e S = ((f e S).bind (k_eSl_3 lo hi e)) := rfl
theorem ap_pNo (_z : En) (S : Store) : pNo _z S = (.ok none S) := rfl
def k_pSo_1 (x : D) (S1 : Store) : R (Option Int) := match x with
  | .int i => .ok (some i) S1
  | _ => .no
theorem ap_k_pSo_1 (x : D) (S1 : Store) : k_pSo_1 x S1 = (match x with
  | .int i => .ok (some i) S1
  | _ => .no) := rfl
theorem ap_pSo (f : Sx D) (e : En) (S : Store) : pSo f e S = ((f e S).bind (k_pSo_1)) := rfl
def k_eM1_1 (o : Str → D → Option D) (z : Str) (y : D) (S2 : Store) : R D := R.of S2 (o z y)
theorem ap_k_eM1_1 (o : Str → D → Option D) (z : Str) (y : D) (S2 : Store) : k_eM1_1 o z y S2 = (R.of S2 (o z y)) := rfl
def k_eM1_2 (o : Str → D → Option D) (g : Sx D) (e : En) (x : D) (S1 : Store) : R D := match x with
  | .str z => (g e S1).bind (k_eM1_1 o z)
  | _ => .no
theorem ap_k_eM1_2 (o : Str → D → Option D) (g : Sx D) (e : En) (x : D) (S1 : Store) : k_eM1_2 o g e x S1 = (match x with
  | .str z => (g e S1).bind (k_eM1_1 o z)
  | _ => .no) := rfl
theorem ap_eM1 (o : Str → D → Option D) (f g : Sx D) (e : En) (S : Store) : eM1 o f g e S = ((f e S).bind (k_eM1_2 o g e)) := rfl
theorem ap_eAct (f : Addr) (th : Store → R D) (e : En) (S : Store) : eAct f th e S = (match (e[0]? : Option Sl) with
  | some (Sl.val (.adr g)) => if g = f ∧ noOwn e = true then th S else .no
  | _ => .no) := rfl
theorem ap_eLam (heard : Addr → (Store → R D) → Store → R D) (f : Sx D) (e : En) (S : Store) : eLam heard f e S = ((heard 0 (fun S1 => f e S1) S).clean) := rfl
def k_eXf_1 (cs : List String) (fd : Str) (x : D) (S1 : Store) : R D := match x with
  | .exc c fs => if c ∈ cs then R.of S1 (fs.lookup fd) else .no
  | _ => .no
theorem ap_k_eXf_1 (cs : List String) (fd : Str) (x : D) (S1 : Store) : k_eXf_1 cs fd x S1 = (match x with
  | .exc c fs => if c ∈ cs then R.of S1 (fs.lookup fd) else .no
  | _ => .no) := rfl
theorem ap_eXf (cs : List String) (fd : Str) (g : Sx D) (e : En) (S : Store) : eXf cs fd g e S = ((g e S).bind (k_eXf_1 cs fd)) := rfl
def k_eIsx_1 (own : List (String × Bool)) (x : D) (S1 : Store) : R D := match x with
  | .exc c _ => R.of S1 ((own.lookup c).map .bl)
  | _ => .no
theorem ap_k_eIsx_1 (own : List (String × Bool)) (x : D) (S1 : Store) : k_eIsx_1 own x S1 = (match x with
  | .exc c _ => R.of S1 ((own.lookup c).map .bl)
  | _ => .no) := rfl
theorem ap_eIsx (own : List (String × Bool)) (f : Sx D) (e : En) (S : Store) : eIsx own f e S = ((f e S).bind (k_eIsx_1 own)) := rfl
def k_eBinE_1 (o : D → D → Store → R D) (x : D) (y : D) (S2 : Store) : R D := (o x y S2).clean
theorem ap_k_eBinE_1 (o : D → D → Store → R D) (x : D) (y : D) (S2 : Store) : k_eBinE_1 o x y S2 = ((o x y S2).clean) := rfl
def k_eBinE_2 (o : D → D → Store → R D) (g : Sx D) (e : En) (x : D) (S1 : Store) : R D := (g e S1).bind (k_eBinE_1 o x)
theorem ap_k_eBinE_2 (o : D → D → Store → R D) (g : Sx D) (e : En) (x : D) (S1 : Store) : k_eBinE_2 o g e x S1 = ((g e S1).bind (k_eBinE_1 o x)) := rfl
theorem ap_eBinE (o : D → D → Store → R D) (f g : Sx D) (e : En) (S : Store) : eBinE o f g e S = ((f e S).bind (k_eBinE_2 o g e)) := rfl
def k_eCallE_1 (o : List D → Store → R D) (xs : (List D)) (S1 : Store) : R D := (o xs S1).clean
theorem ap_k_eCallE_1 (o : List D → Store → R D) (xs : (List D)) (S1 : Store) : k_eCallE_1 o xs S1 = ((o xs S1).clean) := rfl
theorem ap_eCallE (o : List D → Store → R D) (g : Sx (List D)) (e : En) (S : Store) : eCallE o g e S = ((g e S).bind (k_eCallE_1 o)) := rfl
def k_eBo_1 (c : String) (bi : List String) (cs : List String) (F : List D → Store → R D) (x : D) (y : D) (S2 : Store) : R D := if x.isO c S2 = true ∧ y.tyIn bi cs S2 = true then F [x, y] S2 else .no
theorem ap_k_eBo_1 (c : String) (bi : List String) (cs : List String) (F : List D → Store → R D) (x : D) (y : D) (S2 : Store) : k_eBo_1 c bi cs F x y S2 = (if x.isO c S2 = true ∧ y.tyIn bi cs S2 = true then F [x, y] S2 else .no) := rfl
def k_eBo_2 (c : String) (bi : List String) (cs : List String) (F : List D → Store → R D) (g : Sx D) (e : En) (x : D) (S1 : Store) : R D := (g e S1).bind (k_eBo_1 c bi cs F x)
theorem ap_k_eBo_2 (c : String) (bi : List String) (cs : List String) (F : List D → Store → R D) (g : Sx D) (e : En) (x : D) (S1 : Store) : k_eBo_2 c bi cs F g e x S1 = ((g e S1).bind (k_eBo_1 c bi cs F x)) := rfl
theorem ap_eBo (c : String) (bi cs : List String) (F : List D → Store → R D) (f g : Sx D) (e : En) (S : Store) : eBo c bi cs F f g e S = ((f e S).bind (k_eBo_2 c bi cs F g e)) := rfl
def k_eNew_1 (ds : (List D)) (S1 : Store) : R D := .ok (.lst ds) S1
theorem ap_k_eNew_1 (ds : (List D)) (S1 : Store) : k_eNew_1 ds S1 = (.ok (.lst ds) S1) := rfl
theorem ap_eNew (f : Sx (List D)) (e : En) (S : Store) : eNew f e S = ((f e S).bind (k_eNew_1)) := rfl
def k_lDisp_1 (ds : (List D)) (S1 : Store) : R (List D) := if ds.length ≤ sizeLine then .ok ds S1 else .no
theorem ap_k_lDisp_1 (ds : (List D)) (S1 : Store) : k_lDisp_1 ds S1 = (if ds.length ≤ sizeLine then .ok ds S1 else .no) := rfl
theorem ap_lDisp (a : Sx (List D)) (e : En) (S : Store) : lDisp a e S = ((a e S).bind (k_lDisp_1)) := rfl
def k_lComp_1 (vs : List Nat) (g : Tg) (t : Sx Bool) (f : Sx D) (e : En) (ds : (List D)) (S1 : Store) : R (List D) := if ds.length ≤ sizeLine ∧ vs.all (fun v => notOwn v e) = true then (mapA g t f [] ds (clr vs e) S1).clean else .no
theorem ap_k_lComp_1 (vs : List Nat) (g : Tg) (t : Sx Bool) (f : Sx D) (e : En) (ds : (List D)) (S1 : Store) : k_lComp_1 vs g t f e ds S1 = (if ds.length ≤ sizeLine ∧ vs.all (fun v => notOwn v e) = true then (mapA g t f [] ds (clr vs e) S1).clean else .no) := rfl
theorem ap_lComp (vs : List Nat) (it : Sx (List D)) (g : Tg) (t : Sx Bool) (f : Sx D) (e : En) (S : Store) : lComp vs it g t f e S = ((it e S).bind (k_lComp_1 vs g t f e)) := rfl
def k_iSq_1 (x : D) (S1 : Store) : R (List D) := R.of S1 x.items
theorem ap_k_iSq_1 (x : D) (S1 : Store) : k_iSq_1 x S1 = (R.of S1 x.items) := rfl
theorem ap_iSq (f : Sx D) (e : En) (S : Store) : iSq f e S = ((f e S).bind (k_iSq_1)) := rfl
def k_iRng1_1 (xs : (List D)) (S1 : Store) : R (List D) := match xs with
  | [.int j] => if okR j = true then .ok ((List.range j.toNat).map fun i => .int (i : Nat)) S1 else .no
  | _ => .no
theorem ap_k_iRng1_1 (xs : (List D)) (S1 : Store) : k_iRng1_1 xs S1 = (match xs with
  | [.int j] => if okR j = true then .ok ((List.range j.toNat).map fun i => .int (i : Nat)) S1 else .no
  | _ => .no) := rfl
theorem ap_iRng1 (a : Sx (List D)) (e : En) (S : Store) : iRng1 a e S = ((a e S).bind (k_iRng1_1)) := rfl
def k_iRng2_1 (xs : (List D)) (S1 : Store) : R (List D) := match xs with
  | [.int i, .int j] => if okR i = true ∧ okR j = true then .ok ((List.range (j - i).toNat).map fun k => .int (i + (k : Nat))) S1 else .no
  | _ => .no
theorem ap_k_iRng2_1 (xs : (List D)) (S1 : Store) : k_iRng2_1 xs S1 = (match xs with
  | [.int i, .int j] => if okR i = true ∧ okR j = true then .ok ((List.range (j - i).toNat).map fun k => .int (i + (k : Nat))) S1 else .no
  | _ => .no) := rfl
theorem ap_iRng2 (a : Sx (List D)) (e : En) (S : Store) : iRng2 a e S = ((a e S).bind (k_iRng2_1)) := rfl
def k_iEnu_1 (xs : (List D)) (S1 : Store) : R (List D) := match xs with
  | [.lst ds] => .ok (enumF 0 ds) S1
  | [.tup ds] => .ok (enumF 0 ds) S1
  | _ => .no
theorem ap_k_iEnu_1 (xs : (List D)) (S1 : Store) : k_iEnu_1 xs S1 = (match xs with
  | [.lst ds] => .ok (enumF 0 ds) S1
  | [.tup ds] => .ok (enumF 0 ds) S1
  | _ => .no) := rfl
theorem ap_iEnu (f : Sx (List D)) (e : En) (S : Store) : iEnu f e S = ((f e S).bind (k_iEnu_1)) := rfl
theorem ap_tYesD (_z : En) (S : Store) : tYesD _z S = (.ok true S) := rfl
theorem ap_gN (i : Nat) (d : D) (e : En) : gN i d e = (if notOwn i e then some (e.set i (.val d)) else none) := rfl
theorem ap_gT (gs : List D → En → Option En) (d : D) (e : En) : gT gs d e = (match d with
  | .tup ds => gs ds e
  | _ => none) := rfl
theorem ap_gsNil (ds : List D) (e : En) : gsNil ds e = (match ds with
  | [] => some e
  | _ => none) := rfl
theorem ap_gsCons (g : Tg) (gs : List D → En → Option En) (ds : List D) (e : En) : gsCons g gs ds e = (match ds with
  | d :: ds => (g d e).bind (gs ds)
  | [] => none) := rfl
theorem ap_noOwn (e : En) : noOwn e = (e.all fun s => match s with
  | .own _ => false
  | _ => true) := rfl
theorem ap_starF (n : Nat) (f : List D → Store → R D) (ds : List D) (S : Store) : starF n f ds S = (if n ≤ ds.length ∧ ds.length ≤ sizeLine then f (ds.take n ++ [.tup (ds.drop n)]) S else .no) := rfl
theorem ap_starI (n : Nat) (f : Cell → List D → Store → R Cell) (c : Cell) (ds : List D) (S : Store) : starI n f c ds S = (if n ≤ ds.length ∧ ds.length ≤ sizeLine then f c (ds.take n ++ [.tup (ds.drop n)]) S else .no) := rfl
theorem ap_dflF (dv : List D) (f : List D → Store → R D) (ds : List D) (S : Store) : dflF dv f ds S = (f (ds ++ dv) S) := rfl
theorem ap_dflI (dv : List D) (f : Cell → List D → Store → R Cell) (c : Cell) (ds : List D) (S : Store) : dflI dv f c ds S = (f c (ds ++ dv) S) := rfl
theorem ap_cOf (o : List D → Option D) (x : List D) (S : Store) : cOf o x S = (R.of S (o x)) := rfl
theorem ap_oOf (o : D → D → Option D) (x : D) (y : D) (S : Store) : oOf o x y S = (R.of S (o x y)) := rfl
def k_oOwn_1 (neg : Bool) (z : D) (S1 : Store) : R D := R.of S1 (z.b.map fun b => .bl (if neg then !b else b))
theorem ap_k_oOwn_1 (neg : Bool) (z : D) (S1 : Store) : k_oOwn_1 neg z S1 = (R.of S1 (z.b.map fun b => .bl (if neg then !b else b))) := rfl
theorem ap_oOwn (neg : Bool) (c : String) (bi cs : List String) (F : List D → Store → R D) (x : D) (y : D) (S : Store) : oOwn neg c bi cs F x y S = (if x.isO c S = true ∧ y.tyIn bi cs S = true then (F [x, y] S).clean.bind (k_oOwn_1 neg) else .no) := rfl
theorem ap_oOr (o p : D → D → Store → R D) (x : D) (y : D) (S : Store) : oOr o p x y S = ((o x y S).orE (p x y S)) := rfl
end Sh
local macro_rules | `(tactic| simp_all_arith) => `(tactic| simp -implicitDefEqProofs (disch := first | (simp only [Sh.isDat_non, Sh.isDat_bl, Sh.isDat_int, Sh.isDat_str, Sh.isDat_t9, Sh.isDat_l9, Sh.isDat_t8, Sh.isDat_l8, Sh.isDat_t7, Sh.isDat_l7, Sh.isDat_t6, Sh.isDat_l6, List.all_cons, List.all_nil, Bool.and_self, Bool.and_true]; done) | omega | (simp only [List.length_append, List.length_cons, List.length_nil, List.length_map, List.length_replicate, List.length_drop, List.length_take]; omega)) only [Sh.ap_runD, Sh.ap_runI, Sh.runL, Sh.ap_sSeq, Sh.ap_sNil, Sh.ap_sSet, Sh.ap_sAsg, Sh.ap_sDrop, Sh.ap_sRet, Sh.ap_sRetN, Sh.ap_sIf, Sh.ap_sBk, Sh.ap_sCt, Sh.ap_sFor, Sh.ap_sFrz, Sh.ap_freeze, Sh.ap_sTry, Sh.ap_sOwn, Sh.ap_sApp, Sh.ap_sRs, Sh.ap_sFdO, Sh.ap_eFdO, Sh.ap_sFdC, Sh.ap_sFdA, Sh.ap_sIxC, Sh.ap_eVar, Sh.ap_eC, Sh.ap_eBin, Sh.ap_eUn, Sh.ap_tVal, Sh.ap_tNt, Sh.ap_tAd, Sh.ap_tOo, Sh.ap_eNt, Sh.ap_eAd, Sh.ap_eOo, Sh.ap_eIf, Sh.ap_eChain, Sh.ap_aNil, Sh.ap_aCons, Sh.ap_aStar, Sh.ap_eTup, Sh.ap_eLst, Sh.ap_eCall, Sh.ap_eIx, Sh.ap_eDf, Sh.ap_eFd, Sh.ap_eMe, Sh.ap_eCm, Sh.ap_ePr, Sh.ap_eAlt, Sh.ap_eMk, Sh.ap_eMkC, Sh.ap_eLstC, Sh.ap_pubC, Sh.ap_eIsi, Sh.ap_eFmt, Sh.eJs, Sh.ap_eSl, Sh.ap_pNo, Sh.ap_pSo, Sh.ap_eM1, Sh.ap_eAct, Sh.ap_eLam, Sh.ap_eXf, Sh.ap_eIsx, Sh.ap_eBinE, Sh.ap_eCallE, Sh.ap_eBo, Sh.ap_eNew, Sh.ap_lDisp, Sh.ap_lComp, Sh.clr, Sh.ap_iSq, Sh.ap_iRng1, Sh.ap_iRng2, Sh.ap_iEnu, Sh.ap_tYesD, Sh.ap_gN, Sh.ap_gT, Sh.ap_gsNil, Sh.ap_gsCons, Sh.notOwn_free, Sh.free_no, Sh.free_val, Sh.free_own, Sh.ap_noOwn, Sh.ap_starF, Sh.ap_starI, Sh.ap_dflF, Sh.ap_dflI, Sh.ap_cOf, Sh.ap_oOf, ↓Sh.seq_nx, ↓Sh.seq_rt, ↓Sh.seq_bk, ↓Sh.seq_ct, ↓Sh.seq_er, ↓Sh.seq_no, ↓Sh.run_ok, ↓Sh.run_er, ↓Sh.run_no, ↓Sh.ok_bind, ↓Sh.er_bind, ↓Sh.no_bind, Sh.of_some, Sh.of_none, Sh.res_nx, Sh.res_rt, Sh.res_er, Sh.res_no, Sh.resI_nx, Sh.resI_er, Sh.resI_no, Sh.orE_no, Sh.orE_ok, Sh.orE_er, Sh.clean_ok, Sh.clean_er, Sh.clean_no, Sh.clean_of, Option.map_some, Option.map_none, ↓Option.bind_some, ↓Option.bind_none, List.getElem?_cons_zero, List.getElem?_cons_succ, List.set_cons_zero, List.set_cons_succ, List.length_cons, List.length_nil, List.map_cons, List.map_nil, List.cons_append, List.nil_append, List.append_nil, List.replicate_succ, List.replicate_zero, List.all_cons, List.all_nil, Nat.zero_add, Nat.reduceAdd, Nat.reduceLeDiff, Nat.reduceLT, Nat.reduceEqDiff, if_true, if_false, ite_true, ite_false, reduceIte, Bool.and_true, Bool.true_and, and_true, true_and, and_self, decide_true, decide_false, Bool.not_true, Bool.not_false, Bool.false_eq_true, reduceCtorEq, cond_true, cond_false, List.lookup_nil, List.lookup_cons, Sh.ofStr_beq, Sh.ofStr_eq, String.reduceBEq, String.reduceEq, beq_self_eq_true, List.mem_cons, List.not_mem_nil, or_false, false_or, or_true, true_or, or_self, Sh.dMul_L, Sh.dMul_R, Sh.dAdd_I, Sh.dSub_I, Sh.dMod_I, Sh.dFdiv_I, Sh.dPow_I, Sh.dLt_I, Sh.dLe_I, Sh.dGt_I, Sh.dGe_I, Sh.dInt_I, Sh.dInt_B, Sh.dAbs_I, Sh.dLen_L, Sh.ix_L, Sh.at0, Sh.at1, Sh.at2, Sh.ixN0, Sh.ixN1, Sh.ixN2, Sh.ap_oOwn, Sh.ap_oOr, Sh.sWhile, Sh.putD, Nat.zero_le, List.take_zero, List.drop_zero, List.contains_cons, List.contains_nil, Bool.or_false, Bool.false_or, Bool.or_true, Bool.true_or, Bool.and_false, Bool.false_and, List.length_map, Int.toNat_natCast, Int.natCast_nonneg, Sh.forD_nil, Sh.mapA_nil, ↓Sh.turn_nx, ↓Sh.turn_ct, ↓Sh.turn_bk, ↓Sh.turn_rt, ↓Sh.turn_er, ↓Sh.turn_no, List.length_replicate, List.length_append, List.length_range, Option.isNone_some, Option.isNone_none, Option.isNone, Bool.not_eq_true, eq_self, id_eq, Int.cast_ofNat_Int, Int.reduceBEq, Int.reduceLT, Int.reduceLE, Int.reduceToNat, Int.reduceAdd, Int.reduceSub, Int.reduceNeg, Int.reduceMul, Sh.D.bs, Sh.szl, Sh.szt, Sh.b_bl, Sh.dEq_q, Sh.dNe_q, Sh.isDat_non, Sh.isDat_bl, Sh.isDat_int, Sh.isDat_str, Sh.isDat_t9, Sh.isDat_l9, Sh.isDat_t8, Sh.isDat_l8, Sh.isDat_t7, Sh.isDat_l7, Sh.isDat_t6, Sh.isDat_l6, Sh.qe_ii, Sh.qe_ss, Sh.qe_bb, Sh.qe_bi, Sh.qe_ib, Sh.qe_nn, Sh.qe_ns, Sh.qe_sn, Sh.qe_ni, Sh.qe_in, Sh.qe_is, Sh.qe_si, Sh.qe_bn, Sh.qe_nb, Sh.qe_bs, Sh.qe_sb, Sh.qe_tt, Sh.qe_ll, Sh.qe_lt, Sh.qe_tl, Sh.qe_tn, Sh.qe_nt, Sh.qe_ts, Sh.qe_st, Sh.qes_nil, Sh.qes_cons, Sh.qes_nc, Sh.qes_cn, Sh.at_z, Sh.at_1, Sh.at_2, Sh.at_3, Sh.at_4, Sh.ix_T, Sh.dLen_S, Sh.dLen_T, Sh.sl_L, Sh.sl_T, Sh.sl_S, Sh.cut_to, Sh.cut_from, Sh.dList_L, Sh.dList_T, Sh.dTuple_L, Sh.dTuple_T, Sh.okRt, Sh.okLent, Sh.bs_bls, Sh.dAll_b, Sh.dAny_b, Sh.isi_non, Sh.isi_bl, Sh.isi_int, Sh.isi_str, Sh.isi_tup, Sh.isi_lst, Sh.isi_scr, Sh.isi_dk, Sh.isi_dt, Sh.isi_obj, Sh.items_lst, Sh.items_tup, Sh.items_str, Sh.fmt_str, Sh.tree_lst, Sh.tree_ins, Sh.tree_dk, Sh.tree_dt, Sh.seq_lst, Sh.seq_tup, Sh.isN_non, Sh.isN_bl, Sh.isN_int, Sh.isN_str, Sh.isN_tup, Sh.isN_lst, Sh.isN_obj, Sh.isN_exc, Sh.isN_ref, Sh.is_n, Sh.not_n, Sh.fld_obj, Sh.isC_obj, Sh.isO_obj, Sh.tyIn_obj, Sh.dAdd_ll, Sh.dAdd_tt, Sh.dAdd_ss, Sh.dMul_r1, Sh.strs_map, Sh.ap_k_sSet_1, Sh.ap_k_sAsg_1, Sh.ap_k_sDrop_1, Sh.ap_k_sRet_1, Sh.ap_k_sIf_1, Sh.ap_k_sFor_1, Sh.ap_k_sOwn_1, Sh.ap_k_sApp_1, Sh.ap_k_sRs_1, Sh.ap_k_sFdO_1, Sh.ap_k_sFdC_1, Sh.ap_k_sFdC_2, Sh.ap_k_sFdA_1, Sh.ap_k_sFdA_2, Sh.ap_k_sIxC_1, Sh.ap_k_sIxC_2, Sh.ap_k_sIxC_3, Sh.ap_k_eBin_1, Sh.ap_k_eBin_2, Sh.ap_k_eUn_1, Sh.ap_k_tVal_1, Sh.ap_k_tNt_1, Sh.ap_k_tAd_1, Sh.ap_k_tOo_1, Sh.ap_k_eNt_1, Sh.ap_k_eAd_1, Sh.ap_k_eOo_1, Sh.ap_k_eIf_1, Sh.ap_k_eChain_1, Sh.ap_k_eChain_2, Sh.ap_k_eChain_3, Sh.ap_k_eChain_4, Sh.ap_k_aCons_1, Sh.ap_k_aCons_2, Sh.ap_k_aStar_1, Sh.ap_k_aStar_2, Sh.ap_k_aStar_3, Sh.ap_k_eTup_1, Sh.ap_k_eLst_1, Sh.ap_k_eCall_1, Sh.ap_k_eIx_1, Sh.ap_k_eIx_2, Sh.ap_k_eDf_1, Sh.ap_k_eFd_1, Sh.ap_k_eMe_1, Sh.ap_k_eMe_2, Sh.ap_k_eCm_1, Sh.ap_k_eCm_2, Sh.ap_k_ePr_1, Sh.ap_k_eMk_1, Sh.ap_k_eMk_2, Sh.ap_k_eMk_3, Sh.ap_k_eMkC_1, Sh.ap_k_eMkC_2, Sh.ap_k_eMkC_3, Sh.ap_k_eLstC_1, Sh.ap_k_eIsi_1, Sh.ap_k_eFmt_1, Sh.ap_k_eSl_1, Sh.ap_k_eSl_2, Sh.ap_k_eSl_3, Sh.ap_k_pSo_1, Sh.ap_k_eM1_1, Sh.ap_k_eM1_2, Sh.ap_k_eXf_1, Sh.ap_k_eIsx_1, Sh.ap_k_eBinE_1, Sh.ap_k_eBinE_2, Sh.ap_k_eCallE_1, Sh.ap_k_eBo_1, Sh.ap_k_eBo_2, Sh.ap_k_eNew_1, Sh.ap_k_lDisp_1, Sh.ap_k_lComp_1, Sh.ap_k_iSq_1, Sh.ap_k_iRng1_1, Sh.ap_k_iRng2_1, Sh.ap_k_iEnu_1, Sh.ap_k_oOwn_1])
local macro_rules | `(tactic| simp_all_arith [$ts,*]) => `(tactic| simp -implicitDefEqProofs (disch := first | (simp only [Sh.isDat_non, Sh.isDat_bl, Sh.isDat_int, Sh.isDat_str, Sh.isDat_t9, Sh.isDat_l9, Sh.isDat_t8, Sh.isDat_l8, Sh.isDat_t7, Sh.isDat_l7, Sh.isDat_t6, Sh.isDat_l6, List.all_cons, List.all_nil, Bool.and_self, Bool.and_true]; done) | omega | (simp only [List.length_append, List.length_cons, List.length_nil, List.length_map, List.length_replicate, List.length_drop, List.length_take]; omega)) only [Sh.ap_runD, Sh.ap_runI, Sh.runL, Sh.ap_sSeq, Sh.ap_sNil, Sh.ap_sSet, Sh.ap_sAsg, Sh.ap_sDrop, Sh.ap_sRet, Sh.ap_sRetN, Sh.ap_sIf, Sh.ap_sBk, Sh.ap_sCt, Sh.ap_sFor, Sh.ap_sFrz, Sh.ap_freeze, Sh.ap_sTry, Sh.ap_sOwn, Sh.ap_sApp, Sh.ap_sRs, Sh.ap_sFdO, Sh.ap_eFdO, Sh.ap_sFdC, Sh.ap_sFdA, Sh.ap_sIxC, Sh.ap_eVar, Sh.ap_eC, Sh.ap_eBin, Sh.ap_eUn, Sh.ap_tVal, Sh.ap_tNt, Sh.ap_tAd, Sh.ap_tOo, Sh.ap_eNt, Sh.ap_eAd, Sh.ap_eOo, Sh.ap_eIf, Sh.ap_eChain, Sh.ap_aNil, Sh.ap_aCons, Sh.ap_aStar, Sh.ap_eTup, Sh.ap_eLst, Sh.ap_eCall, Sh.ap_eIx, Sh.ap_eDf, Sh.ap_eFd, Sh.ap_eMe, Sh.ap_eCm, Sh.ap_ePr, Sh.ap_eAlt, Sh.ap_eMk, Sh.ap_eMkC, Sh.ap_eLstC, Sh.ap_pubC, Sh.ap_eIsi, Sh.ap_eFmt, Sh.eJs, Sh.ap_eSl, Sh.ap_pNo, Sh.ap_pSo, Sh.ap_eM1, Sh.ap_eAct, Sh.ap_eLam, Sh.ap_eXf, Sh.ap_eIsx, Sh.ap_eBinE, Sh.ap_eCallE, Sh.ap_eBo, Sh.ap_eNew, Sh.ap_lDisp, Sh.ap_lComp, Sh.clr, Sh.ap_iSq, Sh.ap_iRng1, Sh.ap_iRng2, Sh.ap_iEnu, Sh.ap_tYesD, Sh.ap_gN, Sh.ap_gT, Sh.ap_gsNil, Sh.ap_gsCons, Sh.notOwn_free, Sh.free_no, Sh.free_val, Sh.free_own, Sh.ap_noOwn, Sh.ap_starF, Sh.ap_starI, Sh.ap_dflF, Sh.ap_dflI, Sh.ap_cOf, Sh.ap_oOf, ↓Sh.seq_nx, ↓Sh.seq_rt, ↓Sh.seq_bk, ↓Sh.seq_ct, ↓Sh.seq_er, ↓Sh.seq_no, ↓Sh.run_ok, ↓Sh.run_er, ↓Sh.run_no, ↓Sh.ok_bind, ↓Sh.er_bind, ↓Sh.no_bind, Sh.of_some, Sh.of_none, Sh.res_nx, Sh.res_rt, Sh.res_er, Sh.res_no, Sh.resI_nx, Sh.resI_er, Sh.resI_no, Sh.orE_no, Sh.orE_ok, Sh.orE_er, Sh.clean_ok, Sh.clean_er, Sh.clean_no, Sh.clean_of, Option.map_some, Option.map_none, ↓Option.bind_some, ↓Option.bind_none, List.getElem?_cons_zero, List.getElem?_cons_succ, List.set_cons_zero, List.set_cons_succ, List.length_cons, List.length_nil, List.map_cons, List.map_nil, List.cons_append, List.nil_append, List.append_nil, List.replicate_succ, List.replicate_zero, List.all_cons, List.all_nil, Nat.zero_add, Nat.reduceAdd, Nat.reduceLeDiff, Nat.reduceLT, Nat.reduceEqDiff, if_true, if_false, ite_true, ite_false, reduceIte, Bool.and_true, Bool.true_and, and_true, true_and, and_self, decide_true, decide_false, Bool.not_true, Bool.not_false, Bool.false_eq_true, reduceCtorEq, cond_true, cond_false, List.lookup_nil, List.lookup_cons, Sh.ofStr_beq, Sh.ofStr_eq, String.reduceBEq, String.reduceEq, beq_self_eq_true, List.mem_cons, List.not_mem_nil, or_false, false_or, or_true, true_or, or_self, Sh.dMul_L, Sh.dMul_R, Sh.dAdd_I, Sh.dSub_I, Sh.dMod_I, Sh.dFdiv_I, Sh.dPow_I, Sh.dLt_I, Sh.dLe_I, Sh.dGt_I, Sh.dGe_I, Sh.dInt_I, Sh.dInt_B, Sh.dAbs_I, Sh.dLen_L, Sh.ix_L, Sh.at0, Sh.at1, Sh.at2, Sh.ixN0, Sh.ixN1, Sh.ixN2, Sh.ap_oOwn, Sh.ap_oOr, Sh.sWhile, Sh.putD, Nat.zero_le, List.take_zero, List.drop_zero, List.contains_cons, List.contains_nil, Bool.or_false, Bool.false_or, Bool.or_true, Bool.true_or, Bool.and_false, Bool.false_and, List.length_map, Int.toNat_natCast, Int.natCast_nonneg, Sh.forD_nil, Sh.mapA_nil, ↓Sh.turn_nx, ↓Sh.turn_ct, ↓Sh.turn_bk, ↓Sh.turn_rt, ↓Sh.turn_er, ↓Sh.turn_no, List.length_replicate, List.length_append, List.length_range, Option.isNone_some, Option.isNone_none, Option.isNone, Bool.not_eq_true, eq_self, id_eq, Int.cast_ofNat_Int, Int.reduceBEq, Int.reduceLT, Int.reduceLE, Int.reduceToNat, Int.reduceAdd, Int.reduceSub, Int.reduceNeg, Int.reduceMul, Sh.D.bs, Sh.szl, Sh.szt, Sh.b_bl, Sh.dEq_q, Sh.dNe_q, Sh.isDat_non, Sh.isDat_bl, Sh.isDat_int, Sh.isDat_str, Sh.isDat_t9, Sh.isDat_l9, Sh.isDat_t8, Sh.isDat_l8, Sh.isDat_t7, Sh.isDat_l7, Sh.isDat_t6, Sh.isDat_l6, Sh.qe_ii, Sh.qe_ss, Sh.qe_bb, Sh.qe_bi, Sh.qe_ib, Sh.qe_nn, Sh.qe_ns, Sh.qe_sn, Sh.qe_ni, Sh.qe_in, Sh.qe_is, Sh.qe_si, Sh.qe_bn, Sh.qe_nb, Sh.qe_bs, Sh.qe_sb, Sh.qe_tt, Sh.qe_ll, Sh.qe_lt, Sh.qe_tl, Sh.qe_tn, Sh.qe_nt, Sh.qe_ts, Sh.qe_st, Sh.qes_nil, Sh.qes_cons, Sh.qes_nc, Sh.qes_cn, Sh.at_z, Sh.at_1, Sh.at_2, Sh.at_3, Sh.at_4, Sh.ix_T, Sh.dLen_S, Sh.dLen_T, Sh.sl_L, Sh.sl_T, Sh.sl_S, Sh.cut_to, Sh.cut_from, Sh.dList_L, Sh.dList_T, Sh.dTuple_L, Sh.dTuple_T, Sh.okRt, Sh.okLent, Sh.bs_bls, Sh.dAll_b, Sh.dAny_b, Sh.isi_non, Sh.isi_bl, Sh.isi_int, Sh.isi_str, Sh.isi_tup, Sh.isi_lst, Sh.isi_scr, Sh.isi_dk, Sh.isi_dt, Sh.isi_obj, Sh.items_lst, Sh.items_tup, Sh.items_str, Sh.fmt_str, Sh.tree_lst, Sh.tree_ins, Sh.tree_dk, Sh.tree_dt, Sh.seq_lst, Sh.seq_tup, Sh.isN_non, Sh.isN_bl, Sh.isN_int, Sh.isN_str, Sh.isN_tup, Sh.isN_lst, Sh.isN_obj, Sh.isN_exc, Sh.isN_ref, Sh.is_n, Sh.not_n, Sh.fld_obj, Sh.isC_obj, Sh.isO_obj, Sh.tyIn_obj, Sh.dAdd_ll, Sh.dAdd_tt, Sh.dAdd_ss, Sh.dMul_r1, Sh.strs_map, Sh.ap_k_sSet_1, Sh.ap_k_sAsg_1, Sh.ap_k_sDrop_1, Sh.ap_k_sRet_1, Sh.ap_k_sIf_1, Sh.ap_k_sFor_1, Sh.ap_k_sOwn_1, Sh.ap_k_sApp_1, Sh.ap_k_sRs_1, Sh.ap_k_sFdO_1, Sh.ap_k_sFdC_1, Sh.ap_k_sFdC_2, Sh.ap_k_sFdA_1, Sh.ap_k_sFdA_2, Sh.ap_k_sIxC_1, Sh.ap_k_sIxC_2, Sh.ap_k_sIxC_3, Sh.ap_k_eBin_1, Sh.ap_k_eBin_2, Sh.ap_k_eUn_1, Sh.ap_k_tVal_1, Sh.ap_k_tNt_1, Sh.ap_k_tAd_1, Sh.ap_k_tOo_1, Sh.ap_k_eNt_1, Sh.ap_k_eAd_1, Sh.ap_k_eOo_1, Sh.ap_k_eIf_1, Sh.ap_k_eChain_1, Sh.ap_k_eChain_2, Sh.ap_k_eChain_3, Sh.ap_k_eChain_4, Sh.ap_k_aCons_1, Sh.ap_k_aCons_2, Sh.ap_k_aStar_1, Sh.ap_k_aStar_2, Sh.ap_k_aStar_3, Sh.ap_k_eTup_1, Sh.ap_k_eLst_1, Sh.ap_k_eCall_1, Sh.ap_k_eIx_1, Sh.ap_k_eIx_2, Sh.ap_k_eDf_1, Sh.ap_k_eFd_1, Sh.ap_k_eMe_1, Sh.ap_k_eMe_2, Sh.ap_k_eCm_1, Sh.ap_k_eCm_2, Sh.ap_k_ePr_1, Sh.ap_k_eMk_1, Sh.ap_k_eMk_2, Sh.ap_k_eMk_3, Sh.ap_k_eMkC_1, Sh.ap_k_eMkC_2, Sh.ap_k_eMkC_3, Sh.ap_k_eLstC_1, Sh.ap_k_eIsi_1, Sh.ap_k_eFmt_1, Sh.ap_k_eSl_1, Sh.ap_k_eSl_2, Sh.ap_k_eSl_3, Sh.ap_k_pSo_1, Sh.ap_k_eM1_1, Sh.ap_k_eM1_2, Sh.ap_k_eXf_1, Sh.ap_k_eIsx_1, Sh.ap_k_eBinE_1, Sh.ap_k_eBinE_2, Sh.ap_k_eCallE_1, Sh.ap_k_eBo_1, Sh.ap_k_eBo_2, Sh.ap_k_eNew_1, Sh.ap_k_lDisp_1, Sh.ap_k_lComp_1, Sh.ap_k_iSq_1, Sh.ap_k_iRng1_1, Sh.ap_k_iRng2_1, Sh.ap_k_iEnu_1, Sh.ap_k_oOwn_1, $ts,*])

namespace Nk
open PySem PySem.Spec PyProof.Rows L2
def topS (i : Nat) : Stmt := PySem.Challenge.pw_nextkind_k33_rows_of_many_deeds.main.body.getD i (.Pass ⟨0, 0, 0, 0⟩)
abbrev PP : Program := PySem.Challenge.pw_nextkind_k33_rows_of_many_deeds
def tys : List String := ["NoneType", "bool", "int", "str", "list", "tuple", "dict"]
abbrev s_BadName_init : Stmt := inClass (topS 3) 0
theorem sc_BadName_init : FnSup ["self", "value"] ["self", "value"] (defScope s_BadName_init) := fnSup_by (by decide +kernel)
abbrev s_BadDeed_init : Stmt := inClass (topS 5) 0
theorem sc_BadDeed_init : FnSup ["self", "at"] ["self", "at"] (defScope s_BadDeed_init) := fnSup_by (by decide +kernel)
abbrev s_BadTable_init : Stmt := inClass (topS 4) 0
theorem sc_BadTable_init : FnSup ["self", "value"] ["self", "value"] (defScope s_BadTable_init) := fnSup_by (by decide +kernel)
abbrev s_TooMany_init : Stmt := inClass (topS 6) 0
theorem sc_TooMany_init : FnSup ["self", "what", "most"] ["self", "what", "most"] (defScope s_TooMany_init) := fnSup_by (by decide +kernel)
abbrev s_BadText_init : Stmt := inClass (topS 7) 0
theorem sc_BadText_init : FnSup ["self", "line", "word"] ["self", "line", "word"] (defScope s_BadText_init) := fnSup_by (by decide +kernel)
abbrev s_is_integer : Stmt := topS 11
theorem sc_is_integer : FnScope ["value"] ["value"] (defScope s_is_integer) := ⟨rfl, rfl, rfl, by decide +kernel, rfl, by decide +kernel, by decide +kernel⟩
abbrev s_is_within : Stmt := topS 12
theorem sc_is_within : FnScope ["value", "least", "most"] ["value", "least", "most"] (defScope s_is_within) := ⟨rfl, rfl, rfl, by decide +kernel, rfl, by decide +kernel, by decide +kernel⟩
abbrev s_is_name : Stmt := topS 13
theorem sc_is_name : FnScope ["value", "letter"] ["value"] (defScope s_is_name) := ⟨rfl, rfl, rfl, by decide +kernel, rfl, by decide +kernel, by decide +kernel⟩
abbrev s_need_name : Stmt := topS 14
theorem sc_need_name : FnScope ["value"] ["value"] (defScope s_need_name) := ⟨rfl, rfl, rfl, by decide +kernel, rfl, by decide +kernel, by decide +kernel⟩
abbrev s_is_name_pair : Stmt := topS 15
theorem sc_is_name_pair : FnScope ["value"] ["value"] (defScope s_is_name_pair) := ⟨rfl, rfl, rfl, by decide +kernel, rfl, by decide +kernel, by decide +kernel⟩
abbrev s_Words_init : Stmt := inClass (topS 17) 0
theorem sc_Words_init : FnScope ["self", "text", "line"] ["self", "text", "line"] (defScope s_Words_init) := ⟨rfl, rfl, rfl, by decide +kernel, rfl, by decide +kernel, by decide +kernel⟩
abbrev s_Words_refuse : Stmt := inClass (topS 17) 1
theorem sc_Words_refuse : FnScope ["self", "index"] ["self", "index"] (defScope s_Words_refuse) := ⟨rfl, rfl, rfl, by decide +kernel, rfl, by decide +kernel, by decide +kernel⟩
abbrev s_Words_is_over : Stmt := inClass (topS 17) 2
theorem sc_Words_is_over : FnScope ["self"] ["self"] (defScope s_Words_is_over) := ⟨rfl, rfl, rfl, by decide +kernel, rfl, by decide +kernel, by decide +kernel⟩
abbrev s_Words_upcoming : Stmt := inClass (topS 17) 3
theorem sc_Words_upcoming : FnScope ["self"] ["self"] (defScope s_Words_upcoming) := ⟨rfl, rfl, rfl, by decide +kernel, rfl, by decide +kernel, by decide +kernel⟩
abbrev s_Words_skip : Stmt := inClass (topS 17) 4
theorem sc_Words_skip : FnScope ["self"] ["self"] (defScope s_Words_skip) := ⟨rfl, rfl, rfl, by decide +kernel, rfl, by decide +kernel, by decide +kernel⟩
abbrev s_Words_take_of : Stmt := inClass (topS 17) 5
theorem sc_Words_take_of : FnScope ["self", "some"] ["self", "some"] (defScope s_Words_take_of) := ⟨rfl, rfl, rfl, by decide +kernel, rfl, by decide +kernel, by decide +kernel⟩
abbrev s_Words_take_name : Stmt := inClass (topS 17) 6
theorem sc_Words_take_name : FnScope ["self"] ["self"] (defScope s_Words_take_name) := ⟨rfl, rfl, rfl, by decide +kernel, rfl, by decide +kernel, by decide +kernel⟩
abbrev s_Words_close : Stmt := inClass (topS 17) 9
theorem sc_Words_close : FnScope ["self"] ["self"] (defScope s_Words_close) := ⟨rfl, rfl, rfl, by decide +kernel, rfl, by decide +kernel, by decide +kernel⟩
abbrev s_Come_init : Stmt := inClass (topS 23) 0
theorem sc_Come_init : FnScope ["self", "kind"] ["self", "kind"] (defScope s_Come_init) := ⟨rfl, rfl, rfl, by decide +kernel, rfl, by decide +kernel, by decide +kernel⟩
abbrev s_Come_parts : Stmt := inClass (topS 23) 1
theorem sc_Come_parts : FnScope ["self"] ["self"] (defScope s_Come_parts) := ⟨rfl, rfl, rfl, by decide +kernel, rfl, by decide +kernel, by decide +kernel⟩
abbrev s_Come_eq : Stmt := inClass (topS 23) 2
theorem sc_Come_eq : FnScope ["self", "other"] ["self", "other"] (defScope s_Come_eq) := ⟨rfl, rfl, rfl, by decide +kernel, rfl, by decide +kernel, by decide +kernel⟩
abbrev s_Come_str : Stmt := inClass (topS 23) 3
theorem sc_Come_str : FnScope ["self"] ["self"] (defScope s_Come_str) := ⟨rfl, rfl, rfl, by decide +kernel, rfl, by decide +kernel, by decide +kernel⟩
abbrev s_Go_init : Stmt := inClass (topS 24) 0
theorem sc_Go_init : FnScope ["self", "kind", "bay"] ["self", "kind", "bay"] (defScope s_Go_init) := ⟨rfl, rfl, rfl, by decide +kernel, rfl, by decide +kernel, by decide +kernel⟩
abbrev s_Go_parts : Stmt := inClass (topS 24) 1
theorem sc_Go_parts : FnScope ["self"] ["self"] (defScope s_Go_parts) := ⟨rfl, rfl, rfl, by decide +kernel, rfl, by decide +kernel, by decide +kernel⟩
abbrev s_Go_eq : Stmt := inClass (topS 24) 2
theorem sc_Go_eq : FnScope ["self", "other"] ["self", "other"] (defScope s_Go_eq) := ⟨rfl, rfl, rfl, by decide +kernel, rfl, by decide +kernel, by decide +kernel⟩
abbrev s_Go_str : Stmt := inClass (topS 24) 3
theorem sc_Go_str : FnScope ["self"] ["self"] (defScope s_Go_str) := ⟨rfl, rfl, rfl, by decide +kernel, rfl, by decide +kernel, by decide +kernel⟩
abbrev s_deed_of : Stmt := topS 25
theorem sc_deed_of : FnScope ["parts", "part"] ["parts"] (defScope s_deed_of) := ⟨rfl, rfl, rfl, by decide +kernel, rfl, by decide +kernel, by decide +kernel⟩
abbrev s_take_deed : Stmt := topS 26
theorem sc_take_deed : FnScope ["words", "kind"] ["words"] (defScope s_take_deed) := ⟨rfl, rfl, rfl, by decide +kernel, rfl, by decide +kernel, by decide +kernel⟩
abbrev s_Row_init : Stmt := inClass (topS 27) 0
theorem sc_Row_init : FnScope ["self", "deeds", "at", "deed"] ["self", "deeds"] (defScope s_Row_init) := ⟨rfl, rfl, rfl, by decide +kernel, rfl, by decide +kernel, by decide +kernel⟩
abbrev s_Row_of : Stmt := inClass (topS 27) 1
theorem sc_Row_of : FnScope ["cls", "deeds"] ["cls", "deeds"] (defScope s_Row_of) := ⟨rfl, rfl, rfl, by decide +kernel, rfl, by decide +kernel, by decide +kernel⟩
abbrev s_Row_read : Stmt := inClass (topS 27) 2
theorem sc_Row_read : FnScope ["cls", "text", "words", "found"] ["cls", "text"] (defScope s_Row_read) := ⟨rfl, rfl, rfl, by decide +kernel, rfl, by decide +kernel, by decide +kernel⟩
abbrev s_Row_from_parts : Stmt := inClass (topS 27) 3
theorem sc_Row_from_parts : FnScope ["cls", "parts", "found", "part", "deed"] ["cls", "parts"] (defScope s_Row_from_parts) := ⟨rfl, rfl, rfl, by decide +kernel, rfl, by decide +kernel, by decide +kernel⟩
abbrev s_Row_parts : Stmt := inClass (topS 27) 4
theorem sc_Row_parts : FnScope ["self", "deed"] ["self"] (defScope s_Row_parts) := ⟨rfl, rfl, rfl, by decide +kernel, rfl, by decide +kernel, by decide +kernel⟩
abbrev s_Row_len : Stmt := inClass (topS 27) 9
theorem sc_Row_len : FnScope ["self"] ["self"] (defScope s_Row_len) := ⟨rfl, rfl, rfl, by decide +kernel, rfl, by decide +kernel, by decide +kernel⟩
abbrev s_Row_add : Stmt := inClass (topS 27) 10
theorem sc_Row_add : FnScope ["self", "other", "more"] ["self", "other"] (defScope s_Row_add) := ⟨rfl, rfl, rfl, by decide +kernel, rfl, by decide +kernel, by decide +kernel⟩
abbrev s_Row_eq : Stmt := inClass (topS 27) 11
theorem sc_Row_eq : FnScope ["self", "other"] ["self", "other"] (defScope s_Row_eq) := ⟨rfl, rfl, rfl, by decide +kernel, rfl, by decide +kernel, by decide +kernel⟩
abbrev s_Row_str : Stmt := inClass (topS 27) 12
theorem sc_Row_str : FnScope ["self", "deed"] ["self"] (defScope s_Row_str) := ⟨rfl, rfl, rfl, by decide +kernel, rfl, by decide +kernel, by decide +kernel⟩
abbrev s__law_pen : Stmt := topS 29
theorem sc__law_pen : FnScope ["_law_script"] ["_law_script"] (defScope s__law_pen) := ⟨rfl, rfl, rfl, by decide +kernel, rfl, by decide +kernel, by decide +kernel⟩
abbrev s__law_draw : Stmt := topS 30
theorem sc__law_draw : FnScope ["_law_pen_here", "_law_many", "_law_digit", "_law_at", "_law_cell", "_law_great", "_law_mixed"] ["_law_pen_here", "_law_many"] (defScope s__law_draw) := ⟨rfl, rfl, rfl, by decide +kernel, rfl, by decide +kernel, by decide +kernel⟩
abbrev s__law_pick : Stmt := topS 31
theorem sc__law_pick : FnScope ["_law_pen_here", "_law_some"] ["_law_pen_here", "_law_some"] (defScope s__law_pick) := ⟨rfl, rfl, rfl, by decide +kernel, rfl, by decide +kernel, by decide +kernel⟩
abbrev s__law_heard : Stmt := topS 32
theorem sc__law_heard : FnScope ["_law_ask", "_law_caught", "_law_found", "error"] ["_law_ask"] (defScope s__law_heard) := ⟨rfl, rfl, rfl, by decide +kernel, rfl, by decide +kernel, by decide +kernel⟩
abbrev s_law : Stmt := topS 33
theorem sc_law : FnScope ["_law_script", "_law_pen_here", "_law_many", "_law_turn", "_law_heard_here", "_law_spot", "_law_come", "_law_cut", "_law_first", "_law_full", "_law_go", "_law_lines", "_law_over", "_law_parts_so", "_law_row_so", "_law_wrong", "_law_k"] ["_law_script"] (defScope s_law) := ⟨rfl, rfl, rfl, by decide +kernel, rfl, by decide +kernel, by decide +kernel⟩
abbrev FnP (K : PySem.W.Frag) (x : Str) (st : Stmt) (f : Addr) : Prop := ∃ fd, FunD K x x (defArgs st) (defBody st) (defScope st) [] [] f fd
def FUEL : Nat := 1000000
instance : Sh.TabSet := ⟨fun K => [((He.cT K ("law", none)).2, "law.<locals>.<lambda>")]⟩
instance : Sh.BasePred := ⟨fun _ => True, fun _ _ _ _ => trivial⟩
/-- what the text holds -/
structure Tx (K : PySem.W.Frag) (mg : Str → Option Value) : Prop where
  d_BadName_init : SupD K "__init__" "BadName.__init__" s_BadName_init (He.ma K (He.ga K "BadName") "__init__") (He.ga K "BadName") "/claim/cut.py"
  n_super : mg "super" = none
  ci_BadName : ∃ cd, PySem.W.clsIn K (He.ga K "BadName") = some cd
  exc_BadName : SupX K (He.ga K "BadName")
  nx_BadName_value : PySem.W.findIn K (.ref (He.ga K "BadName")) "value" = some none
  d_BadDeed_init : SupD K "__init__" "BadDeed.__init__" s_BadDeed_init (He.ma K (He.ga K "BadDeed") "__init__") (He.ga K "BadDeed") "/claim/cut.py"
  ci_BadDeed : ∃ cd, PySem.W.clsIn K (He.ga K "BadDeed") = some cd
  exc_BadDeed : SupX K (He.ga K "BadDeed")
  nx_BadDeed_at : PySem.W.findIn K (.ref (He.ga K "BadDeed")) "at" = some none
  d_BadTable_init : SupD K "__init__" "BadTable.__init__" s_BadTable_init (He.ma K (He.ga K "BadTable") "__init__") (He.ga K "BadTable") "/claim/cut.py"
  ci_BadTable : ∃ cd, PySem.W.clsIn K (He.ga K "BadTable") = some cd
  exc_BadTable : SupX K (He.ga K "BadTable")
  nx_BadTable_value : PySem.W.findIn K (.ref (He.ga K "BadTable")) "value" = some none
  d_TooMany_init : SupD K "__init__" "TooMany.__init__" s_TooMany_init (He.ma K (He.ga K "TooMany") "__init__") (He.ga K "TooMany") "/claim/cut.py"
  ci_TooMany : ∃ cd, PySem.W.clsIn K (He.ga K "TooMany") = some cd
  exc_TooMany : SupX K (He.ga K "TooMany")
  nx_TooMany_what : PySem.W.findIn K (.ref (He.ga K "TooMany")) "what" = some none
  nx_TooMany_most : PySem.W.findIn K (.ref (He.ga K "TooMany")) "most" = some none
  d_BadText_init : SupD K "__init__" "BadText.__init__" s_BadText_init (He.ma K (He.ga K "BadText") "__init__") (He.ga K "BadText") "/claim/cut.py"
  ci_BadText : ∃ cd, PySem.W.clsIn K (He.ga K "BadText") = some cd
  exc_BadText : SupX K (He.ga K "BadText")
  nx_BadText_line : PySem.W.findIn K (.ref (He.ga K "BadText")) "line" = some none
  nx_BadText_word : PySem.W.findIn K (.ref (He.ga K "BadText")) "word" = some none
  d_is_integer : ∃ f, FnP K "is_integer" s_is_integer f ∧ mg "is_integer" = some (.ref f)
  n_isinstance : mg "isinstance" = none
  n_int : mg "int" = none
  n_bool : mg "bool" = none
  d_is_within : ∃ f, FnP K "is_within" s_is_within f ∧ mg "is_within" = some (.ref f)
  d_is_name : ∃ f, FnP K "is_name" s_is_name f ∧ mg "is_name" = some (.ref f)
  n_str : mg "str" = none
  n_len : mg "len" = none
  c_MOST_LETTERS : ∃ u, mg "MOST_LETTERS" = some u ∧ RelV (.int 8) u
  n_all : mg "all" = none
  c_LETTERS : ∃ u, mg "LETTERS" = some u ∧ RelV (.str "abcdefghijklmnopqrstuvwxyz") u
  d_need_name : ∃ f, FnP K "need_name" s_need_name f ∧ mg "need_name" = some (.ref f)
  xi_BadName : PySem.W.findIn K (.ref (He.ga K "BadName")) "__init__" = some (some (.ref (He.ma K (He.ga K "BadName") "__init__")))
  xt_BadName : PySem.W.typeIn K (.ref (He.ma K (He.ga K "BadName") "__init__")) = some (.type "function")
  g_BadName : mg "BadName" = some (.ref (He.ga K "BadName"))
  d_is_name_pair : ∃ f, FnP K "is_name_pair" s_is_name_pair f ∧ mg "is_name_pair" = some (.ref f)
  n_tuple : mg "tuple" = none
  d_Words_init : ∃ fd, FunD K "__init__" "Words.__init__" (defArgs s_Words_init) (defBody s_Words_init) (defScope s_Words_init) [.int 0] [] (He.ma K (He.ga K "Words") "__init__") fd
  xi_BadText : PySem.W.findIn K (.ref (He.ga K "BadText")) "__init__" = some (some (.ref (He.ma K (He.ga K "BadText") "__init__")))
  xt_BadText : PySem.W.typeIn K (.ref (He.ma K (He.ga K "BadText") "__init__")) = some (.type "function")
  g_BadText : mg "BadText" = some (.ref (He.ga K "BadText"))
  cl_Words : Cls K (He.ga K "Words")
  na_Words_told : NoAttr K (He.ga K "Words") "told"
  na_Words_line_index : NoAttr K (He.ga K "Words") "line_index"
  na_Words_next_index : NoAttr K (He.ga K "Words") "next_index"
  d_Words_refuse : ∃ fd, FunD K "refuse" "Words.refuse" (defArgs s_Words_refuse) (defBody s_Words_refuse) (defScope s_Words_refuse) [.non] [] (He.ma K (He.ga K "Words") "refuse") fd
  d_Words_is_over : ∃ fd, FunD K "is_over" "Words.is_over" (defArgs s_Words_is_over) (defBody s_Words_is_over) (defScope s_Words_is_over) [] [] (He.ma K (He.ga K "Words") "is_over") fd
  d_Words_upcoming : ∃ fd, FunD K "upcoming" "Words.upcoming" (defArgs s_Words_upcoming) (defBody s_Words_upcoming) (defScope s_Words_upcoming) [] [] (He.ma K (He.ga K "Words") "upcoming") fd
  mt_Words_is_over : Meth K (He.ga K "Words") "is_over" (He.ma K (He.ga K "Words") "is_over")
  d_Words_skip : ∃ fd, FunD K "skip" "Words.skip" (defArgs s_Words_skip) (defBody s_Words_skip) (defScope s_Words_skip) [] [] (He.ma K (He.ga K "Words") "skip") fd
  mt_Words_refuse : Meth K (He.ga K "Words") "refuse" (He.ma K (He.ga K "Words") "refuse")
  d_Words_take_of : ∃ fd, FunD K "take_of" "Words.take_of" (defArgs s_Words_take_of) (defBody s_Words_take_of) (defScope s_Words_take_of) [] [] (He.ma K (He.ga K "Words") "take_of") fd
  mt_Words_upcoming : Meth K (He.ga K "Words") "upcoming" (He.ma K (He.ga K "Words") "upcoming")
  mt_Words_skip : Meth K (He.ga K "Words") "skip" (He.ma K (He.ga K "Words") "skip")
  d_Words_take_name : ∃ fd, FunD K "take_name" "Words.take_name" (defArgs s_Words_take_name) (defBody s_Words_take_name) (defScope s_Words_take_name) [] [] (He.ma K (He.ga K "Words") "take_name") fd
  d_Words_close : ∃ fd, FunD K "close" "Words.close" (defArgs s_Words_close) (defBody s_Words_close) (defScope s_Words_close) [] [] (He.ma K (He.ga K "Words") "close") fd
  d_Come_init : ∃ fd, FunD K "__init__" "Come.__init__" (defArgs s_Come_init) (defBody s_Come_init) (defScope s_Come_init) [] [] (He.ma K (He.ga K "Come") "__init__") fd
  cl_Come : Cls K (He.ga K "Come")
  na_Come_kind : NoAttr K (He.ga K "Come") "kind"
  d_Come_parts : ∃ fd, FunD K "parts" "Come.parts" (defArgs s_Come_parts) (defBody s_Come_parts) (defScope s_Come_parts) [] [] (getOf K (He.ga K "Come") "parts") fd
  d_Come_eq : ∃ fd, FunD K "__eq__" "Come.__eq__" (defArgs s_Come_eq) (defBody s_Come_eq) (defScope s_Come_eq) [] [] (He.ma K (He.ga K "Come") "__eq__") fd
  g_Come : mg "Come" = some (.ref (He.ga K "Come"))
  kts_Come : ∀ t ∈ tys, PySem.W.kitOne K (.type t) (.ref (He.ga K "Come")) = some false
  in_Come : InsC K (He.ga K "Come")
  kt_Come_Come_t : PySem.W.kitOne K (.ref (He.ga K "Come")) (.ref (He.ga K "Come")) = some true
  cl_Go : Cls K (He.ga K "Go")
  in_Go : InsC K (He.ga K "Go")
  kt_Go_Come_f : PySem.W.kitOne K (.ref (He.ga K "Go")) (.ref (He.ga K "Come")) = some false
  d_Come_str : ∃ fd, FunD K "__str__" "Come.__str__" (defArgs s_Come_str) (defBody s_Come_str) (defScope s_Come_str) [] [] (He.ma K (He.ga K "Come") "__str__") fd
  d_Go_init : ∃ fd, FunD K "__init__" "Go.__init__" (defArgs s_Go_init) (defBody s_Go_init) (defScope s_Go_init) [] [] (He.ma K (He.ga K "Go") "__init__") fd
  na_Go_kind : NoAttr K (He.ga K "Go") "kind"
  na_Go_bay : NoAttr K (He.ga K "Go") "bay"
  d_Go_parts : ∃ fd, FunD K "parts" "Go.parts" (defArgs s_Go_parts) (defBody s_Go_parts) (defScope s_Go_parts) [] [] (getOf K (He.ga K "Go") "parts") fd
  d_Go_eq : ∃ fd, FunD K "__eq__" "Go.__eq__" (defArgs s_Go_eq) (defBody s_Go_eq) (defScope s_Go_eq) [] [] (He.ma K (He.ga K "Go") "__eq__") fd
  g_Go : mg "Go" = some (.ref (He.ga K "Go"))
  kts_Go : ∀ t ∈ tys, PySem.W.kitOne K (.type t) (.ref (He.ga K "Go")) = some false
  kt_Come_Go_f : PySem.W.kitOne K (.ref (He.ga K "Come")) (.ref (He.ga K "Go")) = some false
  kt_Go_Go_t : PySem.W.kitOne K (.ref (He.ga K "Go")) (.ref (He.ga K "Go")) = some true
  d_Go_str : ∃ fd, FunD K "__str__" "Go.__str__" (defArgs s_Go_str) (defBody s_Go_str) (defScope s_Go_str) [] [] (He.ma K (He.ga K "Go") "__str__") fd
  d_deed_of : ∃ f, FnP K "deed_of" s_deed_of f ∧ mg "deed_of" = some (.ref f)
  c_COME_PARTS : ∃ u, mg "COME_PARTS" = some u ∧ RelV (.int 2) u
  mk_Come : Mk K (He.ga K "Come") (He.ma K (He.ga K "Come") "__init__")
  c_GO_PARTS : ∃ u, mg "GO_PARTS" = some u ∧ RelV (.int 3) u
  mk_Go : Mk K (He.ga K "Go") (He.ma K (He.ga K "Go") "__init__")
  d_take_deed : ∃ f, FnP K "take_deed" s_take_deed f ∧ mg "take_deed" = some (.ref f)
  mt_Words_take_of : Meth K (He.ga K "Words") "take_of" (He.ma K (He.ga K "Words") "take_of")
  mt_Words_take_name : Meth K (He.ga K "Words") "take_name" (He.ma K (He.ga K "Words") "take_name")
  d_Row_init : ∃ fd, FunD K "__init__" "Row.__init__" (defArgs s_Row_init) (defBody s_Row_init) (defScope s_Row_init) [] [] (He.ma K (He.ga K "Row") "__init__") fd
  n_enumerate : mg "enumerate" = none
  g_Deed : mg "Deed" = some (.ref (He.ga K "Deed"))
  kts_Deed : ∀ t ∈ tys, PySem.W.kitOne K (.type t) (.ref (He.ga K "Deed")) = some false
  kt_Come_Deed_t : PySem.W.kitOne K (.ref (He.ga K "Come")) (.ref (He.ga K "Deed")) = some true
  kt_Go_Deed_t : PySem.W.kitOne K (.ref (He.ga K "Go")) (.ref (He.ga K "Deed")) = some true
  cl_Row : Cls K (He.ga K "Row")
  in_Row : InsC K (He.ga K "Row")
  kt_Row_Deed_f : PySem.W.kitOne K (.ref (He.ga K "Row")) (.ref (He.ga K "Deed")) = some false
  xi_BadDeed : PySem.W.findIn K (.ref (He.ga K "BadDeed")) "__init__" = some (some (.ref (He.ma K (He.ga K "BadDeed") "__init__")))
  xt_BadDeed : PySem.W.typeIn K (.ref (He.ma K (He.ga K "BadDeed") "__init__")) = some (.type "function")
  g_BadDeed : mg "BadDeed" = some (.ref (He.ga K "BadDeed"))
  c_MOST_DEEDS : ∃ u, mg "MOST_DEEDS" = some u ∧ RelV (.int 2000) u
  xi_TooMany : PySem.W.findIn K (.ref (He.ga K "TooMany")) "__init__" = some (some (.ref (He.ma K (He.ga K "TooMany") "__init__")))
  xt_TooMany : PySem.W.typeIn K (.ref (He.ma K (He.ga K "TooMany") "__init__")) = some (.type "function")
  g_TooMany : mg "TooMany" = some (.ref (He.ga K "TooMany"))
  na_Row_deeds : NoAttr K (He.ga K "Row") "deeds"
  d_Row_of : ∃ fd, FunD K "of" "Row.of" (defArgs s_Row_of) (defBody s_Row_of) (defScope s_Row_of) [] [] (cmOf K (He.ga K "Row") "of") fd
  mk_Row : Mk K (He.ga K "Row") (He.ma K (He.ga K "Row") "__init__")
  d_Row_read : ∃ fd, FunD K "read" "Row.read" (defArgs s_Row_read) (defBody s_Row_read) (defScope s_Row_read) [] [] (cmOf K (He.ga K "Row") "read") fd
  g_Words : mg "Words" = some (.ref (He.ga K "Words"))
  mk_Words : Mk K (He.ga K "Words") (He.ma K (He.ga K "Words") "__init__")
  mt_Words_close : Meth K (He.ga K "Words") "close" (He.ma K (He.ga K "Words") "close")
  d_Row_from_parts : ∃ fd, FunD K "from_parts" "Row.from_parts" (defArgs s_Row_from_parts) (defBody s_Row_from_parts) (defScope s_Row_from_parts) [] [] (cmOf K (He.ga K "Row") "from_parts") fd
  xi_BadTable : PySem.W.findIn K (.ref (He.ga K "BadTable")) "__init__" = some (some (.ref (He.ma K (He.ga K "BadTable") "__init__")))
  xt_BadTable : PySem.W.typeIn K (.ref (He.ma K (He.ga K "BadTable") "__init__")) = some (.type "function")
  g_BadTable : mg "BadTable" = some (.ref (He.ga K "BadTable"))
  n_any : mg "any" = none
  d_Row_parts : ∃ fd, FunD K "parts" "Row.parts" (defArgs s_Row_parts) (defBody s_Row_parts) (defScope s_Row_parts) [] [] (getOf K (He.ga K "Row") "parts") fd
  pr_Come_parts : PropOf K (He.ga K "Come") "parts" (He.ma K (He.ga K "Come") "parts") (getOf K (He.ga K "Come") "parts")
  pr_Go_parts : PropOf K (He.ga K "Go") "parts" (He.ma K (He.ga K "Go") "parts") (getOf K (He.ga K "Go") "parts")
  d_Row_len : ∃ fd, FunD K "__len__" "Row.__len__" (defArgs s_Row_len) (defBody s_Row_len) (defScope s_Row_len) [] [] (He.ma K (He.ga K "Row") "__len__") fd
  d_Row_add : ∃ fd, FunD K "__add__" "Row.__add__" (defArgs s_Row_add) (defBody s_Row_add) (defScope s_Row_add) [] [] (He.ma K (He.ga K "Row") "__add__") fd
  g_Row : mg "Row" = some (.ref (He.ga K "Row"))
  d_Row_eq : ∃ fd, FunD K "__eq__" "Row.__eq__" (defArgs s_Row_eq) (defBody s_Row_eq) (defScope s_Row_eq) [] [] (He.ma K (He.ga K "Row") "__eq__") fd
  kts_Row : ∀ t ∈ tys, PySem.W.kitOne K (.type t) (.ref (He.ga K "Row")) = some false
  kt_Come_Row_f : PySem.W.kitOne K (.ref (He.ga K "Come")) (.ref (He.ga K "Row")) = some false
  kt_Go_Row_f : PySem.W.kitOne K (.ref (He.ga K "Go")) (.ref (He.ga K "Row")) = some false
  kt_Row_Row_t : PySem.W.kitOne K (.ref (He.ga K "Row")) (.ref (He.ga K "Row")) = some true
  eq_Come : EqC K (He.ga K "Come") (He.ma K (He.ga K "Come") "__eq__")
  eq_Go : EqC K (He.ga K "Go") (He.ma K (He.ga K "Go") "__eq__")
  d_Row_str : ∃ fd, FunD K "__str__" "Row.__str__" (defArgs s_Row_str) (defBody s_Row_str) (defScope s_Row_str) [] [] (He.ma K (He.ga K "Row") "__str__") fd
  own_Come_str : OwnM K (He.ga K "Come") "__str__" (He.ma K (He.ga K "Come") "__str__")
  own_Go_str : OwnM K (He.ga K "Go") "__str__" (He.ma K (He.ga K "Go") "__str__")
  d__law_pen : ∃ f, FnP K "_law_pen" s__law_pen f ∧ mg "_law_pen" = some (.ref f)
  n_list : mg "list" = none
  d__law_draw : ∃ f, FnP K "_law_draw" s__law_draw f ∧ mg "_law_draw" = some (.ref f)
  n_abs : mg "abs" = none
  d__law_pick : ∃ f, FnP K "_law_pick" s__law_pick f ∧ mg "_law_pick" = some (.ref f)
  g_NextError : mg "NextError" = some (.ref (He.ga K "NextError"))
  exm_BadName_NextError_t : PySem.W.exmOne K (.ref (He.ga K "BadName")) (.ref (He.ga K "NextError")) = some true
  exm_BadDeed_NextError_t : PySem.W.exmOne K (.ref (He.ga K "BadDeed")) (.ref (He.ga K "NextError")) = some true
  exm_BadTable_NextError_t : PySem.W.exmOne K (.ref (He.ga K "BadTable")) (.ref (He.ga K "NextError")) = some true
  exm_TooMany_NextError_t : PySem.W.exmOne K (.ref (He.ga K "TooMany")) (.ref (He.ga K "NextError")) = some true
  exm_BadText_NextError_t : PySem.W.exmOne K (.ref (He.ga K "BadText")) (.ref (He.ga K "NextError")) = some true
  own_Row_len : OwnM K (He.ga K "Row") "__len__" (He.ma K (He.ga K "Row") "__len__")
  ex_BadName : L2.ExcC K (He.ga K "BadName")
  kt_BadName_TooMany_f : PySem.W.kitOne K (.ref (He.ga K "BadName")) (.ref (He.ga K "TooMany")) = some false
  ex_BadDeed : L2.ExcC K (He.ga K "BadDeed")
  kt_BadDeed_TooMany_f : PySem.W.kitOne K (.ref (He.ga K "BadDeed")) (.ref (He.ga K "TooMany")) = some false
  ex_BadTable : L2.ExcC K (He.ga K "BadTable")
  kt_BadTable_TooMany_f : PySem.W.kitOne K (.ref (He.ga K "BadTable")) (.ref (He.ga K "TooMany")) = some false
  ex_TooMany : L2.ExcC K (He.ga K "TooMany")
  kt_TooMany_TooMany_t : PySem.W.kitOne K (.ref (He.ga K "TooMany")) (.ref (He.ga K "TooMany")) = some true
  ex_BadText : L2.ExcC K (He.ga K "BadText")
  kt_BadText_TooMany_f : PySem.W.kitOne K (.ref (He.ga K "BadText")) (.ref (He.ga K "TooMany")) = some false
  xf_TooMany : XfC K (He.ga K "TooMany")
  kt_BadName_BadTable_f : PySem.W.kitOne K (.ref (He.ga K "BadName")) (.ref (He.ga K "BadTable")) = some false
  kt_BadDeed_BadTable_f : PySem.W.kitOne K (.ref (He.ga K "BadDeed")) (.ref (He.ga K "BadTable")) = some false
  kt_BadTable_BadTable_t : PySem.W.kitOne K (.ref (He.ga K "BadTable")) (.ref (He.ga K "BadTable")) = some true
  kt_TooMany_BadTable_f : PySem.W.kitOne K (.ref (He.ga K "TooMany")) (.ref (He.ga K "BadTable")) = some false
  kt_BadText_BadTable_f : PySem.W.kitOne K (.ref (He.ga K "BadText")) (.ref (He.ga K "BadTable")) = some false
  xf_BadName : XfC K (He.ga K "BadName")
  xf_BadTable : XfC K (He.ga K "BadTable")
  kt_BadName_BadDeed_f : PySem.W.kitOne K (.ref (He.ga K "BadName")) (.ref (He.ga K "BadDeed")) = some false
  kt_BadDeed_BadDeed_t : PySem.W.kitOne K (.ref (He.ga K "BadDeed")) (.ref (He.ga K "BadDeed")) = some true
  kt_BadTable_BadDeed_f : PySem.W.kitOne K (.ref (He.ga K "BadTable")) (.ref (He.ga K "BadDeed")) = some false
  kt_TooMany_BadDeed_f : PySem.W.kitOne K (.ref (He.ga K "TooMany")) (.ref (He.ga K "BadDeed")) = some false
  kt_BadText_BadDeed_f : PySem.W.kitOne K (.ref (He.ga K "BadText")) (.ref (He.ga K "BadDeed")) = some false
  xf_BadDeed : XfC K (He.ga K "BadDeed")
  d__law_heard : ∃ f, FnP K "_law_heard" s__law_heard f ∧ mg "_law_heard" = some (.ref f)
  n_range : mg "range" = none
  cr_Row : ClX.CRead K (He.ga K "Row") (.type "type")
  cm_Row_of : ClX.CMet K (He.ga K "Row") (.type "type") "of" (He.ma K (He.ga K "Row") "of") (cmOf K (He.ga K "Row") "of")
  own_Row_add : OwnM K (He.ga K "Row") "__add__" (He.ma K (He.ga K "Row") "__add__")
  sf_Row : PySem.W.selfFirst K (He.ga K "Row") = true
  rt_Row_Row_add : PySem.W.nkRight K (He.ga K "Row") "add" (.ref (He.ga K "Row")) = true
  rt_Row_Go_add : PySem.W.nkRight K (He.ga K "Row") "add" (.ref (He.ga K "Go")) = true
  rt_Row_Come_add : PySem.W.nkRight K (He.ga K "Row") "add" (.ref (He.ga K "Come")) = true
  pr_Row_parts : PropOf K (He.ga K "Row") "parts" (He.ma K (He.ga K "Row") "parts") (getOf K (He.ga K "Row") "parts")
  own_Row_str : OwnM K (He.ga K "Row") "__str__" (He.ma K (He.ga K "Row") "__str__")
  cm_Row_from_parts : ClX.CMet K (He.ga K "Row") (.type "type") "from_parts" (He.ma K (He.ga K "Row") "from_parts") (cmOf K (He.ga K "Row") "from_parts")
  cm_Row_read : ClX.CMet K (He.ga K "Row") (.type "type") "read" (He.ma K (He.ga K "Row") "read") (cmOf K (He.ga K "Row") "read")
  eq_Row : EqC K (He.ga K "Row") (He.ma K (He.ga K "Row") "__eq__")
  nf_Row_Row : PySem.W.notFirst K (He.ga K "Row") (.ref (He.ga K "Row")) = true
end Nk

namespace Nk
open PySem PySem.Spec PyProof.Rows L2
def fns : List DefA := [
  ⟨fun K => (He.ma K (He.ga K "BadName") "__init__"), "__init__", "BadName.__init__", s_BadName_init, (some fun K => He.ga K "BadName"), []⟩,
  ⟨fun K => (He.ma K (He.ga K "BadDeed") "__init__"), "__init__", "BadDeed.__init__", s_BadDeed_init, (some fun K => He.ga K "BadDeed"), []⟩,
  ⟨fun K => (He.ma K (He.ga K "BadTable") "__init__"), "__init__", "BadTable.__init__", s_BadTable_init, (some fun K => He.ga K "BadTable"), []⟩,
  ⟨fun K => (He.ma K (He.ga K "TooMany") "__init__"), "__init__", "TooMany.__init__", s_TooMany_init, (some fun K => He.ga K "TooMany"), []⟩,
  ⟨fun K => (He.ma K (He.ga K "BadText") "__init__"), "__init__", "BadText.__init__", s_BadText_init, (some fun K => He.ga K "BadText"), []⟩,
  ⟨fun K => (He.ga K "is_integer"), "is_integer", "is_integer", s_is_integer, none, []⟩,
  ⟨fun K => (He.ga K "is_within"), "is_within", "is_within", s_is_within, none, []⟩,
  ⟨fun K => (He.ga K "is_name"), "is_name", "is_name", s_is_name, none, []⟩,
  ⟨fun K => (He.ga K "need_name"), "need_name", "need_name", s_need_name, none, []⟩,
  ⟨fun K => (He.ga K "is_name_pair"), "is_name_pair", "is_name_pair", s_is_name_pair, none, []⟩,
  ⟨fun K => (He.ma K (He.ga K "Words") "__init__"), "__init__", "Words.__init__", s_Words_init, none, [He.Dv.int 0]⟩,
  ⟨fun K => (He.ma K (He.ga K "Words") "refuse"), "refuse", "Words.refuse", s_Words_refuse, none, [He.Dv.non]⟩,
  ⟨fun K => (He.ma K (He.ga K "Words") "is_over"), "is_over", "Words.is_over", s_Words_is_over, none, []⟩,
  ⟨fun K => (He.ma K (He.ga K "Words") "upcoming"), "upcoming", "Words.upcoming", s_Words_upcoming, none, []⟩,
  ⟨fun K => (He.ma K (He.ga K "Words") "skip"), "skip", "Words.skip", s_Words_skip, none, []⟩,
  ⟨fun K => (He.ma K (He.ga K "Words") "take_of"), "take_of", "Words.take_of", s_Words_take_of, none, []⟩,
  ⟨fun K => (He.ma K (He.ga K "Words") "take_name"), "take_name", "Words.take_name", s_Words_take_name, none, []⟩,
  ⟨fun K => (He.ma K (He.ga K "Words") "close"), "close", "Words.close", s_Words_close, none, []⟩,
  ⟨fun K => (He.ma K (He.ga K "Come") "__init__"), "__init__", "Come.__init__", s_Come_init, none, []⟩,
  ⟨fun K => (getOf K (He.ga K "Come") "parts"), "parts", "Come.parts", s_Come_parts, none, []⟩,
  ⟨fun K => (He.ma K (He.ga K "Come") "__eq__"), "__eq__", "Come.__eq__", s_Come_eq, none, []⟩,
  ⟨fun K => (He.ma K (He.ga K "Come") "__str__"), "__str__", "Come.__str__", s_Come_str, none, []⟩,
  ⟨fun K => (He.ma K (He.ga K "Go") "__init__"), "__init__", "Go.__init__", s_Go_init, none, []⟩,
  ⟨fun K => (getOf K (He.ga K "Go") "parts"), "parts", "Go.parts", s_Go_parts, none, []⟩,
  ⟨fun K => (He.ma K (He.ga K "Go") "__eq__"), "__eq__", "Go.__eq__", s_Go_eq, none, []⟩,
  ⟨fun K => (He.ma K (He.ga K "Go") "__str__"), "__str__", "Go.__str__", s_Go_str, none, []⟩,
  ⟨fun K => (He.ga K "deed_of"), "deed_of", "deed_of", s_deed_of, none, []⟩,
  ⟨fun K => (He.ga K "take_deed"), "take_deed", "take_deed", s_take_deed, none, []⟩,
  ⟨fun K => (He.ma K (He.ga K "Row") "__init__"), "__init__", "Row.__init__", s_Row_init, none, []⟩,
  ⟨fun K => (cmOf K (He.ga K "Row") "of"), "of", "Row.of", s_Row_of, none, []⟩,
  ⟨fun K => (cmOf K (He.ga K "Row") "read"), "read", "Row.read", s_Row_read, none, []⟩,
  ⟨fun K => (cmOf K (He.ga K "Row") "from_parts"), "from_parts", "Row.from_parts", s_Row_from_parts, none, []⟩,
  ⟨fun K => (getOf K (He.ga K "Row") "parts"), "parts", "Row.parts", s_Row_parts, none, []⟩,
  ⟨fun K => (He.ma K (He.ga K "Row") "__len__"), "__len__", "Row.__len__", s_Row_len, none, []⟩,
  ⟨fun K => (He.ma K (He.ga K "Row") "__add__"), "__add__", "Row.__add__", s_Row_add, none, []⟩,
  ⟨fun K => (He.ma K (He.ga K "Row") "__eq__"), "__eq__", "Row.__eq__", s_Row_eq, none, []⟩,
  ⟨fun K => (He.ma K (He.ga K "Row") "__str__"), "__str__", "Row.__str__", s_Row_str, none, []⟩,
  ⟨fun K => (He.ga K "_law_pen"), "_law_pen", "_law_pen", s__law_pen, none, []⟩,
  ⟨fun K => (He.ga K "_law_draw"), "_law_draw", "_law_draw", s__law_draw, none, []⟩,
  ⟨fun K => (He.ga K "_law_pick"), "_law_pick", "_law_pick", s__law_pick, none, []⟩,
  ⟨fun K => (He.ga K "_law_heard"), "_law_heard", "_law_heard", s__law_heard, none, []⟩,
  ⟨fun K => (He.ga K "law"), "law", "law", s_law, none, []⟩]
def lits : List He.Fa := [.free "super", .glo "is_integer", .free "isinstance", .free "int", .free "bool", .glo "is_within", .glo "is_name", .free "str", .free "len", .int "MOST_LETTERS" 8, .free "all", .str "LETTERS" "abcdefghijklmnopqrstuvwxyz", .glo "need_name", .glo "BadName", .glo "is_name_pair", .free "tuple", .glo "BadText", .glo "Come", .glo "Go", .glo "deed_of", .int "COME_PARTS" 2, .int "GO_PARTS" 3, .glo "take_deed", .free "enumerate", .glo "Deed", .glo "BadDeed", .int "MOST_DEEDS" 2000, .glo "TooMany", .glo "Words", .glo "BadTable", .free "any", .glo "Row", .glo "_law_pen", .free "list", .glo "_law_draw", .free "abs", .glo "_law_pick", .glo "NextError", .glo "_law_heard", .free "range", .glo "law"]
def bls (K : PySem.W.Frag) : List Bool := [
  clsInB K (He.ga K "BadName"),
  supB K (He.ga K "BadName"),
  He.eqO (PySem.W.findIn K (.ref (He.ga K "BadName")) "value") (some none),
  clsInB K (He.ga K "BadDeed"),
  supB K (He.ga K "BadDeed"),
  He.eqO (PySem.W.findIn K (.ref (He.ga K "BadDeed")) "at") (some none),
  clsInB K (He.ga K "BadTable"),
  supB K (He.ga K "BadTable"),
  He.eqO (PySem.W.findIn K (.ref (He.ga K "BadTable")) "value") (some none),
  clsInB K (He.ga K "TooMany"),
  supB K (He.ga K "TooMany"),
  He.eqO (PySem.W.findIn K (.ref (He.ga K "TooMany")) "what") (some none),
  He.eqO (PySem.W.findIn K (.ref (He.ga K "TooMany")) "most") (some none),
  clsInB K (He.ga K "BadText"),
  supB K (He.ga K "BadText"),
  He.eqO (PySem.W.findIn K (.ref (He.ga K "BadText")) "line") (some none),
  He.eqO (PySem.W.findIn K (.ref (He.ga K "BadText")) "word") (some none),
  He.eqO (PySem.W.findIn K (.ref (He.ga K "BadName")) "__init__") (some (some (.ref (He.ma K (He.ga K "BadName") "__init__")))),
  decide (PySem.W.typeIn K (.ref (He.ma K (He.ga K "BadName") "__init__")) = some (.type "function")),
  He.eqO (PySem.W.findIn K (.ref (He.ga K "BadText")) "__init__") (some (some (.ref (He.ma K (He.ga K "BadText") "__init__")))),
  decide (PySem.W.typeIn K (.ref (He.ma K (He.ga K "BadText") "__init__")) = some (.type "function")),
  (He.Fa.cls "Words").ok K,
  (He.Fa.noat "Words" "told").ok K,
  (He.Fa.noat "Words" "line_index").ok K,
  (He.Fa.noat "Words" "next_index").ok K,
  (He.Fa.meth "Words" "is_over").ok K,
  (He.Fa.meth "Words" "refuse").ok K,
  (He.Fa.meth "Words" "upcoming").ok K,
  (He.Fa.meth "Words" "skip").ok K,
  (He.Fa.cls "Come").ok K,
  (He.Fa.noat "Come" "kind").ok K,
  (tys.all fun t => decide (PySem.W.kitOne K (.type t) (.ref (He.ga K "Come")) = some false)),
  insB K (He.ga K "Come"),
  decide (PySem.W.kitOne K (.ref (He.ga K "Come")) (.ref (He.ga K "Come")) = some true),
  (He.Fa.cls "Go").ok K,
  insB K (He.ga K "Go"),
  decide (PySem.W.kitOne K (.ref (He.ga K "Go")) (.ref (He.ga K "Come")) = some false),
  (He.Fa.noat "Go" "kind").ok K,
  (He.Fa.noat "Go" "bay").ok K,
  (tys.all fun t => decide (PySem.W.kitOne K (.type t) (.ref (He.ga K "Go")) = some false)),
  decide (PySem.W.kitOne K (.ref (He.ga K "Come")) (.ref (He.ga K "Go")) = some false),
  decide (PySem.W.kitOne K (.ref (He.ga K "Go")) (.ref (He.ga K "Go")) = some true),
  (He.Fa.mkr "Come").ok K,
  (He.Fa.mkr "Go").ok K,
  (He.Fa.meth "Words" "take_of").ok K,
  (He.Fa.meth "Words" "take_name").ok K,
  (tys.all fun t => decide (PySem.W.kitOne K (.type t) (.ref (He.ga K "Deed")) = some false)),
  decide (PySem.W.kitOne K (.ref (He.ga K "Come")) (.ref (He.ga K "Deed")) = some true),
  decide (PySem.W.kitOne K (.ref (He.ga K "Go")) (.ref (He.ga K "Deed")) = some true),
  (He.Fa.cls "Row").ok K,
  insB K (He.ga K "Row"),
  decide (PySem.W.kitOne K (.ref (He.ga K "Row")) (.ref (He.ga K "Deed")) = some false),
  He.eqO (PySem.W.findIn K (.ref (He.ga K "BadDeed")) "__init__") (some (some (.ref (He.ma K (He.ga K "BadDeed") "__init__")))),
  decide (PySem.W.typeIn K (.ref (He.ma K (He.ga K "BadDeed") "__init__")) = some (.type "function")),
  He.eqO (PySem.W.findIn K (.ref (He.ga K "TooMany")) "__init__") (some (some (.ref (He.ma K (He.ga K "TooMany") "__init__")))),
  decide (PySem.W.typeIn K (.ref (He.ma K (He.ga K "TooMany") "__init__")) = some (.type "function")),
  (He.Fa.noat "Row" "deeds").ok K,
  (He.Fa.mkr "Row").ok K,
  (He.Fa.mkr "Words").ok K,
  (He.Fa.meth "Words" "close").ok K,
  He.eqO (PySem.W.findIn K (.ref (He.ga K "BadTable")) "__init__") (some (some (.ref (He.ma K (He.ga K "BadTable") "__init__")))),
  decide (PySem.W.typeIn K (.ref (He.ma K (He.ga K "BadTable") "__init__")) = some (.type "function")),
  propB K (He.ga K "Come") "parts",
  propB K (He.ga K "Go") "parts",
  (tys.all fun t => decide (PySem.W.kitOne K (.type t) (.ref (He.ga K "Row")) = some false)),
  decide (PySem.W.kitOne K (.ref (He.ga K "Come")) (.ref (He.ga K "Row")) = some false),
  decide (PySem.W.kitOne K (.ref (He.ga K "Go")) (.ref (He.ga K "Row")) = some false),
  decide (PySem.W.kitOne K (.ref (He.ga K "Row")) (.ref (He.ga K "Row")) = some true),
  eqCB K (He.ga K "Come"),
  eqCB K (He.ga K "Go"),
  ownMB K (He.ga K "Come") "__str__",
  ownMB K (He.ga K "Go") "__str__",
  decide (PySem.W.exmOne K (.ref (He.ga K "BadName")) (.ref (He.ga K "NextError")) = some true),
  decide (PySem.W.exmOne K (.ref (He.ga K "BadDeed")) (.ref (He.ga K "NextError")) = some true),
  decide (PySem.W.exmOne K (.ref (He.ga K "BadTable")) (.ref (He.ga K "NextError")) = some true),
  decide (PySem.W.exmOne K (.ref (He.ga K "TooMany")) (.ref (He.ga K "NextError")) = some true),
  decide (PySem.W.exmOne K (.ref (He.ga K "BadText")) (.ref (He.ga K "NextError")) = some true),
  ownMB K (He.ga K "Row") "__len__",
  excCB K (He.ga K "BadName"),
  decide (PySem.W.kitOne K (.ref (He.ga K "BadName")) (.ref (He.ga K "TooMany")) = some false),
  excCB K (He.ga K "BadDeed"),
  decide (PySem.W.kitOne K (.ref (He.ga K "BadDeed")) (.ref (He.ga K "TooMany")) = some false),
  excCB K (He.ga K "BadTable"),
  decide (PySem.W.kitOne K (.ref (He.ga K "BadTable")) (.ref (He.ga K "TooMany")) = some false),
  excCB K (He.ga K "TooMany"),
  decide (PySem.W.kitOne K (.ref (He.ga K "TooMany")) (.ref (He.ga K "TooMany")) = some true),
  excCB K (He.ga K "BadText"),
  decide (PySem.W.kitOne K (.ref (He.ga K "BadText")) (.ref (He.ga K "TooMany")) = some false),
  xfB K (He.ga K "TooMany"),
  decide (PySem.W.kitOne K (.ref (He.ga K "BadName")) (.ref (He.ga K "BadTable")) = some false),
  decide (PySem.W.kitOne K (.ref (He.ga K "BadDeed")) (.ref (He.ga K "BadTable")) = some false),
  decide (PySem.W.kitOne K (.ref (He.ga K "BadTable")) (.ref (He.ga K "BadTable")) = some true),
  decide (PySem.W.kitOne K (.ref (He.ga K "TooMany")) (.ref (He.ga K "BadTable")) = some false),
  decide (PySem.W.kitOne K (.ref (He.ga K "BadText")) (.ref (He.ga K "BadTable")) = some false),
  xfB K (He.ga K "BadName"),
  xfB K (He.ga K "BadTable"),
  decide (PySem.W.kitOne K (.ref (He.ga K "BadName")) (.ref (He.ga K "BadDeed")) = some false),
  decide (PySem.W.kitOne K (.ref (He.ga K "BadDeed")) (.ref (He.ga K "BadDeed")) = some true),
  decide (PySem.W.kitOne K (.ref (He.ga K "BadTable")) (.ref (He.ga K "BadDeed")) = some false),
  decide (PySem.W.kitOne K (.ref (He.ga K "TooMany")) (.ref (He.ga K "BadDeed")) = some false),
  decide (PySem.W.kitOne K (.ref (He.ga K "BadText")) (.ref (He.ga K "BadDeed")) = some false),
  xfB K (He.ga K "BadDeed"),
  creadB K (He.ga K "Row"),
  cmB K (He.ga K "Row") "of",
  ownMB K (He.ga K "Row") "__add__",
  PySem.W.selfFirst K (He.ga K "Row"),
  PySem.W.nkRight K (He.ga K "Row") "add" (.ref (He.ga K "Row")),
  PySem.W.nkRight K (He.ga K "Row") "add" (.ref (He.ga K "Go")),
  PySem.W.nkRight K (He.ga K "Row") "add" (.ref (He.ga K "Come")),
  propB K (He.ga K "Row") "parts",
  ownMB K (He.ga K "Row") "__str__",
  cmB K (He.ga K "Row") "from_parts",
  cmB K (He.ga K "Row") "read",
  eqCB K (He.ga K "Row"),
  PySem.W.notFirst K (He.ga K "Row") (.ref (He.ga K "Row"))]
def lawK (K : PySem.W.Frag) : Bool := (lits.all fun f => f.ok K) && (bls K).all id
def tfs : List He.Defn := [("law", none)]
abbrev Rw : PySem.W.OpenRow := PySem.W.OpenLaw.row PySem.Challenge.rw_nextkind_k33_rows_of_many_deeds
abbrev FL : Str := "/claim/cut.py"
abbrev hk : PySem.W.Hook := hookN 5 fns FL tfs lawK
def ob (s : PySem.W.SharedT) : AlN := obsN 5 fns FL tfs lawK (HandSHeadRun.getT s)
theorem ob_eq (s : PySem.W.SharedT) : ob s = hk.obs s.abs := obsN_eq (HandSHeadRun.getT_eq s)
def loose : List Str := ["_wall", "NextError", "BadName", "BadTable", "BadDeed", "TooMany", "BadText", "LETTERS", "MOST_LETTERS", "is_integer", "is_within", "is_name", "need_name", "is_name_pair", "Words", "MOST_DEEDS", "COME_PARTS", "GO_PARTS", "Deed", "Come", "Go", "deed_of", "take_deed", "Row", "_law_pen", "_law_draw", "_law_pick", "_law_heard"]
theorem run (w : World) : HandSHeadRun.RunEq Rw (PySem.W.view Rw.prog [33]) hk ob 5000 loose w := by
  intro os
  kernel_rfl
end Nk

namespace Nk
open PySem PySem.Spec PyProof.Rows L2
local macro_rules | `(tactic| walk_at "r1") => `(tactic| with_reducible first
  | refine r_var rfl ?_ | refine r_c ?_ | refine r_seq ?_ | refine r_asgN ?_ | refine r_op ?_ | refine r_cb ?_ | refine r_cons ?_ | refine r_nil ?_
  | refine r_ret ?_ | refine r_ifS ?_ | refine r_I0 ?_ | refine r_test ?_ | refine r_B ?_ | refine r_k ?_ | refine r_not ?_ | refine r_and ?_ | refine r_or ?_
  | refine r_andV ?_ | refine r_orV ?_ | refine r_notV ?_ | refine r_if ?_ | refine r_chain ?_ | refine r_df ?_ | refine r_lst ?_ | refine r_tup ?_ | refine r_asg ?_ | refine r_gsub ?_ | refine r_drop ?_ | refine r_retN ?_ | refine r_next ?_ | refine r_bm ?_ | refine r_un ?_
  | refine r_gN ?_ | refine r_yes ?_ | refine r_lc ?_ | refine r_for ?_ | refine r_iStr ?_ | refine r_iList ?_ | refine r_iTup ?_ | refine r_iRng1 ?_ | refine r_xstr ?_ | refine r_xref ?_ | refine r_xint ?_ | refine r_xints ?_
  | refine r_m1 ?_ | refine r_isS ?_ | refine r_sl ?_ | refine r_nop ?_ | refine r_part ?_ | refine r_int1 ?_ | refine r_intb ?_ | refine r_iteT ?_ | refine r_iteF ?_ | refine r_iteNF ?_ | refine r_iteNT ?_)
local macro_rules | `(tactic| walk_at "r") => `(tactic| repeat (first | walk_at "r1" | walk_at "r2" | (dsimp only; first | walk_at "r1" | walk_at "r2")))

local macro_rules | `(tactic| walk_at "side") => `(tactic| first | assumption | (show (0 : Int) < _; omega) | exact c_mulL ⟨by omega, by omega⟩ | exact c_mulR ⟨by omega, by omega⟩ | exact c_pow ⟨by omega, by omega⟩ ⟨by omega, by omega⟩ | exact c_divW (by omega) (by omega))
local macro_rules | `(tactic| walk_at "r2") => `(tactic| first
  | ((with_reducible refine' r_I ?c1 ?_); (case c1 => walk_at "side"))
  | ((with_reducible refine' r_eq ?c1 ?_); (case c1 => rfl))
  | ((with_reducible refine' r_ne ?c1 ?_); (case c1 => rfl))
  | ((with_reducible refine' r_ixL ?c1 ?c2 ?_); (case c1 => first | exact SqL.of (by assumption) | assumption); (case c2 => rfl))
  | ((with_reducible refine' r_lenL ?c1 ?_); (case c1 => first | exact SqL.of (by assumption) | assumption))
  | ((with_reducible refine' r_slL ?c1 ?_); (case c1 => first | assumption | exact SqL.of (by assumption))))

local macro_rules | `(tactic| tbr_iter ($p:ident, $hp:ident, $H:ident, $s:ident, $e:ident, $o:ident)) => `(tactic| (intro $p:ident $hp:ident; generalize e0 : upd _ $p _ = $H:ident; have ⟨$s, $e, $o⟩ := Nk.new_facts $hp e0; clear e0))
section
variable {w : World} {K : PySem.W.Frag} {mg : Str → Option Value} {base : Heap}
theorem fo_BadName (T : Tx K mg) : Fo PP w K mg base (He.ma K (He.ga K "BadName") "__init__") 1 ["self", "value"] (spExc1 (He.ga K "BadName") "value") := by
  refine T.d_BadName_init.ok sc_BadName_init (fun vs H Q E h => ?_) (fun _ _ _ _ _ _ _ us hl => match us, hl with | [_, _], _ => rfl) (sf := "self") rfl rfl (by decide +kernel) (by decide +kernel) T.n_super (by decide +kernel) (by decide +kernel) (by decide +kernel) rfl T.ci_BadName (fun cc cdv A outer s H vs Q E S hr h => ?_)
  · obtain ⟨a, v, rfl, _⟩ := h
    rfl
  · obtain ⟨a, v, rfl, ha, k⟩ := h
    refine ⟨_, pscs_cons (psc_superX S T.exc_BadName (pa_cons (pv 1) pa_nil)) (pscs_of (pss_one (ps_ost (pv 0) (pv 1)))), ?_⟩
    refine ⟨a, rfl, ha, ?_⟩
    walk_at "r"
    refine ⟨by simp, ha, ?_⟩
    walk_at "r"
    exact ⟨v, rfl, .ref a, rfl, a, He.ga K "BadName", rfl, T.exc_BadName.T, T.nx_BadName_value, .inl ⟨ha, fun dx h1 h2 => k dx h1 h2⟩⟩
end

end Nk

namespace Nk
open PySem PySem.Spec PyProof.Rows L2 Sh
def pic_is_integer : Sy := (sRet (eAd (eIsi ["bool", "int"] [] (eVar 0)) (eNt (eIsi ["bool"] [] (eVar 0)))))
def sh_is_integer : List D → Store → R D := runD 1 0 pic_is_integer
section
variable {w : World} {K : PySem.W.Frag} {mg : Str → Option Value} {base : Heap}
theorem df_is_integer (T : Tx K mg) : Df PP w K mg base "is_integer" 1 ["value"] (spSh K sh_is_integer) := by
  obtain ⟨f, F, hm⟩ := T.d_is_integer
  exact df_sh (f := pic_is_integer) F hm sc_is_integer (fun _ _ _ _ _ _ us hl => match us, hl with | [_], _ => rfl) rfl rfl (fun _ => trivial) (fun cdv A outer s H E hr => (ss_one (s_ret (x_and (x_isi (bi := ["bool", "int"]) (own := []) rfl (by rfl) T.n_isinstance (x_var (i := 0) rfl (by first | exact .inl rfl | exact .inr (.inl rfl) | exact .inr (.inr rfl))) (pe_bltn (v := .ty "int") (u := .type "int") (by rfl) T.n_int (by decide +kernel) rfl) ⟨(io_b (by decide +kernel)), oo_nil⟩ (.ty _)) (x_one (x_not (x_isi (bi := ["bool"]) (own := []) rfl (by rfl) T.n_isinstance (x_var (i := 0) rfl (by first | exact .inl rfl | exact .inr (.inl rfl) | exact .inr (.inr rfl))) (pe_bltn (v := .ty "bool") (u := .type "bool") (by rfl) T.n_bool (by decide +kernel) rfl) ⟨(io_b (by decide +kernel)), oo_nil⟩ (.ty _))))))))
end
def pic_is_within : Sy := (sRet (eAd (eDf sh_is_integer (aCons (eVar 0) aNil)) (eChain dLe dLe (eVar 1) (eVar 0) (eVar 2))))
def sh_is_within : List D → Store → R D := runD 3 0 pic_is_within
section
variable {w : World} {K : PySem.W.Frag} {mg : Str → Option Value} {base : Heap}
theorem df_is_within (T : Tx K mg) : Df PP w K mg base "is_within" 2 ["value", "least", "most"] (spSh K sh_is_within) := by
  have G_is_integer : Df PP w K mg base "is_integer" 1 _ _ := df_is_integer T
  obtain ⟨f, F, hm⟩ := T.d_is_within
  exact df_sh (f := pic_is_within) F hm sc_is_within (fun _ _ _ _ _ _ us hl => match us, hl with | [_, _, _], _ => rfl) rfl rfl (fun _ => trivial) (fun cdv A outer s H E hr => (ss_one (s_ret (x_and (x_df G_is_integer shp_sh hr (by decide) (by rfl) (takes_of rfl rfl rfl rfl) (a_cons (x_var (i := 0) rfl (by first | exact .inl rfl | exact .inr (.inl rfl) | exact .inr (.inr rfl))) a_nil)) (x_one (x_chain (ops_le rfl) (ops_le rfl) (x_var (i := 1) rfl (by first | exact .inl rfl | exact .inr (.inl rfl) | exact .inr (.inr rfl))) (x_var (i := 0) rfl (by first | exact .inl rfl | exact .inr (.inl rfl) | exact .inr (.inr rfl))) (x_var (i := 2) rfl (by first | exact .inl rfl | exact .inr (.inl rfl) | exact .inr (.inr rfl)))))))))
end
def pic_is_name : Sy := (sSeq (sIf (tOo (tNt (tVal (eIsi ["str"] [] (eVar 0)))) (tNt (tVal (eChain dLe dLe (eC (.int 1)) (eCall dLen (aCons (eVar 0) aNil)) (eC (.int 8))))))
    (sRet (eC (.bl false)))
    sNil)
    (sRet (eCall dAll (aCons (eNew (lComp [1] (iSq (eVar 0)) (gN 1) tYesD (eBin dIn (eVar 1) (eC (.str "abcdefghijklmnopqrstuvwxyz"))))) aNil))))
def sh_is_name : List D → Store → R D := runD 1 1 pic_is_name
section
variable {w : World} {K : PySem.W.Frag} {mg : Str → Option Value} {base : Heap}
theorem df_is_name (T : Tx K mg) : Df PP w K mg base "is_name" 1 ["value"] (spSh K sh_is_name) := by
  obtain ⟨f, F, hm⟩ := T.d_is_name
  exact df_sh (f := pic_is_name) F hm sc_is_name (fun _ _ _ _ _ _ us hl => match us, hl with | [_], _ => rfl) rfl rfl (fun _ => trivial) (fun cdv A outer s H E hr => (ss_cons (s_if (w_pt (w_or (t_not (t_val (x_isi (bi := ["str"]) (own := []) rfl (by rfl) T.n_isinstance (x_var (i := 0) rfl (by first | exact .inl rfl | exact .inr (.inl rfl) | exact .inr (.inr rfl))) (pe_bltn (v := .ty "str") (u := .type "str") (by rfl) T.n_str (by decide +kernel) rfl) ⟨(io_b (by decide +kernel)), oo_nil⟩ (.ty _)))) (w_or1 (t_not (t_chain (ops_le rfl) (ops_le rfl) x_int (x_callB (calls_len rfl) (by rfl) T.n_len (by decide +kernel) (a_cons (x_var (i := 0) rfl (by first | exact .inl rfl | exact .inr (.inl rfl) | exact .inr (.inr rfl))) a_nil)) (x_gc (by rfl) T.c_MOST_LETTERS (fun _ => rep_int)))))))
    (ss_one (s_ret x_bl))
    ss_nil)
    (ss_one (s_ret (x_callB (calls_all rfl rfl) (by rfl) T.n_all (by decide +kernel) (a_cons (x_new (f_comp (own := [("letter", 1)]) rfl sc_is_name.nd (i_seq rfl (x_var (i := 0) rfl (by first | exact .inl rfl | exact .inr (.inl rfl) | exact .inr (.inr rfl)))) (blkOk_by (N := ["value", "letter"]) (sc := defScope s_is_name) (by decide +kernel)) (fun _ _ _ _ _ => (g_name (i := 1) sc_is_name.nd rfl (by first | exact .inl rfl | exact .inr rfl))) (fun _ _ _ _ _ => ts_nil) (fun _ _ _ _ _ => (x_cmp (ops_in rfl (room65 hr)) (x_var (i := 1) rfl (by first | exact .inl rfl | exact .inr (.inl rfl) | exact .inr (.inr rfl))) (x_gc (by rfl) T.c_LETTERS (fun _ => rep_str (by decide +kernel))) rfl)))) a_nil))))))
end
def pic_need_name : Sy := (sIf (tNt (tVal (eDf sh_is_name (aCons (eVar 0) aNil))))
    (sRs "BadName" ["value"] (aCons (eVar 0) aNil))
    sNil)
def sh_need_name : List D → Store → R D := runD 1 0 pic_need_name
section
variable {w : World} {K : PySem.W.Frag} {mg : Str → Option Value} {base : Heap}
theorem df_need_name (T : Tx K mg) : Df PP w K mg base "need_name" 3 ["value"] (spSh K sh_need_name) := by
  have G_is_name : Df PP w K mg base "is_name" 1 _ _ := df_is_name T
  have G_BadName_init : Fo PP w K mg base (He.ma K (He.ga K "BadName") "__init__") 1 _ _ := fo_BadName T
  obtain ⟨f, F, hm⟩ := T.d_need_name
  exact df_sh (f := pic_need_name) F hm sc_need_name (fun _ _ _ _ _ _ us hl => match us, hl with | [_], _ => rfl) rfl rfl (fun _ => trivial) (fun cdv A outer s H E hr => (ss_one (s_if (t_not (t_val (x_df G_is_name shp_sh hr (by decide) (by rfl) (takes_of rfl rfl rfl rfl) (a_cons (x_var (i := 0) rfl (by first | exact .inl rfl | exact .inr (.inl rfl) | exact .inr (.inr rfl))) a_nil))))
    (ss_one (s_rs1 (c := "BadName") (g1 := "value") rfl rfl (takes_of rfl rfl rfl rfl) T.exc_BadName.T T.xi_BadName T.xt_BadName G_BadName_init hr (by decide) (by rfl) T.g_BadName (a_cons (x_var (i := 0) rfl (by first | exact .inl rfl | exact .inr (.inl rfl) | exact .inr (.inr rfl))) a_nil)))
    ss_nil)))
end
def pic_is_name_pair : Sy := (sRet (eAd (eIsi ["tuple"] [] (eVar 0)) (eAd (eBin dEq (eCall dLen (aCons (eVar 0) aNil)) (eC (.int 2))) (eAd (eDf sh_is_name (aCons (eIx (eVar 0) (eC (.int 0))) aNil)) (eDf sh_is_name (aCons (eIx (eVar 0) (eC (.int 1))) aNil))))))
def sh_is_name_pair : List D → Store → R D := runD 1 0 pic_is_name_pair
section
variable {w : World} {K : PySem.W.Frag} {mg : Str → Option Value} {base : Heap}
theorem df_is_name_pair (T : Tx K mg) : Df PP w K mg base "is_name_pair" 2 ["value"] (spSh K sh_is_name_pair) := by
  have G_is_name : Df PP w K mg base "is_name" 1 _ _ := df_is_name T
  obtain ⟨f, F, hm⟩ := T.d_is_name_pair
  exact df_sh (f := pic_is_name_pair) F hm sc_is_name_pair (fun _ _ _ _ _ _ us hl => match us, hl with | [_], _ => rfl) rfl rfl (fun _ => trivial) (fun cdv A outer s H E hr => (ss_one (s_ret (x_and (x_isi (bi := ["tuple"]) (own := []) rfl (by rfl) T.n_isinstance (x_var (i := 0) rfl (by first | exact .inl rfl | exact .inr (.inl rfl) | exact .inr (.inr rfl))) (pe_bltn (v := .ty "tuple") (u := .type "tuple") (by rfl) T.n_tuple (by decide +kernel) rfl) ⟨(io_b (by decide +kernel)), oo_nil⟩ (.ty _)) (x_and (x_cmp (ops_eqP rfl (room64 hr)) (x_callB (calls_len rfl) (by rfl) T.n_len (by decide +kernel) (a_cons (x_var (i := 0) rfl (by first | exact .inl rfl | exact .inr (.inl rfl) | exact .inr (.inr rfl))) a_nil)) x_int (nomark _)) (x_and (x_df G_is_name shp_sh hr (by decide) (by rfl) (takes_of rfl rfl rfl rfl) (a_cons (x_ix rfl (x_var (i := 0) rfl (by first | exact .inl rfl | exact .inr (.inl rfl) | exact .inr (.inr rfl))) x_int (fun _ _ => rfl)) a_nil)) (x_one (x_df G_is_name shp_sh hr (by decide) (by rfl) (takes_of rfl rfl rfl rfl) (a_cons (x_ix rfl (x_var (i := 0) rfl (by first | exact .inl rfl | exact .inr (.inl rfl) | exact .inr (.inr rfl))) x_int (fun _ _ => rfl)) a_nil)))))))))
end

end Nk

namespace Nk
open PySem PySem.Spec PyProof.Rows L2
local macro_rules | `(tactic| walk_at "r1") => `(tactic| with_reducible first
  | refine r_var rfl ?_ | refine r_c ?_ | refine r_seq ?_ | refine r_asgN ?_ | refine r_op ?_ | refine r_cb ?_ | refine r_cons ?_ | refine r_nil ?_
  | refine r_ret ?_ | refine r_ifS ?_ | refine r_I0 ?_ | refine r_test ?_ | refine r_B ?_ | refine r_k ?_ | refine r_not ?_ | refine r_and ?_ | refine r_or ?_
  | refine r_andV ?_ | refine r_orV ?_ | refine r_notV ?_ | refine r_if ?_ | refine r_chain ?_ | refine r_df ?_ | refine r_lst ?_ | refine r_tup ?_ | refine r_asg ?_ | refine r_gsub ?_ | refine r_drop ?_ | refine r_retN ?_ | refine r_next ?_ | refine r_bm ?_ | refine r_un ?_
  | refine r_gN ?_ | refine r_yes ?_ | refine r_lc ?_ | refine r_for ?_ | refine r_iStr ?_ | refine r_iList ?_ | refine r_iTup ?_ | refine r_iRng1 ?_ | refine r_xstr ?_ | refine r_xref ?_ | refine r_xint ?_ | refine r_xints ?_
  | refine r_m1 ?_ | refine r_isS ?_ | refine r_sl ?_ | refine r_nop ?_ | refine r_part ?_ | refine r_int1 ?_ | refine r_intb ?_ | refine r_iteT ?_ | refine r_iteF ?_ | refine r_iteNF ?_ | refine r_iteNT ?_)
local macro_rules | `(tactic| walk_at "r") => `(tactic| repeat (first | walk_at "r1" | walk_at "r2" | (dsimp only; first | walk_at "r1" | walk_at "r2")))

local macro_rules | `(tactic| walk_at "side") => `(tactic| first | assumption | (show (0 : Int) < _; omega) | exact c_mulL ⟨by omega, by omega⟩ | exact c_mulR ⟨by omega, by omega⟩ | exact c_pow ⟨by omega, by omega⟩ ⟨by omega, by omega⟩ | exact c_divW (by omega) (by omega))
local macro_rules | `(tactic| walk_at "r2") => `(tactic| first
  | ((with_reducible refine' r_I ?c1 ?_); (case c1 => walk_at "side"))
  | ((with_reducible refine' r_eq ?c1 ?_); (case c1 => rfl))
  | ((with_reducible refine' r_ne ?c1 ?_); (case c1 => rfl))
  | ((with_reducible refine' r_ixL ?c1 ?c2 ?_); (case c1 => first | exact SqL.of (by assumption) | assumption); (case c2 => rfl))
  | ((with_reducible refine' r_lenL ?c1 ?_); (case c1 => first | exact SqL.of (by assumption) | assumption))
  | ((with_reducible refine' r_slL ?c1 ?_); (case c1 => first | assumption | exact SqL.of (by assumption))))

local macro_rules | `(tactic| tbr_iter ($p:ident, $hp:ident, $H:ident, $s:ident, $e:ident, $o:ident)) => `(tactic| (intro $p:ident $hp:ident; generalize e0 : upd _ $p _ = $H:ident; have ⟨$s, $e, $o⟩ := Nk.new_facts $hp e0; clear e0))
section
variable {w : World} {K : PySem.W.Frag} {mg : Str → Option Value} {base : Heap}
theorem fo_BadText (T : Tx K mg) : Fo PP w K mg base (He.ma K (He.ga K "BadText") "__init__") 1 ["self", "line", "word"] (spExc2 (He.ga K "BadText") "line" "word") := by
  refine T.d_BadText_init.ok sc_BadText_init (fun vs H Q E h => ?_) (fun _ _ _ _ _ _ _ us hl => match us, hl with | [_, _, _], _ => rfl) (sf := "self") rfl rfl (by decide +kernel) (by decide +kernel) T.n_super (by decide +kernel) (by decide +kernel) (by decide +kernel) rfl T.ci_BadText (fun cc cdv A outer s H vs Q E S hr h => ?_)
  · obtain ⟨a, v, u, rfl, _⟩ := h
    rfl
  · obtain ⟨a, v, u, rfl, ha, k⟩ := h
    refine ⟨_, pscs_cons (psc_superX S T.exc_BadText (pa_cons (pv 1) (pa_cons (pv 2) pa_nil))) (pscs_of (pss_cons (ps_ost (pv 0) (pv 1)) (pss_one (ps_ost (pv 0) (pv 2))))), ?_⟩
    refine ⟨a, rfl, ha, ?_⟩
    walk_at "r"
    refine ⟨by simp, ha, ?_⟩
    walk_at "r"
    refine ⟨v, rfl, .ref a, rfl, a, He.ga K "BadText", rfl, T.exc_BadText.T, T.nx_BadText_line, .inl ⟨ha, fun dx h1 h2 => ?_⟩⟩
    walk_at "r"
    exact ⟨u, rfl, .ref a, rfl, a, He.ga K "BadText", rfl, T.exc_BadText.T, T.nx_BadText_word, .inr ⟨dx, _, upd_same, by rw [upd_ne h2, upd_same], by simp, k dx h1 h2⟩⟩
end

end Nk

namespace Nk
open PySem PySem.Spec PyProof.Rows L2 Sh
def pic_Words_init : Sy := (sSeq (sIf (tNt (tVal (eIsi ["str"] [] (eVar 1))))
    (sRs "BadText" ["line", "word"] (aCons (eC (.int 0)) (aCons (eC (.int 0)) aNil)))
    sNil)
    (sSeq (sFdO "Words" "told" (eM1 dSplit (eVar 1) (eC (.str " "))))
    (sSeq (sFdO "Words" "line_index" (eVar 2))
    (sFdO "Words" "next_index" (eC (.int 0))))))
def sh_Words_init : Cell → List D → Store → R Cell := runI 3 0 pic_Words_init
section
variable {w : World} {K : PySem.W.Frag} {mg : Str → Option Value} {base : Heap}
theorem fs_Words_init_0 (T : Tx K mg) : Fs PP w K mg base (He.ma K (He.ga K "Words") "__init__") 3 (fun vs H Q E => (spIn K sh_Words_init) (vs ++ [V.int 0]) H Q E) := by
  have G_BadText_init : Fo PP w K mg base (He.ma K (He.ga K "BadText") "__init__") 1 _ _ := fo_BadText T
  refine fs_dfl (n := 2) (j := 0) T.d_Words_init (ps := ["self", "text", "line"]) (sp := (spIn K sh_Words_init)) (fun fd F => F.ok sc_Words_init (fun vs H Q E h => spIn_len h) (fun cdv A outer s H vs Q E hr h => ?_)) (by simp) rfl (fun Tp kV doc pm an cdv ct us its h1 h2 => match us, h1, its, h2 with | [_, _], _, [_], _ => ⟨_, rfl, rfl⟩)
  refine bodyI_of (f := pic_Words_init) (fun _ => trivial) rfl ?_ h
  exact (ss_cons (s_if (t_not (t_val (x_isi (bi := ["str"]) (own := []) rfl (by rfl) T.n_isinstance (x_var (i := 1) rfl (by first | exact .inl rfl | exact .inr (.inl rfl) | exact .inr (.inr rfl))) (pe_bltn (v := .ty "str") (u := .type "str") (by rfl) T.n_str (by decide +kernel) rfl) ⟨(io_b (by decide +kernel)), oo_nil⟩ (.ty _))))
    (ss_one (s_rs2 (c := "BadText") (g1 := "line") (g2 := "word") rfl rfl (takes_of rfl rfl rfl rfl) T.exc_BadText.T T.xi_BadText T.xt_BadText G_BadText_init hr (by decide) (by rfl) T.g_BadText (a_cons x_int (a_cons x_int a_nil))))
    ss_nil)
    (ss_cons (s_fdO (c := "Words") rfl rfl (.inl rfl) T.cl_Words T.na_Words_told (x_m1 PySem.F.slot_str_split PySem.F.type_str_split mts_split (x_var (i := 1) rfl (by first | exact .inl rfl | exact .inr (.inl rfl) | exact .inr (.inr rfl))) x_str))
    (ss_cons (s_fdO (c := "Words") rfl rfl (.inl rfl) T.cl_Words T.na_Words_line_index (x_var (i := 2) rfl (by first | exact .inl rfl | exact .inr (.inl rfl) | exact .inr (.inr rfl))))
    (ss_one (s_fdO (c := "Words") rfl rfl (.inl rfl) T.cl_Words T.na_Words_next_index x_int)))))
end
def pic_Words_refuse : Sy := (sRs "BadText" ["line", "word"] (aCons (eFd ["Words"] "line_index" (eVar 0)) (aCons (eIf (tVal (eBin dIs (eVar 1) (eC .non))) (eFd ["Words"] "next_index" (eVar 0)) (eVar 1)) aNil)))
def sh_Words_refuse : List D → Store → R D := runD 2 0 pic_Words_refuse
section
variable {w : World} {K : PySem.W.Frag} {mg : Str → Option Value} {base : Heap}
theorem fs_Words_refuse_0 (T : Tx K mg) : Fs PP w K mg base (He.ma K (He.ga K "Words") "refuse") 3 (fun vs H Q E => (spSh K sh_Words_refuse) (vs ++ [V.non]) H Q E) := by
  have G_BadText_init : Fo PP w K mg base (He.ma K (He.ga K "BadText") "__init__") 1 _ _ := fo_BadText T
  refine fs_dfl (n := 1) (j := 0) T.d_Words_refuse (ps := ["self", "index"]) (sp := (spSh K sh_Words_refuse)) (fun fd F => F.ok sc_Words_refuse (fun vs H Q E h => spSh_len h) (fun cdv A outer s H vs Q E hr h => ?_)) (by simp) rfl (fun Tp kV doc pm an cdv ct us its h1 h2 => match us, h1, its, h2 with | [_], _, [_], _ => ⟨_, rfl, rfl⟩)
  refine body_of (f := pic_Words_refuse) (fun _ => trivial) rfl ?_ h
  exact (ss_one (s_rs2 (c := "BadText") (g1 := "line") (g2 := "word") rfl rfl (takes_of rfl rfl rfl rfl) T.exc_BadText.T T.xi_BadText T.xt_BadText G_BadText_init hr (by decide) (by rfl) T.g_BadText (a_cons (x_fld (cs := ["Words"]) rfl (fk_cons T.cl_Words T.na_Words_line_index fk_nil) (x_var (i := 0) rfl (by first | exact .inl rfl | exact .inr (.inl rfl) | exact .inr (.inr rfl)))) (a_cons (x_if (t_cmp (ops_is rfl) (x_var (i := 1) rfl (by first | exact .inl rfl | exact .inr (.inl rfl) | exact .inr (.inr rfl))) x_non (nomark _)) (x_fld (cs := ["Words"]) rfl (fk_cons T.cl_Words T.na_Words_next_index fk_nil) (x_var (i := 0) rfl (by first | exact .inl rfl | exact .inr (.inl rfl) | exact .inr (.inr rfl)))) (x_var (i := 1) rfl (by first | exact .inl rfl | exact .inr (.inl rfl) | exact .inr (.inr rfl)))) a_nil))))
end
def pic_Words_is_over : Sy := (sRet (eBin dEq (eFd ["Words"] "next_index" (eVar 0)) (eCall dLen (aCons (eFd ["Words"] "told" (eVar 0)) aNil))))
def sh_Words_is_over : List D → Store → R D := runD 1 0 pic_Words_is_over
section
variable {w : World} {K : PySem.W.Frag} {mg : Str → Option Value} {base : Heap}
theorem fo_Words_is_over (T : Tx K mg) : Fo PP w K mg base (He.ma K (He.ga K "Words") "is_over") 1 ["self"] (spSh K sh_Words_is_over) := by
  exact fo_sh (f := pic_Words_is_over) T.d_Words_is_over sc_Words_is_over (fun _ _ _ _ _ _ us hl => match us, hl with | [_], _ => rfl) rfl rfl (fun _ => trivial) (fun cdv A outer s H E hr => (ss_one (s_ret (x_cmp (ops_eqP rfl (room64 hr)) (x_fld (cs := ["Words"]) rfl (fk_cons T.cl_Words T.na_Words_next_index fk_nil) (x_var (i := 0) rfl (by first | exact .inl rfl | exact .inr (.inl rfl) | exact .inr (.inr rfl)))) (x_callB (calls_len rfl) (by rfl) T.n_len (by decide +kernel) (a_cons (x_fld (cs := ["Words"]) rfl (fk_cons T.cl_Words T.na_Words_told fk_nil) (x_var (i := 0) rfl (by first | exact .inl rfl | exact .inr (.inl rfl) | exact .inr (.inr rfl)))) a_nil)) (nomark _)))))
end
def pic_Words_upcoming : Sy := (sRet (eIf (tVal (eMe "Words" "is_over" sh_Words_is_over (eVar 0) aNil)) (eC .non) (eIx (eFd ["Words"] "told" (eVar 0)) (eFd ["Words"] "next_index" (eVar 0)))))
def sh_Words_upcoming : List D → Store → R D := runD 1 0 pic_Words_upcoming
section
variable {w : World} {K : PySem.W.Frag} {mg : Str → Option Value} {base : Heap}
theorem fo_Words_upcoming (T : Tx K mg) : Fo PP w K mg base (He.ma K (He.ga K "Words") "upcoming") 2 ["self"] (spSh K sh_Words_upcoming) := by
  have G_Words_is_over : Fo PP w K mg base (He.ma K (He.ga K "Words") "is_over") 1 _ _ := fo_Words_is_over T
  exact fo_sh (f := pic_Words_upcoming) T.d_Words_upcoming sc_Words_upcoming (fun _ _ _ _ _ _ us hl => match us, hl with | [_], _ => rfl) rfl rfl (fun _ => trivial) (fun cdv A outer s H E hr => (ss_one (s_ret (x_if (t_val (x_me0 (c := "Words") rfl (x_var (i := 0) rfl (by first | exact .inl rfl | exact .inr (.inl rfl) | exact .inr (.inr rfl))) T.cl_Words T.mt_Words_is_over (fs_of G_Words_is_over) shp_sh hr (by decide) (takes_of rfl rfl rfl rfl))) x_non (x_ix rfl (x_fld (cs := ["Words"]) rfl (fk_cons T.cl_Words T.na_Words_told fk_nil) (x_var (i := 0) rfl (by first | exact .inl rfl | exact .inr (.inl rfl) | exact .inr (.inr rfl)))) (x_fld (cs := ["Words"]) rfl (fk_cons T.cl_Words T.na_Words_next_index fk_nil) (x_var (i := 0) rfl (by first | exact .inl rfl | exact .inr (.inl rfl) | exact .inr (.inr rfl)))) (fun _ _ => rfl))))))
end
def pic_Words_skip : Sy := (sSeq (sIf (tVal (eMe "Words" "is_over" sh_Words_is_over (eVar 0) aNil))
    (sDrop (eMe "Words" "refuse" (dflF [.non] sh_Words_refuse) (eVar 0) aNil))
    sNil)
    (sSeq (sFdA ["Words"] "next_index" (· + ·) (eVar 0) (eC (.int 1)))
    (sRet (eIx (eFd ["Words"] "told" (eVar 0)) (eBin dSub (eFd ["Words"] "next_index" (eVar 0)) (eC (.int 1)))))))
def sh_Words_skip : List D → Store → R D := runD 1 0 pic_Words_skip
section
variable {w : World} {K : PySem.W.Frag} {mg : Str → Option Value} {base : Heap}
theorem fo_Words_skip (T : Tx K mg) : Fo PP w K mg base (He.ma K (He.ga K "Words") "skip") 4 ["self"] (spSh K sh_Words_skip) := by
  have G_Words_is_over : Fo PP w K mg base (He.ma K (He.ga K "Words") "is_over") 1 _ _ := fo_Words_is_over T
  have G_Words_refuse_0 : Fs PP w K mg base (He.ma K (He.ga K "Words") "refuse") 3 _ := fs_Words_refuse_0 T
  exact fo_sh (f := pic_Words_skip) T.d_Words_skip sc_Words_skip (fun _ _ _ _ _ _ us hl => match us, hl with | [_], _ => rfl) rfl rfl (fun _ => trivial) (fun cdv A outer s H E hr => (ss_cons (s_if (t_val (x_me0 (c := "Words") rfl (x_var (i := 0) rfl (by first | exact .inl rfl | exact .inr (.inl rfl) | exact .inr (.inr rfl))) T.cl_Words T.mt_Words_is_over (fs_of G_Words_is_over) shp_sh hr (by decide) (takes_of rfl rfl rfl rfl)))
    (ss_one (s_expr (x_me0 (c := "Words") rfl (x_var (i := 0) rfl (by first | exact .inl rfl | exact .inr (.inl rfl) | exact .inr (.inr rfl))) T.cl_Words T.mt_Words_refuse G_Words_refuse_0 (shp_dfl (dv := [.non]) (vv := [V.non]) (fun _ => (reps_cons rep_non reps_nil)) shp_sh) hr (by decide) (takes_of rfl rfl rfl rfl))))
    ss_nil)
    (ss_cons (s_fdA (cs := ["Words"]) in_add rfl (fk_cons T.cl_Words T.na_Words_next_index fk_nil) (x_var (i := 0) rfl (by first | exact .inl rfl | exact .inr (.inl rfl) | exact .inr (.inr rfl))) x_int)
    (ss_one (s_ret (x_ix rfl (x_fld (cs := ["Words"]) rfl (fk_cons T.cl_Words T.na_Words_told fk_nil) (x_var (i := 0) rfl (by first | exact .inl rfl | exact .inr (.inl rfl) | exact .inr (.inr rfl)))) (x_op (ops_sub rfl) (x_fld (cs := ["Words"]) rfl (fk_cons T.cl_Words T.na_Words_next_index fk_nil) (x_var (i := 0) rfl (by first | exact .inl rfl | exact .inr (.inl rfl) | exact .inr (.inr rfl)))) x_int) (fun _ _ => rfl)))))))
end
def pic_Words_take_of : Sy := (sSeq (sIf (tOo (tVal (eBin dIs (eMe "Words" "upcoming" sh_Words_upcoming (eVar 0) aNil) (eC .non))) (tVal (eBin dNin (eMe "Words" "upcoming" sh_Words_upcoming (eVar 0) aNil) (eVar 1))))
    (sDrop (eMe "Words" "refuse" (dflF [.non] sh_Words_refuse) (eVar 0) aNil))
    sNil)
    (sRet (eMe "Words" "skip" sh_Words_skip (eVar 0) aNil)))
def sh_Words_take_of : List D → Store → R D := runD 2 0 pic_Words_take_of
section
variable {w : World} {K : PySem.W.Frag} {mg : Str → Option Value} {base : Heap}
theorem fo_Words_take_of (T : Tx K mg) : Fo PP w K mg base (He.ma K (He.ga K "Words") "take_of") 5 ["self", "some"] (spSh K sh_Words_take_of) := by
  have G_Words_skip : Fo PP w K mg base (He.ma K (He.ga K "Words") "skip") 4 _ _ := fo_Words_skip T
  have G_Words_upcoming : Fo PP w K mg base (He.ma K (He.ga K "Words") "upcoming") 2 _ _ := fo_Words_upcoming T
  have G_Words_refuse_0 : Fs PP w K mg base (He.ma K (He.ga K "Words") "refuse") 3 _ := fs_Words_refuse_0 T
  exact fo_sh (f := pic_Words_take_of) T.d_Words_take_of sc_Words_take_of (fun _ _ _ _ _ _ us hl => match us, hl with | [_, _], _ => rfl) rfl rfl (fun _ => trivial) (fun cdv A outer s H E hr => (ss_cons (s_if (w_pt (w_or (t_cmp (ops_is rfl) (x_me0 (c := "Words") rfl (x_var (i := 0) rfl (by first | exact .inl rfl | exact .inr (.inl rfl) | exact .inr (.inr rfl))) T.cl_Words T.mt_Words_upcoming (fs_of G_Words_upcoming) shp_sh hr (by decide) (takes_of rfl rfl rfl rfl)) x_non (nomark _)) (w_or1 (t_cmp (ops_nin rfl (room65 hr)) (x_me0 (c := "Words") rfl (x_var (i := 0) rfl (by first | exact .inl rfl | exact .inr (.inl rfl) | exact .inr (.inr rfl))) T.cl_Words T.mt_Words_upcoming (fs_of G_Words_upcoming) shp_sh hr (by decide) (takes_of rfl rfl rfl rfl)) (x_var (i := 1) rfl (by first | exact .inl rfl | exact .inr (.inl rfl) | exact .inr (.inr rfl))) rfl))))
    (ss_one (s_expr (x_me0 (c := "Words") rfl (x_var (i := 0) rfl (by first | exact .inl rfl | exact .inr (.inl rfl) | exact .inr (.inr rfl))) T.cl_Words T.mt_Words_refuse G_Words_refuse_0 (shp_dfl (dv := [.non]) (vv := [V.non]) (fun _ => (reps_cons rep_non reps_nil)) shp_sh) hr (by decide) (takes_of rfl rfl rfl rfl))))
    ss_nil)
    (ss_one (s_ret (x_me0 (c := "Words") rfl (x_var (i := 0) rfl (by first | exact .inl rfl | exact .inr (.inl rfl) | exact .inr (.inr rfl))) T.cl_Words T.mt_Words_skip (fs_of G_Words_skip) shp_sh hr (by decide) (takes_of rfl rfl rfl rfl))))))
end
def pic_Words_take_name : Sy := (sSeq (sIf (tNt (tVal (eDf sh_is_name (aCons (eMe "Words" "upcoming" sh_Words_upcoming (eVar 0) aNil) aNil))))
    (sDrop (eMe "Words" "refuse" (dflF [.non] sh_Words_refuse) (eVar 0) aNil))
    sNil)
    (sRet (eMe "Words" "skip" sh_Words_skip (eVar 0) aNil)))
def sh_Words_take_name : List D → Store → R D := runD 1 0 pic_Words_take_name
section
variable {w : World} {K : PySem.W.Frag} {mg : Str → Option Value} {base : Heap}
theorem fo_Words_take_name (T : Tx K mg) : Fo PP w K mg base (He.ma K (He.ga K "Words") "take_name") 5 ["self"] (spSh K sh_Words_take_name) := by
  have G_Words_skip : Fo PP w K mg base (He.ma K (He.ga K "Words") "skip") 4 _ _ := fo_Words_skip T
  have G_is_name : Df PP w K mg base "is_name" 1 _ _ := df_is_name T
  have G_Words_upcoming : Fo PP w K mg base (He.ma K (He.ga K "Words") "upcoming") 2 _ _ := fo_Words_upcoming T
  have G_Words_refuse_0 : Fs PP w K mg base (He.ma K (He.ga K "Words") "refuse") 3 _ := fs_Words_refuse_0 T
  exact fo_sh (f := pic_Words_take_name) T.d_Words_take_name sc_Words_take_name (fun _ _ _ _ _ _ us hl => match us, hl with | [_], _ => rfl) rfl rfl (fun _ => trivial) (fun cdv A outer s H E hr => (ss_cons (s_if (t_not (t_val (x_df G_is_name shp_sh hr (by decide) (by rfl) (takes_of rfl rfl rfl rfl) (a_cons (x_me0 (c := "Words") rfl (x_var (i := 0) rfl (by first | exact .inl rfl | exact .inr (.inl rfl) | exact .inr (.inr rfl))) T.cl_Words T.mt_Words_upcoming (fs_of G_Words_upcoming) shp_sh hr (by decide) (takes_of rfl rfl rfl rfl)) a_nil))))
    (ss_one (s_expr (x_me0 (c := "Words") rfl (x_var (i := 0) rfl (by first | exact .inl rfl | exact .inr (.inl rfl) | exact .inr (.inr rfl))) T.cl_Words T.mt_Words_refuse G_Words_refuse_0 (shp_dfl (dv := [.non]) (vv := [V.non]) (fun _ => (reps_cons rep_non reps_nil)) shp_sh) hr (by decide) (takes_of rfl rfl rfl rfl))))
    ss_nil)
    (ss_one (s_ret (x_me0 (c := "Words") rfl (x_var (i := 0) rfl (by first | exact .inl rfl | exact .inr (.inl rfl) | exact .inr (.inr rfl))) T.cl_Words T.mt_Words_skip (fs_of G_Words_skip) shp_sh hr (by decide) (takes_of rfl rfl rfl rfl))))))
end
def pic_Words_close : Sy := (sIf (tNt (tVal (eMe "Words" "is_over" sh_Words_is_over (eVar 0) aNil)))
    (sDrop (eMe "Words" "refuse" (dflF [.non] sh_Words_refuse) (eVar 0) aNil))
    sNil)
def sh_Words_close : List D → Store → R D := runD 1 0 pic_Words_close
section
variable {w : World} {K : PySem.W.Frag} {mg : Str → Option Value} {base : Heap}
theorem fo_Words_close (T : Tx K mg) : Fo PP w K mg base (He.ma K (He.ga K "Words") "close") 4 ["self"] (spSh K sh_Words_close) := by
  have G_Words_is_over : Fo PP w K mg base (He.ma K (He.ga K "Words") "is_over") 1 _ _ := fo_Words_is_over T
  have G_Words_refuse_0 : Fs PP w K mg base (He.ma K (He.ga K "Words") "refuse") 3 _ := fs_Words_refuse_0 T
  exact fo_sh (f := pic_Words_close) T.d_Words_close sc_Words_close (fun _ _ _ _ _ _ us hl => match us, hl with | [_], _ => rfl) rfl rfl (fun _ => trivial) (fun cdv A outer s H E hr => (ss_one (s_if (t_not (t_val (x_me0 (c := "Words") rfl (x_var (i := 0) rfl (by first | exact .inl rfl | exact .inr (.inl rfl) | exact .inr (.inr rfl))) T.cl_Words T.mt_Words_is_over (fs_of G_Words_is_over) shp_sh hr (by decide) (takes_of rfl rfl rfl rfl))))
    (ss_one (s_expr (x_me0 (c := "Words") rfl (x_var (i := 0) rfl (by first | exact .inl rfl | exact .inr (.inl rfl) | exact .inr (.inr rfl))) T.cl_Words T.mt_Words_refuse G_Words_refuse_0 (shp_dfl (dv := [.non]) (vv := [V.non]) (fun _ => (reps_cons rep_non reps_nil)) shp_sh) hr (by decide) (takes_of rfl rfl rfl rfl))))
    ss_nil)))
end

end Nk

namespace Nk
open PySem PySem.Spec PyProof.Rows L2 Sh
def pic_Come_init : Sy := (sSeq (sDrop (eDf sh_need_name (aCons (eVar 1) aNil)))
    (sFdO "Come" "kind" (eVar 1)))
def sh_Come_init : Cell → List D → Store → R Cell := runI 2 0 pic_Come_init
section
variable {w : World} {K : PySem.W.Frag} {mg : Str → Option Value} {base : Heap}
theorem fo_Come_init (T : Tx K mg) : Fo PP w K mg base (He.ma K (He.ga K "Come") "__init__") 4 ["self", "kind"] (spIn K sh_Come_init) := by
  have G_need_name : Df PP w K mg base "need_name" 3 _ _ := df_need_name T
  exact fo_in (f := pic_Come_init) T.d_Come_init sc_Come_init (fun _ _ _ _ _ _ us hl => match us, hl with | [_, _], _ => rfl) rfl rfl (fun _ => trivial) (fun cdv A outer s H E hr => (ss_cons (s_expr (x_df G_need_name shp_sh hr (by decide) (by rfl) (takes_of rfl rfl rfl rfl) (a_cons (x_var (i := 1) rfl (by first | exact .inl rfl | exact .inr (.inl rfl) | exact .inr (.inr rfl))) a_nil)))
    (ss_one (s_fdO (c := "Come") rfl rfl (.inl rfl) T.cl_Come T.na_Come_kind (x_var (i := 1) rfl (by first | exact .inl rfl | exact .inr (.inl rfl) | exact .inr (.inr rfl)))))))
end
def pic_Come_parts : Sy := (sRet (eTup (aCons (eC (.str "come")) (aCons (eFd ["Come"] "kind" (eVar 0)) aNil))))
def sh_Come_parts : List D → Store → R D := runD 1 0 pic_Come_parts
section
variable {w : World} {K : PySem.W.Frag} {mg : Str → Option Value} {base : Heap}
theorem fo_Come_parts (T : Tx K mg) : Fo PP w K mg base (getOf K (He.ga K "Come") "parts") 1 ["self"] (spSh K sh_Come_parts) := by
  exact fo_sh (f := pic_Come_parts) T.d_Come_parts sc_Come_parts (fun _ _ _ _ _ _ us hl => match us, hl with | [_], _ => rfl) rfl rfl (fun _ => trivial) (fun cdv A outer s H E hr => (ss_one (s_ret (x_tup (a_cons x_str (a_cons (x_fld (cs := ["Come"]) rfl (fk_cons T.cl_Come T.na_Come_kind fk_nil) (x_var (i := 0) rfl (by first | exact .inl rfl | exact .inr (.inl rfl) | exact .inr (.inr rfl)))) a_nil))))))
end
def pic_Come_eq : Sy := (sRet (eAd (eIsi [] [("Come", true), ("Go", false)] (eVar 1)) (eBin dEq (eFd ["Come"] "kind" (eVar 0)) (eFd ["Come"] "kind" (eVar 1)))))
def sh_Come_eq : List D → Store → R D := runD 2 0 pic_Come_eq
section
variable {w : World} {K : PySem.W.Frag} {mg : Str → Option Value} {base : Heap}
theorem fo_Come_eq (T : Tx K mg) : Fo PP w K mg base (He.ma K (He.ga K "Come") "__eq__") 1 ["self", "other"] (spSh K sh_Come_eq) := by
  exact fo_sh (f := pic_Come_eq) T.d_Come_eq sc_Come_eq (fun _ _ _ _ _ _ us hl => match us, hl with | [_, _], _ => rfl) rfl rfl (fun _ => trivial) (fun cdv A outer s H E hr => (ss_one (s_ret (x_and (x_isi (bi := []) (own := [("Come", true), ("Go", false)]) rfl (by rfl) T.n_isinstance (x_var (i := 1) rfl (by first | exact .inl rfl | exact .inr (.inl rfl) | exact .inr (.inr rfl))) (pe_glob (v := .ref _) (by rfl) T.g_Come rfl) ⟨(io_own T.kts_Come), (oo_cons T.cl_Come T.in_Come T.kt_Come_Come_t (oo_cons T.cl_Go T.in_Go T.kt_Go_Come_f oo_nil))⟩ (.own _)) (x_one (x_cmp (ops_eqP rfl (room64 hr)) (x_fld (cs := ["Come"]) rfl (fk_cons T.cl_Come T.na_Come_kind fk_nil) (x_var (i := 0) rfl (by first | exact .inl rfl | exact .inr (.inl rfl) | exact .inr (.inr rfl)))) (x_fld (cs := ["Come"]) rfl (fk_cons T.cl_Come T.na_Come_kind fk_nil) (x_var (i := 1) rfl (by first | exact .inl rfl | exact .inr (.inl rfl) | exact .inr (.inr rfl)))) (nomark _)))))))
end
def pic_Come_str : Sy := (sRet (eJs [(eC (.str "come ")), (eFmt (eFd ["Come"] "kind" (eVar 0)))] Str.empty))
def sh_Come_str : List D → Store → R D := runD 1 0 pic_Come_str
section
variable {w : World} {K : PySem.W.Frag} {mg : Str → Option Value} {base : Heap}
theorem fo_Come_str (T : Tx K mg) : Fo PP w K mg base (He.ma K (He.ga K "Come") "__str__") 1 ["self"] (spSh K sh_Come_str) := by
  exact fo_sh (f := pic_Come_str) T.d_Come_str sc_Come_str (fun _ _ _ _ _ _ us hl => match us, hl with | [_], _ => rfl) rfl rfl (fun _ => trivial) (fun cdv A outer s H E hr => (ss_one (s_ret (x_js (.cons x_str (.cons (x_fmt (x_fld (cs := ["Come"]) rfl (fk_cons T.cl_Come T.na_Come_kind fk_nil) (x_var (i := 0) rfl (by first | exact .inl rfl | exact .inr (.inl rfl) | exact .inr (.inr rfl))))) .nil))))))
end
def pic_Go_init : Sy := (sSeq (sDrop (eDf sh_need_name (aCons (eVar 1) aNil)))
    (sSeq (sDrop (eDf sh_need_name (aCons (eVar 2) aNil)))
    (sSeq (sFdO "Go" "kind" (eVar 1))
    (sFdO "Go" "bay" (eVar 2)))))
def sh_Go_init : Cell → List D → Store → R Cell := runI 3 0 pic_Go_init
section
variable {w : World} {K : PySem.W.Frag} {mg : Str → Option Value} {base : Heap}
theorem fo_Go_init (T : Tx K mg) : Fo PP w K mg base (He.ma K (He.ga K "Go") "__init__") 4 ["self", "kind", "bay"] (spIn K sh_Go_init) := by
  have G_need_name : Df PP w K mg base "need_name" 3 _ _ := df_need_name T
  exact fo_in (f := pic_Go_init) T.d_Go_init sc_Go_init (fun _ _ _ _ _ _ us hl => match us, hl with | [_, _, _], _ => rfl) rfl rfl (fun _ => trivial) (fun cdv A outer s H E hr => (ss_cons (s_expr (x_df G_need_name shp_sh hr (by decide) (by rfl) (takes_of rfl rfl rfl rfl) (a_cons (x_var (i := 1) rfl (by first | exact .inl rfl | exact .inr (.inl rfl) | exact .inr (.inr rfl))) a_nil)))
    (ss_cons (s_expr (x_df G_need_name shp_sh hr (by decide) (by rfl) (takes_of rfl rfl rfl rfl) (a_cons (x_var (i := 2) rfl (by first | exact .inl rfl | exact .inr (.inl rfl) | exact .inr (.inr rfl))) a_nil)))
    (ss_cons (s_fdO (c := "Go") rfl rfl (.inl rfl) T.cl_Go T.na_Go_kind (x_var (i := 1) rfl (by first | exact .inl rfl | exact .inr (.inl rfl) | exact .inr (.inr rfl))))
    (ss_one (s_fdO (c := "Go") rfl rfl (.inl rfl) T.cl_Go T.na_Go_bay (x_var (i := 2) rfl (by first | exact .inl rfl | exact .inr (.inl rfl) | exact .inr (.inr rfl)))))))))
end
def pic_Go_parts : Sy := (sRet (eTup (aCons (eC (.str "go")) (aCons (eFd ["Go"] "kind" (eVar 0)) (aCons (eFd ["Go"] "bay" (eVar 0)) aNil)))))
def sh_Go_parts : List D → Store → R D := runD 1 0 pic_Go_parts
section
variable {w : World} {K : PySem.W.Frag} {mg : Str → Option Value} {base : Heap}
theorem fo_Go_parts (T : Tx K mg) : Fo PP w K mg base (getOf K (He.ga K "Go") "parts") 1 ["self"] (spSh K sh_Go_parts) := by
  exact fo_sh (f := pic_Go_parts) T.d_Go_parts sc_Go_parts (fun _ _ _ _ _ _ us hl => match us, hl with | [_], _ => rfl) rfl rfl (fun _ => trivial) (fun cdv A outer s H E hr => (ss_one (s_ret (x_tup (a_cons x_str (a_cons (x_fld (cs := ["Go"]) rfl (fk_cons T.cl_Go T.na_Go_kind fk_nil) (x_var (i := 0) rfl (by first | exact .inl rfl | exact .inr (.inl rfl) | exact .inr (.inr rfl)))) (a_cons (x_fld (cs := ["Go"]) rfl (fk_cons T.cl_Go T.na_Go_bay fk_nil) (x_var (i := 0) rfl (by first | exact .inl rfl | exact .inr (.inl rfl) | exact .inr (.inr rfl)))) a_nil)))))))
end
def pic_Go_eq : Sy := (sRet (eAd (eIsi [] [("Come", false), ("Go", true)] (eVar 1)) (eAd (eBin dEq (eFd ["Go"] "kind" (eVar 0)) (eFd ["Go"] "kind" (eVar 1))) (eBin dEq (eFd ["Go"] "bay" (eVar 0)) (eFd ["Go"] "bay" (eVar 1))))))
def sh_Go_eq : List D → Store → R D := runD 2 0 pic_Go_eq
section
variable {w : World} {K : PySem.W.Frag} {mg : Str → Option Value} {base : Heap}
theorem fo_Go_eq (T : Tx K mg) : Fo PP w K mg base (He.ma K (He.ga K "Go") "__eq__") 1 ["self", "other"] (spSh K sh_Go_eq) := by
  exact fo_sh (f := pic_Go_eq) T.d_Go_eq sc_Go_eq (fun _ _ _ _ _ _ us hl => match us, hl with | [_, _], _ => rfl) rfl rfl (fun _ => trivial) (fun cdv A outer s H E hr => (ss_one (s_ret (x_and (x_isi (bi := []) (own := [("Come", false), ("Go", true)]) rfl (by rfl) T.n_isinstance (x_var (i := 1) rfl (by first | exact .inl rfl | exact .inr (.inl rfl) | exact .inr (.inr rfl))) (pe_glob (v := .ref _) (by rfl) T.g_Go rfl) ⟨(io_own T.kts_Go), (oo_cons T.cl_Come T.in_Come T.kt_Come_Go_f (oo_cons T.cl_Go T.in_Go T.kt_Go_Go_t oo_nil))⟩ (.own _)) (x_and (x_cmp (ops_eqP rfl (room64 hr)) (x_fld (cs := ["Go"]) rfl (fk_cons T.cl_Go T.na_Go_kind fk_nil) (x_var (i := 0) rfl (by first | exact .inl rfl | exact .inr (.inl rfl) | exact .inr (.inr rfl)))) (x_fld (cs := ["Go"]) rfl (fk_cons T.cl_Go T.na_Go_kind fk_nil) (x_var (i := 1) rfl (by first | exact .inl rfl | exact .inr (.inl rfl) | exact .inr (.inr rfl)))) (nomark _)) (x_one (x_cmp (ops_eqP rfl (room64 hr)) (x_fld (cs := ["Go"]) rfl (fk_cons T.cl_Go T.na_Go_bay fk_nil) (x_var (i := 0) rfl (by first | exact .inl rfl | exact .inr (.inl rfl) | exact .inr (.inr rfl)))) (x_fld (cs := ["Go"]) rfl (fk_cons T.cl_Go T.na_Go_bay fk_nil) (x_var (i := 1) rfl (by first | exact .inl rfl | exact .inr (.inl rfl) | exact .inr (.inr rfl)))) (nomark _))))))))
end
def pic_Go_str : Sy := (sRet (eJs [(eC (.str "go ")), (eFmt (eFd ["Go"] "kind" (eVar 0))), (eC (.str " ")), (eFmt (eFd ["Go"] "bay" (eVar 0)))] Str.empty))
def sh_Go_str : List D → Store → R D := runD 1 0 pic_Go_str
section
variable {w : World} {K : PySem.W.Frag} {mg : Str → Option Value} {base : Heap}
theorem fo_Go_str (T : Tx K mg) : Fo PP w K mg base (He.ma K (He.ga K "Go") "__str__") 1 ["self"] (spSh K sh_Go_str) := by
  exact fo_sh (f := pic_Go_str) T.d_Go_str sc_Go_str (fun _ _ _ _ _ _ us hl => match us, hl with | [_], _ => rfl) rfl rfl (fun _ => trivial) (fun cdv A outer s H E hr => (ss_one (s_ret (x_js (.cons x_str (.cons (x_fmt (x_fld (cs := ["Go"]) rfl (fk_cons T.cl_Go T.na_Go_kind fk_nil) (x_var (i := 0) rfl (by first | exact .inl rfl | exact .inr (.inl rfl) | exact .inr (.inr rfl))))) (.cons x_str (.cons (x_fmt (x_fld (cs := ["Go"]) rfl (fk_cons T.cl_Go T.na_Go_bay fk_nil) (x_var (i := 0) rfl (by first | exact .inl rfl | exact .inr (.inl rfl) | exact .inr (.inr rfl))))) .nil))))))))
end

end Nk

namespace Nk
open PySem PySem.Spec PyProof.Rows L2 Sh
def pic_deed_of : Sy := (sSeq (sIf (tOo (tNt (tVal (eIsi ["tuple"] [] (eVar 0)))) (tNt (tVal (eCall dAll (aCons (eNew (lComp [1] (iSq (eVar 0)) (gN 1) tYesD (eIsi ["str"] [] (eVar 1)))) aNil)))))
    (sRet (eC .non))
    sNil)
    (sSeq (sIf (tAd (tVal (eBin dEq (eCall dLen (aCons (eVar 0) aNil)) (eC (.int 2)))) (tAd (tVal (eBin dEq (eIx (eVar 0) (eC (.int 0))) (eC (.str "come")))) (tVal (eDf sh_is_name (aCons (eIx (eVar 0) (eC (.int 1))) aNil)))))
    (sRet (eMk "Come" sh_Come_init (eC (.cls "Come")) (aCons (eIx (eVar 0) (eC (.int 1))) aNil)))
    sNil)
    (sSeq (sIf (tAd (tVal (eBin dEq (eCall dLen (aCons (eVar 0) aNil)) (eC (.int 3)))) (tAd (tVal (eBin dEq (eIx (eVar 0) (eC (.int 0))) (eC (.str "go")))) (tVal (eDf sh_is_name_pair (aCons (eSl (eVar 0) (pSo (eC (.int 1))) pNo) aNil)))))
    (sRet (eMk "Go" sh_Go_init (eC (.cls "Go")) (aCons (eIx (eVar 0) (eC (.int 1))) (aCons (eIx (eVar 0) (eC (.int 2))) aNil))))
    sNil)
    (sRet (eC .non)))))
def sh_deed_of : List D → Store → R D := runD 1 1 pic_deed_of
section
variable {w : World} {K : PySem.W.Frag} {mg : Str → Option Value} {base : Heap}
theorem df_deed_of (T : Tx K mg) : Df PP w K mg base "deed_of" 6 ["parts"] (spSh K sh_deed_of) := by
  have G_is_name_pair : Df PP w K mg base "is_name_pair" 2 _ _ := df_is_name_pair T
  have G_Go_init : Fo PP w K mg base (He.ma K (He.ga K "Go") "__init__") 4 _ _ := fo_Go_init T
  have G_is_name : Df PP w K mg base "is_name" 1 _ _ := df_is_name T
  have G_Come_init : Fo PP w K mg base (He.ma K (He.ga K "Come") "__init__") 4 _ _ := fo_Come_init T
  obtain ⟨f, F, hm⟩ := T.d_deed_of
  exact df_sh (f := pic_deed_of) F hm sc_deed_of (fun _ _ _ _ _ _ us hl => match us, hl with | [_], _ => rfl) rfl rfl (fun _ => trivial) (fun cdv A outer s H E hr => (ss_cons (s_if (w_pt (w_or (t_not (t_val (x_isi (bi := ["tuple"]) (own := []) rfl (by rfl) T.n_isinstance (x_var (i := 0) rfl (by first | exact .inl rfl | exact .inr (.inl rfl) | exact .inr (.inr rfl))) (pe_bltn (v := .ty "tuple") (u := .type "tuple") (by rfl) T.n_tuple (by decide +kernel) rfl) ⟨(io_b (by decide +kernel)), oo_nil⟩ (.ty _)))) (w_or1 (t_not (t_val (x_callB (calls_all rfl rfl) (by rfl) T.n_all (by decide +kernel) (a_cons (x_new (f_comp (own := [("part", 1)]) rfl sc_deed_of.nd (i_seq rfl (x_var (i := 0) rfl (by first | exact .inl rfl | exact .inr (.inl rfl) | exact .inr (.inr rfl)))) (blkOk_by (N := ["parts", "part"]) (sc := defScope s_deed_of) (by decide +kernel)) (fun _ _ _ _ _ => (g_name (i := 1) sc_deed_of.nd rfl (by first | exact .inl rfl | exact .inr rfl))) (fun _ _ _ _ _ => ts_nil) (fun _ _ _ _ _ => (x_isi (bi := ["str"]) (own := []) rfl (by rfl) T.n_isinstance (x_var (i := 1) rfl (by first | exact .inl rfl | exact .inr (.inl rfl) | exact .inr (.inr rfl))) (pe_bltn (v := .ty "str") (u := .type "str") (by rfl) T.n_str (by decide +kernel) rfl) ⟨(io_b (by decide +kernel)), oo_nil⟩ (.ty _))))) a_nil)))))))
    (ss_one (s_ret x_non))
    ss_nil)
    (ss_cons (s_if (w_pt (w_and (t_cmp (ops_eqP rfl (room64 hr)) (x_callB (calls_len rfl) (by rfl) T.n_len (by decide +kernel) (a_cons (x_var (i := 0) rfl (by first | exact .inl rfl | exact .inr (.inl rfl) | exact .inr (.inr rfl))) a_nil)) (x_gc (by rfl) T.c_COME_PARTS (fun _ => rep_int)) (nomark _)) (w_and (t_cmp (ops_eqP rfl (room64 hr)) (x_ix rfl (x_var (i := 0) rfl (by first | exact .inl rfl | exact .inr (.inl rfl) | exact .inr (.inr rfl))) x_int (fun _ _ => rfl)) x_str (nomark _)) (w_and1 (t_val (x_df G_is_name shp_sh hr (by decide) (by rfl) (takes_of rfl rfl rfl rfl) (a_cons (x_ix rfl (x_var (i := 0) rfl (by first | exact .inl rfl | exact .inr (.inl rfl) | exact .inr (.inr rfl))) x_int (fun _ _ => rfl)) a_nil)))))))
    (ss_one (s_ret (x_mk (c := "Come") rfl (x_cls rfl (by rfl) T.g_Come) T.mk_Come (fs_of G_Come_init) shi_in hr (by decide) (takes_of rfl rfl rfl rfl) (a_cons (x_ix rfl (x_var (i := 0) rfl (by first | exact .inl rfl | exact .inr (.inl rfl) | exact .inr (.inr rfl))) x_int (fun _ _ => rfl)) a_nil))))
    ss_nil)
    (ss_cons (s_if (w_pt (w_and (t_cmp (ops_eqP rfl (room64 hr)) (x_callB (calls_len rfl) (by rfl) T.n_len (by decide +kernel) (a_cons (x_var (i := 0) rfl (by first | exact .inl rfl | exact .inr (.inl rfl) | exact .inr (.inr rfl))) a_nil)) (x_gc (by rfl) T.c_GO_PARTS (fun _ => rep_int)) (nomark _)) (w_and (t_cmp (ops_eqP rfl (room64 hr)) (x_ix rfl (x_var (i := 0) rfl (by first | exact .inl rfl | exact .inr (.inl rfl) | exact .inr (.inr rfl))) x_int (fun _ _ => rfl)) x_str (nomark _)) (w_and1 (t_val (x_df G_is_name_pair shp_sh hr (by decide) (by rfl) (takes_of rfl rfl rfl rfl) (a_cons (x_sl rfl (x_var (i := 0) rfl (by first | exact .inl rfl | exact .inr (.inl rfl) | exact .inr (.inr rfl))) (p_so x_int) p_no) a_nil)))))))
    (ss_one (s_ret (x_mk (c := "Go") rfl (x_cls rfl (by rfl) T.g_Go) T.mk_Go (fs_of G_Go_init) shi_in hr (by decide) (takes_of rfl rfl rfl rfl) (a_cons (x_ix rfl (x_var (i := 0) rfl (by first | exact .inl rfl | exact .inr (.inl rfl) | exact .inr (.inr rfl))) x_int (fun _ _ => rfl)) (a_cons (x_ix rfl (x_var (i := 0) rfl (by first | exact .inl rfl | exact .inr (.inl rfl) | exact .inr (.inr rfl))) x_int (fun _ _ => rfl)) a_nil)))))
    ss_nil)
    (ss_one (s_ret x_non))))))
end
def pic_take_deed : Sy := (sSeq (sIf (tVal (eBin dEq (eMe "Words" "take_of" sh_Words_take_of (eVar 0) (aCons (eTup (aCons (eC (.str "come")) (aCons (eC (.str "go")) aNil))) aNil)) (eC (.str "come"))))
    (sRet (eMk "Come" sh_Come_init (eC (.cls "Come")) (aCons (eMe "Words" "take_name" sh_Words_take_name (eVar 0) aNil) aNil)))
    sNil)
    (sSeq (sSet 1 (eMe "Words" "take_name" sh_Words_take_name (eVar 0) aNil))
    (sRet (eMk "Go" sh_Go_init (eC (.cls "Go")) (aCons (eVar 1) (aCons (eMe "Words" "take_name" sh_Words_take_name (eVar 0) aNil) aNil))))))
def sh_take_deed : List D → Store → R D := runD 1 1 pic_take_deed
section
variable {w : World} {K : PySem.W.Frag} {mg : Str → Option Value} {base : Heap}
theorem df_take_deed (T : Tx K mg) : Df PP w K mg base "take_deed" 6 ["words"] (spSh K sh_take_deed) := by
  have G_Go_init : Fo PP w K mg base (He.ma K (He.ga K "Go") "__init__") 4 _ _ := fo_Go_init T
  have G_Words_take_name : Fo PP w K mg base (He.ma K (He.ga K "Words") "take_name") 5 _ _ := fo_Words_take_name T
  have G_Words_take_of : Fo PP w K mg base (He.ma K (He.ga K "Words") "take_of") 5 _ _ := fo_Words_take_of T
  have G_Come_init : Fo PP w K mg base (He.ma K (He.ga K "Come") "__init__") 4 _ _ := fo_Come_init T
  obtain ⟨f, F, hm⟩ := T.d_take_deed
  exact df_sh (f := pic_take_deed) F hm sc_take_deed (fun _ _ _ _ _ _ us hl => match us, hl with | [_], _ => rfl) rfl rfl (fun _ => trivial) (fun cdv A outer s H E hr => (ss_cons (s_if (t_cmp (ops_eqP rfl (room64 hr)) (x_me (c := "Words") rfl (x_var (i := 0) rfl (by first | exact .inl rfl | exact .inr (.inl rfl) | exact .inr (.inr rfl))) T.cl_Words T.mt_Words_take_of (fs_of G_Words_take_of) shp_sh hr (by decide) (takes_of rfl rfl rfl rfl) (a_cons (x_tup (a_cons x_str (a_cons x_str a_nil))) a_nil)) x_str (nomark _))
    (ss_one (s_ret (x_mk (c := "Come") rfl (x_cls rfl (by rfl) T.g_Come) T.mk_Come (fs_of G_Come_init) shi_in hr (by decide) (takes_of rfl rfl rfl rfl) (a_cons (x_me0 (c := "Words") rfl (x_var (i := 0) rfl (by first | exact .inl rfl | exact .inr (.inl rfl) | exact .inr (.inr rfl))) T.cl_Words T.mt_Words_take_name (fs_of G_Words_take_name) shp_sh hr (by decide) (takes_of rfl rfl rfl rfl)) a_nil))))
    ss_nil)
    (ss_cons (s_set (i := 1) sc_take_deed.nd rfl (by first | exact .inl rfl | exact .inr rfl) (x_me0 (c := "Words") rfl (x_var (i := 0) rfl (by first | exact .inl rfl | exact .inr (.inl rfl) | exact .inr (.inr rfl))) T.cl_Words T.mt_Words_take_name (fs_of G_Words_take_name) shp_sh hr (by decide) (takes_of rfl rfl rfl rfl)))
    (ss_one (s_ret (x_mk (c := "Go") rfl (x_cls rfl (by rfl) T.g_Go) T.mk_Go (fs_of G_Go_init) shi_in hr (by decide) (takes_of rfl rfl rfl rfl) (a_cons (x_var (i := 1) rfl (by first | exact .inl rfl | exact .inr (.inl rfl) | exact .inr (.inr rfl))) (a_cons (x_me0 (c := "Words") rfl (x_var (i := 0) rfl (by first | exact .inl rfl | exact .inr (.inl rfl) | exact .inr (.inr rfl))) T.cl_Words T.mt_Words_take_name (fs_of G_Words_take_name) shp_sh hr (by decide) (takes_of rfl rfl rfl rfl)) a_nil))))))))
end

end Nk

namespace Nk
open PySem PySem.Spec PyProof.Rows L2
local macro_rules | `(tactic| walk_at "r1") => `(tactic| with_reducible first
  | refine r_var rfl ?_ | refine r_c ?_ | refine r_seq ?_ | refine r_asgN ?_ | refine r_op ?_ | refine r_cb ?_ | refine r_cons ?_ | refine r_nil ?_
  | refine r_ret ?_ | refine r_ifS ?_ | refine r_I0 ?_ | refine r_test ?_ | refine r_B ?_ | refine r_k ?_ | refine r_not ?_ | refine r_and ?_ | refine r_or ?_
  | refine r_andV ?_ | refine r_orV ?_ | refine r_notV ?_ | refine r_if ?_ | refine r_chain ?_ | refine r_df ?_ | refine r_lst ?_ | refine r_tup ?_ | refine r_asg ?_ | refine r_gsub ?_ | refine r_drop ?_ | refine r_retN ?_ | refine r_next ?_ | refine r_bm ?_ | refine r_un ?_
  | refine r_gN ?_ | refine r_yes ?_ | refine r_lc ?_ | refine r_for ?_ | refine r_iStr ?_ | refine r_iList ?_ | refine r_iTup ?_ | refine r_iRng1 ?_ | refine r_xstr ?_ | refine r_xref ?_ | refine r_xint ?_ | refine r_xints ?_
  | refine r_m1 ?_ | refine r_isS ?_ | refine r_sl ?_ | refine r_nop ?_ | refine r_part ?_ | refine r_int1 ?_ | refine r_intb ?_ | refine r_iteT ?_ | refine r_iteF ?_ | refine r_iteNF ?_ | refine r_iteNT ?_)
local macro_rules | `(tactic| walk_at "r") => `(tactic| repeat (first | walk_at "r1" | walk_at "r2" | (dsimp only; first | walk_at "r1" | walk_at "r2")))

local macro_rules | `(tactic| walk_at "side") => `(tactic| first | assumption | (show (0 : Int) < _; omega) | exact c_mulL ⟨by omega, by omega⟩ | exact c_mulR ⟨by omega, by omega⟩ | exact c_pow ⟨by omega, by omega⟩ ⟨by omega, by omega⟩ | exact c_divW (by omega) (by omega))
local macro_rules | `(tactic| walk_at "r2") => `(tactic| first
  | ((with_reducible refine' r_I ?c1 ?_); (case c1 => walk_at "side"))
  | ((with_reducible refine' r_eq ?c1 ?_); (case c1 => rfl))
  | ((with_reducible refine' r_ne ?c1 ?_); (case c1 => rfl))
  | ((with_reducible refine' r_ixL ?c1 ?c2 ?_); (case c1 => first | exact SqL.of (by assumption) | assumption); (case c2 => rfl))
  | ((with_reducible refine' r_lenL ?c1 ?_); (case c1 => first | exact SqL.of (by assumption) | assumption))
  | ((with_reducible refine' r_slL ?c1 ?_); (case c1 => first | assumption | exact SqL.of (by assumption))))

local macro_rules | `(tactic| tbr_iter ($p:ident, $hp:ident, $H:ident, $s:ident, $e:ident, $o:ident)) => `(tactic| (intro $p:ident $hp:ident; generalize e0 : upd _ $p _ = $H:ident; have ⟨$s, $e, $o⟩ := Nk.new_facts $hp e0; clear e0))
section
variable {w : World} {K : PySem.W.Frag} {mg : Str → Option Value} {base : Heap}
theorem fo_BadDeed (T : Tx K mg) : Fo PP w K mg base (He.ma K (He.ga K "BadDeed") "__init__") 1 ["self", "at"] (spExc1 (He.ga K "BadDeed") "at") := by
  refine T.d_BadDeed_init.ok sc_BadDeed_init (fun vs H Q E h => ?_) (fun _ _ _ _ _ _ _ us hl => match us, hl with | [_, _], _ => rfl) (sf := "self") rfl rfl (by decide +kernel) (by decide +kernel) T.n_super (by decide +kernel) (by decide +kernel) (by decide +kernel) rfl T.ci_BadDeed (fun cc cdv A outer s H vs Q E S hr h => ?_)
  · obtain ⟨a, v, rfl, _⟩ := h
    rfl
  · obtain ⟨a, v, rfl, ha, k⟩ := h
    refine ⟨_, pscs_cons (psc_superX S T.exc_BadDeed (pa_cons (pv 1) pa_nil)) (pscs_of (pss_one (ps_ost (pv 0) (pv 1)))), ?_⟩
    refine ⟨a, rfl, ha, ?_⟩
    walk_at "r"
    refine ⟨by simp, ha, ?_⟩
    walk_at "r"
    exact ⟨v, rfl, .ref a, rfl, a, He.ga K "BadDeed", rfl, T.exc_BadDeed.T, T.nx_BadDeed_at, .inl ⟨ha, fun dx h1 h2 => k dx h1 h2⟩⟩
end

end Nk

namespace Nk
open PySem PySem.Spec PyProof.Rows L2
local macro_rules | `(tactic| walk_at "r1") => `(tactic| with_reducible first
  | refine r_var rfl ?_ | refine r_c ?_ | refine r_seq ?_ | refine r_asgN ?_ | refine r_op ?_ | refine r_cb ?_ | refine r_cons ?_ | refine r_nil ?_
  | refine r_ret ?_ | refine r_ifS ?_ | refine r_I0 ?_ | refine r_test ?_ | refine r_B ?_ | refine r_k ?_ | refine r_not ?_ | refine r_and ?_ | refine r_or ?_
  | refine r_andV ?_ | refine r_orV ?_ | refine r_notV ?_ | refine r_if ?_ | refine r_chain ?_ | refine r_df ?_ | refine r_lst ?_ | refine r_tup ?_ | refine r_asg ?_ | refine r_gsub ?_ | refine r_drop ?_ | refine r_retN ?_ | refine r_next ?_ | refine r_bm ?_ | refine r_un ?_
  | refine r_gN ?_ | refine r_yes ?_ | refine r_lc ?_ | refine r_for ?_ | refine r_iStr ?_ | refine r_iList ?_ | refine r_iTup ?_ | refine r_iRng1 ?_ | refine r_xstr ?_ | refine r_xref ?_ | refine r_xint ?_ | refine r_xints ?_
  | refine r_m1 ?_ | refine r_isS ?_ | refine r_sl ?_ | refine r_nop ?_ | refine r_part ?_ | refine r_int1 ?_ | refine r_intb ?_ | refine r_iteT ?_ | refine r_iteF ?_ | refine r_iteNF ?_ | refine r_iteNT ?_)
local macro_rules | `(tactic| walk_at "r") => `(tactic| repeat (first | walk_at "r1" | walk_at "r2" | (dsimp only; first | walk_at "r1" | walk_at "r2")))

local macro_rules | `(tactic| walk_at "side") => `(tactic| first | assumption | (show (0 : Int) < _; omega) | exact c_mulL ⟨by omega, by omega⟩ | exact c_mulR ⟨by omega, by omega⟩ | exact c_pow ⟨by omega, by omega⟩ ⟨by omega, by omega⟩ | exact c_divW (by omega) (by omega))
local macro_rules | `(tactic| walk_at "r2") => `(tactic| first
  | ((with_reducible refine' r_I ?c1 ?_); (case c1 => walk_at "side"))
  | ((with_reducible refine' r_eq ?c1 ?_); (case c1 => rfl))
  | ((with_reducible refine' r_ne ?c1 ?_); (case c1 => rfl))
  | ((with_reducible refine' r_ixL ?c1 ?c2 ?_); (case c1 => first | exact SqL.of (by assumption) | assumption); (case c2 => rfl))
  | ((with_reducible refine' r_lenL ?c1 ?_); (case c1 => first | exact SqL.of (by assumption) | assumption))
  | ((with_reducible refine' r_slL ?c1 ?_); (case c1 => first | assumption | exact SqL.of (by assumption))))

local macro_rules | `(tactic| tbr_iter ($p:ident, $hp:ident, $H:ident, $s:ident, $e:ident, $o:ident)) => `(tactic| (intro $p:ident $hp:ident; generalize e0 : upd _ $p _ = $H:ident; have ⟨$s, $e, $o⟩ := Nk.new_facts $hp e0; clear e0))
section
variable {w : World} {K : PySem.W.Frag} {mg : Str → Option Value} {base : Heap}
theorem fo_BadTable (T : Tx K mg) : Fo PP w K mg base (He.ma K (He.ga K "BadTable") "__init__") 1 ["self", "value"] (spExc1 (He.ga K "BadTable") "value") := by
  refine T.d_BadTable_init.ok sc_BadTable_init (fun vs H Q E h => ?_) (fun _ _ _ _ _ _ _ us hl => match us, hl with | [_, _], _ => rfl) (sf := "self") rfl rfl (by decide +kernel) (by decide +kernel) T.n_super (by decide +kernel) (by decide +kernel) (by decide +kernel) rfl T.ci_BadTable (fun cc cdv A outer s H vs Q E S hr h => ?_)
  · obtain ⟨a, v, rfl, _⟩ := h
    rfl
  · obtain ⟨a, v, rfl, ha, k⟩ := h
    refine ⟨_, pscs_cons (psc_superX S T.exc_BadTable (pa_cons (pv 1) pa_nil)) (pscs_of (pss_one (ps_ost (pv 0) (pv 1)))), ?_⟩
    refine ⟨a, rfl, ha, ?_⟩
    walk_at "r"
    refine ⟨by simp, ha, ?_⟩
    walk_at "r"
    exact ⟨v, rfl, .ref a, rfl, a, He.ga K "BadTable", rfl, T.exc_BadTable.T, T.nx_BadTable_value, .inl ⟨ha, fun dx h1 h2 => k dx h1 h2⟩⟩
end

end Nk

namespace Nk
open PySem PySem.Spec PyProof.Rows L2
local macro_rules | `(tactic| walk_at "r1") => `(tactic| with_reducible first
  | refine r_var rfl ?_ | refine r_c ?_ | refine r_seq ?_ | refine r_asgN ?_ | refine r_op ?_ | refine r_cb ?_ | refine r_cons ?_ | refine r_nil ?_
  | refine r_ret ?_ | refine r_ifS ?_ | refine r_I0 ?_ | refine r_test ?_ | refine r_B ?_ | refine r_k ?_ | refine r_not ?_ | refine r_and ?_ | refine r_or ?_
  | refine r_andV ?_ | refine r_orV ?_ | refine r_notV ?_ | refine r_if ?_ | refine r_chain ?_ | refine r_df ?_ | refine r_lst ?_ | refine r_tup ?_ | refine r_asg ?_ | refine r_gsub ?_ | refine r_drop ?_ | refine r_retN ?_ | refine r_next ?_ | refine r_bm ?_ | refine r_un ?_
  | refine r_gN ?_ | refine r_yes ?_ | refine r_lc ?_ | refine r_for ?_ | refine r_iStr ?_ | refine r_iList ?_ | refine r_iTup ?_ | refine r_iRng1 ?_ | refine r_xstr ?_ | refine r_xref ?_ | refine r_xint ?_ | refine r_xints ?_
  | refine r_m1 ?_ | refine r_isS ?_ | refine r_sl ?_ | refine r_nop ?_ | refine r_part ?_ | refine r_int1 ?_ | refine r_intb ?_ | refine r_iteT ?_ | refine r_iteF ?_ | refine r_iteNF ?_ | refine r_iteNT ?_)
local macro_rules | `(tactic| walk_at "r") => `(tactic| repeat (first | walk_at "r1" | walk_at "r2" | (dsimp only; first | walk_at "r1" | walk_at "r2")))

local macro_rules | `(tactic| walk_at "side") => `(tactic| first | assumption | (show (0 : Int) < _; omega) | exact c_mulL ⟨by omega, by omega⟩ | exact c_mulR ⟨by omega, by omega⟩ | exact c_pow ⟨by omega, by omega⟩ ⟨by omega, by omega⟩ | exact c_divW (by omega) (by omega))
local macro_rules | `(tactic| walk_at "r2") => `(tactic| first
  | ((with_reducible refine' r_I ?c1 ?_); (case c1 => walk_at "side"))
  | ((with_reducible refine' r_eq ?c1 ?_); (case c1 => rfl))
  | ((with_reducible refine' r_ne ?c1 ?_); (case c1 => rfl))
  | ((with_reducible refine' r_ixL ?c1 ?c2 ?_); (case c1 => first | exact SqL.of (by assumption) | assumption); (case c2 => rfl))
  | ((with_reducible refine' r_lenL ?c1 ?_); (case c1 => first | exact SqL.of (by assumption) | assumption))
  | ((with_reducible refine' r_slL ?c1 ?_); (case c1 => first | assumption | exact SqL.of (by assumption))))

local macro_rules | `(tactic| tbr_iter ($p:ident, $hp:ident, $H:ident, $s:ident, $e:ident, $o:ident)) => `(tactic| (intro $p:ident $hp:ident; generalize e0 : upd _ $p _ = $H:ident; have ⟨$s, $e, $o⟩ := Nk.new_facts $hp e0; clear e0))
section
variable {w : World} {K : PySem.W.Frag} {mg : Str → Option Value} {base : Heap}
theorem fo_TooMany (T : Tx K mg) : Fo PP w K mg base (He.ma K (He.ga K "TooMany") "__init__") 1 ["self", "what", "most"] (spExc2 (He.ga K "TooMany") "what" "most") := by
  refine T.d_TooMany_init.ok sc_TooMany_init (fun vs H Q E h => ?_) (fun _ _ _ _ _ _ _ us hl => match us, hl with | [_, _, _], _ => rfl) (sf := "self") rfl rfl (by decide +kernel) (by decide +kernel) T.n_super (by decide +kernel) (by decide +kernel) (by decide +kernel) rfl T.ci_TooMany (fun cc cdv A outer s H vs Q E S hr h => ?_)
  · obtain ⟨a, v, u, rfl, _⟩ := h
    rfl
  · obtain ⟨a, v, u, rfl, ha, k⟩ := h
    refine ⟨_, pscs_cons (psc_superX S T.exc_TooMany (pa_cons (pv 1) (pa_cons (pv 2) pa_nil))) (pscs_of (pss_cons (ps_ost (pv 0) (pv 1)) (pss_one (ps_ost (pv 0) (pv 2))))), ?_⟩
    refine ⟨a, rfl, ha, ?_⟩
    walk_at "r"
    refine ⟨by simp, ha, ?_⟩
    walk_at "r"
    refine ⟨v, rfl, .ref a, rfl, a, He.ga K "TooMany", rfl, T.exc_TooMany.T, T.nx_TooMany_what, .inl ⟨ha, fun dx h1 h2 => ?_⟩⟩
    walk_at "r"
    exact ⟨u, rfl, .ref a, rfl, a, He.ga K "TooMany", rfl, T.exc_TooMany.T, T.nx_TooMany_most, .inr ⟨dx, _, upd_same, by rw [upd_ne h2, upd_same], by simp, k dx h1 h2⟩⟩
end

end Nk

namespace Nk
open PySem PySem.Spec PyProof.Rows L2 Sh
def pic_Row_init : Sy := (sSeq (sFor (iEnu (aCons (eVar 1) aNil)) (gT (gsCons (gN 2) (gsCons (gN 3) gsNil)))
    (sIf (tNt (tVal (eIsi [] [("Come", true), ("Go", true), ("Row", false)] (eVar 3))))
    (sRs "BadDeed" ["at"] (aCons (eVar 2) aNil))
    sNil))
    (sSeq (sIf (tVal (eBin dGt (eCall dLen (aCons (eVar 1) aNil)) (eC (.int 2000))))
    (sRs "TooMany" ["what", "most"] (aCons (eC (.str "deeds")) (aCons (eC (.int 2000)) aNil)))
    sNil)
    (sFdO "Row" "deeds" (eVar 1))))
def sh_Row_init : Cell → List D → Store → R Cell := runI 2 2 pic_Row_init
section
variable {w : World} {K : PySem.W.Frag} {mg : Str → Option Value} {base : Heap}
theorem fs_Row_init (T : Tx K mg) : Fs PP w K mg base (He.ma K (He.ga K "Row") "__init__") 3 (starSp 1 (spIn K sh_Row_init)) := by
  have G_TooMany_init : Fo PP w K mg base (He.ma K (He.ga K "TooMany") "__init__") 1 _ _ := fo_TooMany T
  have G_BadDeed_init : Fo PP w K mg base (He.ma K (He.ga K "BadDeed") "__init__") 1 _ _ := fo_BadDeed T
  refine fs_star (ps := ["self"]) (pv := "deeds") T.d_Row_init sc_Row_init (fun _ _ _ _ _ _ => StX.bind_star1 (B := fun us => bindArgs _ ⟨us, []⟩) (fun _ => rfl) (fun _ _ _ => rfl)) (fun cdv A outer s H vs Q E hr h => ?_)
  refine bodyI_of (f := pic_Row_init) (fun _ => trivial) rfl ?_ h
  exact (ss_cons (s_for (us := [2, 3]) (passes_of rfl) rfl (i_enum rfl (by rfl) T.n_enumerate (a_cons (x_var (i := 1) rfl (by first | exact .inl rfl | exact .inr (.inl rfl) | exact .inr (.inr rfl))) a_nil)) (g_tup rfl rfl (gs_cons (g_name (i := 2) sc_Row_init.nd rfl (by first | exact .inl rfl | exact .inr rfl)) (gs_cons (g_name (i := 3) sc_Row_init.nd rfl (by first | exact .inl rfl | exact .inr rfl)) gs_nil)) (gl_cons (gl_cons gl_nil)))
    (ss_one (s_if (t_not (t_val (x_isi (bi := []) (own := [("Come", true), ("Go", true), ("Row", false)]) rfl (by rfl) T.n_isinstance (x_var (i := 3) rfl (by first | exact .inl rfl | exact .inr (.inl rfl) | exact .inr (.inr rfl))) (pe_glob (v := .ref _) (by rfl) T.g_Deed rfl) ⟨(io_own T.kts_Deed), (oo_cons T.cl_Come T.in_Come T.kt_Come_Deed_t (oo_cons T.cl_Go T.in_Go T.kt_Go_Deed_t (oo_cons T.cl_Row T.in_Row T.kt_Row_Deed_f oo_nil)))⟩ (.own _))))
    (ss_one (s_rs1 (c := "BadDeed") (g1 := "at") rfl rfl (takes_of rfl rfl rfl rfl) T.exc_BadDeed.T T.xi_BadDeed T.xt_BadDeed G_BadDeed_init hr (by decide) (by rfl) T.g_BadDeed (a_cons (x_var (i := 2) rfl (by first | exact .inl rfl | exact .inr (.inl rfl) | exact .inr (.inr rfl))) a_nil)))
    ss_nil)))
    (ss_cons (s_if (t_cmp (ops_gt rfl) (x_callB (calls_len rfl) (by rfl) T.n_len (by decide +kernel) (a_cons (x_var (i := 1) rfl (by first | exact .inl rfl | exact .inr (.inl rfl) | exact .inr (.inr rfl))) a_nil)) (x_gc (by rfl) T.c_MOST_DEEDS (fun _ => rep_int)) (nomark _))
    (ss_one (s_rs2 (c := "TooMany") (g1 := "what") (g2 := "most") rfl rfl (takes_of rfl rfl rfl rfl) T.exc_TooMany.T T.xi_TooMany T.xt_TooMany G_TooMany_init hr (by decide) (by rfl) T.g_TooMany (a_cons x_str (a_cons (x_gc (by rfl) T.c_MOST_DEEDS (fun _ => rep_int)) a_nil))))
    ss_nil)
    (ss_one (s_fdO (c := "Row") rfl rfl (.inl rfl) T.cl_Row T.na_Row_deeds (x_var (i := 1) rfl (by first | exact .inl rfl | exact .inr (.inl rfl) | exact .inr (.inr rfl)))))))
end
def pic_Row_of : Sy := (sRet (eMk "Row" (starI 0 sh_Row_init) (eVar 0) (aStar (eVar 1) aNil)))
def sh_Row_of : List D → Store → R D := runD 2 0 pic_Row_of
section
variable {w : World} {K : PySem.W.Frag} {mg : Str → Option Value} {base : Heap}
theorem fo_Row_of (T : Tx K mg) : Fo PP w K mg base (cmOf K (He.ga K "Row") "of") 5 ["cls", "deeds"] (spSh K sh_Row_of) := by
  have G_Row_init : Fs PP w K mg base (He.ma K (He.ga K "Row") "__init__") 3 _ := fs_Row_init T
  exact fo_sh (f := pic_Row_of) T.d_Row_of sc_Row_of (fun _ _ _ _ _ _ us hl => match us, hl with | [_, _], _ => rfl) rfl rfl (fun _ => trivial) (fun cdv A outer s H E hr => (ss_one (s_ret (x_mkS (c := "Row") rfl (x_var (i := 0) rfl (by first | exact .inl rfl | exact .inr (.inl rfl) | exact .inr (.inr rfl))) T.mk_Row G_Row_init (shi_star 0 shi_in) hr (by decide) (takes_of rfl rfl rfl rfl) (x_var (i := 1) rfl (by first | exact .inl rfl | exact .inr (.inl rfl) | exact .inr (.inr rfl)))))))
end
def pic_Row_read : Sy := (sSeq (sSet 2 (eMkC "Words" (dflI [.int 0] sh_Words_init) (eC (.cls "Words")) (aCons (eVar 1) aNil)))
    (sSeq (sIf (tVal (eBin dEq (eMe "Words" "upcoming" sh_Words_upcoming (eVar 2) aNil) (eC (.str "none"))))
    (sSeq (sDrop (eMe "Words" "skip" sh_Words_skip (eVar 2) aNil))
    (sSeq (sDrop (eMe "Words" "close" sh_Words_close (eVar 2) aNil))
    (sRet (eMk "Row" (starI 0 sh_Row_init) (eVar 0) aNil))))
    sNil)
    (sSeq (sOwn 3 (lDisp (aCons (eDf sh_take_deed (aCons (eVar 2) aNil)) aNil)))
    (sSeq (sWhile FUEL (tNt (tVal (eMe "Words" "is_over" sh_Words_is_over (eVar 2) aNil)))
    (sSeq (sDrop (eMe "Words" "take_of" sh_Words_take_of (eVar 2) (aCons (eTup (aCons (eC (.str ";")) aNil)) aNil)))
    (sApp 3 (eDf sh_take_deed (aCons (eVar 2) aNil)))))
    (sFrz 3 (sRet (eMk "Row" (starI 0 sh_Row_init) (eVar 0) (aStar (eVar 3) aNil))))))))
def sh_Row_read : List D → Store → R D := runD 2 2 pic_Row_read
section
variable {w : World} {K : PySem.W.Frag} {mg : Str → Option Value} {base : Heap}
theorem fo_Row_read (T : Tx K mg) : Fo PP w K mg base (cmOf K (He.ga K "Row") "read") 7 ["cls", "text"] (spSh K sh_Row_read) := by
  have G_Row_init : Fs PP w K mg base (He.ma K (He.ga K "Row") "__init__") 3 _ := fs_Row_init T
  have G_Words_is_over : Fo PP w K mg base (He.ma K (He.ga K "Words") "is_over") 1 _ _ := fo_Words_is_over T
  have G_take_deed : Df PP w K mg base "take_deed" 6 _ _ := df_take_deed T
  have G_Words_take_of : Fo PP w K mg base (He.ma K (He.ga K "Words") "take_of") 5 _ _ := fo_Words_take_of T
  have G_Words_upcoming : Fo PP w K mg base (He.ma K (He.ga K "Words") "upcoming") 2 _ _ := fo_Words_upcoming T
  have G_Words_close : Fo PP w K mg base (He.ma K (He.ga K "Words") "close") 4 _ _ := fo_Words_close T
  have G_Words_skip : Fo PP w K mg base (He.ma K (He.ga K "Words") "skip") 4 _ _ := fo_Words_skip T
  have G_Words_init_0 : Fs PP w K mg base (He.ma K (He.ga K "Words") "__init__") 3 _ := fs_Words_init_0 T
  exact fo_sh (f := pic_Row_read) T.d_Row_read sc_Row_read (fun _ _ _ _ _ _ us hl => match us, hl with | [_, _], _ => rfl) rfl rfl (fun _ => trivial) (fun cdv A outer s H E hr => (ss_cons (s_set (i := 2) sc_Row_read.nd rfl (by first | exact .inl rfl | exact .inr rfl) (x_mkC (c := "Words") rfl (x_cls rfl (by rfl) T.g_Words) T.mk_Words G_Words_init_0 (shi_dfl (dv := [.int 0]) (vv := [V.int 0]) (fun _ => (reps_cons rep_int reps_nil)) shi_in) hr (by decide) (takes_of rfl rfl rfl rfl) (a_cons (x_var (i := 1) rfl (by first | exact .inl rfl | exact .inr (.inl rfl) | exact .inr (.inr rfl))) a_nil)))
    (ss_cons (s_if (t_cmp (ops_eqP rfl (room64 hr)) (x_me0 (c := "Words") rfl (x_var (i := 2) rfl (by first | exact .inl rfl | exact .inr (.inl rfl) | exact .inr (.inr rfl))) T.cl_Words T.mt_Words_upcoming (fs_of G_Words_upcoming) shp_sh hr (by decide) (takes_of rfl rfl rfl rfl)) x_str (nomark _))
    (ss_cons (s_expr (x_me0 (c := "Words") rfl (x_var (i := 2) rfl (by first | exact .inl rfl | exact .inr (.inl rfl) | exact .inr (.inr rfl))) T.cl_Words T.mt_Words_skip (fs_of G_Words_skip) shp_sh hr (by decide) (takes_of rfl rfl rfl rfl)))
    (ss_cons (s_expr (x_me0 (c := "Words") rfl (x_var (i := 2) rfl (by first | exact .inl rfl | exact .inr (.inl rfl) | exact .inr (.inr rfl))) T.cl_Words T.mt_Words_close (fs_of G_Words_close) shp_sh hr (by decide) (takes_of rfl rfl rfl rfl)))
    (ss_one (s_ret (x_mk0 (c := "Row") rfl (x_var (i := 0) rfl (by first | exact .inl rfl | exact .inr (.inl rfl) | exact .inr (.inr rfl))) T.mk_Row G_Row_init (shi_star 0 shi_in) hr (by decide) (takes_of rfl rfl rfl rfl))))))
    ss_nil)
    (ss_cons (s_own (i := 3) sc_Row_read.nd rfl (by first | exact .inl rfl | exact .inr rfl) (f_disp (a_cons (x_df G_take_deed shp_sh hr (by decide) (by rfl) (takes_of rfl rfl rfl rfl) (a_cons (x_var (i := 2) rfl (by first | exact .inl rfl | exact .inr (.inl rfl) | exact .inr (.inr rfl))) a_nil)) a_nil)))
    (ss_cons (s_while FUEL (passes_of rfl) (t_not (t_val (x_me0 (c := "Words") rfl (x_var (i := 2) rfl (by first | exact .inl rfl | exact .inr (.inl rfl) | exact .inr (.inr rfl))) T.cl_Words T.mt_Words_is_over (fs_of G_Words_is_over) shp_sh hr (by decide) (takes_of rfl rfl rfl rfl))))
    (ss_cons (s_expr (x_me (c := "Words") rfl (x_var (i := 2) rfl (by first | exact .inl rfl | exact .inr (.inl rfl) | exact .inr (.inr rfl))) T.cl_Words T.mt_Words_take_of (fs_of G_Words_take_of) shp_sh hr (by decide) (takes_of rfl rfl rfl rfl) (a_cons (x_tup (a_cons x_str a_nil)) a_nil)))
    (ss_one (s_app (i := 3) rfl (by first | exact .inl rfl | exact .inr (.inl rfl) | exact .inr (.inr rfl)) (x_df G_take_deed shp_sh hr (by decide) (by rfl) (takes_of rfl rfl rfl rfl) (a_cons (x_var (i := 2) rfl (by first | exact .inl rfl | exact .inr (.inl rfl) | exact .inr (.inr rfl))) a_nil))))))
    (ss_one (s_frz (i := 3) (s_ret (x_mkS (c := "Row") rfl (x_var (i := 0) rfl (by first | exact .inl rfl | exact .inr (.inl rfl) | exact .inr (.inr rfl))) T.mk_Row G_Row_init (shi_star 0 shi_in) hr (by decide) (takes_of rfl rfl rfl rfl) (x_var (i := 3) rfl (by first | exact .inl rfl | exact .inr (.inl rfl) | exact .inr (.inr rfl))))))))))))
end
def pic_Row_from_parts : Sy := (sSeq (sIf (tOo (tNt (tVal (eIsi ["tuple"] [] (eVar 1)))) (tVal (eBin dGt (eCall dLen (aCons (eVar 1) aNil)) (eC (.int 2000)))))
    (sRs "BadTable" ["value"] (aCons (eVar 1) aNil))
    sNil)
    (sSeq (sSet 2 (eNew (lComp [3] (iSq (eVar 1)) (gN 3) tYesD (eDf sh_deed_of (aCons (eVar 3) aNil)))))
    (sSeq (sIf (tVal (eCall dAny (aCons (eNew (lComp [4] (iSq (eVar 2)) (gN 4) tYesD (eBin dIs (eVar 4) (eC .non)))) aNil)))
    (sRs "BadTable" ["value"] (aCons (eVar 1) aNil))
    sNil)
    (sRet (eMk "Row" (starI 0 sh_Row_init) (eVar 0) (aStar (eVar 2) aNil))))))
def sh_Row_from_parts : List D → Store → R D := runD 2 3 pic_Row_from_parts
section
variable {w : World} {K : PySem.W.Frag} {mg : Str → Option Value} {base : Heap}
theorem fo_Row_from_parts (T : Tx K mg) : Fo PP w K mg base (cmOf K (He.ga K "Row") "from_parts") 7 ["cls", "parts"] (spSh K sh_Row_from_parts) := by
  have G_Row_init : Fs PP w K mg base (He.ma K (He.ga K "Row") "__init__") 3 _ := fs_Row_init T
  have G_BadTable_init : Fo PP w K mg base (He.ma K (He.ga K "BadTable") "__init__") 1 _ _ := fo_BadTable T
  have G_deed_of : Df PP w K mg base "deed_of" 6 _ _ := df_deed_of T
  exact fo_sh (f := pic_Row_from_parts) T.d_Row_from_parts sc_Row_from_parts (fun _ _ _ _ _ _ us hl => match us, hl with | [_, _], _ => rfl) rfl rfl (fun _ => trivial) (fun cdv A outer s H E hr => (ss_cons (s_if (w_pt (w_or (t_not (t_val (x_isi (bi := ["tuple"]) (own := []) rfl (by rfl) T.n_isinstance (x_var (i := 1) rfl (by first | exact .inl rfl | exact .inr (.inl rfl) | exact .inr (.inr rfl))) (pe_bltn (v := .ty "tuple") (u := .type "tuple") (by rfl) T.n_tuple (by decide +kernel) rfl) ⟨(io_b (by decide +kernel)), oo_nil⟩ (.ty _)))) (w_or1 (t_cmp (ops_gt rfl) (x_callB (calls_len rfl) (by rfl) T.n_len (by decide +kernel) (a_cons (x_var (i := 1) rfl (by first | exact .inl rfl | exact .inr (.inl rfl) | exact .inr (.inr rfl))) a_nil)) (x_gc (by rfl) T.c_MOST_DEEDS (fun _ => rep_int)) (nomark _)))))
    (ss_one (s_rs1 (c := "BadTable") (g1 := "value") rfl rfl (takes_of rfl rfl rfl rfl) T.exc_BadTable.T T.xi_BadTable T.xt_BadTable G_BadTable_init hr (by decide) (by rfl) T.g_BadTable (a_cons (x_var (i := 1) rfl (by first | exact .inl rfl | exact .inr (.inl rfl) | exact .inr (.inr rfl))) a_nil)))
    ss_nil)
    (ss_cons (s_setLc (i := 2) (own := [("part", 3)]) rfl sc_Row_from_parts.nd rfl rfl (by rfl) (i_seq rfl (x_var (i := 1) rfl (by first | exact .inl rfl | exact .inr (.inl rfl) | exact .inr (.inr rfl)))) (blkOk_by (N := ["cls", "parts", "found", "part", "deed"]) (sc := defScope s_Row_from_parts) (by decide +kernel)) (fun _ _ _ _ _ => (g_name (i := 3) sc_Row_from_parts.nd rfl (by first | exact .inl rfl | exact .inr rfl))) (fun _ _ _ _ _ => ts_nil) (fun _ _ _ _ _ => (x_df G_deed_of shp_sh hr (by decide) (by rfl) L2.takes0 (a_cons (x_var (i := 3) rfl (by first | exact .inl rfl | exact .inr (.inl rfl) | exact .inr (.inr rfl))) a_nil))))
    (ss_cons (s_if (t_val (x_callB (calls_any rfl rfl) (by rfl) T.n_any (by decide +kernel) (a_cons (x_new (f_comp (own := [("deed", 4)]) rfl sc_Row_from_parts.nd (i_seq rfl (x_var (i := 2) rfl (by first | exact .inl rfl | exact .inr (.inl rfl) | exact .inr (.inr rfl)))) (blkOk_by (N := ["cls", "parts", "found", "part", "deed"]) (sc := defScope s_Row_from_parts) (by decide +kernel)) (fun _ _ _ _ _ => (g_name (i := 4) sc_Row_from_parts.nd rfl (by first | exact .inl rfl | exact .inr rfl))) (fun _ _ _ _ _ => ts_nil) (fun _ _ _ _ _ => (x_cmp (ops_is rfl) (x_var (i := 4) rfl (by first | exact .inl rfl | exact .inr (.inl rfl) | exact .inr (.inr rfl))) x_non (nomark _))))) a_nil)))
    (ss_one (s_rs1 (c := "BadTable") (g1 := "value") rfl rfl (takes_of rfl rfl rfl rfl) T.exc_BadTable.T T.xi_BadTable T.xt_BadTable G_BadTable_init hr (by decide) (by rfl) T.g_BadTable (a_cons (x_var (i := 1) rfl (by first | exact .inl rfl | exact .inr (.inl rfl) | exact .inr (.inr rfl))) a_nil)))
    ss_nil)
    (ss_one (s_ret (x_mkS (c := "Row") rfl (x_var (i := 0) rfl (by first | exact .inl rfl | exact .inr (.inl rfl) | exact .inr (.inr rfl))) T.mk_Row G_Row_init (shi_star 0 shi_in) hr (by decide) (takes_of rfl rfl rfl rfl) (x_var (i := 2) rfl (by first | exact .inl rfl | exact .inr (.inl rfl) | exact .inr (.inr rfl))))))))))
end
def pic_Row_parts : Sy := (sRet (eCall dTuple (aCons (eNew (lComp [1] (iSq (eFd ["Row"] "deeds" (eVar 0))) (gN 1) tYesD (eAlt (ePr "Come" sh_Come_parts (eVar 1)) (ePr "Go" sh_Go_parts (eVar 1))))) aNil)))
def sh_Row_parts : List D → Store → R D := runD 1 1 pic_Row_parts
section
variable {w : World} {K : PySem.W.Frag} {mg : Str → Option Value} {base : Heap}
theorem fo_Row_parts (T : Tx K mg) : Fo PP w K mg base (getOf K (He.ga K "Row") "parts") 3 ["self"] (spSh K sh_Row_parts) := by
  have G_Go_parts : Fo PP w K mg base (getOf K (He.ga K "Go") "parts") 1 _ _ := fo_Go_parts T
  have G_Come_parts : Fo PP w K mg base (getOf K (He.ga K "Come") "parts") 1 _ _ := fo_Come_parts T
  exact fo_sh (f := pic_Row_parts) T.d_Row_parts sc_Row_parts (fun _ _ _ _ _ _ us hl => match us, hl with | [_], _ => rfl) rfl rfl (fun _ => trivial) (fun cdv A outer s H E hr => (ss_one (s_ret (x_callT (calls_tuple rfl) (by rfl) T.n_tuple (by decide +kernel) (a_cons (x_new (f_comp (own := [("deed", 1)]) rfl sc_Row_parts.nd (i_seq rfl (x_fld (cs := ["Row"]) rfl (fk_cons T.cl_Row T.na_Row_deeds fk_nil) (x_var (i := 0) rfl (by first | exact .inl rfl | exact .inr (.inl rfl) | exact .inr (.inr rfl))))) (blkOk_by (N := ["self", "deed"]) (sc := defScope s_Row_parts) (by decide +kernel)) (fun _ _ _ _ _ => (g_name (i := 1) sc_Row_parts.nd rfl (by first | exact .inl rfl | exact .inr rfl))) (fun _ _ _ _ _ => ts_nil) (fun _ _ _ _ _ => (x_alt (x_pr (c := "Come") rfl (x_var (i := 1) rfl (by first | exact .inl rfl | exact .inr (.inl rfl) | exact .inr (.inr rfl))) T.cl_Come T.pr_Come_parts G_Come_parts shp_sh hr (by decide)) (x_pr (c := "Go") rfl (x_var (i := 1) rfl (by first | exact .inl rfl | exact .inr (.inl rfl) | exact .inr (.inr rfl))) T.cl_Go T.pr_Go_parts G_Go_parts shp_sh hr (by decide)))))) a_nil)))))
end
def pic_Row_len : Sy := (sRet (eCall dLen (aCons (eFd ["Row"] "deeds" (eVar 0)) aNil)))
def sh_Row_len : List D → Store → R D := runD 1 0 pic_Row_len
section
variable {w : World} {K : PySem.W.Frag} {mg : Str → Option Value} {base : Heap}
theorem fo_Row_len (T : Tx K mg) : Fo PP w K mg base (He.ma K (He.ga K "Row") "__len__") 1 ["self"] (spSh K sh_Row_len) := by
  exact fo_sh (f := pic_Row_len) T.d_Row_len sc_Row_len (fun _ _ _ _ _ _ us hl => match us, hl with | [_], _ => rfl) rfl rfl (fun _ => trivial) (fun cdv A outer s H E hr => (ss_one (s_ret (x_callB (calls_len rfl) (by rfl) T.n_len (by decide +kernel) (a_cons (x_fld (cs := ["Row"]) rfl (fk_cons T.cl_Row T.na_Row_deeds fk_nil) (x_var (i := 0) rfl (by first | exact .inl rfl | exact .inr (.inl rfl) | exact .inr (.inr rfl)))) a_nil)))))
end
def pic_Row_add : Sy := (sSeq (sSet 2 (eIf (tVal (eIsi [] [("Come", true), ("Go", true), ("Row", false)] (eVar 1))) (eTup (aCons (eVar 1) aNil)) (eFd ["Row"] "deeds" (eVar 1))))
    (sRet (eMk "Row" (starI 0 sh_Row_init) (eC (.cls "Row")) (aStar (eFd ["Row"] "deeds" (eVar 0)) (aStar (eVar 2) aNil)))))
def sh_Row_add : List D → Store → R D := runD 2 1 pic_Row_add
section
variable {w : World} {K : PySem.W.Frag} {mg : Str → Option Value} {base : Heap}
theorem fo_Row_add (T : Tx K mg) : Fo PP w K mg base (He.ma K (He.ga K "Row") "__add__") 5 ["self", "other"] (spSh K sh_Row_add) := by
  have G_Row_init : Fs PP w K mg base (He.ma K (He.ga K "Row") "__init__") 3 _ := fs_Row_init T
  exact fo_sh (f := pic_Row_add) T.d_Row_add sc_Row_add (fun _ _ _ _ _ _ us hl => match us, hl with | [_, _], _ => rfl) rfl rfl (fun _ => trivial) (fun cdv A outer s H E hr => (ss_cons (s_set (i := 2) sc_Row_add.nd rfl (by first | exact .inl rfl | exact .inr rfl) (x_if (t_val (x_isi (bi := []) (own := [("Come", true), ("Go", true), ("Row", false)]) rfl (by rfl) T.n_isinstance (x_var (i := 1) rfl (by first | exact .inl rfl | exact .inr (.inl rfl) | exact .inr (.inr rfl))) (pe_glob (v := .ref _) (by rfl) T.g_Deed rfl) ⟨(io_own T.kts_Deed), (oo_cons T.cl_Come T.in_Come T.kt_Come_Deed_t (oo_cons T.cl_Go T.in_Go T.kt_Go_Deed_t (oo_cons T.cl_Row T.in_Row T.kt_Row_Deed_f oo_nil)))⟩ (.own _))) (x_tup (a_cons (x_var (i := 1) rfl (by first | exact .inl rfl | exact .inr (.inl rfl) | exact .inr (.inr rfl))) a_nil)) (x_fld (cs := ["Row"]) rfl (fk_cons T.cl_Row T.na_Row_deeds fk_nil) (x_var (i := 1) rfl (by first | exact .inl rfl | exact .inr (.inl rfl) | exact .inr (.inr rfl))))))
    (ss_one (s_ret (x_mkS2 (c := "Row") rfl (x_cls rfl (by rfl) T.g_Row) T.mk_Row G_Row_init (shi_star 0 shi_in) hr (by decide) (takes_of rfl rfl rfl rfl) (a_star rfl (x_fld (cs := ["Row"]) rfl (fk_cons T.cl_Row T.na_Row_deeds fk_nil) (x_var (i := 0) rfl (by first | exact .inl rfl | exact .inr (.inl rfl) | exact .inr (.inr rfl)))) (a_star rfl (x_var (i := 2) rfl (by first | exact .inl rfl | exact .inr (.inl rfl) | exact .inr (.inr rfl))) a_nil)))))))
end
def pic_Row_eq : Sy := (sRet (eAd (eIsi [] [("Come", false), ("Go", false), ("Row", true)] (eVar 1)) (eBinE (oTupO [("Come", sh_Come_eq), ("Go", sh_Go_eq)]) (eFd ["Row"] "deeds" (eVar 0)) (eFd ["Row"] "deeds" (eVar 1)))))
def sh_Row_eq : List D → Store → R D := runD 2 0 pic_Row_eq
section
variable {w : World} {K : PySem.W.Frag} {mg : Str → Option Value} {base : Heap}
theorem fo_Row_eq (T : Tx K mg) : Fo PP w K mg base (He.ma K (He.ga K "Row") "__eq__") 3 ["self", "other"] (spSh K sh_Row_eq) := by
  have G_Go_eq : Fo PP w K mg base (He.ma K (He.ga K "Go") "__eq__") 1 _ _ := fo_Go_eq T
  have G_Come_eq : Fo PP w K mg base (He.ma K (He.ga K "Come") "__eq__") 1 _ _ := fo_Come_eq T
  exact fo_sh (f := pic_Row_eq) T.d_Row_eq sc_Row_eq (fun _ _ _ _ _ _ us hl => match us, hl with | [_, _], _ => rfl) rfl rfl (fun _ => trivial) (fun cdv A outer s H E hr => (ss_one (s_ret (x_and (x_isi (bi := []) (own := [("Come", false), ("Go", false), ("Row", true)]) rfl (by rfl) T.n_isinstance (x_var (i := 1) rfl (by first | exact .inl rfl | exact .inr (.inl rfl) | exact .inr (.inr rfl))) (pe_glob (v := .ref _) (by rfl) T.g_Row rfl) ⟨(io_own T.kts_Row), (oo_cons T.cl_Come T.in_Come T.kt_Come_Row_f (oo_cons T.cl_Go T.in_Go T.kt_Go_Row_f (oo_cons T.cl_Row T.in_Row T.kt_Row_Row_t oo_nil)))⟩ (.own _)) (x_one (x_cmpE (oe_tup (n := 1) rfl (eq_cons T.eq_Come G_Come_eq shp_sh (by decide) (eq_cons T.eq_Go G_Go_eq shp_sh (by decide) eq_nil)) (hr.mono (by decide))) (x_fld (cs := ["Row"]) rfl (fk_cons T.cl_Row T.na_Row_deeds fk_nil) (x_var (i := 0) rfl (by first | exact .inl rfl | exact .inr (.inl rfl) | exact .inr (.inr rfl)))) (x_fld (cs := ["Row"]) rfl (fk_cons T.cl_Row T.na_Row_deeds fk_nil) (x_var (i := 1) rfl (by first | exact .inl rfl | exact .inr (.inl rfl) | exact .inr (.inr rfl)))) (nomark _)))))))
end
def pic_Row_str : Sy := (sSeq (sIf (tVal (eBin dEq (eCall dLen (aCons (eFd ["Row"] "deeds" (eVar 0)) aNil)) (eC (.int 0))))
    (sRet (eC (.str "none")))
    sNil)
    (sRet (eM1 dJoin (eC (.str " ; ")) (eNew (lComp [1] (iSq (eFd ["Row"] "deeds" (eVar 0))) (gN 1) tYesD (eCallE (cOr (cStr "Come" sh_Come_str) (cStr "Go" sh_Go_str)) (aCons (eVar 1) aNil)))))))
def sh_Row_str : List D → Store → R D := runD 1 1 pic_Row_str
section
variable {w : World} {K : PySem.W.Frag} {mg : Str → Option Value} {base : Heap}
theorem fo_Row_str (T : Tx K mg) : Fo PP w K mg base (He.ma K (He.ga K "Row") "__str__") 4 ["self"] (spSh K sh_Row_str) := by
  have G_Come_str : Fo PP w K mg base (He.ma K (He.ga K "Come") "__str__") 1 _ _ := fo_Come_str T
  have G_Go_str : Fo PP w K mg base (He.ma K (He.ga K "Go") "__str__") 1 _ _ := fo_Go_str T
  exact fo_sh (f := pic_Row_str) T.d_Row_str sc_Row_str (fun _ _ _ _ _ _ us hl => match us, hl with | [_], _ => rfl) rfl rfl (fun _ => trivial) (fun cdv A outer s H E hr => (ss_cons (s_if (t_cmp (ops_eqP rfl (room64 hr)) (x_callB (calls_len rfl) (by rfl) T.n_len (by decide +kernel) (a_cons (x_fld (cs := ["Row"]) rfl (fk_cons T.cl_Row T.na_Row_deeds fk_nil) (x_var (i := 0) rfl (by first | exact .inl rfl | exact .inr (.inl rfl) | exact .inr (.inr rfl)))) a_nil)) x_int (nomark _))
    (ss_one (s_ret x_str))
    ss_nil)
    (ss_one (s_ret (x_m1 PySem.F.slot_str_join PySem.F.type_str_join (mts_join rfl) x_str (x_new (f_comp (own := [("deed", 1)]) rfl sc_Row_str.nd (i_seq rfl (x_fld (cs := ["Row"]) rfl (fk_cons T.cl_Row T.na_Row_deeds fk_nil) (x_var (i := 0) rfl (by first | exact .inl rfl | exact .inr (.inl rfl) | exact .inr (.inr rfl))))) (blkOk_by (N := ["self", "deed"]) (sc := defScope s_Row_str) (by decide +kernel)) (fun _ _ _ _ _ => (g_name (i := 1) sc_Row_str.nd rfl (by first | exact .inl rfl | exact .inr rfl))) (fun _ _ _ _ _ => ts_nil) (fun _ _ _ _ _ => (x_callTE (CallE.or (ce_str (c := "Come") rfl T.own_Come_str.at_ T.own_Come_str.fn G_Come_str shp_sh hr (by decide)) (ce_str (c := "Go") rfl T.own_Go_str.at_ T.own_Go_str.fn G_Go_str shp_sh hr (by decide))) (by rfl) T.n_str (by decide +kernel) (a_cons (x_var (i := 1) rfl (by first | exact .inl rfl | exact .inr (.inl rfl) | exact .inr (.inr rfl))) a_nil))))))))))
end

end Nk

namespace Nk
open PySem PySem.Spec PyProof.Rows L2 Sh
def pic__law_pen : Sy := (sRet (eLstC (aCons (eCall dList (aCons (eSl (eVar 0) pNo (pSo (eC (.int 63)))) aNil)) (aCons (eC (.int 0)) (aCons (eC (.int 0)) aNil)))))
def sh__law_pen : List D → Store → R D := runD 1 0 pic__law_pen
section
variable {w : World} {K : PySem.W.Frag} {mg : Str → Option Value} {base : Heap}
theorem df__law_pen (T : Tx K mg) : Df PP w K mg base "_law_pen" 1 ["_law_script"] (spSh K sh__law_pen) := by
  obtain ⟨f, F, hm⟩ := T.d__law_pen
  exact df_sh (f := pic__law_pen) F hm sc__law_pen (fun _ _ _ _ _ _ us hl => match us, hl with | [_], _ => rfl) rfl rfl (fun _ => trivial) (fun cdv A outer s H E hr => (ss_one (s_ret (x_lstC (a_cons (x_callT (calls_list rfl) (by rfl) T.n_list (by decide +kernel) (a_cons (x_sl rfl (x_var (i := 0) rfl (by first | exact .inl rfl | exact .inr (.inl rfl) | exact .inr (.inr rfl))) p_no (p_so x_int)) a_nil)) (a_cons x_int (a_cons x_int a_nil)))))))
end
def pic__law_draw_mix : Sy := (sSeq (sSet 6 (eBin dMod (eCall dInt (aCons (eBin dPow (eBin dAdd (eBin dAdd (eBin dMod (eCall dInt (aCons (eVar 4) aNil)) (eC (.int 2147483549))) (eBin dMul (eC (.int 60963)) (eVar 3))) (eC (.int 2657))) (eC (.int 5))) aNil)) (eC (.int 2147483629))))
    (sSeq (sSet 6 (eBin dMod (eCall dInt (aCons (eBin dPow (eBin dAdd (eBin dAdd (eBin dMul (eVar 6) (eBin dAdd (eBin dMul (eC (.int 2)) (eVar 3)) (eC (.int 567)))) (eBin dMul (eBin dMul (eC (.int 67709)) (eVar 3)) (eVar 3))) (eC (.int 60963))) (eC (.int 3))) aNil)) (eC (.int 2147483587))))
    (sRet (eBin dMod (eCall dInt (aCons (eBin dFdiv (eVar 6) (eC (.int 32))) aNil)) (eVar 1)))))
def pic__law_draw_tail : Sy := (sSeq (sIf (tAd (tVal (eBin dLt (eVar 3) (eCall dLen (aCons (eIx (eVar 0) (eC (.int 0))) aNil)))) (tVal (eBin dGe (eCall dAbs (aCons (eVar 4) aNil)) (eBin dPow (eC (.int 10)) (eC (.int 18))))))
    (sSeq (sSet 5 (eBin dAdd (eBin dMul (eC (.int 2)) (eBin dSub (eCall dAbs (aCons (eVar 4) aNil)) (eBin dPow (eC (.int 10)) (eC (.int 18))))) (eCall dInt (aCons (eBin dLt (eVar 4) (eC (.int 0))) aNil))))
    (sSeq (sIxC (eVar 0) (eC (.int 2)) (eBin dFdiv (eCall dInt (aCons (eVar 5) aNil)) (eVar 1)))
    (sRet (eBin dMod (eCall dInt (aCons (eVar 5) aNil)) (eVar 1)))))
    sNil)
    pic__law_draw_mix)
def pic__law_draw : Sy := (sSeq (sIf (tVal (eBin dGt (eIx (eVar 0) (eC (.int 2))) (eC (.int 0))))
    (sSeq (sSet 2 (eBin dMod (eCall dInt (aCons (eIx (eVar 0) (eC (.int 2))) aNil)) (eVar 1)))
    (sSeq (sIxC (eVar 0) (eC (.int 2)) (eBin dFdiv (eCall dInt (aCons (eIx (eVar 0) (eC (.int 2))) aNil)) (eVar 1)))
    (sRet (eVar 2))))
    sNil)
    (sSeq (sSet 3 (eIx (eVar 0) (eC (.int 1))))
    (sSeq (sIxC (eVar 0) (eC (.int 1)) (eBin dAdd (eVar 3) (eC (.int 1))))
    (sSeq (sSet 4 (eBin dAdd (eBin dMul (eC (.int 65521)) (eVar 3)) (eC (.int 2657))))
    (sSeq (sIf (tVal (eBin dNe (eIx (eVar 0) (eC (.int 0))) (eLst aNil)))
    (sSet 4 (eIx (eIx (eVar 0) (eC (.int 0))) (eBin dMod (eCall dInt (aCons (eVar 3) aNil)) (eCall dLen (aCons (eIx (eVar 0) (eC (.int 0))) aNil)))))
    sNil)
    pic__law_draw_tail)))))
def sh__law_draw : List D → Store → R D := runD 2 5 pic__law_draw
section
variable {w : World} {K : PySem.W.Frag} {mg : Str → Option Value} {base : Heap}
theorem df__law_draw (T : Tx K mg) : Df PP w K mg base "_law_draw" 1 ["_law_pen_here", "_law_many"] (spSh K sh__law_draw) := by
  obtain ⟨f, F, hm⟩ := T.d__law_draw
  exact df_sh (f := pic__law_draw) F hm sc__law_draw (fun _ _ _ _ _ _ us hl => match us, hl with | [_, _], _ => rfl) rfl rfl (fun _ => trivial) (fun cdv A outer s H E hr => (ss_cons (s_if (t_cmp (ops_gt rfl) (x_ix rfl (x_var (i := 0) rfl (by first | exact .inl rfl | exact .inr (.inl rfl) | exact .inr (.inr rfl))) x_int (fun _ _ => rfl)) x_int (nomark _))
    (ss_cons (s_set (i := 2) sc__law_draw.nd rfl (by first | exact .inl rfl | exact .inr rfl) (x_op (ops_mod rfl) (x_callT calls_int (by rfl) T.n_int (by decide +kernel) (a_cons (x_ix rfl (x_var (i := 0) rfl (by first | exact .inl rfl | exact .inr (.inl rfl) | exact .inr (.inr rfl))) x_int (fun _ _ => rfl)) a_nil)) (x_var (i := 1) rfl (by first | exact .inl rfl | exact .inr (.inl rfl) | exact .inr (.inr rfl)))))
    (ss_cons (s_ixC (x_var (i := 0) rfl (by first | exact .inl rfl | exact .inr (.inl rfl) | exact .inr (.inr rfl))) x_int (x_op (ops_fdiv rfl) (x_callT calls_int (by rfl) T.n_int (by decide +kernel) (a_cons (x_ix rfl (x_var (i := 0) rfl (by first | exact .inl rfl | exact .inr (.inl rfl) | exact .inr (.inr rfl))) x_int (fun _ _ => rfl)) a_nil)) (x_var (i := 1) rfl (by first | exact .inl rfl | exact .inr (.inl rfl) | exact .inr (.inr rfl)))))
    (ss_one (s_ret (x_var (i := 2) rfl (by first | exact .inl rfl | exact .inr (.inl rfl) | exact .inr (.inr rfl)))))))
    ss_nil)
    (ss_cons (s_set (i := 3) sc__law_draw.nd rfl (by first | exact .inl rfl | exact .inr rfl) (x_ix rfl (x_var (i := 0) rfl (by first | exact .inl rfl | exact .inr (.inl rfl) | exact .inr (.inr rfl))) x_int (fun _ _ => rfl)))
    (ss_cons (s_ixC (x_var (i := 0) rfl (by first | exact .inl rfl | exact .inr (.inl rfl) | exact .inr (.inr rfl))) x_int (x_op (ops_add rfl) (x_var (i := 3) rfl (by first | exact .inl rfl | exact .inr (.inl rfl) | exact .inr (.inr rfl))) x_int))
    (ss_cons (s_set (i := 4) sc__law_draw.nd rfl (by first | exact .inl rfl | exact .inr rfl) (x_op (ops_add rfl) (x_op (ops_mul rfl) x_int (x_var (i := 3) rfl (by first | exact .inl rfl | exact .inr (.inl rfl) | exact .inr (.inr rfl)))) x_int))
    (ss_cons (s_if (t_cmp (ops_neP rfl (room64 hr)) (x_ix rfl (x_var (i := 0) rfl (by first | exact .inl rfl | exact .inr (.inl rfl) | exact .inr (.inr rfl))) x_int (fun _ _ => rfl)) (x_lst a_nil) (nomark _))
    (ss_one (s_set (i := 4) sc__law_draw.nd rfl (by first | exact .inl rfl | exact .inr rfl) (x_ix rfl (x_ix rfl (x_var (i := 0) rfl (by first | exact .inl rfl | exact .inr (.inl rfl) | exact .inr (.inr rfl))) x_int (fun _ _ => rfl)) (x_op (ops_mod rfl) (x_callT calls_int (by rfl) T.n_int (by decide +kernel) (a_cons (x_var (i := 3) rfl (by first | exact .inl rfl | exact .inr (.inl rfl) | exact .inr (.inr rfl))) a_nil)) (x_callB (calls_len rfl) (by rfl) T.n_len (by decide +kernel) (a_cons (x_ix rfl (x_var (i := 0) rfl (by first | exact .inl rfl | exact .inr (.inl rfl) | exact .inr (.inr rfl))) x_int (fun _ _ => rfl)) a_nil))) (fun _ _ => rfl))))
    ss_nil)
    (ss_cons (s_if (w_pt (w_and (t_cmp (ops_lt rfl) (x_var (i := 3) rfl (by first | exact .inl rfl | exact .inr (.inl rfl) | exact .inr (.inr rfl))) (x_callB (calls_len rfl) (by rfl) T.n_len (by decide +kernel) (a_cons (x_ix rfl (x_var (i := 0) rfl (by first | exact .inl rfl | exact .inr (.inl rfl) | exact .inr (.inr rfl))) x_int (fun _ _ => rfl)) a_nil)) (nomark _)) (w_and1 (t_cmp (ops_ge rfl) (x_callB calls_abs (by rfl) T.n_abs (by decide +kernel) (a_cons (x_var (i := 4) rfl (by first | exact .inl rfl | exact .inr (.inl rfl) | exact .inr (.inr rfl))) a_nil)) (x_op (ops_pow rfl) x_int x_int) (nomark _)))))
    (ss_cons (s_set (i := 5) sc__law_draw.nd rfl (by first | exact .inl rfl | exact .inr rfl) (x_op (ops_add rfl) (x_op (ops_mul rfl) x_int (x_op (ops_sub rfl) (x_callB calls_abs (by rfl) T.n_abs (by decide +kernel) (a_cons (x_var (i := 4) rfl (by first | exact .inl rfl | exact .inr (.inl rfl) | exact .inr (.inr rfl))) a_nil)) (x_op (ops_pow rfl) x_int x_int))) (x_callT calls_int (by rfl) T.n_int (by decide +kernel) (a_cons (x_cmp (ops_lt rfl) (x_var (i := 4) rfl (by first | exact .inl rfl | exact .inr (.inl rfl) | exact .inr (.inr rfl))) x_int (nomark _)) a_nil))))
    (ss_cons (s_ixC (x_var (i := 0) rfl (by first | exact .inl rfl | exact .inr (.inl rfl) | exact .inr (.inr rfl))) x_int (x_op (ops_fdiv rfl) (x_callT calls_int (by rfl) T.n_int (by decide +kernel) (a_cons (x_var (i := 5) rfl (by first | exact .inl rfl | exact .inr (.inl rfl) | exact .inr (.inr rfl))) a_nil)) (x_var (i := 1) rfl (by first | exact .inl rfl | exact .inr (.inl rfl) | exact .inr (.inr rfl)))))
    (ss_one (s_ret (x_op (ops_mod rfl) (x_callT calls_int (by rfl) T.n_int (by decide +kernel) (a_cons (x_var (i := 5) rfl (by first | exact .inl rfl | exact .inr (.inl rfl) | exact .inr (.inr rfl))) a_nil)) (x_var (i := 1) rfl (by first | exact .inl rfl | exact .inr (.inl rfl) | exact .inr (.inr rfl))))))))
    ss_nil)
    (ss_cons (s_set (i := 6) sc__law_draw.nd rfl (by first | exact .inl rfl | exact .inr rfl) (x_op (ops_mod rfl) (x_callT calls_int (by rfl) T.n_int (by decide +kernel) (a_cons (x_op (ops_pow rfl) (x_op (ops_add rfl) (x_op (ops_add rfl) (x_op (ops_mod rfl) (x_callT calls_int (by rfl) T.n_int (by decide +kernel) (a_cons (x_var (i := 4) rfl (by first | exact .inl rfl | exact .inr (.inl rfl) | exact .inr (.inr rfl))) a_nil)) x_int) (x_op (ops_mul rfl) x_int (x_var (i := 3) rfl (by first | exact .inl rfl | exact .inr (.inl rfl) | exact .inr (.inr rfl))))) x_int) x_int) a_nil)) x_int))
    (ss_cons (s_set (i := 6) sc__law_draw.nd rfl (by first | exact .inl rfl | exact .inr rfl) (x_op (ops_mod rfl) (x_callT calls_int (by rfl) T.n_int (by decide +kernel) (a_cons (x_op (ops_pow rfl) (x_op (ops_add rfl) (x_op (ops_add rfl) (x_op (ops_mul rfl) (x_var (i := 6) rfl (by first | exact .inl rfl | exact .inr (.inl rfl) | exact .inr (.inr rfl))) (x_op (ops_add rfl) (x_op (ops_mul rfl) x_int (x_var (i := 3) rfl (by first | exact .inl rfl | exact .inr (.inl rfl) | exact .inr (.inr rfl)))) x_int)) (x_op (ops_mul rfl) (x_op (ops_mul rfl) x_int (x_var (i := 3) rfl (by first | exact .inl rfl | exact .inr (.inl rfl) | exact .inr (.inr rfl)))) (x_var (i := 3) rfl (by first | exact .inl rfl | exact .inr (.inl rfl) | exact .inr (.inr rfl))))) x_int) x_int) a_nil)) x_int))
    (ss_one (s_ret (x_op (ops_mod rfl) (x_callT calls_int (by rfl) T.n_int (by decide +kernel) (a_cons (x_op (ops_fdiv rfl) (x_var (i := 6) rfl (by first | exact .inl rfl | exact .inr (.inl rfl) | exact .inr (.inr rfl))) x_int) a_nil)) (x_var (i := 1) rfl (by first | exact .inl rfl | exact .inr (.inl rfl) | exact .inr (.inr rfl)))))))))))))))
end
def pic__law_pick : Sy := (sRet (eIx (eVar 1) (eDf sh__law_draw (aCons (eVar 0) (aCons (eCall dLen (aCons (eVar 1) aNil)) aNil)))))
def sh__law_pick : List D → Store → R D := runD 2 0 pic__law_pick
section
variable {w : World} {K : PySem.W.Frag} {mg : Str → Option Value} {base : Heap}
theorem df__law_pick (T : Tx K mg) : Df PP w K mg base "_law_pick" 2 ["_law_pen_here", "_law_some"] (spSh K sh__law_pick) := by
  have G__law_draw : Df PP w K mg base "_law_draw" 1 _ _ := df__law_draw T
  obtain ⟨f, F, hm⟩ := T.d__law_pick
  exact df_sh (f := pic__law_pick) F hm sc__law_pick (fun _ _ _ _ _ _ us hl => match us, hl with | [_, _], _ => rfl) rfl rfl (fun _ => trivial) (fun cdv A outer s H E hr => (ss_one (s_ret (x_ix rfl (x_var (i := 1) rfl (by first | exact .inl rfl | exact .inr (.inl rfl) | exact .inr (.inr rfl))) (x_df G__law_draw shp_sh hr (by decide) (by rfl) (takes_of rfl rfl rfl rfl) (a_cons (x_var (i := 0) rfl (by first | exact .inl rfl | exact .inr (.inl rfl) | exact .inr (.inr rfl))) (a_cons (x_callB (calls_len rfl) (by rfl) T.n_len (by decide +kernel) (a_cons (x_var (i := 1) rfl (by first | exact .inl rfl | exact .inr (.inl rfl) | exact .inr (.inr rfl))) a_nil)) a_nil))) (fun _ _ => rfl)))))
end
def pic__law_heard (f : Addr) (th : Store → R D) : Sy := (sSeq (sAsg (gT (gsCons (gN 1) (gsCons (gN 2) gsNil))) (eTup (aCons (eC .non) (aCons (eC .non) aNil))))
    (sSeq (sTry [("BadName", true), ("BadDeed", true), ("BadTable", true), ("TooMany", true), ("BadText", true)] 3
    (sSet 2 (eAct f th))
    (sSet 1 (eVar 3)))
    (sSeq (sIf (tVal (eBin dIs (eVar 1) (eC .non)))
    (sRet (eTup (aCons (eC (.str "made")) (aCons (eCallE (cLen "Row" sh_Row_len) (aCons (eVar 2) aNil)) aNil))))
    sNil)
    (sSeq (sIf (tVal (eIsx [("BadName", false), ("BadDeed", false), ("BadTable", false), ("TooMany", true), ("BadText", false)] (eVar 1)))
    (sRet (eTup (aCons (eC (.str "many")) (aCons (eXf ["TooMany"] "what" (eVar 1)) (aCons (eXf ["TooMany"] "most" (eVar 1)) aNil)))))
    sNil)
    (sSeq (sIf (tVal (eIsx [("BadName", false), ("BadDeed", false), ("BadTable", true), ("TooMany", false), ("BadText", false)] (eVar 1)))
    (sRet (eTup (aCons (eC (.str "table")) (aCons (eCall dLen (aCons (eXf ["BadName", "BadTable"] "value" (eVar 1)) aNil)) aNil))))
    sNil)
    (sRet (eIf (tVal (eIsx [("BadName", false), ("BadDeed", true), ("BadTable", false), ("TooMany", false), ("BadText", false)] (eVar 1))) (eTup (aCons (eC (.str "deed")) (aCons (eXf ["BadDeed"] "at" (eVar 1)) aNil))) (eTup (aCons (eC (.str "odd")) aNil)))))))))
def sh__law_heard : Addr → (Store → R D) → Store → R D := runL 3 pic__law_heard
section
variable {w : World} {K : PySem.W.Frag} {mg : Str → Option Value} {base : Heap}
theorem gv__law_heard {X : Cx} (T : Tx X.K X.mg) (hP : X.prog = PP) (hr : Room 3 X.A) {g : Addr} {cdg : Value} {q : Str} : GivesW X ["_law_ask", "_law_caught", "_law_found", "error"] "_law_heard" (defScope s__law_heard) g cdg (defBody s__law_heard) "_law_ask" q (TTsh X.K sh__law_heard) := by
  have G_Row_len := fo_Row_len (w := X.w) (K := X.K) (mg := X.mg) (base := X.base) T
  rw [← hP] at G_Row_len
  exact gives_sh (k := 3) (fb := pic__law_heard) rfl (fun [BasePred] f th s H act => by
    have hr := hr.deeper (envOfC "_law_heard" (defScope s__law_heard) s.heap.objs.size g cdg)
    exact (ss_cons (s_asg (us := [1, 2]) (x_tup (a_cons x_non (a_cons x_non a_nil))) (g_tup rfl rfl (gs_cons (g_name (i := 1) sc__law_heard.nd rfl (by first | exact .inl rfl | exact .inr rfl)) (gs_cons (g_name (i := 2) sc__law_heard.nd rfl (by first | exact .inl rfl | exact .inr rfl)) gs_nil)) (gl_cons (gl_cons gl_nil))))
    (ss_cons (s_try (i := 3) (isa := [("BadName", true), ("BadDeed", true), ("BadTable", true), ("TooMany", true), ("BadText", true)]) (c := .ref (He.ga X.K "NextError")) rfl rfl rfl rfl sc__law_heard.nd rfl rfl ⟨rfl, by decide, .inl T.g_NextError⟩ (eo_cons T.exm_BadName_NextError_t (eo_cons T.exm_BadDeed_NextError_t (eo_cons T.exm_BadTable_NextError_t (eo_cons T.exm_TooMany_NextError_t (eo_cons T.exm_BadText_NextError_t eo_nil))))) L2.takes0 (fun W' pn xe tk' po => (ss_one (s_set (i := 2) sc__law_heard.nd rfl (by first | exact .inl rfl | exact .inr rfl) (act _ _ _ _ _ tk')))) (fun a pn => (ss_one (s_set (i := 1) sc__law_heard.nd rfl (by first | exact .inl rfl | exact .inr rfl) (x_var (i := 3) rfl (by first | exact .inl rfl | exact .inr (.inl rfl) | exact .inr (.inr rfl)))))))
    (ss_cons (s_if (t_cmp (ops_is rfl) (x_var (i := 1) rfl (by first | exact .inl rfl | exact .inr (.inl rfl) | exact .inr (.inr rfl))) x_non (nomark _))
    (ss_one (s_ret (x_tup (a_cons x_str (a_cons (x_callBE (ce_len (c := "Row") rfl T.own_Row_len G_Row_len shp_sh hr (by decide)) (by rfl) T.n_len (by decide +kernel) (a_cons (x_var (i := 2) rfl (by first | exact .inl rfl | exact .inr (.inl rfl) | exact .inr (.inr rfl))) a_nil)) a_nil)))))
    ss_nil)
    (ss_cons (s_if (t_val (x_isx (own := [("BadName", false), ("BadDeed", false), ("BadTable", false), ("TooMany", true), ("BadText", false)]) rfl (by rfl) T.n_isinstance (x_var (i := 1) rfl (by first | exact .inl rfl | exact .inr (.inl rfl) | exact .inr (.inr rfl))) (pe_glob (v := .ref _) (by rfl) T.g_TooMany rfl) ⟨(ix_cons T.ex_BadName T.kt_BadName_TooMany_f (ix_cons T.ex_BadDeed T.kt_BadDeed_TooMany_f (ix_cons T.ex_BadTable T.kt_BadTable_TooMany_f (ix_cons T.ex_TooMany T.kt_TooMany_TooMany_t (ix_cons T.ex_BadText T.kt_BadText_TooMany_f ix_nil)))))⟩))
    (ss_one (s_ret (x_tup (a_cons x_str (a_cons (x_xf (cs := ["TooMany"]) rfl (xk_cons T.xf_TooMany T.nx_TooMany_what xk_nil) (x_var (i := 1) rfl (by first | exact .inl rfl | exact .inr (.inl rfl) | exact .inr (.inr rfl)))) (a_cons (x_xf (cs := ["TooMany"]) rfl (xk_cons T.xf_TooMany T.nx_TooMany_most xk_nil) (x_var (i := 1) rfl (by first | exact .inl rfl | exact .inr (.inl rfl) | exact .inr (.inr rfl)))) a_nil))))))
    ss_nil)
    (ss_cons (s_if (t_val (x_isx (own := [("BadName", false), ("BadDeed", false), ("BadTable", true), ("TooMany", false), ("BadText", false)]) rfl (by rfl) T.n_isinstance (x_var (i := 1) rfl (by first | exact .inl rfl | exact .inr (.inl rfl) | exact .inr (.inr rfl))) (pe_glob (v := .ref _) (by rfl) T.g_BadTable rfl) ⟨(ix_cons T.ex_BadName T.kt_BadName_BadTable_f (ix_cons T.ex_BadDeed T.kt_BadDeed_BadTable_f (ix_cons T.ex_BadTable T.kt_BadTable_BadTable_t (ix_cons T.ex_TooMany T.kt_TooMany_BadTable_f (ix_cons T.ex_BadText T.kt_BadText_BadTable_f ix_nil)))))⟩))
    (ss_one (s_ret (x_tup (a_cons x_str (a_cons (x_callB (calls_len rfl) (by rfl) T.n_len (by decide +kernel) (a_cons (x_xf (cs := ["BadName", "BadTable"]) rfl (xk_cons T.xf_BadName T.nx_BadName_value (xk_cons T.xf_BadTable T.nx_BadTable_value xk_nil)) (x_var (i := 1) rfl (by first | exact .inl rfl | exact .inr (.inl rfl) | exact .inr (.inr rfl)))) a_nil)) a_nil)))))
    ss_nil)
    (ss_one (s_ret (x_if (t_val (x_isx (own := [("BadName", false), ("BadDeed", true), ("BadTable", false), ("TooMany", false), ("BadText", false)]) rfl (by rfl) T.n_isinstance (x_var (i := 1) rfl (by first | exact .inl rfl | exact .inr (.inl rfl) | exact .inr (.inr rfl))) (pe_glob (v := .ref _) (by rfl) T.g_BadDeed rfl) ⟨(ix_cons T.ex_BadName T.kt_BadName_BadDeed_f (ix_cons T.ex_BadDeed T.kt_BadDeed_BadDeed_t (ix_cons T.ex_BadTable T.kt_BadTable_BadDeed_f (ix_cons T.ex_TooMany T.kt_TooMany_BadDeed_f (ix_cons T.ex_BadText T.kt_BadText_BadDeed_f ix_nil)))))⟩)) (x_tup (a_cons x_str (a_cons (x_xf (cs := ["BadDeed"]) rfl (xk_cons T.xf_BadDeed T.nx_BadDeed_at xk_nil) (x_var (i := 1) rfl (by first | exact .inl rfl | exact .inr (.inl rfl) | exact .inr (.inr rfl)))) a_nil))) (x_tup (a_cons x_str a_nil)))))))))))
end
theorem par__law_heard (f : Addr) (th : Store → R D) (S : Store) : sh__law_heard f th S = sh__law_heard 0 th S := by
  unfold sh__law_heard pic__law_heard
  simp_all_arith!
  cases h : th S with
  | no => simp_all_arith!
  | ok d S1 => simp_arith
  | er x S1 =>
    simp_all_arith!
    generalize List.lookup x.c _ = o
    rcases o with _ | _ | _
    · simp_all_arith!
    · simp_all_arith!
    · simp_arith

end Nk

namespace Nk
open PySem PySem.Spec PyProof.Rows L2 Sh
def pic_law_b6 : Sy := (sSeq (sOwn 4 (lDisp (aCons (eLam sh__law_heard (eCm "Row" sh_Row_from_parts (eC (.cls "Row")) (aCons (eVar 13) aNil))) aNil)))
    (sSeq (sApp 4 (eLam sh__law_heard (eCm "Row" sh_Row_read (eC (.cls "Row")) (aCons (eVar 11) aNil))))
    (sSeq (sApp 4 (eLam sh__law_heard (eCm "Row" sh_Row_from_parts (eC (.cls "Row")) (aCons (eBin dAdd (eVar 13) (eTup (aCons (eTup (aCons (eC (.str "come")) (aCons (eC (.str "a")) aNil))) aNil))) aNil))))
    (sFrz 4 (sIf (tOo (tVal (eBin dNe (eVar 4) (eLst (aCons (eTup (aCons (eC (.str "made")) (aCons (eC (.int 2000)) aNil))) (aCons (eTup (aCons (eC (.str "made")) (aCons (eC (.int 2000)) aNil))) (aCons (eTup (aCons (eC (.str "table")) (aCons (eC (.int 2001)) aNil))) aNil)))))) (tVal (eBinE (oOwn true "Row" [] ["Row"] sh_Row_eq) (eCm "Row" sh_Row_read (eC (.cls "Row")) (aCons (eVar 11) aNil)) (eVar 14))))
    (sRet (eC (.bl false)))
    sNil)))))
def pic_law_b5 : Sy := (sSeq (sAsg (gT (gsCons (gN 13) (gsCons (gN 11) gsNil))) (eTup (aCons (ePr "Row" sh_Row_parts (eVar 14)) (aCons (eCallE (cStr "Row" sh_Row_str) (aCons (eVar 14) aNil)) aNil))))
    pic_law_b6)
def pic_law_b4 : Sy := (sSeq (sSet 5 (eDf sh__law_draw (aCons (eVar 1) (aCons (eCall dLen (aCons (eVar 12) aNil)) aNil))))
    (sSeq (sSet 15 (eBin dAdd (eBin dAdd (eSl (eVar 12) pNo (pSo (eVar 5))) (eLst (aCons (eC (.str "come a")) aNil))) (eSl (eVar 12) (pSo (eVar 5)) pNo)))
    (sSeq (sIf (tVal (eBin dNe (eLam sh__law_heard (eCm "Row" sh_Row_of (eC (.cls "Row")) (aCons (eVar 15) aNil))) (eTup (aCons (eC (.str "deed")) (aCons (eVar 5) aNil)))))
    (sRet (eC (.bl false)))
    sNil)
    pic_law_b5)))
def pic_law_b3 : Sy := (sSeq (sOwn 4 (lDisp (aCons (eLam sh__law_heard (eCm "Row" sh_Row_of (eC (.cls "Row")) (aCons (eVar 12) aNil))) aNil)))
    (sSeq (sApp 4 (eLam sh__law_heard (eBo "Row" [] ["Come", "Go"] sh_Row_add (eVar 14) (eVar 6))))
    (sSeq (sApp 4 (eLam sh__law_heard (eBo "Row" [] ["Row"] sh_Row_add (eVar 14) (eMk "Row" (starI 0 sh_Row_init) (eC (.cls "Row")) (aCons (eVar 10) (aCons (eVar 10) aNil))))))
    (sSeq (sApp 4 (eLam sh__law_heard (eBo "Row" [] ["Row"] sh_Row_add (eCm "Row" sh_Row_of (eC (.cls "Row")) (aCons (eVar 8) aNil)) (eVar 14))))
    (sSeq (sFrz 4 (sIf (tOo (tVal (eBin dNe (eVar 4) (eBin dMul (eLst (aCons (eVar 2) aNil)) (eC (.int 4))))) (tOo (tVal (eBin dNe (eCallE (cLen "Row" sh_Row_len) (aCons (eVar 14) aNil)) (eC (.int 2000)))) (tVal (eBin dNe (eCallE (cLen "Row" sh_Row_len) (aCons (eBo "Row" [] ["Row"] sh_Row_add (eVar 14) (eMk "Row" (starI 0 sh_Row_init) (eC (.cls "Row")) aNil)) aNil)) (eC (.int 2000))))))
    (sRet (eC (.bl false)))
    sNil))
    pic_law_b4)))))
def pic_law_b2 : Sy := (sSeq (sSet 12 (eBin dAdd (eVar 9) (eBin dMul (eLst (aCons (eVar 10) aNil)) (eBin dAdd (eC (.int 1)) (eDf sh__law_draw (aCons (eVar 1) (aCons (eC (.int 3)) aNil)))))))
    (sSeq (sSet 14 (eCm "Row" sh_Row_of (eC (.cls "Row")) (aCons (eVar 9) aNil)))
    pic_law_b3))
def pic_law_b1 : Sy := (sSeq (sOwn 4 (lDisp (aCons (eLam sh__law_heard (eCm "Row" sh_Row_of (eC (.cls "Row")) (aCons (eVar 9) aNil))) aNil)))
    (sSeq (sApp 4 (eLam sh__law_heard (eBo "Row" [] ["Row"] sh_Row_add (eCm "Row" sh_Row_of (eC (.cls "Row")) (aCons (eSl (eVar 9) (pSo (eVar 7)) pNo) aNil)) (eCm "Row" sh_Row_of (eC (.cls "Row")) (aCons (eVar 8) aNil)))))
    (sSeq (sApp 4 (eLam sh__law_heard (eBo "Row" [] ["Go"] sh_Row_add (eCm "Row" sh_Row_of (eC (.cls "Row")) (aCons (eSl (eVar 9) (pSo (eC (.int 1))) pNo) aNil)) (eVar 10))))
    (sSeq (sFrz 4 (sIf (tVal (eBin dNe (eVar 4) (eBin dMul (eLst (aCons (eTup (aCons (eC (.str "made")) (aCons (eC (.int 2000)) aNil))) aNil)) (eC (.int 3)))))
    (sRet (eC (.bl false)))
    sNil))
    pic_law_b2))))
def pic_law_b0 : Sy := (sSeq (sSet 7 (eDf sh__law_pick (aCons (eVar 1) (aCons (eLst (aCons (eC (.int 1)) (aCons (eC (.int 2)) (aCons (eC (.int 999)) (aCons (eC (.int 1000)) (aCons (eC (.int 1998)) (aCons (eC (.int 1999)) (aCons (eBin dAdd (eC (.int 1)) (eDf sh__law_draw (aCons (eVar 1) (aCons (eC (.int 1999)) aNil)))) aNil)))))))) aNil))))
    (sSeq (sSet 8 (eNew (lComp [16] (iRng1 (aCons (eVar 7) aNil)) (gN 16) tYesD (eDf sh__law_pick (aCons (eVar 1) (aCons (eLst (aCons (eVar 6) (aCons (eVar 10) aNil))) aNil))))))
    (sSeq (sSet 9 (eBin dAdd (eVar 8) (eBin dMul (eLst (aCons (eVar 6) aNil)) (eBin dSub (eC (.int 2000)) (eVar 7)))))
    pic_law_b1)))
def pic_law_loop : Sy := (sSeq (sFor (iRng1 (aCons (eC (.int 2)) aNil)) (gN 3)
    pic_law_b0)
    (sRet (eC (.bl true))))
def pic_law : Sy := (sSeq (sSet 1 (eDf sh__law_pen (aCons (eVar 0) aNil)))
    (sSeq (sAsg (gT (gsCons (gN 6) (gsCons (gN 10) (gsCons (gN 2) gsNil)))) (eTup (aCons (eMk "Come" sh_Come_init (eC (.cls "Come")) (aCons (eC (.str "a")) aNil)) (aCons (eMk "Go" sh_Go_init (eC (.cls "Go")) (aCons (eC (.str "a")) (aCons (eC (.str "s")) aNil))) (aCons (eTup (aCons (eC (.str "many")) (aCons (eC (.str "deeds")) (aCons (eC (.int 2000)) aNil)))) aNil)))))
    pic_law_loop))
def sh_law : List D → Store → R D := runD 1 16 pic_law
section
variable {w : World} {K : PySem.W.Frag} {mg : Str → Option Value} {base : Heap}
theorem fg_law (T : Tx K mg) {fd : FuncData} {c tb : Addr} (F : FunD K "law" "law" (defArgs s_law) (defBody s_law) (defScope s_law) [] [] (He.fAd K ("law", none)) fd) (hc : He.codeOf K ("law", none) = c) (htb : (He.cT K ("law", none)).2 = tb) (TB : LamX.TabB base mg c tb) : FnG PP w K mg base (L2.CX PP w) 10 (He.fAd K ("law", none)) fd ["_law_script"] (spSh K sh_law) := by
  have G_Row_eq : Fo PP w K mg base (He.ma K (He.ga K "Row") "__eq__") 3 _ _ := fo_Row_eq T
  have G_Row_read : Fo PP w K mg base (cmOf K (He.ga K "Row") "read") 7 _ _ := fo_Row_read T
  have G_Row_from_parts : Fo PP w K mg base (cmOf K (He.ga K "Row") "from_parts") 7 _ _ := fo_Row_from_parts T
  have G_Row_str : Fo PP w K mg base (He.ma K (He.ga K "Row") "__str__") 4 _ _ := fo_Row_str T
  have G_Row_parts : Fo PP w K mg base (getOf K (He.ga K "Row") "parts") 3 _ _ := fo_Row_parts T
  have G_Row_of : Fo PP w K mg base (cmOf K (He.ga K "Row") "of") 5 _ _ := fo_Row_of T
  have G__law_draw : Df PP w K mg base "_law_draw" 1 _ _ := df__law_draw T
  have G_Row_len : Fo PP w K mg base (He.ma K (He.ga K "Row") "__len__") 1 _ _ := fo_Row_len T
  have G_Row_add : Fo PP w K mg base (He.ma K (He.ga K "Row") "__add__") 5 _ _ := fo_Row_add T
  have G_Row_init : Fs PP w K mg base (He.ma K (He.ga K "Row") "__init__") 3 _ := fs_Row_init T
  have G__law_pick : Df PP w K mg base "_law_pick" 2 _ _ := df__law_pick T
  have G_Go_init : Fo PP w K mg base (He.ma K (He.ga K "Go") "__init__") 4 _ _ := fo_Go_init T
  have G_Come_init : Fo PP w K mg base (He.ma K (He.ga K "Come") "__init__") 4 _ _ := fo_Come_init T
  have G__law_pen : Df PP w K mg base "_law_pen" 1 _ _ := df__law_pen T
  obtain ⟨g__law_heard, ⟨fd__law_heard, F__law_heard⟩, hm__law_heard⟩ := T.d__law_heard
  have hb__law_heard := FunD.bindsN (ps := ["_law_ask"]) F__law_heard (fun _ _ _ _ _ _ us hl => match us, hl with | [_], _ => rfl)
  have hk__law_heard := F__law_heard.kp
  obtain ⟨oc__law_heard, od__law_heard, dV__law_heard, kV__law_heard, doc__law_heard, pm__law_heard, an__law_heard, cdv__law_heard, ct__law_heard, osl__law_heard, rfl, lk__law_heard, hc__law_heard, _, _⟩ := F__law_heard.ex
  refine fngC_of (p := ("law", none)) F sc_law (fun vs H Q E h => spSh_len h) (fun cdv hcd A outer s H vs Q E hgd hr h => ?_)
  have hcode : (cxOf (L2.CX PP w) PP w K mg base ["_law_script", "_law_pen_here", "_law_many", "_law_turn", "_law_heard_here", "_law_spot", "_law_come", "_law_cut", "_law_first", "_law_full", "_law_go", "_law_lines", "_law_over", "_law_parts_so", "_law_row_so", "_law_wrong", "_law_k"] "law" (defScope s_law) (He.fAd K ("law", none)) cdv A outer s H E).env.code = .ref c := by rw [← hc]; exact hcd
  have gv__law_heard := gv__law_heard (X := cxOf (L2.CX PP w) PP w K mg base ["_law_script", "_law_pen_here", "_law_many", "_law_turn", "_law_heard_here", "_law_spot", "_law_come", "_law_cut", "_law_first", "_law_full", "_law_go", "_law_lines", "_law_over", "_law_parts_so", "_law_row_so", "_law_wrong", "_law_k"] "law" (defScope s_law) (He.fAd K ("law", none)) cdv A outer s H E) T rfl (hr.mono (by decide)) (g := g__law_heard) (cdg := cdv__law_heard) (q := "law.<locals>.<lambda>")
  have hmT : (tb, ("law.<locals>.<lambda>" : Str)) ∈ TabSet.TS K := by rw [← htb]; exact List.mem_singleton.mpr rfl
  have hu : ∀ p ∈ TabSet.TS K, p.1 = tb → p.2 = ("law.<locals>.<lambda>" : Str) := fun p hp _ => by rw [List.mem_singleton.mp hp]
  refine body_of (f := pic_law) (fun _ => trivial) rfl ?_ h
  exact (ss_cons (s_set (i := 1) sc_law.nd rfl (by first | exact .inl rfl | exact .inr rfl) (x_df G__law_pen shp_sh hr (by decide) (by rfl) (takes_of rfl rfl rfl rfl) (a_cons (x_var (i := 0) rfl (by first | exact .inl rfl | exact .inr (.inl rfl) | exact .inr (.inr rfl))) a_nil)))
    (ss_cons (s_asg (us := [6, 10, 2]) (x_tup (a_cons (x_mk (c := "Come") rfl (x_cls rfl (by rfl) T.g_Come) T.mk_Come (fs_of G_Come_init) shi_in hr (by decide) (takes_of rfl rfl rfl rfl) (a_cons x_str a_nil)) (a_cons (x_mk (c := "Go") rfl (x_cls rfl (by rfl) T.g_Go) T.mk_Go (fs_of G_Go_init) shi_in hr (by decide) (takes_of rfl rfl rfl rfl) (a_cons x_str (a_cons x_str a_nil))) (a_cons (x_tup (a_cons x_str (a_cons x_str (a_cons x_int a_nil)))) a_nil)))) (g_tup rfl rfl (gs_cons (g_name (i := 6) sc_law.nd rfl (by first | exact .inl rfl | exact .inr rfl)) (gs_cons (g_name (i := 10) sc_law.nd rfl (by first | exact .inl rfl | exact .inr rfl)) (gs_cons (g_name (i := 2) sc_law.nd rfl (by first | exact .inl rfl | exact .inr rfl)) gs_nil))) (gl_cons (gl_cons (gl_cons gl_nil)))))
    (ss_cons (s_for (us := [3]) (passes_of rfl) rfl (i_rng1 (by rfl) T.n_range (a_cons x_int a_nil)) (g_name (i := 3) sc_law.nd rfl (by first | exact .inl rfl | exact .inr rfl))
    (ss_cons (s_set (i := 7) sc_law.nd rfl (by first | exact .inl rfl | exact .inr rfl) (x_df G__law_pick shp_sh hr (by decide) (by rfl) (takes_of rfl rfl rfl rfl) (a_cons (x_var (i := 1) rfl (by first | exact .inl rfl | exact .inr (.inl rfl) | exact .inr (.inr rfl))) (a_cons (x_lst (a_cons x_int (a_cons x_int (a_cons x_int (a_cons x_int (a_cons x_int (a_cons x_int (a_cons (x_op (ops_add rfl) x_int (x_df G__law_draw shp_sh hr (by decide) (by rfl) (takes_of rfl rfl rfl rfl) (a_cons (x_var (i := 1) rfl (by first | exact .inl rfl | exact .inr (.inl rfl) | exact .inr (.inr rfl))) (a_cons x_int a_nil)))) a_nil)))))))) a_nil))))
    (ss_cons (s_set (i := 8) sc_law.nd rfl (by first | exact .inl rfl | exact .inr rfl) (x_new (f_comp (own := [("_law_k", 16)]) rfl sc_law.nd (i_rng1 (by rfl) T.n_range (a_cons (x_var (i := 7) rfl (by first | exact .inl rfl | exact .inr (.inl rfl) | exact .inr (.inr rfl))) a_nil)) (blkOk_by (N := ["_law_script", "_law_pen_here", "_law_many", "_law_turn", "_law_heard_here", "_law_spot", "_law_come", "_law_cut", "_law_first", "_law_full", "_law_go", "_law_lines", "_law_over", "_law_parts_so", "_law_row_so", "_law_wrong", "_law_k"]) (sc := defScope s_law) (by decide +kernel)) (fun _ _ _ _ _ => (g_name (i := 16) sc_law.nd rfl (by first | exact .inl rfl | exact .inr rfl))) (fun _ _ _ _ _ => ts_nil) (fun _ _ _ _ _ => (x_df G__law_pick shp_sh hr (by decide) (by rfl) L2.takes0 (a_cons (x_var (i := 1) rfl (by first | exact .inl rfl | exact .inr (.inl rfl) | exact .inr (.inr rfl))) (a_cons (x_lst (a_cons (x_var (i := 6) rfl (by first | exact .inl rfl | exact .inr (.inl rfl) | exact .inr (.inr rfl))) (a_cons (x_var (i := 10) rfl (by first | exact .inl rfl | exact .inr (.inl rfl) | exact .inr (.inr rfl))) a_nil))) a_nil)))))))
    (ss_cons (s_set (i := 9) sc_law.nd rfl (by first | exact .inl rfl | exact .inr rfl) (x_op (ops_add rfl) (x_var (i := 8) rfl (by first | exact .inl rfl | exact .inr (.inl rfl) | exact .inr (.inr rfl))) (x_op (ops_mul rfl) (x_lst (a_cons (x_var (i := 6) rfl (by first | exact .inl rfl | exact .inr (.inl rfl) | exact .inr (.inr rfl))) a_nil)) (x_op (ops_sub rfl) x_int (x_var (i := 7) rfl (by first | exact .inl rfl | exact .inr (.inl rfl) | exact .inr (.inr rfl)))))))
    (ss_cons (s_own (i := 4) sc_law.nd rfl (by first | exact .inl rfl | exact .inr rfl) (f_disp (a_cons (x_lam (k := 5) rfl (fun _ => trivial) par__law_heard (by rfl) hm__law_heard hk__law_heard lk__law_heard hc__law_heard hb__law_heard sc__law_heard rfl (.inl rfl) gv__law_heard TB hcode hmT hu (hr.mono (by decide)) (LamX.lamS_by (sc := defScope s_law) (by decide +kernel)) rfl (fun _ _ _ _ _ => rfl) (fun A outer s H E f c2 hr2 => (x_cm (c := "Row") rfl (x_cls rfl (by rfl) T.g_Row) T.cr_Row T.cm_Row_of (fs_of G_Row_of) shp_sh hr2 (by decide) (takes_of rfl rfl rfl rfl) (a_cons (x_var (i := 9) rfl (by first | exact .inl rfl | exact .inr (.inl rfl) | exact .inr (.inr rfl))) a_nil)))) a_nil)))
    (ss_cons (s_app (i := 4) rfl (by first | exact .inl rfl | exact .inr (.inl rfl) | exact .inr (.inr rfl)) (x_lam (k := 5) rfl (fun _ => trivial) par__law_heard (by rfl) hm__law_heard hk__law_heard lk__law_heard hc__law_heard hb__law_heard sc__law_heard rfl (.inl rfl) gv__law_heard TB hcode hmT hu (hr.mono (by decide)) (LamX.lamS_by (sc := defScope s_law) (by decide +kernel)) rfl (fun _ _ _ _ _ => rfl) (fun A outer s H E f c2 hr2 => (x_bo (c := "Row") (bi := []) (cs := ["Row"]) rfl rfl T.own_Row_add T.sf_Row ⟨(fun _ h => nomatch h), (to_cons (P := fun t => PySem.W.nkRight K (He.ga K "Row") "add" t = true) T.cl_Row T.in_Row T.rt_Row_Row_add (to_nil (K := K) (P := fun t => PySem.W.nkRight K (He.ga K "Row") "add" t = true)))⟩ (fs_of G_Row_add) shp_sh hr2 (by decide) (takes_of rfl rfl rfl rfl) (x_cm (c := "Row") rfl (x_cls rfl (by rfl) T.g_Row) T.cr_Row T.cm_Row_of (fs_of G_Row_of) shp_sh hr2 (by decide) (takes_of rfl rfl rfl rfl) (a_cons (x_sl rfl (x_var (i := 9) rfl (by first | exact .inl rfl | exact .inr (.inl rfl) | exact .inr (.inr rfl))) (p_so (x_var (i := 7) rfl (by first | exact .inl rfl | exact .inr (.inl rfl) | exact .inr (.inr rfl)))) p_no) a_nil)) (x_cm (c := "Row") rfl (x_cls rfl (by rfl) T.g_Row) T.cr_Row T.cm_Row_of (fs_of G_Row_of) shp_sh hr2 (by decide) (takes_of rfl rfl rfl rfl) (a_cons (x_var (i := 8) rfl (by first | exact .inl rfl | exact .inr (.inl rfl) | exact .inr (.inr rfl))) a_nil))))))
    (ss_cons (s_app (i := 4) rfl (by first | exact .inl rfl | exact .inr (.inl rfl) | exact .inr (.inr rfl)) (x_lam (k := 5) rfl (fun _ => trivial) par__law_heard (by rfl) hm__law_heard hk__law_heard lk__law_heard hc__law_heard hb__law_heard sc__law_heard rfl (.inl rfl) gv__law_heard TB hcode hmT hu (hr.mono (by decide)) (LamX.lamS_by (sc := defScope s_law) (by decide +kernel)) rfl (fun _ _ _ _ _ => rfl) (fun A outer s H E f c2 hr2 => (x_bo (c := "Row") (bi := []) (cs := ["Go"]) rfl rfl T.own_Row_add T.sf_Row ⟨(fun _ h => nomatch h), (to_cons (P := fun t => PySem.W.nkRight K (He.ga K "Row") "add" t = true) T.cl_Go T.in_Go T.rt_Row_Go_add (to_nil (K := K) (P := fun t => PySem.W.nkRight K (He.ga K "Row") "add" t = true)))⟩ (fs_of G_Row_add) shp_sh hr2 (by decide) (takes_of rfl rfl rfl rfl) (x_cm (c := "Row") rfl (x_cls rfl (by rfl) T.g_Row) T.cr_Row T.cm_Row_of (fs_of G_Row_of) shp_sh hr2 (by decide) (takes_of rfl rfl rfl rfl) (a_cons (x_sl rfl (x_var (i := 9) rfl (by first | exact .inl rfl | exact .inr (.inl rfl) | exact .inr (.inr rfl))) (p_so x_int) p_no) a_nil)) (x_var (i := 10) rfl (by first | exact .inl rfl | exact .inr (.inl rfl) | exact .inr (.inr rfl)))))))
    (ss_cons (s_frz (i := 4) (s_if (t_cmp (ops_neP rfl (room64 hr)) (x_var (i := 4) rfl (by first | exact .inl rfl | exact .inr (.inl rfl) | exact .inr (.inr rfl))) (x_op (ops_mul rfl) (x_lst (a_cons (x_tup (a_cons x_str (a_cons x_int a_nil))) a_nil)) x_int) (nomark _))
    (ss_one (s_ret x_bl))
    ss_nil))
    (ss_cons (s_set (i := 12) sc_law.nd rfl (by first | exact .inl rfl | exact .inr rfl) (x_op (ops_add rfl) (x_var (i := 9) rfl (by first | exact .inl rfl | exact .inr (.inl rfl) | exact .inr (.inr rfl))) (x_op (ops_mul rfl) (x_lst (a_cons (x_var (i := 10) rfl (by first | exact .inl rfl | exact .inr (.inl rfl) | exact .inr (.inr rfl))) a_nil)) (x_op (ops_add rfl) x_int (x_df G__law_draw shp_sh hr (by decide) (by rfl) (takes_of rfl rfl rfl rfl) (a_cons (x_var (i := 1) rfl (by first | exact .inl rfl | exact .inr (.inl rfl) | exact .inr (.inr rfl))) (a_cons x_int a_nil)))))))
    (ss_cons (s_set (i := 14) sc_law.nd rfl (by first | exact .inl rfl | exact .inr rfl) (x_cm (c := "Row") rfl (x_cls rfl (by rfl) T.g_Row) T.cr_Row T.cm_Row_of (fs_of G_Row_of) shp_sh hr (by decide) (takes_of rfl rfl rfl rfl) (a_cons (x_var (i := 9) rfl (by first | exact .inl rfl | exact .inr (.inl rfl) | exact .inr (.inr rfl))) a_nil)))
    (ss_cons (s_own (i := 4) sc_law.nd rfl (by first | exact .inl rfl | exact .inr rfl) (f_disp (a_cons (x_lam (k := 5) rfl (fun _ => trivial) par__law_heard (by rfl) hm__law_heard hk__law_heard lk__law_heard hc__law_heard hb__law_heard sc__law_heard rfl (.inl rfl) gv__law_heard TB hcode hmT hu (hr.mono (by decide)) (LamX.lamS_by (sc := defScope s_law) (by decide +kernel)) rfl (fun _ _ _ _ _ => rfl) (fun A outer s H E f c2 hr2 => (x_cm (c := "Row") rfl (x_cls rfl (by rfl) T.g_Row) T.cr_Row T.cm_Row_of (fs_of G_Row_of) shp_sh hr2 (by decide) (takes_of rfl rfl rfl rfl) (a_cons (x_var (i := 12) rfl (by first | exact .inl rfl | exact .inr (.inl rfl) | exact .inr (.inr rfl))) a_nil)))) a_nil)))
    (ss_cons (s_app (i := 4) rfl (by first | exact .inl rfl | exact .inr (.inl rfl) | exact .inr (.inr rfl)) (x_lam (k := 5) rfl (fun _ => trivial) par__law_heard (by rfl) hm__law_heard hk__law_heard lk__law_heard hc__law_heard hb__law_heard sc__law_heard rfl (.inl rfl) gv__law_heard TB hcode hmT hu (hr.mono (by decide)) (LamX.lamS_by (sc := defScope s_law) (by decide +kernel)) rfl (fun _ _ _ _ _ => rfl) (fun A outer s H E f c2 hr2 => (x_bo (c := "Row") (bi := []) (cs := ["Come", "Go"]) rfl rfl T.own_Row_add T.sf_Row ⟨(fun _ h => nomatch h), (to_cons (P := fun t => PySem.W.nkRight K (He.ga K "Row") "add" t = true) T.cl_Come T.in_Come T.rt_Row_Come_add (to_cons (P := fun t => PySem.W.nkRight K (He.ga K "Row") "add" t = true) T.cl_Go T.in_Go T.rt_Row_Go_add (to_nil (K := K) (P := fun t => PySem.W.nkRight K (He.ga K "Row") "add" t = true))))⟩ (fs_of G_Row_add) shp_sh hr2 (by decide) (takes_of rfl rfl rfl rfl) (x_var (i := 14) rfl (by first | exact .inl rfl | exact .inr (.inl rfl) | exact .inr (.inr rfl))) (x_var (i := 6) rfl (by first | exact .inl rfl | exact .inr (.inl rfl) | exact .inr (.inr rfl)))))))
    (ss_cons (s_app (i := 4) rfl (by first | exact .inl rfl | exact .inr (.inl rfl) | exact .inr (.inr rfl)) (x_lam (k := 5) rfl (fun _ => trivial) par__law_heard (by rfl) hm__law_heard hk__law_heard lk__law_heard hc__law_heard hb__law_heard sc__law_heard rfl (.inl rfl) gv__law_heard TB hcode hmT hu (hr.mono (by decide)) (LamX.lamS_by (sc := defScope s_law) (by decide +kernel)) rfl (fun _ _ _ _ _ => rfl) (fun A outer s H E f c2 hr2 => (x_bo (c := "Row") (bi := []) (cs := ["Row"]) rfl rfl T.own_Row_add T.sf_Row ⟨(fun _ h => nomatch h), (to_cons (P := fun t => PySem.W.nkRight K (He.ga K "Row") "add" t = true) T.cl_Row T.in_Row T.rt_Row_Row_add (to_nil (K := K) (P := fun t => PySem.W.nkRight K (He.ga K "Row") "add" t = true)))⟩ (fs_of G_Row_add) shp_sh hr2 (by decide) (takes_of rfl rfl rfl rfl) (x_var (i := 14) rfl (by first | exact .inl rfl | exact .inr (.inl rfl) | exact .inr (.inr rfl))) (x_mk (c := "Row") rfl (x_cls rfl (by rfl) T.g_Row) T.mk_Row G_Row_init (shi_star 0 shi_in) hr2 (by decide) (takes_of rfl rfl rfl rfl) (a_cons (x_var (i := 10) rfl (by first | exact .inl rfl | exact .inr (.inl rfl) | exact .inr (.inr rfl))) (a_cons (x_var (i := 10) rfl (by first | exact .inl rfl | exact .inr (.inl rfl) | exact .inr (.inr rfl))) a_nil)))))))
    (ss_cons (s_app (i := 4) rfl (by first | exact .inl rfl | exact .inr (.inl rfl) | exact .inr (.inr rfl)) (x_lam (k := 5) rfl (fun _ => trivial) par__law_heard (by rfl) hm__law_heard hk__law_heard lk__law_heard hc__law_heard hb__law_heard sc__law_heard rfl (.inl rfl) gv__law_heard TB hcode hmT hu (hr.mono (by decide)) (LamX.lamS_by (sc := defScope s_law) (by decide +kernel)) rfl (fun _ _ _ _ _ => rfl) (fun A outer s H E f c2 hr2 => (x_bo (c := "Row") (bi := []) (cs := ["Row"]) rfl rfl T.own_Row_add T.sf_Row ⟨(fun _ h => nomatch h), (to_cons (P := fun t => PySem.W.nkRight K (He.ga K "Row") "add" t = true) T.cl_Row T.in_Row T.rt_Row_Row_add (to_nil (K := K) (P := fun t => PySem.W.nkRight K (He.ga K "Row") "add" t = true)))⟩ (fs_of G_Row_add) shp_sh hr2 (by decide) (takes_of rfl rfl rfl rfl) (x_cm (c := "Row") rfl (x_cls rfl (by rfl) T.g_Row) T.cr_Row T.cm_Row_of (fs_of G_Row_of) shp_sh hr2 (by decide) (takes_of rfl rfl rfl rfl) (a_cons (x_var (i := 8) rfl (by first | exact .inl rfl | exact .inr (.inl rfl) | exact .inr (.inr rfl))) a_nil)) (x_var (i := 14) rfl (by first | exact .inl rfl | exact .inr (.inl rfl) | exact .inr (.inr rfl)))))))
    (ss_cons (s_frz (i := 4) (s_if (w_pt (w_or (t_cmp (ops_neP rfl (room64 hr)) (x_var (i := 4) rfl (by first | exact .inl rfl | exact .inr (.inl rfl) | exact .inr (.inr rfl))) (x_op (ops_mul rfl) (x_lst (a_cons (x_var (i := 2) rfl (by first | exact .inl rfl | exact .inr (.inl rfl) | exact .inr (.inr rfl))) a_nil)) x_int) (nomark _)) (w_or (t_cmp (ops_neP rfl (room64 hr)) (x_callBE (ce_len (c := "Row") rfl T.own_Row_len G_Row_len shp_sh hr (by decide)) (by rfl) T.n_len (by decide +kernel) (a_cons (x_var (i := 14) rfl (by first | exact .inl rfl | exact .inr (.inl rfl) | exact .inr (.inr rfl))) a_nil)) x_int (nomark _)) (w_or1 (t_cmp (ops_neP rfl (room64 hr)) (x_callBE (ce_len (c := "Row") rfl T.own_Row_len G_Row_len shp_sh hr (by decide)) (by rfl) T.n_len (by decide +kernel) (a_cons (x_bo (c := "Row") (bi := []) (cs := ["Row"]) rfl rfl T.own_Row_add T.sf_Row ⟨(fun _ h => nomatch h), (to_cons (P := fun t => PySem.W.nkRight K (He.ga K "Row") "add" t = true) T.cl_Row T.in_Row T.rt_Row_Row_add (to_nil (K := K) (P := fun t => PySem.W.nkRight K (He.ga K "Row") "add" t = true)))⟩ (fs_of G_Row_add) shp_sh hr (by decide) (takes_of rfl rfl rfl rfl) (x_var (i := 14) rfl (by first | exact .inl rfl | exact .inr (.inl rfl) | exact .inr (.inr rfl))) (x_mk0 (c := "Row") rfl (x_cls rfl (by rfl) T.g_Row) T.mk_Row G_Row_init (shi_star 0 shi_in) hr (by decide) (takes_of rfl rfl rfl rfl))) a_nil)) x_int (nomark _))))))
    (ss_one (s_ret x_bl))
    ss_nil))
    (ss_cons (s_set (i := 5) sc_law.nd rfl (by first | exact .inl rfl | exact .inr rfl) (x_df G__law_draw shp_sh hr (by decide) (by rfl) (takes_of rfl rfl rfl rfl) (a_cons (x_var (i := 1) rfl (by first | exact .inl rfl | exact .inr (.inl rfl) | exact .inr (.inr rfl))) (a_cons (x_callB (calls_len rfl) (by rfl) T.n_len (by decide +kernel) (a_cons (x_var (i := 12) rfl (by first | exact .inl rfl | exact .inr (.inl rfl) | exact .inr (.inr rfl))) a_nil)) a_nil))))
    (ss_cons (s_set (i := 15) sc_law.nd rfl (by first | exact .inl rfl | exact .inr rfl) (x_op (ops_add rfl) (x_op (ops_add rfl) (x_sl rfl (x_var (i := 12) rfl (by first | exact .inl rfl | exact .inr (.inl rfl) | exact .inr (.inr rfl))) p_no (p_so (x_var (i := 5) rfl (by first | exact .inl rfl | exact .inr (.inl rfl) | exact .inr (.inr rfl))))) (x_lst (a_cons x_str a_nil))) (x_sl rfl (x_var (i := 12) rfl (by first | exact .inl rfl | exact .inr (.inl rfl) | exact .inr (.inr rfl))) (p_so (x_var (i := 5) rfl (by first | exact .inl rfl | exact .inr (.inl rfl) | exact .inr (.inr rfl)))) p_no)))
    (ss_cons (s_if (t_cmp (ops_neP rfl (room64 hr)) (x_lam (k := 5) rfl (fun _ => trivial) par__law_heard (by rfl) hm__law_heard hk__law_heard lk__law_heard hc__law_heard hb__law_heard sc__law_heard rfl (.inl rfl) gv__law_heard TB hcode hmT hu (hr.mono (by decide)) (LamX.lamS_by (sc := defScope s_law) (by decide +kernel)) rfl (fun _ _ _ _ _ => rfl) (fun A outer s H E f c2 hr2 => (x_cm (c := "Row") rfl (x_cls rfl (by rfl) T.g_Row) T.cr_Row T.cm_Row_of (fs_of G_Row_of) shp_sh hr2 (by decide) (takes_of rfl rfl rfl rfl) (a_cons (x_var (i := 15) rfl (by first | exact .inl rfl | exact .inr (.inl rfl) | exact .inr (.inr rfl))) a_nil)))) (x_tup (a_cons x_str (a_cons (x_var (i := 5) rfl (by first | exact .inl rfl | exact .inr (.inl rfl) | exact .inr (.inr rfl))) a_nil))) (nomark _))
    (ss_one (s_ret x_bl))
    ss_nil)
    (ss_cons (s_asg (us := [13, 11]) (x_tup (a_cons (x_pr (c := "Row") rfl (x_var (i := 14) rfl (by first | exact .inl rfl | exact .inr (.inl rfl) | exact .inr (.inr rfl))) T.cl_Row T.pr_Row_parts G_Row_parts shp_sh hr (by decide)) (a_cons (x_callTE (ce_str (c := "Row") rfl T.own_Row_str.at_ T.own_Row_str.fn G_Row_str shp_sh hr (by decide)) (by rfl) T.n_str (by decide +kernel) (a_cons (x_var (i := 14) rfl (by first | exact .inl rfl | exact .inr (.inl rfl) | exact .inr (.inr rfl))) a_nil)) a_nil))) (g_tup rfl rfl (gs_cons (g_name (i := 13) sc_law.nd rfl (by first | exact .inl rfl | exact .inr rfl)) (gs_cons (g_name (i := 11) sc_law.nd rfl (by first | exact .inl rfl | exact .inr rfl)) gs_nil)) (gl_cons (gl_cons gl_nil))))
    (ss_cons (s_own (i := 4) sc_law.nd rfl (by first | exact .inl rfl | exact .inr rfl) (f_disp (a_cons (x_lam (k := 7) rfl (fun _ => trivial) par__law_heard (by rfl) hm__law_heard hk__law_heard lk__law_heard hc__law_heard hb__law_heard sc__law_heard rfl (.inl rfl) gv__law_heard TB hcode hmT hu (hr.mono (by decide)) (LamX.lamS_by (sc := defScope s_law) (by decide +kernel)) rfl (fun _ _ _ _ _ => rfl) (fun A outer s H E f c2 hr2 => (x_cm (c := "Row") rfl (x_cls rfl (by rfl) T.g_Row) T.cr_Row T.cm_Row_from_parts (fs_of G_Row_from_parts) shp_sh hr2 (by decide) (takes_of rfl rfl rfl rfl) (a_cons (x_var (i := 13) rfl (by first | exact .inl rfl | exact .inr (.inl rfl) | exact .inr (.inr rfl))) a_nil)))) a_nil)))
    (ss_cons (s_app (i := 4) rfl (by first | exact .inl rfl | exact .inr (.inl rfl) | exact .inr (.inr rfl)) (x_lam (k := 7) rfl (fun _ => trivial) par__law_heard (by rfl) hm__law_heard hk__law_heard lk__law_heard hc__law_heard hb__law_heard sc__law_heard rfl (.inl rfl) gv__law_heard TB hcode hmT hu (hr.mono (by decide)) (LamX.lamS_by (sc := defScope s_law) (by decide +kernel)) rfl (fun _ _ _ _ _ => rfl) (fun A outer s H E f c2 hr2 => (x_cm (c := "Row") rfl (x_cls rfl (by rfl) T.g_Row) T.cr_Row T.cm_Row_read (fs_of G_Row_read) shp_sh hr2 (by decide) (takes_of rfl rfl rfl rfl) (a_cons (x_var (i := 11) rfl (by first | exact .inl rfl | exact .inr (.inl rfl) | exact .inr (.inr rfl))) a_nil)))))
    (ss_cons (s_app (i := 4) rfl (by first | exact .inl rfl | exact .inr (.inl rfl) | exact .inr (.inr rfl)) (x_lam (k := 7) rfl (fun _ => trivial) par__law_heard (by rfl) hm__law_heard hk__law_heard lk__law_heard hc__law_heard hb__law_heard sc__law_heard rfl (.inl rfl) gv__law_heard TB hcode hmT hu (hr.mono (by decide)) (LamX.lamS_by (sc := defScope s_law) (by decide +kernel)) rfl (fun _ _ _ _ _ => rfl) (fun A outer s H E f c2 hr2 => (x_cm (c := "Row") rfl (x_cls rfl (by rfl) T.g_Row) T.cr_Row T.cm_Row_from_parts (fs_of G_Row_from_parts) shp_sh hr2 (by decide) (takes_of rfl rfl rfl rfl) (a_cons (x_op (ops_add rfl) (x_var (i := 13) rfl (by first | exact .inl rfl | exact .inr (.inl rfl) | exact .inr (.inr rfl))) (x_tup (a_cons (x_tup (a_cons x_str (a_cons x_str a_nil))) a_nil))) a_nil)))))
    (ss_one (s_frz (i := 4) (s_if (w_pt (w_or (t_cmp (ops_neP rfl (room64 hr)) (x_var (i := 4) rfl (by first | exact .inl rfl | exact .inr (.inl rfl) | exact .inr (.inr rfl))) (x_lst (a_cons (x_tup (a_cons x_str (a_cons x_int a_nil))) (a_cons (x_tup (a_cons x_str (a_cons x_int a_nil))) (a_cons (x_tup (a_cons x_str (a_cons x_int a_nil))) a_nil)))) (nomark _)) (w_or1 (t_cmpE (oe_ne (c := "Row") (bi := []) (cs := ["Row"]) rfl T.eq_Row G_Row_eq shp_sh ⟨(fun _ h => nomatch h), (to_cons (P := fun t => PySem.W.notFirst K (He.ga K "Row") t = true) T.cl_Row T.in_Row T.nf_Row_Row (to_nil (K := K) (P := fun t => PySem.W.notFirst K (He.ga K "Row") t = true)))⟩ hr (by decide)) (x_cm (c := "Row") rfl (x_cls rfl (by rfl) T.g_Row) T.cr_Row T.cm_Row_read (fs_of G_Row_read) shp_sh hr (by decide) (takes_of rfl rfl rfl rfl) (a_cons (x_var (i := 11) rfl (by first | exact .inl rfl | exact .inr (.inl rfl) | exact .inr (.inr rfl))) a_nil)) (x_var (i := 14) rfl (by first | exact .inl rfl | exact .inr (.inl rfl) | exact .inr (.inr rfl))) (nomark _)))))
    (ss_one (s_ret x_bl))
    ss_nil)))))))))))))))))))))))))
    (ss_one (s_ret x_bl)))))
end

end Nk

namespace Nk
open PySem PyProof.Rows L2 Sh
/-! ### names -/
def isLet (c : Nat) : Bool := decide (97 ≤ c ∧ c ≤ 122)
def isNm (x : Str) : Bool := decide (1 ≤ x.length ∧ x.length ≤ 8) && x.cps.toList.all isLet
theorem letters_at (c : Nat) : decide (c ∈ (Str.ofString "abcdefghijklmnopqrstuvwxyz").cps.toList) = isLet c := by
  have e : (Str.ofString "abcdefghijklmnopqrstuvwxyz").cps.toList = (List.range 26).map (97 + ·) := by decide +kernel
  rw [e]
  unfold isLet
  apply Bool.eq_iff_iff.mpr
  simp only [decide_eq_true_eq, List.mem_map, List.mem_range]
  exact ⟨fun ⟨a, h, e⟩ => by omega, fun h => ⟨c - 97, by omega, by omega⟩⟩
theorem dIn_sign (c : Nat) (z : Str) : dIn (.str ⟨#[c]⟩) (.str z) = some (.bl (decide (c ∈ z.cps.toList))) := rfl
theorem bs_bl (bs : List Bool) : D.bs (bs.map D.bl) = some bs := by
  induction bs with
  | nil => rfl
  | cons b r ih => simp only [List.map_cons, D.bs, D.b, ih]
theorem dLe_ii {a b : Int} : dLe (.int a) (.int b) = some (.bl (decide (a ≤ b))) := rfl
theorem is_name_str (x : Str) (S : Store) : sh_is_name [.str x] S = .ok (.bl (isNm x)) S := by
  unfold sh_is_name pic_is_name
  simp_all_arith [isiF, show dLen [.str x] = some (.int x.length) from rfl, show ["str"].contains "str" = true from rfl]
  by_cases h1 : (1 : Int) ≤ x.length
  · by_cases h2 : (x.length : Int) ≤ 8
    · have hl : (x.cps.toList.map fun c => D.str ⟨#[c]⟩).length ≤ sizeLine := by
        rw [List.length_map]
        have : x.length = x.cps.toList.length := by simp [Str.length]
        show _ ≤ 16777216
        rw [← this]; omega
      have hm : mapA (gN 1) tYesD (eBin dIn (eVar 1) (eC (.str "abcdefghijklmnopqrstuvwxyz"))) [] (x.cps.toList.map fun c => D.str ⟨#[c]⟩) [.val (.str x), .no] S = .ok ((x.cps.toList.map isLet).map D.bl) S := by
        have := mapA_map (g := gN 1) (f := eBin dIn (eVar 1) (eC (.str "abcdefghijklmnopqrstuvwxyz"))) (e := [.val (.str x), .no]) (S := S) (fun d => match d with | .str z => .bl (isLet (z.cps.toList.headD 0)) | _ => .non) (x.cps.toList.map fun c => D.str ⟨#[c]⟩) [] (fun d hd => by
          obtain ⟨c, hc, rfl⟩ := List.mem_map.mp hd
          refine ⟨[.val (.str x), .val (.str ⟨#[c]⟩)], rfl, ?_⟩
          simp_all_arith [dIn_sign, letters_at]
          rfl)
        rw [List.nil_append, List.map_map] at this
        rw [this, List.map_map]
        rfl
      rw [List.length_map] at hl
      simp_all_arith [h1, h2, hl, hm, bs_bl, dAll_b]
      simp [isNm, h1, h2, List.all_map]
      omega
    · simp_all_arith [h1, h2]
      unfold isNm
      rw [decide_eq_false (by omega)]
      rfl
  · simp_all_arith [h1]
    unfold isNm
    rw [decide_eq_false (by omega)]
    rfl
theorem need_name_ok {x : Str} (h : isNm x = true) (S : Store) : sh_need_name [.str x] S = .ok .non S := by
  unfold sh_need_name pic_need_name
  simp_all_arith [is_name_str, h]
/-! ### words -/
abbrev Ws (ws : List Str) (l i : Nat) : Cell := .ins "Words" [("told", .lst (ws.map .str)), ("line_index", .int l), ("next_index", .int i)]
theorem atI_str {ws : List Str} {i : Nat} {w : Str} (h : ws[i]? = some w) : atI (ws.map D.str) i = some (.str w) := by
  have h2 := (List.getElem?_eq_some_iff.mp h).1
  unfold atI ixN
  rw [List.length_map, if_pos (by omega), if_pos (by omega)]
  show (ws.map D.str)[(i : Int).toNat]? = _
  simp [h]
theorem ws_told {ws : List Str} {l i : Nat} {S : Store} : D.fld ["Words"] "told" (S ++ [Ws ws l i]) (.ref S.length) = some (.lst (ws.map .str)) := by
  simp only [D.fld, app_get]
  rfl
theorem ws_next {ws : List Str} {l i : Nat} {S : Store} : D.fld ["Words"] "next_index" (S ++ [Ws ws l i]) (.ref S.length) = some (.int i) := by
  simp only [D.fld, app_get]
  rfl
theorem ws_line {ws : List Str} {l i : Nat} {S : Store} : D.fld ["Words"] "line_index" (S ++ [Ws ws l i]) (.ref S.length) = some (.int l) := by
  simp only [D.fld, app_get]
  rfl
theorem ws_isC {ws : List Str} {l i : Nat} {S : Store} {m : Str} : D.isC "Words" m (S ++ [Ws ws l i]) (.ref S.length) = (!(m == ("told" : Str)) && !(m == ("line_index" : Str)) && !(m == ("next_index" : Str))) := by
  simp only [D.isC, app_get, List.lookup, beq_self_eq_true, Bool.true_and]
  cases h1 : (m == ("told" : Str)) <;> cases h2 : (m == ("line_index" : Str)) <;> cases h3 : (m == ("next_index" : Str)) <;> rfl
theorem dEq_ii {a b : Int} : dEq (.int a) (.int b) = some (.bl (a == b)) := by
  unfold dEq dEqP D.py
  dsimp only
  rw [if_pos (by simp only [PyData.depth]; decide)]
  rfl
theorem dNe_ii {a b : Int} : dNe (.int a) (.int b) = some (.bl (!(a == b))) := by
  unfold dNe dEqP D.py
  dsimp only
  rw [if_pos (by simp only [PyData.depth]; decide)]
  rfl
theorem dEq_ss {a b : Str} : dEq (.str a) (.str b) = some (.bl (a == b)) := by
  unfold dEq dEqP D.py
  dsimp only
  rw [if_pos (by simp only [PyData.depth]; decide)]
  rfl
theorem dEq_ns {b : Str} : dEq .non (.str b) = some (.bl false) := by
  unfold dEq dEqP D.py
  dsimp only
  rw [if_pos (by simp only [PyData.depth]; decide)]
  rfl
theorem dIn_st {a : Str} {xs : List Str} : dIn (.str a) (.tup (xs.map .str)) = some (.bl (xs.any (· == a))) := by
  have h : (xs.map D.str).all D.flat = true := by simp [D.flat]
  have h2 : (xs.map D.str).any (fun y => D.eqF y (.str a)) = xs.any (· == a) := by
    rw [List.any_map]
    rfl
  show dInT false (.str a) (.tup (xs.map .str)) = _
  unfold dInT
  dsimp only
  rw [h, h2]
  rfl
theorem dNin_st {a : Str} {xs : List Str} : dNin (.str a) (.tup (xs.map .str)) = some (.bl (!xs.any (· == a))) := by
  have h : (xs.map D.str).all D.flat = true := by simp [D.flat]
  have h2 : (xs.map D.str).any (fun y => D.eqF y (.str a)) = xs.any (· == a) := by
    rw [List.any_map]
    rfl
  show dInT true (.str a) (.tup (xs.map .str)) = _
  unfold dInT
  dsimp only
  rw [h, h2]
  rfl
theorem ws_init {t : Str} {ws : List Str} (h : dSplit t (.str " ") = some (.lst (ws.map .str))) (l : Nat) (S : Store) : sh_Words_init (.ins "Words" []) [.str t, .int l] S = .ok (Ws ws l 0) S := by
  unfold sh_Words_init pic_Words_init
  simp_all_arith [isiF, show ["str"].contains "str" = true from rfl, h, putD]
  rfl
theorem ws_over (ws : List Str) (l i : Nat) (S : Store) : sh_Words_is_over [.ref S.length] (S ++ [Ws ws l i]) = .ok (.bl (decide (i = ws.length))) (S ++ [Ws ws l i]) := by
  unfold sh_Words_is_over pic_Words_is_over
  simp_all_arith [ws_told, ws_next, dEq_ii, List.length_map]
  congr 2
  by_cases h : i = ws.length
  · simp [h]
  · simp [h]; omega
theorem ws_up (ws : List Str) (l i : Nat) (S : Store) (h : i ≤ ws.length) : sh_Words_upcoming [.ref S.length] (S ++ [Ws ws l i]) = .ok (match ws[i]? with | some w => .str w | none => .non) (S ++ [Ws ws l i]) := by
  unfold sh_Words_upcoming pic_Words_upcoming
  by_cases h2 : i = ws.length
  · subst h2
    simp_all_arith [ws_isC, ws_over]
    simp
  · obtain ⟨w, hw⟩ : ∃ w, ws[i]? = some w := ⟨ws[i], List.getElem?_eq_getElem (by omega)⟩
    simp_all_arith [ws_isC, ws_over, h2, ws_told, ws_next, atI_str hw, hw]
theorem ws_skip (ws : List Str) (l i : Nat) (w : Str) (S : Store) (h : ws[i]? = some w) : sh_Words_skip [.ref S.length] (S ++ [Ws ws l i]) = .ok (.str w) (S ++ [Ws ws l (i + 1)]) := by
  have h2 := (List.getElem?_eq_some_iff.mp h).1
  unfold sh_Words_skip pic_Words_skip
  have e : ((i : Int) + 1 - 1) = i := by omega
  have e2 : ((i : Int) + 1) = ((i + 1 : Nat) : Int) := by omega
  have h3 : i ≠ ws.length := by omega
  have e3 : ((i + 1 : Nat) : Int) - 1 = i := by omega
  simp_all_arith [ws_isC, ws_over, h3, app_get, app_set, putD, e2, ws_told, ws_next]
  simp_all_arith [e3, atI_str h]
theorem ws_take_of (ws : List Str) (l i : Nat) (w : Str) (xs : List Str) (S : Store) (h : ws[i]? = some w) (hx : xs.any (· == w) = true) : sh_Words_take_of [.ref S.length, .tup (xs.map .str)] (S ++ [Ws ws l i]) = .ok (.str w) (S ++ [Ws ws l (i + 1)]) := by
  have h2 := (List.getElem?_eq_some_iff.mp h).1
  unfold sh_Words_take_of pic_Words_take_of
  simp_all_arith [ws_isC, ws_up ws l i S (by omega), h, dNin_st, hx, ws_skip ws l i w S h]
theorem ws_take_name (ws : List Str) (l i : Nat) (w : Str) (S : Store) (h : ws[i]? = some w) (hx : isNm w = true) : sh_Words_take_name [.ref S.length] (S ++ [Ws ws l i]) = .ok (.str w) (S ++ [Ws ws l (i + 1)]) := by
  have h2 := (List.getElem?_eq_some_iff.mp h).1
  unfold sh_Words_take_name pic_Words_take_name
  simp_all_arith [ws_isC, ws_up ws l i S (by omega), h, is_name_str, hx, ws_skip ws l i w S h]
end Nk

namespace Nk
open PySem PyProof.Rows L2 Sh
/-- the pen -/
def pen (xs : List Int) (at_ gr : Int) : Cell := .lst [.lst (xs.map .int), .int at_, .int gr]
theorem dNe_nil {xs : List Int} : dNe (.lst (xs.map D.int)) (.lst []) = some (.bl (!xs.isEmpty)) := by
  unfold dNe dEqP D.py
  rw [pys_ints]
  show (if _ then some (D.bl (!PyData.eqv (.list (xs.map PyData.int)) (.list []))) else none) = _
  have hd : (PyData.list (xs.map PyData.int)).depth ≤ 60 := by
    have : ∀ ys : List Int, PyData.depthAll (ys.map PyData.int) ≤ 1 := fun ys => by
      induction ys with
      | nil => decide
      | cons y r ih => simp only [List.map_cons, PyData.depthAll, PyData.depth]; omega
    have := this xs
    simp only [PyData.depth]
    omega
  rw [if_pos hd]
  cases xs with
  | nil => rfl
  | cons x r => rfl
theorem at_some {xs : List Int} {k : Int} (h0 : 0 ≤ k) (h : k < xs.length) : ∃ c, atI (xs.map D.int) k = some (.int c) := by
  unfold atI ixN
  rw [List.length_map, if_pos h0, if_pos h]
  have h2 : k.toNat < xs.length := by omega
  exact ⟨xs[k.toNat], by simp [h2]⟩
theorem draw (xs : List Int) (at_ gr many : Int) (T : Store) (h0 : 0 ≤ at_) (h1 : at_ ≤ 100000) (m0 : 0 < many) (m1 : many < 2 ^ 60) (hx : xs.length ≤ 63) :
    ∃ r a g, sh__law_draw [.ref 0, .int many] (pen xs at_ gr :: T) = .ok (.int r) (pen xs a g :: T) ∧ 0 ≤ r ∧ r < many ∧ at_ ≤ a ∧ a ≤ at_ + 1 := by
  unfold sh__law_draw pic__law_draw pen
  simp_all_arith
  by_cases hg : 0 < gr
  · simp_all_arith [decide_eq_true hg]
    exact ⟨_, _, _, rfl, Int.emod_nonneg _ (by omega), Int.emod_lt_of_pos _ m0, Int.le_refl _, by omega⟩
  · simp_all_arith [decide_eq_false hg]
    have e := dNe_nil (xs := xs)
    have hlm : (xs.map D.int).length = xs.length := List.length_map ..
    have mix : ∀ (c : Int), ∃ r, (pic__law_draw_mix [Sl.val (D.ref 0), Sl.val (D.int many), Sl.no, Sl.val (D.int at_), Sl.val (D.int c), Sl.no, Sl.no] (Cell.lst [D.lst (List.map D.int xs), D.int (at_ + 1), D.int gr] :: T)).res = R.ok (D.int r) (Cell.lst [D.lst (List.map D.int xs), D.int (at_ + 1), D.int gr] :: T) ∧ 0 ≤ r ∧ r < many := by
      intro c
      unfold pic__law_draw_mix
      simp_all_arith
      generalize hm : (c % 2147483549 + 60963 * at_ + 2657) ^ 5 % 2147483629 = m
      have hm0 : 0 ≤ m ∧ m < 2147483629 := by rw [← hm]; exact ⟨Int.emod_nonneg _ (by decide), Int.emod_lt_of_pos _ (by decide)⟩
      have h3 : m * (2 * at_ + 567) ≤ 2147483629 * 200567 := Int.mul_le_mul (by omega) (by omega) (by omega) (by omega)
      have h4 : 0 ≤ m * (2 * at_ + 567) := Int.mul_nonneg (by omega) (by omega)
      have h5 : 67709 * at_ * at_ ≤ (67709 * 100000) * 100000 := Int.mul_le_mul (by omega) (by omega) (by omega) (by omega)
      have h6 : 0 ≤ 67709 * at_ * at_ := Int.mul_nonneg (by omega) (by omega)
      try simp_all_arith
      exact ⟨_, rfl, Int.emod_nonneg _ (by omega), Int.emod_lt_of_pos _ m0⟩
    have tail : ∀ (c : Int), ∃ r a g, (pic__law_draw_tail [Sl.val (D.ref 0), Sl.val (D.int many), Sl.no, Sl.val (D.int at_), Sl.val (D.int c), Sl.no, Sl.no] (Cell.lst [D.lst (List.map D.int xs), D.int (at_ + 1), D.int gr] :: T)).res = R.ok (D.int r) (Cell.lst [D.lst (List.map D.int xs), D.int a, D.int g] :: T) ∧ 0 ≤ r ∧ r < many ∧ at_ ≤ a ∧ a ≤ at_ + 1 := by
      intro c
      unfold pic__law_draw_tail
      simp_all_arith [hlm]
      have fin : ∃ r a g, (pic__law_draw_mix [Sl.val (D.ref 0), Sl.val (D.int many), Sl.no, Sl.val (D.int at_), Sl.val (D.int c), Sl.no, Sl.no] (Cell.lst [D.lst (List.map D.int xs), D.int (at_ + 1), D.int gr] :: T)).res = R.ok (D.int r) (Cell.lst [D.lst (List.map D.int xs), D.int a, D.int g] :: T) ∧ 0 ≤ r ∧ r < many ∧ at_ ≤ a ∧ a ≤ at_ + 1 := by
        obtain ⟨r, h1, h2, h3⟩ := mix c
        exact ⟨r, _, _, h1, h2, h3, by omega, by omega⟩
      by_cases h : at_ < (xs.length : Int)
      · by_cases h' : (10 : Int) ^ 18 ≤ (if c < 0 then -c else c)
        · simp_all_arith [decide_eq_true h, decide_eq_true h']
          exact ⟨_, _, _, rfl, Int.emod_nonneg _ (by omega), Int.emod_lt_of_pos _ m0, by omega, by omega⟩
        · simp_all_arith [decide_eq_true h, decide_eq_false h']
          exact fin
      · simp_all_arith [decide_eq_false h]
        exact fin
    by_cases hx0 : xs = []
    · have e2 : xs.isEmpty = true := by rw [hx0]; rfl
      simp_all_arith [e, e2]
      exact tail _
    · have e2 : xs.isEmpty = false := by simpa using hx0
      have hl : 0 < xs.length := List.length_pos_iff.mpr hx0
      obtain ⟨c, hc⟩ := at_some (xs := xs) (k := at_ % xs.length) (Int.emod_nonneg _ (by omega)) (Int.emod_lt_of_pos _ (by omega))
      simp_all_arith [e, e2, hlm, hc]
      exact tail _
theorem pick (xs : List Int) (at_ gr : Int) (T : Store) (ds : List D) (h0 : 0 ≤ at_) (h1 : at_ ≤ 100000) (hx : xs.length ≤ 63) (hd : 0 < ds.length) (hl : ds.length < 2 ^ 60) :
    ∃ d a g, d ∈ ds ∧ sh__law_pick [.ref 0, .lst ds] (pen xs at_ gr :: T) = .ok d (pen xs a g :: T) ∧ at_ ≤ a ∧ a ≤ at_ + 1 := by
  unfold sh__law_pick pic__law_pick
  obtain ⟨r, a, g, e, r0, r1, a0, a1⟩ := draw xs at_ gr ds.length T h0 h1 (by omega) (by omega) hx
  simp_all_arith [e]
  have : ∃ d, d ∈ ds ∧ atI ds r = some d := by
    unfold atI ixN
    rw [if_pos r0, if_pos r1]
    have h2 : r.toNat < ds.length := by omega
    exact ⟨ds[r.toNat], List.getElem_mem h2, by simp [h2]⟩
  obtain ⟨d, hd, hi⟩ := this
  simp_all_arith [hi]
  exact ⟨d, a, g, hd, rfl, a0, a1⟩

end Nk

namespace Nk
open PySem PyProof.Rows L2 Sh
/-! ### deeds -/
inductive Dd where
  | co (k : Str) | go (k b : Str)
def Dd.d : Dd → D
  | .co k => .obj "Come" [("kind", .str k)]
  | .go k b => .obj "Go" [("kind", .str k), ("bay", .str b)]
def Dd.ok : Dd → Bool
  | .co k => isNm k
  | .go k b => isNm k && isNm b
def Dd.wd : Dd → List Str
  | .co k => ["come", k]
  | .go k b => ["go", k, b]
def Dd.tx : Dd → Str
  | .co k => "come " ++ k
  | .go k b => "go " ++ k ++ " " ++ b
def Dd.pt : Dd → D
  | .co k => .tup [.str "come", .str k]
  | .go k b => .tup [.str "go", .str k, .str b]
theorem isNm_len {x : Str} (h : isNm x = true) : 1 ≤ x.length ∧ x.length ≤ 8 := by
  unfold isNm at h
  rw [Bool.and_eq_true, decide_eq_true_eq] at h
  exact h.1
theorem come_i {k : Str} (h : isNm k = true) (S : Store) : sh_Come_init (.ins "Come" []) [.str k] S = .ok (.ins "Come" [("kind", .str k)]) S := by
  unfold sh_Come_init pic_Come_init
  simp_all_arith [need_name_ok h]
theorem go_i {k b : Str} (h : isNm k = true) (h2 : isNm b = true) (S : Store) : sh_Go_init (.ins "Go" []) [.str k, .str b] S = .ok (.ins "Go" [("kind", .str k), ("bay", .str b)]) S := by
  unfold sh_Go_init pic_Go_init
  simp_all_arith [need_name_ok h, need_name_ok h2]
theorem str_len_app (x y : Str) : (x ++ y).length = x.length + y.length := by
  rw [TL.len_tl, TL.tl_append, List.length_append, ← TL.len_tl, ← TL.len_tl]
theorem come_str {k : Str} (h : isNm k = true) (S : Store) : sh_Come_str [(Dd.co k).d] S = .ok (.str (Dd.co k).tx) S := by
  have := isNm_len h
  have e : (Str.ofString "come ").length = 5 := by decide +kernel
  unfold sh_Come_str pic_Come_str Dd.d Dd.tx
  simp_all_arith [fld_obj, Nk.str_nil, str_len_app, e]
theorem go_str {k b : Str} (h : isNm k = true) (h2 : isNm b = true) (S : Store) : sh_Go_str [(Dd.go k b).d] S = .ok (.str (Dd.go k b).tx) S := by
  have := isNm_len h
  have := isNm_len h2
  have e : (Str.ofString "go ").length = 3 := by decide +kernel
  have e2 : (Str.ofString " ").length = 1 := by decide +kernel
  unfold sh_Go_str pic_Go_str Dd.d Dd.tx
  simp_all_arith [fld_obj, Nk.str_nil, str_len_app, e, e2]
theorem come_parts {k : Str} (S : Store) : sh_Come_parts [(Dd.co k).d] S = .ok (Dd.co k).pt S := by
  unfold sh_Come_parts pic_Come_parts Dd.d Dd.pt
  simp_all_arith [fld_obj]
theorem go_parts {k b : Str} (S : Store) : sh_Go_parts [(Dd.go k b).d] S = .ok (Dd.go k b).pt S := by
  unfold sh_Go_parts pic_Go_parts Dd.d Dd.pt
  simp_all_arith [fld_obj]
theorem drop_cons {α : Type} {ws : List α} {i : Nat} {x : α} {r : List α} (h : ws.drop i = x :: r) : ws[i]? = some x ∧ ws.drop (i + 1) = r := by
  constructor
  · have := congrArg (·[0]?) h
    simpa using this
  · rw [← List.drop_drop, h]; rfl
theorem ofS_ne {a b : String} (h : (a == b) = false) : (Str.ofString a == Str.ofString b) = false := by rw [ofStr_beq, h]
theorem deed_take (x : Dd) (hx : x.ok = true) (ws : List Str) (l i : Nat) (S : Store) (r : List Str) (h : ws.drop i = x.wd ++ r) : sh_take_deed [.ref S.length] (S ++ [Ws ws l i]) = .ok x.d (S ++ [Ws ws l (i + x.wd.length)]) ∧ ws.drop (i + x.wd.length) = r := by
  cases x with
  | co k =>
    obtain ⟨h1, h2⟩ := drop_cons h
    obtain ⟨h3, h4⟩ := drop_cons h2
    refine ⟨?_, h4⟩
    have t := ws_take_of ws l i "come" ["come", "go"] S h1 (by decide +kernel)
    rw [show (["come", "go"] : List Str).map D.str = [D.str "come", D.str "go"] from rfl] at t
    unfold sh_take_deed pic_take_deed
    simp_all_arith [ws_isC, t, ws_take_name ws l (i + 1) k S h3 hx, come_i hx]
    rfl
  | go k b =>
    obtain ⟨h1, h2⟩ := drop_cons h
    obtain ⟨h3, h4⟩ := drop_cons h2
    obtain ⟨h5, h6⟩ := drop_cons h4
    refine ⟨?_, h6⟩
    have hx := Bool.and_eq_true_iff.mp hx
    have t := ws_take_of ws l i "go" ["come", "go"] S h1 (by decide +kernel)
    rw [show (["come", "go"] : List Str).map D.str = [D.str "come", D.str "go"] from rfl] at t
    unfold sh_take_deed pic_take_deed
    simp_all_arith [ws_isC, t, ws_take_name ws l (i + 1) k S h3 hx.1, ws_take_name ws l (i + 1 + 1) b S h5 hx.2, go_i hx.1 hx.2]
    rfl
theorem name_pair (a b : Str) (S : Store) : sh_is_name_pair [.tup [.str a, .str b]] S = .ok (.bl (isNm a && isNm b)) S := by
  unfold sh_is_name_pair pic_is_name_pair
  simp_all_arith [is_name_str]
  cases isNm a <;> simp_all_arith []
theorem deed_pt (x : Dd) (hx : x.ok = true) (S : Store) : sh_deed_of [x.pt] S = .ok x.d S := by
  cases x with
  | co k =>
    unfold sh_deed_of pic_deed_of Dd.pt Dd.d
    simp_all_arith [mapA_cons, is_name_str, show isNm k = true from hx, come_i (show isNm k = true from hx), dAll_b, D.bs]
  | go k b =>
    have hx := Bool.and_eq_true_iff.mp hx
    unfold sh_deed_of pic_deed_of Dd.pt Dd.d
    simp_all_arith [mapA_cons, is_name_str, hx.1, hx.2, go_i hx.1 hx.2, dAll_b, D.bs, name_pair, List.drop_succ_cons, List.drop_zero]
end Nk

namespace Nk
open PySem PyProof.Rows L2 Sh
/-! ### rows -/
abbrev dds (xs : List Dd) : List D := xs.map Dd.d
abbrev RwD (xs : List Dd) : D := .obj "Row" [("deeds", .tup (dds xs))]
abbrev TMr : Exn := ⟨"TooMany", [("most", .int 2000), ("what", .str "deeds")]⟩
theorem dd_isi (x : Dd) (r : Bool) : isiF [] [("Come", true), ("Go", true), ("Row", r)] x.d = some true := by cases x <;> rfl
theorem row_loop (c : Cell) (t : D) (S : Store) (rest : List D) : ∀ (xs : List Dd) (n : Nat) (x y : Sl), x.free = true → y.free = true → ∃ x' y', x'.free = true ∧ y'.free = true ∧
    forD (gT (gsCons (gN 2) (gsCons (gN 3) gsNil))) (sIf (tNt (tVal (eIsi [] [("Come", true), ("Go", true), ("Row", false)] (eVar 3)))) (sRs "BadDeed" ["at"] (aCons (eVar 2) aNil)) sNil) (enumF n (dds xs ++ rest)) [.own c, .val t, x, y] S =
    forD (gT (gsCons (gN 2) (gsCons (gN 3) gsNil))) (sIf (tNt (tVal (eIsi [] [("Come", true), ("Go", true), ("Row", false)] (eVar 3)))) (sRs "BadDeed" ["at"] (aCons (eVar 2) aNil)) sNil) (enumF (n + xs.length) rest) [.own c, .val t, x', y'] S
  | [], n, x, y, hx, hy => ⟨x, y, hx, hy, rfl⟩
  | d :: xs, n, x, y, hx, hy => by
    obtain ⟨x', y', hx', hy', e⟩ := row_loop c t S rest xs (n + 1) (.val (.int n)) (.val d.d) rfl rfl
    refine ⟨x', y', hx', hy', ?_⟩
    rw [show n + (d :: xs).length = n + 1 + xs.length from by rw [List.length_cons]; omega, ← e]
    show forD _ _ (.tup [.int n, d.d] :: enumF (n + 1) (dds xs ++ rest)) _ S = _
    rw [Sh.forD_cons]
    simp_all_arith [hx, hy, dd_isi]
theorem row_i (xs : List Dd) (S : Store) : sh_Row_init (.ins "Row" []) [.tup (dds xs)] S = if xs.length ≤ 2000 then .ok (.ins "Row" [("deeds", .tup (dds xs))]) S else .er TMr S := by
  unfold sh_Row_init pic_Row_init
  obtain ⟨x', y', hx, hy, e⟩ := row_loop (.ins "Row" []) (.tup (dds xs)) S [] xs 0 .no .no rfl rfl
  rw [List.append_nil] at e
  by_cases hl : xs.length ≤ 2000
  · simp_all_arith [e, enumF, hl, decide_eq_false (show ¬ (2000 : Int) < xs.length by omega)]
  · simp_all_arith [e, enumF, hl, decide_eq_true (show (2000 : Int) < xs.length by omega), ap_sRs]
    rfl
theorem row_bad (us : List Dd) (z : D) (r : List D) (S : Store) (hz : isiF [] [("Come", true), ("Go", true), ("Row", false)] z = some false) : sh_Row_init (.ins "Row" []) [.tup (dds us ++ z :: r)] S = .er ⟨"BadDeed", [("at", .int us.length)]⟩ S := by
  unfold sh_Row_init pic_Row_init
  obtain ⟨x', y', hx, hy, e⟩ := row_loop (.ins "Row" []) (.tup (dds us ++ z :: r)) S (z :: r) us 0 .no .no rfl rfl
  simp_all_arith [e, enumF, Sh.forD_cons, hx, hy, hz]
  rfl
theorem row_of (xs : List Dd) (S : Store) (h : xs.length ≤ 90000) : sh_Row_of [.cls "Row", .lst (dds xs)] S = if xs.length ≤ 2000 then .ok (RwD xs) S else .er TMr S := by
  unfold sh_Row_of pic_Row_of
  simp_all_arith [row_i]
  by_cases hl : xs.length ≤ 2000 <;> simp_all_arith [hl]
theorem row_of_bad (us : List Dd) (z : D) (r : List D) (S : Store) (hz : isiF [] [("Come", true), ("Go", true), ("Row", false)] z = some false) (h : us.length + r.length ≤ 90000) : sh_Row_of [.cls "Row", .lst (dds us ++ z :: r)] S = .er ⟨"BadDeed", [("at", .int us.length)]⟩ S := by
  unfold sh_Row_of pic_Row_of
  simp_all_arith [row_bad us z r S hz]
theorem dds_app (xs ys : List Dd) : dds xs ++ dds ys = dds (xs ++ ys) := (List.map_append ..).symm
theorem row_add (xs ys : List Dd) (S : Store) (h : xs.length + ys.length ≤ 90000) : sh_Row_add [RwD xs, RwD ys] S = if xs.length + ys.length ≤ 2000 then .ok (RwD (xs ++ ys)) S else .er TMr S := by
  unfold sh_Row_add pic_Row_add
  simp_all_arith [dds_app, row_i]
  by_cases hl : xs.length + ys.length ≤ 2000 <;> simp_all_arith [hl]
theorem row_add1 (xs : List Dd) (y : Dd) (S : Store) (h : xs.length ≤ 80000) : sh_Row_add [RwD xs, y.d] S = if xs.length + 1 ≤ 2000 then .ok (RwD (xs ++ [y])) S else .er TMr S := by
  rw [show RwD (xs ++ [y]) = .obj "Row" [("deeds", .tup (dds xs ++ [y.d]))] by simp]
  unfold sh_Row_add pic_Row_add
  have := row_i (xs ++ [y]) S
  rw [show dds (xs ++ [y]) = dds xs ++ [y.d] by simp, List.length_append, List.length_singleton] at this
  simp_all_arith [dd_isi, this]
  by_cases hl : xs.length ≤ 1999 <;> simp_all_arith [hl]
theorem row_len (xs : List Dd) (S : Store) : sh_Row_len [RwD xs] S = .ok (.int xs.length) S := by
  unfold sh_Row_len pic_Row_len
  simp_all_arith
theorem cLen_row (xs : List Dd) (S : Store) (h : xs.length ≤ 90000) : cLen "Row" sh_Row_len [RwD xs] S = .ok (.int xs.length) S := by
  unfold cLen
  simp_all_arith [row_len]
theorem dd_parts (x : Dd) (e : En) (S : Store) (he : e[1]? = some (.val x.d)) : eAlt (ePr "Come" sh_Come_parts (eVar 1)) (ePr "Go" sh_Go_parts (eVar 1)) e S = .ok x.pt S := by
  cases x with
  | co k => 
    have := come_parts (k := k) S
    unfold Dd.d at this he
    simp_all_arith [he, this]
  | go k b => 
    have := go_parts (k := k) (b := b) S
    unfold Dd.d at this he
    simp_all_arith [he, this]
theorem row_parts (xs : List Dd) (S : Store) (h : xs.length ≤ 90000) : sh_Row_parts [RwD xs] S = .ok (.tup (xs.map Dd.pt)) S := by
  unfold sh_Row_parts pic_Row_parts
  have m := mapA_enc (g := gN 1) (f := eAlt (ePr "Come" sh_Come_parts (eVar 1)) (ePr "Go" sh_Go_parts (eVar 1))) (e := [.val (RwD xs), .no]) (S := S) Dd.d Dd.pt xs [] (fun x _ => ⟨[.val (RwD xs), .val x.d], by simp_all_arith, dd_parts x _ S rfl⟩)
  simp_all_arith [m]
theorem dd_str (x : Dd) (hx : x.ok = true) (e : En) (S : Store) (he : e[1]? = some (.val x.d)) : eCallE (cOr (cStr "Come" sh_Come_str) (cStr "Go" sh_Go_str)) (aCons (eVar 1) aNil) e S = .ok (.str x.tx) S := by
  cases x with
  | co k => 
    have := come_str (show isNm k = true from hx) S
    unfold Dd.d at this he
    simp_all_arith [he, this, cOr, cStr]
  | go k b =>
    have hx := Bool.and_eq_true_iff.mp hx
    have := go_str hx.1 hx.2 S
    unfold Dd.d at this he
    simp_all_arith [he, this, cOr, cStr]
theorem tx_len (x : Dd) (hx : x.ok = true) : x.tx.length ≤ 20 := by
  cases x with
  | co k =>
    have := isNm_len (show isNm k = true from hx)
    have e : (Str.ofString "come ").length = 5 := by decide +kernel
    unfold Dd.tx
    rw [str_len_app, e]; omega
  | go k b =>
    have hx := Bool.and_eq_true_iff.mp hx
    have := isNm_len hx.1
    have := isNm_len hx.2
    have e : (Str.ofString "go ").length = 3 := by decide +kernel
    have e2 : (Str.ofString " ").length = 1 := by decide +kernel
    unfold Dd.tx
    rw [str_len_app, str_len_app, str_len_app, e, e2]; omega
def OkR (xs : List Dd) : Prop := ∀ x ∈ xs, x.ok = true
theorem txs_len (xs : List Dd) (h : OkR xs) : ((xs.map Dd.tx).map (·.length)).sum ≤ 20 * xs.length := by
  induction xs with
  | nil => simp
  | cons x r ih =>
    have := ih fun y hy => h y (List.mem_cons_of_mem _ hy)
    have := tx_len x (h x List.mem_cons_self)
    simp only [List.map_cons, List.sum_cons, List.length_cons] at *
    omega
def rtx (xs : List Dd) : Str := Txt.join " ; " (xs.map Dd.tx)
theorem row_str (xs : List Dd) (S : Store) (h : xs.length ≤ 90000) (hx : OkR xs) (h0 : xs ≠ []) : sh_Row_str [RwD xs] S = .ok (.str (rtx xs)) S := by
  unfold sh_Row_str pic_Row_str
  have hl : 0 < xs.length := List.length_pos_iff.mpr h0
  have hp : ((xs.length : Int) == 0) = false := by simp; omega
  have m := mapA_enc (g := gN 1) (f := eCallE (cOr (cStr "Come" sh_Come_str) (cStr "Go" sh_Go_str)) (aCons (eVar 1) aNil)) (e := [.val (RwD xs), .no]) (S := S) Dd.d (fun x => .str x.tx) xs [] (fun x hx2 => ⟨[.val (RwD xs), .val x.d], by simp_all_arith, dd_str x (hx x hx2) _ S rfl⟩)
  have e3 : (Str.ofString " ; ").length = 3 := by decide +kernel
  have hs := txs_len xs hx
  rw [show (xs.map fun x => D.str x.tx) = (xs.map Dd.tx).map D.str by rw [List.map_map]; rfl] at m
  have j : dJoin " ; " (.lst ((xs.map Dd.tx).map D.str)) = some (.str (rtx xs)) := by
    unfold dJoin
    dsimp only
    rw [Sh.strs_map]
    dsimp only
    rw [if_pos (by rw [e3, List.length_map]; omega)]
    rfl
  simp_all_arith [hp, m, j]
theorem come_eq {k k' : Str} (S : Store) : sh_Come_eq [(Dd.co k).d, (Dd.co k').d] S = .ok (.bl (k == k')) S := by
  unfold sh_Come_eq pic_Come_eq Dd.d
  simp_all_arith
theorem go_eq {k b k' b' : Str} (S : Store) : sh_Go_eq [(Dd.go k b).d, (Dd.go k' b').d] S = .ok (.bl (k == k' && b == b')) S := by
  unfold sh_Go_eq pic_Go_eq Dd.d
  simp_all_arith
  cases k == k' <;> simp_all_arith
theorem eqO_self (x : Dd) : eqO [("Come", sh_Come_eq), ("Go", sh_Go_eq)] x.d x.d = true := by
  cases x with
  | co k =>
    have := come_eq (k := k) (k' := k) []
    unfold Dd.d at this ⊢
    unfold eqO
    simp only [List.lookup, beq_self_eq_true, Bool.true_and, this]
    simp only [D.pureD, D.puresF, Bool.and_self]
  | go k b =>
    have := go_eq (k := k) (k' := k) (b := b) (b' := b) []
    unfold Dd.d at this ⊢
    unfold eqO
    simp only [List.lookup, beq_self_eq_true, Bool.true_and, this, show (("Go" : String) == "Come") = false from rfl]
    simp only [D.pureD, D.puresF, Bool.and_self]
theorem eqOs_self (xs : List Dd) : eqOs [("Come", sh_Come_eq), ("Go", sh_Go_eq)] (dds xs) (dds xs) = true := by
  induction xs with
  | nil => rfl
  | cons x r ih =>
    show (eqO _ x.d x.d && eqOs _ (dds r) (dds r)) = true
    rw [eqO_self, ih]
    rfl
theorem row_eq_self (xs : List Dd) (S : Store) : sh_Row_eq [RwD xs, RwD xs] S = .ok (.bl true) S := by
  unfold sh_Row_eq pic_Row_eq
  simp_all_arith [oTupO, eqOs_self]
theorem parts_of (xs : List Dd) (S : Store) (hx : OkR xs) : sh_Row_from_parts [.cls "Row", .tup (xs.map Dd.pt)] S = if xs.length ≤ 2000 then .ok (RwD xs) S else .er ⟨"BadTable", [("value", .tup (xs.map Dd.pt))]⟩ S := by
  unfold sh_Row_from_parts pic_Row_from_parts
  by_cases hl : xs.length ≤ 2000
  · have m := mapA_enc (g := gN 3) (f := eDf sh_deed_of (aCons (eVar 3) aNil)) (e := [.val (.cls "Row"), .val (.tup (xs.map Dd.pt)), .no, .no, .no]) (S := S) Dd.pt Dd.d xs [] (fun x hx2 => ⟨[.val (.cls "Row"), .val (.tup (xs.map Dd.pt)), .no, .val x.pt, .no], by simp_all_arith, by simp_all_arith [deed_pt x (hx x hx2)]⟩)
    have m2 := mapA_enc (g := gN 4) (f := eBin dIs (eVar 4) (eC .non)) (e := [.val (.cls "Row"), .val (.tup (xs.map Dd.pt)), .val (.lst (dds xs)), .no, .no]) (S := S) Dd.d (fun _ => .bl false) xs [] (fun x hx2 => ⟨[.val (.cls "Row"), .val (.tup (xs.map Dd.pt)), .val (.lst (dds xs)), .no, .val x.d], by simp_all_arith, by cases x <;> simp_all_arith [Dd.d]⟩)
    rw [show (xs.map fun _ => D.bl false) = (xs.map fun _ => false).map D.bl by rw [List.map_map]; rfl] at m2
    have ha : (xs.map fun _ => false).any id = false := by simp
    simp_all_arith [decide_eq_false (show ¬ (2000 : Int) < xs.length by omega), m, m2, dAny_b, bs_bls, ha, row_i, hl]
  · simp_all_arith [decide_eq_true (show (2000 : Int) < xs.length by omega), hl]
    rfl
end Nk

namespace Nk
open PySem PyProof.Rows L2 Sh
/-! ### rows read -/
def tailW (xs : List Dd) : List Str := xs.flatMap fun x => (";" : Str) :: x.wd
theorem glue_tail (x : Dd) : ∀ r : List Dd, glue (";" : Str) ((x :: r).map Dd.wd) = x.wd ++ tailW r
  | [] => by simp [glue, tailW]
  | y :: r => by
    show x.wd ++ (";" : Str) :: glue (";" : Str) ((y :: r).map Dd.wd) = _
    rw [glue_tail y r]
    simp [tailW]
theorem tl_tx (x : Dd) : TL.tl x.tx = TL.joinL [32] (x.wd.map TL.tl) := by
  have e1 : TL.tl (Str.ofString "come ") = TL.tl (Str.ofString "come") ++ [32] := by decide +kernel
  have e2 : TL.tl (Str.ofString "go ") = TL.tl (Str.ofString "go") ++ [32] := by decide +kernel
  have e3 : TL.tl (Str.ofString " ") = [32] := by decide +kernel
  cases x with
  | co k => simp only [Dd.tx, Dd.wd, TL.tl_append, e1, List.map_cons, List.map_nil, TL.joinL, List.append_assoc]
  | go k b => simp only [Dd.tx, Dd.wd, TL.tl_append, e2, e3, List.map_cons, List.map_nil, TL.joinL, List.append_assoc]
theorem wd_ne (x : Dd) : x.wd ≠ [] := by cases x <;> simp [Dd.wd]
theorem let_free {x : Str} (h : isNm x = true) : 32 ∉ x.cps.toList := by
  unfold isNm at h
  rw [Bool.and_eq_true] at h
  intro hm
  have := List.all_eq_true.mp h.2 32 hm
  revert this
  decide
theorem wd_free (x : Dd) (hx : x.ok = true) : ∀ w ∈ x.wd, 32 ∉ w.cps.toList := by
  have e1 : 32 ∉ (Str.ofString "come").cps.toList := by decide +kernel
  have e2 : 32 ∉ (Str.ofString "go").cps.toList := by decide +kernel
  cases x with
  | co k =>
    intro w hw
    rcases List.mem_cons.mp hw with rfl | hw
    · exact e1
    rcases List.mem_cons.mp hw with rfl | hw
    · exact let_free hx
    · cases hw
  | go k b =>
    have hx := Bool.and_eq_true_iff.mp hx
    intro w hw
    rcases List.mem_cons.mp hw with rfl | hw
    · exact e2
    rcases List.mem_cons.mp hw with rfl | hw
    · exact let_free hx.1
    rcases List.mem_cons.mp hw with rfl | hw
    · exact let_free hx.2
    · cases hw
theorem tl_rtx (xs : List Dd) : rtx xs = Txt.join " " (glue (";" : Str) (xs.map Dd.wd)) := by
  apply TL.ext_tl
  have e32 : TL.tl (Str.ofString " ") = [32] := by decide +kernel
  have e59 : TL.tl (Str.ofString ";") = [59] := by decide +kernel
  have e3 : TL.tl (Str.ofString " ; ") = [32] ++ [59] ++ [32] := by decide +kernel
  unfold rtx
  rw [TL.join_eq, TL.join_eq, TL.tl_join, TL.tl_join, e32, e3, map_glue, e59, List.map_map, List.map_map]
  rw [← joinL_glue [32] [59] _ (fun y hy => by
    obtain ⟨x, _, rfl⟩ := List.mem_map.mp hy
    show x.wd.map TL.tl ≠ []
    simpa using wd_ne x), List.map_map]
  congr 1
  apply List.map_congr_left
  intro x _
  exact tl_tx x
theorem rtx_split (xs : List Dd) (hx : OkR xs) (h0 : xs ≠ []) : Txt.split (rtx xs) " " = glue (";" : Str) (xs.map Dd.wd) := by
  rw [tl_rtx]
  refine Nk.split_join ?_ ?_
  · exact glue_ne (by simpa using h0) fun y hy => by
      obtain ⟨x, _, rfl⟩ := List.mem_map.mp hy
      exact wd_ne x
  · have e1 : 32 ∉ (Str.ofString ";").cps.toList := by decide +kernel
    have : ∀ l : List (List Str), (∀ y ∈ l, ∀ w ∈ y, 32 ∉ w.cps.toList) → ∀ w ∈ glue (";" : Str) l, 32 ∉ w.cps.toList := by
      intro l
      induction l with
      | nil => intro _ w hw; cases hw
      | cons y r ih =>
        intro h w hw
        cases r with
        | nil => exact h y List.mem_cons_self w hw
        | cons z r =>
          rcases List.mem_append.mp (show w ∈ y ++ (";" : Str) :: glue (";" : Str) (z :: r) from hw) with hw | hw
          · exact h y List.mem_cons_self w hw
          · rcases List.mem_cons.mp hw with rfl | hw
            · exact e1
            · exact ih (fun y hy => h y (List.mem_cons_of_mem _ hy)) w hw
    refine this _ fun y hy w hw => ?_
    obtain ⟨x, hx2, rfl⟩ := List.mem_map.mp hy
    exact wd_free x (hx x hx2) w hw
theorem rtx_len (xs : List Dd) (hx : OkR xs) : (rtx xs).length ≤ 23 * xs.length := by
  have hs := txs_len xs hx
  have e3 : (Str.ofString " ; ").length = 3 := by decide +kernel
  have := Sh.join_len " ; " (xs.map Dd.tx)
  rw [e3, List.length_map] at this
  unfold rtx
  omega
theorem read_loop (ws : List Str) (S : Store) (c t : D) : ∀ (r : List Dd) (fuel i : Nat) (acc : List Dd), OkR r → r.length < fuel → ws.drop i = tailW r → i ≤ ws.length → acc.length + r.length ≤ 90000 →
    whileD (tNt (tVal (eMe "Words" "is_over" sh_Words_is_over (eVar 2) aNil))) (sSeq (sDrop (eMe "Words" "take_of" sh_Words_take_of (eVar 2) (aCons (eTup (aCons (eC (.str ";")) aNil)) aNil))) (sApp 3 (eDf sh_take_deed (aCons (eVar 2) aNil)))) fuel [.val c, .val t, .val (.ref S.length), .own (.lst (dds acc))] (S ++ [Ws ws 0 i]) = .nx [.val c, .val t, .val (.ref S.length), .own (.lst (dds (acc ++ r)))] (S ++ [Ws ws 0 ws.length])
  | [], fuel, i, acc, _, hf, hd, hi, _ => by
    obtain ⟨k, rfl⟩ : ∃ k, fuel = k + 1 := ⟨fuel - 1, by simp at hf; omega⟩
    have : i = ws.length := by
      have := List.drop_eq_nil_iff.mp (show ws.drop i = [] from hd)
      omega
    subst this
    rw [List.append_nil]
    unfold whileD
    simp_all_arith [ws_isC, ws_over]
  | x :: r, fuel, i, acc, hx, hf, hd, hi, hl => by
    obtain ⟨k, rfl⟩ : ∃ k, fuel = k + 1 := ⟨fuel - 1, by simp at hf; omega⟩
    rw [List.length_cons] at hl hf
    have hd : ws.drop i = (";" : Str) :: (x.wd ++ tailW r) := hd
    obtain ⟨h1, h2⟩ := drop_cons hd
    have hi2 := (List.getElem?_eq_some_iff.mp h1).1
    have hx1 := hx x List.mem_cons_self
    obtain ⟨h3, h4⟩ := deed_take x hx1 ws 0 (i + 1) S (tailW r) h2
    have t1 := ws_take_of ws 0 i ";" [";"] S h1 (by decide +kernel)
    rw [show ([";"] : List Str).map D.str = [D.str ";"] from rfl] at t1
    have hb : i + 1 + x.wd.length ≤ ws.length := by
      have := congrArg List.length h2
      rw [List.length_drop, List.length_append] at this
      omega
    have ih := read_loop ws S c t r k (i + 1 + x.wd.length) (acc ++ [x]) (fun y hy => hx y (List.mem_cons_of_mem _ hy)) (by omega) h4 hb (by rw [List.length_append, List.length_singleton]; omega)
    rw [show dds (acc ++ [x]) = dds acc ++ [x.d] by simp, List.append_assoc, List.singleton_append] at ih
    unfold whileD
    simp_all_arith [ws_isC, ws_over, show i ≠ ws.length by omega, t1, h3, ih]
theorem row_read (xs : List Dd) (S : Store) (hx : OkR xs) (h0 : xs ≠ []) (h : xs.length ≤ 90000) : ∃ c, sh_Row_read [.cls "Row", .str (rtx xs)] S = if xs.length ≤ 2000 then .ok (RwD xs) (S ++ [c]) else .er TMr (S ++ [c]) := by
  obtain ⟨x, r, rfl⟩ := List.exists_cons_of_ne_nil h0
  have hs := rtx_split (x :: r) hx h0
  rw [glue_tail] at hs
  have hx1 := hx x List.mem_cons_self
  have e1 : (Str.ofString " ").length = 1 := by decide +kernel
  have hn := rtx_len (x :: r) hx
  have j : dSplit (rtx (x :: r)) (.str " ") = some (.lst ((x.wd ++ tailW r).map .str)) := by
    unfold dSplit
    dsimp only
    rw [if_pos ⟨by rw [e1]; rfl, by show _ ≤ 16777216; omega⟩, hs]
  obtain ⟨h3, h4⟩ := deed_take x hx1 (x.wd ++ tailW r) 0 0 S (tailW r) rfl
  have u : sh_Words_upcoming [.ref S.length] (S ++ [Ws (x.wd ++ tailW r) 0 0]) = .ok (.str (x.wd.headD "")) (S ++ [Ws (x.wd ++ tailW r) 0 0]) := by
    rw [ws_up _ _ _ _ (Nat.zero_le _)]
    cases x <;> rfl
  have ne : ((x.wd.headD "" : Str) == ("none" : Str)) = false := by
    cases x
    · exact ofS_ne (by decide)
    · exact ofS_ne (by decide)
  have L := read_loop (x.wd ++ tailW r) S (.cls "Row") (.str (rtx (x :: r))) r FUEL (0 + x.wd.length) [x] (fun y hy => hx y (List.mem_cons_of_mem _ hy)) (by unfold FUEL; rw [List.length_cons] at h; omega) h4 (by rw [List.length_append]; omega) (by rw [List.length_cons] at h; rw [List.length_singleton]; omega)
  rw [show dds ([x] ++ r) = dds (x :: r) from rfl, show dds [x] = [x.d] from rfl] at L
  rw [Nat.zero_add] at L h3
  refine ⟨Ws (x.wd ++ tailW r) 0 (x.wd ++ tailW r).length, ?_⟩
  generalize x.wd ++ tailW r = ws at *
  have wi : sh_Words_init (.ins "Words" []) [.str (rtx (x :: r)), .int 0] S = .ok (Ws ws 0 0) S := ws_init j 0 S
  unfold sh_Row_read pic_Row_read
  have ri := row_i (x :: r) (S ++ [Ws ws 0 ws.length])
  rw [show dds (x :: r) = x.d :: r.map Dd.d from rfl, List.length_cons] at ri
  simp_all_arith [wi, ws_isC, u, ne, h3, sWhile, L, ri]
  rw [List.length_cons] at h
  by_cases hl : r.length ≤ 1999 <;> simp_all_arith [hl] <;> rfl
end Nk

namespace Nk
open PySem PyProof.Rows L2 Sh
theorem row_of_ok {xs : List Dd} {S : Store} (h : xs.length ≤ 2000) : sh_Row_of [.cls "Row", .lst (dds xs)] S = .ok (RwD xs) S := by rw [row_of xs S (by omega), if_pos h]
theorem row_of_tm {xs : List Dd} {S : Store} (h : 2000 < xs.length ∧ xs.length ≤ 90000) : sh_Row_of [.cls "Row", .lst (dds xs)] S = .er TMr S := by rw [row_of xs S (by omega), if_neg (by omega)]
theorem row_add_ok {xs ys : List Dd} {S : Store} (h : xs.length + ys.length ≤ 2000) : sh_Row_add [RwD xs, RwD ys] S = .ok (RwD (xs ++ ys)) S := by rw [row_add xs ys S (by omega), if_pos h]
theorem row_add_tm {xs ys : List Dd} {S : Store} (h : 2000 < xs.length + ys.length ∧ xs.length + ys.length ≤ 90000) : sh_Row_add [RwD xs, RwD ys] S = .er TMr S := by rw [row_add xs ys S (by omega), if_neg (by omega)]
theorem row_add1_ok {xs : List Dd} {y : Dd} {S : Store} (h : xs.length < 2000) : sh_Row_add [RwD xs, y.d] S = .ok (RwD (xs ++ [y])) S := by rw [row_add1 xs y S (by omega), if_pos (by omega)]
theorem row_add1_tm {xs : List Dd} {y : Dd} {S : Store} (h : 2000 ≤ xs.length ∧ xs.length ≤ 80000) : sh_Row_add [RwD xs, y.d] S = .er TMr S := by rw [row_add1 xs y S (by omega), if_neg (by omega)]
/-! ### what is heard -/
def hear (S : Store) (r : R D) : R D := (sh__law_heard 0 (fun _ => r) S).clean
theorem heard_eq {th : Store → R D} {S : Store} : (sh__law_heard 0 th S).clean = hear S (th S) := by
  unfold hear sh__law_heard pic__law_heard
  simp_all_arith [runL, ap_sTry, ap_eAct, noOwn]
theorem hear_made {S S1 : Store} {xs : List Dd} (hl : xs.length ≤ 90000) : hear S (.ok (RwD xs) S1) = .ok (.tup [.str "made", .int xs.length]) S1 := by
  unfold hear sh__law_heard pic__law_heard
  simp_all_arith [runL, cLen_row xs S1 hl, ap_sTry, ap_eAct, noOwn]
theorem hear_many {S S1 : Store} : hear S (.er TMr S1) = .ok (.tup [.str "many", .str "deeds", .int 2000]) S1 := by
  unfold hear sh__law_heard pic__law_heard
  simp_all_arith [runL, ap_sTry, ap_eAct, noOwn]
theorem hear_deed {S S1 : Store} {k : Nat} : hear S (.er ⟨"BadDeed", [("at", .int k)]⟩ S1) = .ok (.tup [.str "deed", .int k]) S1 := by
  unfold hear sh__law_heard pic__law_heard
  simp_all_arith [runL, ap_sTry, ap_eAct, noOwn]
theorem hear_table {S S1 : Store} {xs : List D} : hear S (.er ⟨"BadTable", [("value", .tup xs)]⟩ S1) = .ok (.tup [.str "table", .int xs.length]) S1 := by
  unfold hear sh__law_heard pic__law_heard
  simp_all_arith [runL, ap_sTry, ap_eAct, noOwn]
abbrev cm : Dd := .co "a"
abbrev gm : Dd := .go "a" "s"
theorem tyIn_dd {bi : List String} {S : Store} (x : Dd) : D.tyIn bi ["Come", "Go"] S x.d = true := by cases x <;> rfl
theorem tyIn_gm {bi : List String} {S : Store} : D.tyIn bi ["Go"] S (Dd.go "a" "s").d = true := rfl
abbrev many : D := .tup [.str "many", .str "deeds", .int 2000]
/-- the law's slots -/
abbrev EL (s0 : D) (x3 x4 x5 x7 x8 x9 x11 x12 x13 x14 x15 x16 : Sl) : En := [.val s0, .val (.ref 0), .val many, x3, x4, x5, .val cm.d, x7, x8, x9, .val gm.d, x11, x12, x13, x14, x15, x16]
theorem isCm : isNm "a" = true := by decide +kernel
theorem isSm : isNm "s" = true := by decide +kernel
/-- between two turns -/
structure Good (xs : List Int) (s0 : D) (lo hi : Int) (e : En) (S : Store) : Prop where
  e : ∃ x3 x4 x5 x7 x8 x9 x11 x12 x13 x14 x15 x16 : Sl, e = EL s0 x3 x4 x5 x7 x8 x9 x11 x12 x13 x14 x15 x16 ∧ x3.free = true ∧ x4.free = true ∧ x5.free = true ∧ x7.free = true ∧ x8.free = true ∧ x9.free = true ∧ x11.free = true ∧ x12.free = true ∧ x13.free = true ∧ x14.free = true ∧ x15.free = true ∧ x16.free = true
  S : ∃ a g T, S = pen xs a g :: T ∧ lo ≤ a ∧ a ≤ hi
theorem picks (xs : List Int) (hx : xs.length ≤ 63) (T : Store) (a g : Int) (h0 : 0 ≤ a) (h1 : a ≤ 90000) (ks : List D) (hk : ks.length ≤ 2000) (s0 : D) (x3 x4 x5 x7 x8 x9 x11 x12 x13 x14 x15 x16 : Sl) (h16 : x16.free = true) :
    ∃ fs a' g', mapA (gN 16) tYesD (eDf sh__law_pick (aCons (eVar 1) (aCons (eLst (aCons (eVar 6) (aCons (eVar 10) aNil))) aNil))) [] ks (EL s0 x3 x4 x5 x7 x8 x9 x11 x12 x13 x14 x15 x16) (pen xs a g :: T) = .ok (dds fs) (pen xs a' g' :: T) ∧ fs.length = ks.length ∧ OkR fs ∧ a ≤ a' ∧ a' ≤ a + 2000 := by
  obtain ⟨ys, S', e1, e2, e3, a', g', rfl, b1, b2⟩ := mapA_invN (g := gN 16) (f := eDf sh__law_pick (aCons (eVar 1) (aCons (eLst (aCons (eVar 6) (aCons (eVar 10) aNil))) aNil))) (e := EL s0 x3 x4 x5 x7 x8 x9 x11 x12 x13 x14 x15 x16) 2000
    (fun d => ∃ x : Dd, d = x.d ∧ x.ok = true) (fun n S => ∃ a' g', S = pen xs a' g' :: T ∧ a ≤ a' ∧ a' ≤ a + n) (fun d n S hn ⟨a', g', hS, b1, b2⟩ => by
      subst hS
      obtain ⟨y, a2, g2, hy, e, c1, c2⟩ := pick xs a' g' T [cm.d, gm.d] (by omega) (by omega) hx (by simp) (by simp)
      refine ⟨_, y, pen xs a2 g2 :: T, by simp_all_arith [h16]; rfl, ?_, ?_, a2, g2, rfl, by omega, by omega⟩
      · simp_all_arith [e]
      · rcases List.mem_cons.mp hy with rfl | hy
        · exact ⟨cm, rfl, isCm⟩
        · exact ⟨gm, List.mem_singleton.mp hy, by simp [Dd.ok, isCm, isSm]⟩) ks [] 0 (pen xs a g :: T) (by omega) ⟨a, g, rfl, by omega, by omega⟩
  obtain ⟨fs, rfl, hf⟩ : ∃ fs : List Dd, ys = dds fs ∧ OkR fs := by
    clear e1 e2
    induction ys with
    | nil => exact ⟨[], rfl, fun _ h => nomatch h⟩
    | cons y r ih =>
      obtain ⟨x, rfl, hx⟩ := e3 y List.mem_cons_self
      obtain ⟨fs, rfl, hf⟩ := ih fun z hz => e3 z (List.mem_cons_of_mem _ hz)
      refine ⟨x :: fs, rfl, fun z hz => ?_⟩
      rcases List.mem_cons.mp hz with rfl | hz
      · exact hx
      · exact hf z hz
  exact ⟨fs, a', g', by rw [e1, List.nil_append], by simpa using e2, hf, b1, by omega⟩
section
variable {xs : List Int} {S : Store} {e : En} {s0 : D} {x3 x4 x5 x7 x8 x9 x11 x12 x13 x14 x15 x16 : Sl}
theorem b1_ok {full fs : List Dd} {c : Nat} (hf : full.length = 2000) (hc : c ≤ 1999) (hfs : fs.length = c) (hc1 : 1 ≤ c) (h4 : x4.free = true) {P : RS → Prop}
    (h : ∀ x, x.free = true → P (pic_law_b2 (EL s0 x3 x x5 (.val (.int c)) (.val (.lst (dds fs))) (.val (.lst (dds full))) x11 x12 x13 x14 x15 x16) S)) :
    P (pic_law_b1 (EL s0 x3 x4 x5 (.val (.int c)) (.val (.lst (dds fs))) (.val (.lst (dds full))) x11 x12 x13 x14 x15 x16) S) := by
  unfold pic_law_b1
  have d1 : (dds full).drop c = dds (full.drop c) := (List.map_drop ..).symm
  have d2 : (dds full).drop 1 = dds (full.drop 1) := (List.map_drop ..).symm
  have l1 : (full.drop c).length = 2000 - c := by rw [List.length_drop, hf]
  have l2 : (full.drop 1).length = 1999 := by rw [List.length_drop, hf]
  have l3 : 2000 - c + c = 2000 := by omega
  simp_all_arith [ap_eLam, heard_eq, row_of_ok, row_add_ok, row_add1_ok, hear_made, hf, h4, d1, d2, hfs, l1, l2, l3, tyIn_dd, tyIn_gm]
  refine h _ ?_
  rfl
theorem many4 : List.replicate 4 many = [many, many, many, many] := rfl
theorem b3_ok {full fs over : List Dd} {c : Nat} (hf : full.length = 2000) (hc : c ≤ 1999) (hfs : fs.length = c) (hc1 : 1 ≤ c) (ho : 2000 < over.length ∧ over.length ≤ 2003) (h4 : x4.free = true) {P : RS → Prop}
    (h : ∀ x, x.free = true → P (pic_law_b4 (EL s0 x3 x x5 (.val (.int c)) (.val (.lst (dds fs))) (.val (.lst (dds full))) x11 (.val (.lst (dds over))) x13 (.val (RwD full)) x15 x16) S)) :
    P (pic_law_b3 (EL s0 x3 x4 x5 (.val (.int c)) (.val (.lst (dds fs))) (.val (.lst (dds full))) x11 (.val (.lst (dds over))) x13 (.val (RwD full)) x15 x16) S) := by
  unfold pic_law_b3
  have r2 := row_i [gm, gm] S
  have r0 := row_i [] S
  have l1 := cLen_row full S (by omega)
  have l2 := cLen_row (full ++ []) S (by rw [List.append_nil]; omega)
  rw [List.append_nil] at l2
  have a0 : sh_Row_add [RwD full, .obj "Row" [("deeds", .tup [])]] S = .ok (RwD full) S := by
    have := row_add_ok (S := S) (xs := full) (ys := []) (by simp; omega)
    rw [List.append_nil] at this
    exact this
  have a2 : sh_Row_add [RwD full, .obj "Row" [("deeds", .tup [gm.d, gm.d])]] S = .er TMr S := row_add_tm (xs := full) (ys := [gm, gm]) (by simp; omega)
  rw [show dds [gm, gm] = [gm.d, gm.d] from rfl, if_pos (by decide)] at r2
  rw [show dds [] = [] from rfl, if_pos (by decide)] at r0
  simp_all_arith [ap_eLam, heard_eq, row_of_ok, row_of_tm, row_add_ok, row_add_tm, row_add1_tm, hear_made, hear_many, hf, h4, hfs, r2, r0, l1, l2, tyIn_dd, a0, a2, many4]
  refine h _ ?_
  rfl
theorem b4_ok {full fs over : List Dd} {c : Nat} (hx : xs.length ≤ 63) {a g : Int} {T : Store} (h0 : 0 ≤ a) (h1 : a ≤ 90000) (ho : 2000 < over.length ∧ over.length ≤ 2003) (h5 : x5.free = true) (h15 : x15.free = true) {P : RS → Prop}
    (h : ∀ y z a' g', y.free = true → z.free = true → a ≤ a' → a' ≤ a + 1 → P (pic_law_b5 (EL s0 x3 x4 y (.val (.int c)) (.val (.lst (dds fs))) (.val (.lst (dds full))) x11 (.val (.lst (dds over))) x13 (.val (RwD full)) z x16) (pen xs a' g' :: T))) :
    P (pic_law_b4 (EL s0 x3 x4 x5 (.val (.int c)) (.val (.lst (dds fs))) (.val (.lst (dds full))) x11 (.val (.lst (dds over))) x13 (.val (RwD full)) x15 x16) (pen xs a g :: T)) := by
  unfold pic_law_b4
  obtain ⟨r, a1, g1, e, r0, r1, b0, b1⟩ := draw xs a g over.length T h0 (by omega) (by omega) (by omega) hx
  obtain ⟨k, rfl⟩ : ∃ k : Nat, r = k := ⟨r.toNat, by omega⟩
  have t1 : (dds over).take k = dds (over.take k) := (List.map_take ..).symm
  have t2 : (dds over).drop k = dds (over.drop k) := (List.map_drop ..).symm
  have l1 : (over.take k).length = k := by rw [List.length_take]; omega
  have l2 : (over.drop k).length = over.length - k := by rw [List.length_drop]
  have rb := row_of_bad (over.take k) (.str "come a") (dds (over.drop k)) (pen xs a1 g1 :: T) rfl (by rw [List.length_map, l1, l2]; omega)
  rw [l1, show dds (over.take k) ++ D.str "come a" :: dds (over.drop k) = dds (over.take k) ++ [D.str "come a"] ++ dds (over.drop k) by simp] at rb
  simp_all_arith [e, h5, h15, t1, t2, ap_eLam, heard_eq, rb, hear_deed, l1, l2]
  refine h _ _ a1 g1 ?_ ?_ b0 b1
  · rfl
  · rfl
theorem b5_ok {full fs over : List Dd} {c : Nat} (hf : full.length = 2000) (hok : OkR full) (h4 : x4.free = true) (h11 : x11.free = true) (h13 : x13.free = true) :
    ∃ T u v w, u.free = true ∧ v.free = true ∧ w.free = true ∧ pic_law_b5 (EL s0 x3 x4 x5 (.val (.int c)) (.val (.lst (dds fs))) (.val (.lst (dds full))) x11 (.val (.lst (dds over))) x13 (.val (RwD full)) x15 x16) S =
      .nx (EL s0 x3 u x5 (.val (.int c)) (.val (.lst (dds fs))) (.val (.lst (dds full))) v (.val (.lst (dds over))) w (.val (RwD full)) x15 x16) (S ++ T) := by
  unfold pic_law_b5 pic_law_b6
  have hne : full ≠ [] := by intro z; rw [z] at hf; cases hf
  have p1 := row_parts full S (by omega)
  have p2 := row_str full S (by omega) hok hne
  obtain ⟨c1, r1⟩ := row_read full S hok hne (by omega)
  obtain ⟨c2, r2⟩ := row_read full (S ++ [c1]) hok hne (by omega)
  rw [if_pos (by omega)] at r1 r2
  have q1 := parts_of full S hok
  rw [if_pos (by omega)] at q1
  have q2 := parts_of (full ++ [cm]) (S ++ [c1]) (fun x hx => (List.mem_append.mp hx).elim (hok x) fun h => by rw [List.mem_singleton.mp h]; exact isCm)
  rw [if_neg (by rw [List.length_append, List.length_singleton]; omega), show (full ++ [cm]).map Dd.pt = full.map Dd.pt ++ [.tup [.str "come", .str "a"]] by simp [Dd.pt]] at q2
  have e2 := row_eq_self full (S ++ [c1] ++ [c2])
  refine ⟨[c1, c2], ?_⟩
  simp_all_arith [cStr, p1, p2, h4, h11, h13, ap_eLam, heard_eq, q1, q2, r1, r2, hear_made, hear_table, hf, e2]
  exact ⟨_, _, _, rfl, rfl, rfl, by rw [List.append_assoc]; rfl⟩
theorem turn_ok (hx : xs.length ≤ 63) {a g : Int} {T : Store} (h0 : 0 ≤ a) (h1 : a ≤ 80000) (h : Good xs s0 a a e (pen xs a g :: T)) : ∃ e' S', pic_law_b0 e (pen xs a g :: T) = .nx e' S' ∧ Good xs s0 a (a + 3000) e' S' := by
  obtain ⟨⟨x3, x4, x5, x7, x8, x9, x11, x12, x13, x14, x15, x16, rfl, f3, f4, f5, f7, f8, f9, f11, f12, f13, f14, f15, f16⟩, _⟩ := h
  unfold pic_law_b0
  obtain ⟨r, a1, g1, e1, r0, r1, b0, b1⟩ := draw xs a g 1999 T h0 (by omega) (by omega) (by omega) hx
  obtain ⟨d, a2, g2, hd, e2, c0, c1⟩ := pick xs a1 g1 T [.int 1, .int 2, .int 999, .int 1000, .int 1998, .int 1999, .int (1 + r)] (by omega) (by omega) hx (by simp) (by simp)
  obtain ⟨c, rfl, hc0, hc1⟩ : ∃ c : Nat, d = .int c ∧ 1 ≤ c ∧ c ≤ 1999 := by
    simp only [List.mem_cons, List.not_mem_nil, or_false] at hd
    rcases hd with rfl | rfl | rfl | rfl | rfl | rfl | rfl
    · exact ⟨1, rfl, by omega, by omega⟩
    · exact ⟨2, rfl, by omega, by omega⟩
    · exact ⟨999, rfl, by omega, by omega⟩
    · exact ⟨1000, rfl, by omega, by omega⟩
    · exact ⟨1998, rfl, by omega, by omega⟩
    · exact ⟨1999, rfl, by omega, by omega⟩
    · exact ⟨(1 + r).toNat, by congr 1; omega, by omega, by omega⟩
  obtain ⟨fs, a3, g3, e3, l3, o3, k0, k1⟩ := picks xs hx T a2 g2 (by omega) (by omega) ((List.range c).map fun (i : Nat) => D.int i) (by simp; omega) s0 x3 x4 x5 (.val (.int c)) x8 x9 x11 x12 x13 x14 x15 .no rfl
  rw [List.length_map, List.length_range] at l3
  have ex : (2000 - (c : Int)).toNat = 2000 - c := by omega
  simp_all_arith [e1, e2, f7, f8, f9, f16, clr, e3, l3]
  have ef : dds fs ++ List.replicate (2000 - (c : Int)).toNat cm.d = dds (fs ++ List.replicate (2000 - c) cm) := by rw [ex]; simp
  rw [ef]
  have hf : (fs ++ List.replicate (2000 - c) cm).length = 2000 := by rw [List.length_append, List.length_replicate, l3]; omega
  have hok : OkR (fs ++ List.replicate (2000 - c) cm) := fun x hx => (List.mem_append.mp hx).elim (o3 x) fun h => by rw [List.eq_of_mem_replicate h]; exact isCm
  generalize fs ++ List.replicate (2000 - c) cm = full at hf hok
  refine b1_ok (P := fun r => ∃ e' S', r = .nx e' S' ∧ Good xs s0 a (a + 3000) e' S') hf hc1 l3 hc0 f4 fun x4 f4 => ?_
  unfold pic_law_b2
  obtain ⟨r, a4, g4, e4, r0, r1, b0, b1⟩ := draw xs a3 g3 3 T (by omega) (by omega) (by omega) (by omega) hx
  simp_all_arith [e4, f12, f14, row_of_ok]
  have eo : dds full ++ List.replicate (1 + r).toNat gm.d = dds (full ++ List.replicate (1 + r).toNat gm) := by simp
  rw [eo]
  have ho : 2000 < (full ++ List.replicate (1 + r).toNat gm).length ∧ (full ++ List.replicate (1 + r).toNat gm).length ≤ 2003 := by rw [List.length_append, List.length_replicate]; omega
  generalize full ++ List.replicate (1 + r).toNat gm = over at ho
  refine b3_ok (P := fun r => ∃ e' S', r = .nx e' S' ∧ Good xs s0 a (a + 3000) e' S') hf hc1 l3 hc0 ho f4 fun x4 f4 => ?_
  refine b4_ok (P := fun r => ∃ e' S', r = .nx e' S' ∧ Good xs s0 a (a + 3000) e' S') hx (by omega) (by omega) ho f5 f15 fun y z a5 g5 f5 f15 d0 d1 => ?_
  obtain ⟨T2, u, v, w, fu, fv, fw, e5⟩ := b5_ok (S := pen xs a5 g5 :: T) (over := over) (fs := fs) (c := c) (s0 := s0) (x3 := x3) (x5 := y) (x15 := z) (x16 := x16) hf hok f4 f11 f13
  rw [e5]
  exact ⟨_, _, rfl, ⟨⟨_, _, _, _, _, _, _, _, _, _, _, _, rfl, f3, fu, f5, rfl, rfl, rfl, fv, rfl, fw, rfl, f15, f16⟩, a5, g5, T ++ T2, rfl, by omega, by omega⟩⟩
theorem law_true (ns : List Int) (hl : ns.length ≤ 63) : ∃ S, sh_law [.scr (ns.map .int)] [] = .ok (.bl true) S := by
  unfold sh_law pic_law
  have ht : (ns.map D.int).take 63 = ns.map D.int := List.take_of_length_le (by rw [List.length_map]; exact hl)
  have hp : sh__law_pen [.scr (ns.map .int)] [] = .ok (.ref 0) [pen ns 0 0] := by
    unfold sh__law_pen pic__law_pen pen
    simp_all_arith [ht]
  have ec : sh_Come_init (.ins "Come" []) [.str "a"] [pen ns 0 0] = _ := come_i isCm _
  have eg : sh_Go_init (.ins "Go" []) [.str "a", .str "s"] [pen ns 0 0] = _ := go_i isCm isSm _
  simp_all_arith [hp, ec, eg]
  unfold pic_law_loop
  obtain ⟨e1, S1, h1, g1⟩ := turn_ok (xs := ns) (s0 := .scr (ns.map .int)) hl (a := 0) (g := 0) (T := []) (by omega) (by omega) ⟨⟨.val (.int 0), .no, .no, .no, .no, .no, .no, .no, .no, .no, .no, .no, rfl, rfl, rfl, rfl, rfl, rfl, rfl, rfl, rfl, rfl, rfl, rfl, rfl⟩, 0, 0, [], rfl, by omega, by omega⟩
  obtain ⟨⟨x3, x4, x5, x7, x8, x9, x11, x12, x13, x14, x15, x16, rfl, f3, f4, f5, f7, f8, f9, f11, f12, f13, f14, f15, f16⟩, a, g, T, rfl, b0, b1⟩ := g1
  obtain ⟨e2, S2, h2, g2⟩ := turn_ok (xs := ns) (s0 := .scr (ns.map .int)) hl (a := a) (g := g) (T := T) b0 (by omega) ⟨⟨.val (.int 1), x4, x5, x7, x8, x9, x11, x12, x13, x14, x15, x16, rfl, rfl, f4, f5, f7, f8, f9, f11, f12, f13, f14, f15, f16⟩, a, g, T, rfl, by omega, by omega⟩
  have er : (List.range 2).map (fun (i : Nat) => D.int i) = [.int 0, .int 1] := rfl
  simp_all_arith [er, Sh.forD_cons]
  erw [h1]
  simp_all_arith [Sh.forD_cons, f3]
  erw [h2]
  simp_all_arith
  exact ⟨_, rfl⟩
end
end Nk

namespace Nk
open PySem PySem.Spec PyProof.Rows L2
theorem facts {w : World} {K : PySem.W.Frag} {h : Heap} {mg : Str → Option Value} {fa : Addr} (X : K.In h) (G : h.Ns mainGlobals mg) (hfa : mg ("law" : Str) = some (.ref fa)) (c : SaysN fns FL tfs lawK h K) : LawG PP w K 10 63 "_law_script" mg fa h := by
  obtain ⟨m1, m2⟩ := He.ba (show ((lits.all fun f => f.ok K) && (bls K).all id) = true from c.more)
  have lf : ∀ i (f : He.Fa), lits[i]? = some f → f.ok K = true := fun i f e => List.all_eq_true.mp m1 f (List.mem_of_getElem? e)
  have b : ∀ i (x : Bool), (bls K)[i]? = some x → x = true := fun i x e => List.all_eq_true.mp m2 x (List.mem_of_getElem? e)
  have T : Tx K mg := {
    d_BadName_init := (c.sup (List.mem_of_getElem? (i := 0) rfl) rfl rfl),
    n_super := (He.free_ok X G (x := "super") (lf 0 _ rfl)),
    ci_BadName := clsInB_ok (b 0 _ rfl),
    exc_BadName := supB_ok (b 1 _ rfl),
    nx_BadName_value := He.eqO_ok (b 2 _ rfl),
    d_BadDeed_init := (c.sup (List.mem_of_getElem? (i := 1) rfl) rfl rfl),
    ci_BadDeed := clsInB_ok (b 3 _ rfl),
    exc_BadDeed := supB_ok (b 4 _ rfl),
    nx_BadDeed_at := He.eqO_ok (b 5 _ rfl),
    d_BadTable_init := (c.sup (List.mem_of_getElem? (i := 2) rfl) rfl rfl),
    ci_BadTable := clsInB_ok (b 6 _ rfl),
    exc_BadTable := supB_ok (b 7 _ rfl),
    nx_BadTable_value := He.eqO_ok (b 8 _ rfl),
    d_TooMany_init := (c.sup (List.mem_of_getElem? (i := 3) rfl) rfl rfl),
    ci_TooMany := clsInB_ok (b 9 _ rfl),
    exc_TooMany := supB_ok (b 10 _ rfl),
    nx_TooMany_what := He.eqO_ok (b 11 _ rfl),
    nx_TooMany_most := He.eqO_ok (b 12 _ rfl),
    d_BadText_init := (c.sup (List.mem_of_getElem? (i := 4) rfl) rfl rfl),
    ci_BadText := clsInB_ok (b 13 _ rfl),
    exc_BadText := supB_ok (b 14 _ rfl),
    nx_BadText_line := He.eqO_ok (b 15 _ rfl),
    nx_BadText_word := He.eqO_ok (b 16 _ rfl),
    d_is_integer := ⟨_, (c.fun_ (List.mem_of_getElem? (i := 5) rfl) rfl), (He.glo_ok X G (x := "is_integer") (lf 1 _ rfl))⟩,
    n_isinstance := (He.free_ok X G (x := "isinstance") (lf 2 _ rfl)),
    n_int := (He.free_ok X G (x := "int") (lf 3 _ rfl)),
    n_bool := (He.free_ok X G (x := "bool") (lf 4 _ rfl)),
    d_is_within := ⟨_, (c.fun_ (List.mem_of_getElem? (i := 6) rfl) rfl), (He.glo_ok X G (x := "is_within") (lf 5 _ rfl))⟩,
    d_is_name := ⟨_, (c.fun_ (List.mem_of_getElem? (i := 7) rfl) rfl), (He.glo_ok X G (x := "is_name") (lf 6 _ rfl))⟩,
    n_str := (He.free_ok X G (x := "str") (lf 7 _ rfl)),
    n_len := (He.free_ok X G (x := "len") (lf 8 _ rfl)),
    c_MOST_LETTERS := (let ⟨t, e⟩ := He.int_ok X G (x := "MOST_LETTERS") (i := 8) (lf 9 _ rfl); ⟨_, e, t, rfl⟩),
    n_all := (He.free_ok X G (x := "all") (lf 10 _ rfl)),
    c_LETTERS := (let ⟨t, e⟩ := He.str_ok X G (x := "LETTERS") (z := "abcdefghijklmnopqrstuvwxyz") (lf 11 _ rfl); ⟨_, e, t, rfl⟩),
    d_need_name := ⟨_, (c.fun_ (List.mem_of_getElem? (i := 8) rfl) rfl), (He.glo_ok X G (x := "need_name") (lf 12 _ rfl))⟩,
    xi_BadName := He.eqO_ok (b 17 _ rfl),
    xt_BadName := of_decide_eq_true (b 18 _ rfl),
    g_BadName := (He.glo_ok X G (x := "BadName") (lf 13 _ rfl)),
    d_is_name_pair := ⟨_, (c.fun_ (List.mem_of_getElem? (i := 9) rfl) rfl), (He.glo_ok X G (x := "is_name_pair") (lf 14 _ rfl))⟩,
    n_tuple := (He.free_ok X G (x := "tuple") (lf 15 _ rfl)),
    d_Words_init := (c.fun_ (List.mem_of_getElem? (i := 10) rfl) rfl),
    xi_BadText := He.eqO_ok (b 19 _ rfl),
    xt_BadText := of_decide_eq_true (b 20 _ rfl),
    g_BadText := (He.glo_ok X G (x := "BadText") (lf 16 _ rfl)),
    cl_Words := He.cls_ok (b 21 _ rfl),
    na_Words_told := He.noat_ok (b 22 _ rfl),
    na_Words_line_index := He.noat_ok (b 23 _ rfl),
    na_Words_next_index := He.noat_ok (b 24 _ rfl),
    d_Words_refuse := (c.fun_ (List.mem_of_getElem? (i := 11) rfl) rfl),
    d_Words_is_over := (c.fun_ (List.mem_of_getElem? (i := 12) rfl) rfl),
    d_Words_upcoming := (c.fun_ (List.mem_of_getElem? (i := 13) rfl) rfl),
    mt_Words_is_over := He.meth_ok (b 25 _ rfl),
    d_Words_skip := (c.fun_ (List.mem_of_getElem? (i := 14) rfl) rfl),
    mt_Words_refuse := He.meth_ok (b 26 _ rfl),
    d_Words_take_of := (c.fun_ (List.mem_of_getElem? (i := 15) rfl) rfl),
    mt_Words_upcoming := He.meth_ok (b 27 _ rfl),
    mt_Words_skip := He.meth_ok (b 28 _ rfl),
    d_Words_take_name := (c.fun_ (List.mem_of_getElem? (i := 16) rfl) rfl),
    d_Words_close := (c.fun_ (List.mem_of_getElem? (i := 17) rfl) rfl),
    d_Come_init := (c.fun_ (List.mem_of_getElem? (i := 18) rfl) rfl),
    cl_Come := He.cls_ok (b 29 _ rfl),
    na_Come_kind := He.noat_ok (b 30 _ rfl),
    d_Come_parts := (c.fun_ (List.mem_of_getElem? (i := 19) rfl) rfl),
    d_Come_eq := (c.fun_ (List.mem_of_getElem? (i := 20) rfl) rfl),
    g_Come := (He.glo_ok X G (x := "Come") (lf 17 _ rfl)),
    kts_Come := (fun t ht => of_decide_eq_true (List.all_eq_true.mp (b 31 _ rfl) t ht)),
    in_Come := insB_ok (b 32 _ rfl),
    kt_Come_Come_t := of_decide_eq_true (b 33 _ rfl),
    cl_Go := He.cls_ok (b 34 _ rfl),
    in_Go := insB_ok (b 35 _ rfl),
    kt_Go_Come_f := of_decide_eq_true (b 36 _ rfl),
    d_Come_str := (c.fun_ (List.mem_of_getElem? (i := 21) rfl) rfl),
    d_Go_init := (c.fun_ (List.mem_of_getElem? (i := 22) rfl) rfl),
    na_Go_kind := He.noat_ok (b 37 _ rfl),
    na_Go_bay := He.noat_ok (b 38 _ rfl),
    d_Go_parts := (c.fun_ (List.mem_of_getElem? (i := 23) rfl) rfl),
    d_Go_eq := (c.fun_ (List.mem_of_getElem? (i := 24) rfl) rfl),
    g_Go := (He.glo_ok X G (x := "Go") (lf 18 _ rfl)),
    kts_Go := (fun t ht => of_decide_eq_true (List.all_eq_true.mp (b 39 _ rfl) t ht)),
    kt_Come_Go_f := of_decide_eq_true (b 40 _ rfl),
    kt_Go_Go_t := of_decide_eq_true (b 41 _ rfl),
    d_Go_str := (c.fun_ (List.mem_of_getElem? (i := 25) rfl) rfl),
    d_deed_of := ⟨_, (c.fun_ (List.mem_of_getElem? (i := 26) rfl) rfl), (He.glo_ok X G (x := "deed_of") (lf 19 _ rfl))⟩,
    c_COME_PARTS := (let ⟨t, e⟩ := He.int_ok X G (x := "COME_PARTS") (i := 2) (lf 20 _ rfl); ⟨_, e, t, rfl⟩),
    mk_Come := He.mkr_ok (b 42 _ rfl),
    c_GO_PARTS := (let ⟨t, e⟩ := He.int_ok X G (x := "GO_PARTS") (i := 3) (lf 21 _ rfl); ⟨_, e, t, rfl⟩),
    mk_Go := He.mkr_ok (b 43 _ rfl),
    d_take_deed := ⟨_, (c.fun_ (List.mem_of_getElem? (i := 27) rfl) rfl), (He.glo_ok X G (x := "take_deed") (lf 22 _ rfl))⟩,
    mt_Words_take_of := He.meth_ok (b 44 _ rfl),
    mt_Words_take_name := He.meth_ok (b 45 _ rfl),
    d_Row_init := (c.fun_ (List.mem_of_getElem? (i := 28) rfl) rfl),
    n_enumerate := (He.free_ok X G (x := "enumerate") (lf 23 _ rfl)),
    g_Deed := (He.glo_ok X G (x := "Deed") (lf 24 _ rfl)),
    kts_Deed := (fun t ht => of_decide_eq_true (List.all_eq_true.mp (b 46 _ rfl) t ht)),
    kt_Come_Deed_t := of_decide_eq_true (b 47 _ rfl),
    kt_Go_Deed_t := of_decide_eq_true (b 48 _ rfl),
    cl_Row := He.cls_ok (b 49 _ rfl),
    in_Row := insB_ok (b 50 _ rfl),
    kt_Row_Deed_f := of_decide_eq_true (b 51 _ rfl),
    xi_BadDeed := He.eqO_ok (b 52 _ rfl),
    xt_BadDeed := of_decide_eq_true (b 53 _ rfl),
    g_BadDeed := (He.glo_ok X G (x := "BadDeed") (lf 25 _ rfl)),
    c_MOST_DEEDS := (let ⟨t, e⟩ := He.int_ok X G (x := "MOST_DEEDS") (i := 2000) (lf 26 _ rfl); ⟨_, e, t, rfl⟩),
    xi_TooMany := He.eqO_ok (b 54 _ rfl),
    xt_TooMany := of_decide_eq_true (b 55 _ rfl),
    g_TooMany := (He.glo_ok X G (x := "TooMany") (lf 27 _ rfl)),
    na_Row_deeds := He.noat_ok (b 56 _ rfl),
    d_Row_of := (c.fun_ (List.mem_of_getElem? (i := 29) rfl) rfl),
    mk_Row := He.mkr_ok (b 57 _ rfl),
    d_Row_read := (c.fun_ (List.mem_of_getElem? (i := 30) rfl) rfl),
    g_Words := (He.glo_ok X G (x := "Words") (lf 28 _ rfl)),
    mk_Words := He.mkr_ok (b 58 _ rfl),
    mt_Words_close := He.meth_ok (b 59 _ rfl),
    d_Row_from_parts := (c.fun_ (List.mem_of_getElem? (i := 31) rfl) rfl),
    xi_BadTable := He.eqO_ok (b 60 _ rfl),
    xt_BadTable := of_decide_eq_true (b 61 _ rfl),
    g_BadTable := (He.glo_ok X G (x := "BadTable") (lf 29 _ rfl)),
    n_any := (He.free_ok X G (x := "any") (lf 30 _ rfl)),
    d_Row_parts := (c.fun_ (List.mem_of_getElem? (i := 32) rfl) rfl),
    pr_Come_parts := propB_ok (b 62 _ rfl),
    pr_Go_parts := propB_ok (b 63 _ rfl),
    d_Row_len := (c.fun_ (List.mem_of_getElem? (i := 33) rfl) rfl),
    d_Row_add := (c.fun_ (List.mem_of_getElem? (i := 34) rfl) rfl),
    g_Row := (He.glo_ok X G (x := "Row") (lf 31 _ rfl)),
    d_Row_eq := (c.fun_ (List.mem_of_getElem? (i := 35) rfl) rfl),
    kts_Row := (fun t ht => of_decide_eq_true (List.all_eq_true.mp (b 64 _ rfl) t ht)),
    kt_Come_Row_f := of_decide_eq_true (b 65 _ rfl),
    kt_Go_Row_f := of_decide_eq_true (b 66 _ rfl),
    kt_Row_Row_t := of_decide_eq_true (b 67 _ rfl),
    eq_Come := eqCB_ok (b 68 _ rfl),
    eq_Go := eqCB_ok (b 69 _ rfl),
    d_Row_str := (c.fun_ (List.mem_of_getElem? (i := 36) rfl) rfl),
    own_Come_str := ownMB_ok (b 70 _ rfl),
    own_Go_str := ownMB_ok (b 71 _ rfl),
    d__law_pen := ⟨_, (c.fun_ (List.mem_of_getElem? (i := 37) rfl) rfl), (He.glo_ok X G (x := "_law_pen") (lf 32 _ rfl))⟩,
    n_list := (He.free_ok X G (x := "list") (lf 33 _ rfl)),
    d__law_draw := ⟨_, (c.fun_ (List.mem_of_getElem? (i := 38) rfl) rfl), (He.glo_ok X G (x := "_law_draw") (lf 34 _ rfl))⟩,
    n_abs := (He.free_ok X G (x := "abs") (lf 35 _ rfl)),
    d__law_pick := ⟨_, (c.fun_ (List.mem_of_getElem? (i := 39) rfl) rfl), (He.glo_ok X G (x := "_law_pick") (lf 36 _ rfl))⟩,
    g_NextError := (He.glo_ok X G (x := "NextError") (lf 37 _ rfl)),
    exm_BadName_NextError_t := of_decide_eq_true (b 72 _ rfl),
    exm_BadDeed_NextError_t := of_decide_eq_true (b 73 _ rfl),
    exm_BadTable_NextError_t := of_decide_eq_true (b 74 _ rfl),
    exm_TooMany_NextError_t := of_decide_eq_true (b 75 _ rfl),
    exm_BadText_NextError_t := of_decide_eq_true (b 76 _ rfl),
    own_Row_len := ownMB_ok (b 77 _ rfl),
    ex_BadName := excCB_ok (b 78 _ rfl),
    kt_BadName_TooMany_f := of_decide_eq_true (b 79 _ rfl),
    ex_BadDeed := excCB_ok (b 80 _ rfl),
    kt_BadDeed_TooMany_f := of_decide_eq_true (b 81 _ rfl),
    ex_BadTable := excCB_ok (b 82 _ rfl),
    kt_BadTable_TooMany_f := of_decide_eq_true (b 83 _ rfl),
    ex_TooMany := excCB_ok (b 84 _ rfl),
    kt_TooMany_TooMany_t := of_decide_eq_true (b 85 _ rfl),
    ex_BadText := excCB_ok (b 86 _ rfl),
    kt_BadText_TooMany_f := of_decide_eq_true (b 87 _ rfl),
    xf_TooMany := xfB_ok (b 88 _ rfl),
    kt_BadName_BadTable_f := of_decide_eq_true (b 89 _ rfl),
    kt_BadDeed_BadTable_f := of_decide_eq_true (b 90 _ rfl),
    kt_BadTable_BadTable_t := of_decide_eq_true (b 91 _ rfl),
    kt_TooMany_BadTable_f := of_decide_eq_true (b 92 _ rfl),
    kt_BadText_BadTable_f := of_decide_eq_true (b 93 _ rfl),
    xf_BadName := xfB_ok (b 94 _ rfl),
    xf_BadTable := xfB_ok (b 95 _ rfl),
    kt_BadName_BadDeed_f := of_decide_eq_true (b 96 _ rfl),
    kt_BadDeed_BadDeed_t := of_decide_eq_true (b 97 _ rfl),
    kt_BadTable_BadDeed_f := of_decide_eq_true (b 98 _ rfl),
    kt_TooMany_BadDeed_f := of_decide_eq_true (b 99 _ rfl),
    kt_BadText_BadDeed_f := of_decide_eq_true (b 100 _ rfl),
    xf_BadDeed := xfB_ok (b 101 _ rfl),
    d__law_heard := ⟨_, (c.fun_ (List.mem_of_getElem? (i := 40) rfl) rfl), (He.glo_ok X G (x := "_law_heard") (lf 38 _ rfl))⟩,
    n_range := (He.free_ok X G (x := "range") (lf 39 _ rfl)),
    cr_Row := creadB_ok (b 102 _ rfl),
    cm_Row_of := cmB_ok (b 103 _ rfl),
    own_Row_add := ownMB_ok (b 104 _ rfl),
    sf_Row := (b 105 _ rfl),
    rt_Row_Row_add := (b 106 _ rfl),
    rt_Row_Go_add := (b 107 _ rfl),
    rt_Row_Come_add := (b 108 _ rfl),
    pr_Row_parts := propB_ok (b 109 _ rfl),
    own_Row_str := ownMB_ok (b 110 _ rfl),
    cm_Row_from_parts := cmB_ok (b 111 _ rfl),
    cm_Row_read := cmB_ok (b 112 _ rfl),
    eq_Row := eqCB_ok (b 113 _ rfl),
    nf_Row_Row := (b 114 _ rfl) }
  obtain ⟨fl, ⟨fd, F⟩, eg⟩ : ∃ f, FnP K "law" s_law f ∧ mg "law" = some (.ref f) := ⟨_, (c.fun_ (List.mem_of_getElem? (i := 41) rfl) rfl), (He.glo_ok X G (x := "law") (lf 40 _ rfl))⟩
  have e := hfa.symm.trans (He.glo_ok X G (x := "law") (lf 40 _ rfl))
  cases e
  have F : FunD K "law" "law" (defArgs s_law) (defBody s_law) (defScope s_law) [] [] (He.ga K "law") fd := by
    have e2 := eg.symm.trans (He.glo_ok X G (x := "law") (lf 40 _ rfl))
    cases e2
    exact F
  have hm : (("law", none) : He.Defn) ∈ tfs := List.mem_singleton.mpr rfl
  have bd := FunD.bindsA (ps := ["_law_script"]) F fun _ _ _ _ _ _ us hl => match us, hl with | [_], _ => rfl
  have one : ∀ {Q : Addr × Addr → Prop}, Q (He.cT K ("law", none)) → ∀ p ∈ [He.cT K ("law", none)], Q p := fun q p hp => by rw [List.mem_singleton.mp hp]; exact q
  exact ⟨fd, [He.cT K ("law", none)], Sh.spSh K sh_law, one (c.empty _ hm), one (c.out _ hm), one (PySem.W.codeHd_of_K X (c.hd _ hm)), fun s v => bd s [v] rfl,
    fun H a ns hl _ hT hS => Sh.entry (fun p hp => by rw [List.mem_singleton.mp hp]; exact LamX.TabS.nil (hT _ (List.mem_singleton.mpr rfl))) hS hl (law_true ns hl), fun base _ _ hTB => fg_law T F rfl rfl (hTB _ (List.mem_singleton.mpr rfl))⟩
end Nk
open PySem PySem.W PySem.Calls PyProof.Rows
theorem PySem.Challenge.cw_nextkind_k33_rows_of_many_deeds_holds : PySem.Challenge.rw_nextkind_k33_rows_of_many_deeds.Holds := by
  w_on; o_law
  refine HandSHeadRun.head_any (r := OpenLaw.row PySem.Challenge.rw_nextkind_k33_rows_of_many_deeds) (q := view (OpenLaw.row PySem.Challenge.rw_nextkind_k33_rows_of_many_deeds).prog [33]) (H := Nk.hk) (ob := Nk.ob) (M := 5000) (loose := Nk.loose) (d := HandSHeadRun.topDef (OpenLaw.row PySem.Challenge.rw_nextkind_k33_rows_of_many_deeds).prog 33) (kwd := []) Nk.ob_eq
    (by kernel_rfl) (fun s => by kernel_rfl) Nk.run (by kernel_rfl) (by kernel_rfl) (by kernel_rfl) (by rfl) (by first | assumption | decide +kernel) (by decide +kernel) ⟨rfl, rfl, rfl, rfl, rfl, by decide +kernel⟩ ?hw ?hc
  case hw => w_witness2
  case hc =>
    refine Nk.walk_ofG (l := PySem.Challenge.rw_nextkind_k33_rows_of_many_deeds) (n := 63) (k := 10) (x := "_law_script") rfl (by decide) (by kernel_rfl) ⟨rfl, by decide, by decide⟩ ?F
    intro w mg fa h Y G hmg0
    obtain ⟨K, KX, c⟩ := Y
    have hmg : mg ("law" : PySem.Str) = some (.ref fa) := by
      have e : (HandSHeadRun.topDef (OpenLaw.row PySem.Challenge.rw_nextkind_k33_rows_of_many_deeds).prog 33).name = ("law" : PySem.Str) := by kernel_rfl
      rw [← e]
      exact hmg0
    exact ⟨K, KX, Nk.facts KX G hmg c⟩
